import PyProof.Rows.All
import Wide.All
import OpenK.AllK
import Wide.FinOn
import PySem.Challenge.RW_pf0266_01
open PySem PySem.W PyProof.Rows
set_option Elab.async false
set_option maxRecDepth 100000
set_option linter.all false
set_option compiler.extract_closed false
set_option rowWalk.seconds 0
namespace Mine
open PySem.Calls
/-- the ids that `exported` looks for in the stack -/
def badIds : List String := ["bytearray.__contains__", "bytearray.__mod__", "bytearray.__rmod__", "_struct.pack_into.held", "bytearray.find.held"] ++ Builtin.Bytes.decodersThatHold
def goodC : Code → Bool
  | .builtin id _ => !(badIds.contains id)
  | _ => true
/-- no code of the stack is one that `exported` looks for -/
def Clean (Γ : Ctx) : Prop := goodC Γ.code = true ∧ ∀ c ∈ Γ.below, goodC c.1 = true
theorem Clean.enter {Γ : Ctx} (h : Clean Γ) {c : Code} (hc : goodC c = true) (hd : Option Value) (p : Pos) : Clean (Γ.enter c hd p) :=
  ⟨hc, fun x hx => by
    rcases List.mem_cons.mp hx with rfl | hx
    · exact h.1
    · exact h.2 x hx⟩
theorem Clean.goto {Γ : Ctx} (h : Clean Γ) {c : Code} (hc : goodC c = true) : Clean (Γ.goto c) := ⟨hc, h.2⟩
/-- wp in all clean contexts of an Around -/
@[irreducible] def wpC {α : Type} (M : Model) (A : Around) (t : Sem α) (Q : α → Shared → Prop) (E : Value → Shared → Prop) (s : Shared) : Prop :=
  ∀ Γ p, Γ.In A → Clean Γ → Sem.wp M Γ t (fun a _ s' => Q a s') (fun e _ s' => E e s') p s
@[irreducible] def codeC (M : Model) (A : Around) (c : Code) (R : Result → Shared → Prop) (s : Shared) : Prop :=
  ∀ Γ p, Γ.code = c → Γ.Below A → Clean Γ → wpCode M Γ R p s
section
variable {α β : Type} {M : Model} {A : Around} {E E' : Value → Shared → Prop} {s : Shared}
theorem wpC_in {t : Sem α} {Q : α → Shared → Prop} (h : ∀ Γ p, Γ.In A → Clean Γ → Sem.wp M Γ t (fun a _ s' => Q a s') (fun e _ s' => E e s') p s) : wpC M A t Q E s := by
  unfold wpC
  exact h
theorem wpC.out {t : Sem α} {Q : α → Shared → Prop} (h : wpC M A t Q E s) : ∀ Γ p, Γ.In A → Clean Γ → Sem.wp M Γ t (fun a _ s' => Q a s') (fun e _ s' => E e s') p s := by
  unfold wpC at h
  exact h
theorem codeC_in {c : Code} {R : Result → Shared → Prop} (h : ∀ Γ p, Γ.code = c → Γ.Below A → Clean Γ → wpCode M Γ R p s) : codeC M A c R s := by
  unfold codeC
  exact h
theorem codeC.out {c : Code} {R : Result → Shared → Prop} (h : codeC M A c R s) : ∀ Γ p, Γ.code = c → Γ.Below A → Clean Γ → wpCode M Γ R p s := by
  unfold codeC at h
  exact h
theorem wpC_of_any {t : Sem α} {Q : α → Shared → Prop} (h : wpAny M A t Q E s) : wpC M A t Q E s := wpC_in fun Γ p hΓ _ => h Γ p hΓ
theorem wpC_pure {a : α} {Q : α → Shared → Prop} (h : Q a s) : wpC M A (pure a) Q E s := wpC_of_any (wpAny_pure h)
theorem wpC_mono {t : Sem α} {Q Q' : α → Shared → Prop} (h : wpC M A t Q E s) (hQ : ∀ a s, Q a s → Q' a s) (hE : ∀ e s, E e s → E' e s) : wpC M A t Q' E' s :=
  wpC_in fun Γ p hΓ hc => Sem.wp_mono M Γ t (fun a _ s => hQ a s) (fun e _ s => hE e s) p s (h.out Γ p hΓ hc)
theorem wpC_never {t : Sem α} {Q : α → Shared → Prop} (h : wpC M A t Q (fun _ _ => False) s) : wpC M A t Q E s := wpC_mono h (fun _ _ x => x) fun _ _ x => x.elim
theorem wpC_bind {m : Sem α} {f : α → Sem β} {Q : β → Shared → Prop} (h : wpC M A m (fun a s' => wpC M A (f a) Q E s') E s) : wpC M A (m >>= f) Q E s :=
  wpC_in fun Γ p hΓ hc => by
    rw [Sem.wp_bind']
    exact Sem.wp_mono M Γ m (fun a p' s' h' => h'.out Γ p' hΓ hc) (fun _ _ _ h' => h') p s (h.out Γ p hΓ hc)
/-- the first part reaches no such call -/
theorem wpC_first {m : Sem α} {f : α → Sem β} {Q : β → Shared → Prop} (h : wpAny M A m (fun a s' => wpC M A (f a) Q E s') E s) : wpC M A (m >>= f) Q E s := wpC_bind (wpC_of_any h)
theorem wpC_then {m : Sem α} {f : α → Sem β} {Q : β → Shared → Prop} (h : wpC M A m (fun a s' => wpAny M A (f a) Q E s') E s) : wpC M A (m >>= f) Q E s :=
  wpC_bind (wpC_mono h (fun _ _ x => wpC_of_any x) fun _ _ x => x)
theorem wpC_holding {vs : List Value} {m : Sem α} {Q : α → Shared → Prop} (h : wpC M A m Q E s) : wpC M A (holding vs m) Q E s :=
  wpC_in fun Γ p hΓ hc => by rw [Sem.wp_holding]; exact h.out Γ p hΓ hc
theorem wpC_keep {vs : List Value} {m : Sem α} {Q : α → Shared → Prop} (h : wpC M A m Q E s) : wpC M A (m.keep vs) Q E s :=
  wpC_in fun Γ p hΓ hc => by rw [Sem.wp_keep]; exact h.out Γ p hΓ hc
theorem wpC_operate {vs : List Value} {m : Sem Value} {Q : Value → Shared → Prop} (h : wpC M A m Q E s) : wpC M A (operate vs m) Q E s :=
  wpC_in fun Γ p hΓ hc => by rw [Sem.wp_operate]; exact h.out Γ p hΓ hc
theorem wpC_onRaise {m : Sem α} {k : Value → Sem Unit} {Q : α → Shared → Prop} (h : wpC M A m Q (fun _ _ => False) s) : wpC M A (m.onRaise k) Q E s :=
  wpC_in fun Γ p hΓ hc => by
    rw [Sem.wp_onRaise]
    exact Sem.wp_mono M Γ m (fun _ _ _ h' => h') (fun e p' s' h' => h'.elim) p s (h.out Γ p hΓ hc)
theorem wpC_attempt {m : Sem α} {Q : Except Value α → Shared → Prop} (h : wpC M A m (fun a => Q (.ok a)) (fun _ _ => False) s) : wpC M A m.attempt Q E s :=
  wpC_in fun Γ p hΓ hc => by
    rw [Sem.wp_attempt]
    exact Sem.wp_mono M Γ m (fun _ _ _ h' => h') (fun e p' s' h' => h'.elim) p s (h.out Γ p hΓ hc)
theorem wpC_run {c : Code} {h : Option Value} {Q : Flow → Shared → Prop} (hg : goodC c = true)
    (hc : codeC M (A.mark h) c (fun r s' => match r with | .ok f => Q f s' | .error _ => False) s) (hnb : h ≠ some byPass := by intro x; cases x) : wpC M A (run c h) Q E s :=
  wpC_in fun Γ p hΓ hcl => by
    rw [Sem.wp_run]
    refine wpCode_mono (fun r s' hr => ?_) (hc.out _ p rfl (hΓ.enter c h p hnb) (hcl.enter hg h p))
    cases r with
    | ok f => exact hr
    | error e => exact hr.elim
theorem wpC_runOwn {c : Code} {env : Env} {h : Option Value} {Q : Flow → Shared → Prop} (hg : goodC c = true)
    (hc : codeC M (A.mark h) c (fun r s' => match r with | .ok f => Q f s' | .error _ => False) s) (hnb : h ≠ some byPass := by intro x; cases x) : wpC M A (runOwn c env h) Q E s := by
  unfold runOwn
  exact wpC_onRaise (wpC_run hg hc hnb)
theorem wpC_call {f : Value} {pos : List Value} {kw : List (Str × Value)} {Q : Value → Shared → Prop}
    (hc : codeC M A (.call f ⟨pos, kw⟩) (fun r s' => match r with | .ok (.ret v) => Q v s' | _ => False) s) : wpC M A (call f pos kw) Q E s :=
  wpC_in fun Γ p hΓ hcl => by
    show Sem.wp M Γ (runValue _) _ _ p s
    rw [Sem.wp_runValue]
    refine wpCode_mono (fun r s' hr => ?_) (hc.out _ p rfl (hΓ.enter _ none p (by intro x; cases x)) (hcl.enter rfl none p))
    cases r with
    | ok f => cases f <;> first | exact hr | exact hr.elim
    | error e => exact hr.elim
theorem codeC_mono {c : Code} {R R' : Result → Shared → Prop} (h : codeC M A c R s) (hR : ∀ r s, R r s → R' r s) : codeC M A c R' s :=
  codeC_in fun Γ p hc hΓ hcl => wpCode_mono hR (h.out Γ p hc hΓ hcl)
theorem codeC_of_tree {c : Code} {R : Result → Shared → Prop}
    (h : wpC M (A.under c) (M.den c) (fun fin s' => match fin with | .done f => R (.ok f) s' | .again c' => c'.quiet = true ∧ goodC c' = true ∧ codeC M A c' R s') (fun _ _ => False) s) : codeC M A c R s :=
  codeC_in fun Γ p hc hΓ hcl => by
    rw [wpCode_iff_wp, hc]
    refine Sem.wp_mono M Γ _ (fun fin p' s' h' => ?_) (fun _ _ _ h' => h'.elim) p s (h.out Γ p (hc ▸ hΓ.in) hcl)
    cases fin with
    | done f => exact h'
    | again c' => exact ⟨h'.1, h'.2.2.out (Γ.goto c') p' rfl (hΓ.goto c') (hcl.goto h'.2.1)⟩
theorem wpC_ite {c : Prop} [Decidable c] {a b : Sem α} {Q : α → Shared → Prop} (h : if c then wpC M A a Q E s else wpC M A b Q E s) : wpC M A (if c then a else b) Q E s := by
  by_cases hc : c
  · rw [if_pos hc] at h ⊢
    exact h
  · rw [if_neg hc] at h ⊢
    exact h
end
end Mine

namespace Mine
open PySem.Calls
section
variable {M : Model} {A : Around} {E : Value → Shared → Prop} {s : Shared} {env : Env}
theorem wpC_execs_nil {Q : Flow → Shared → Prop} (h : Q .next s) : wpC M A (execs [] env) Q E s := wpC_of_any (wpAny_execs_nil h)
theorem wpC_execs_cons {st rest} {Q : Flow → Shared → Prop}
    (h : wpC M A (exec st env) (fun f s' => match f with | .next => wpC M A (execs rest env) Q E s' | f => Q f s') E s) : wpC M A (execs (st :: rest) env) Q E s := by
  rw [execs_cons]
  refine wpC_bind (wpC_mono h (fun f s' hf => ?_) fun _ _ x => x)
  cases f <;> first | exact hf | exact wpC_pure hf
theorem wpC_standAt {α : Type} {pos : Pos} {t : Sem α} {Q : α → Shared → Prop} (h : wpC M A t Q E s) : wpC M A (standAt pos >>= fun _ => t) Q E s := wpC_first (wpAny_standAt h)
theorem wpC_Return {e pos} {Q : Flow → Shared → Prop} (h : wpC M A (eval e env) (fun v s' => Q (.ret v) s') E s) : wpC M A (exec (.Return (some e) pos) env) Q E s := by
  rw [exec_Return_some]
  exact wpC_standAt (wpC_bind (wpC_mono h (fun v s' hv => wpC_pure hv) fun _ _ x => x))
theorem wpC_Assign_Name {x pos' value pos} {Q : Flow → Shared → Prop}
    (h : wpC M A (eval value env) (fun v s₁ => wpAny M A (storeName env x v) (fun _ s₂ => Q .next s₂) E s₁) E s)
    (hs : swapsWith value (some (.Name x pos')) pos.line env = pure false := by rfl) : wpC M A (exec (.Assign [.Name x pos'] value pos) env) Q E s := by
  rw [exec_Assign_Name env x pos' value pos hs]
  exact wpC_standAt (wpC_bind (wpC_mono h (fun v s' hv => wpC_standAt (wpC_first (wpAny_bindName (wpAny_mono hv (fun _ _ q => wpC_pure q) fun _ _ x => x)))) fun _ _ x => x))
theorem wpC_AugAssign_Name {x pos' op value pos} {Q : Flow → Shared → Prop}
    (h : wpAny M A (loadName env x) (fun old s₁ => wpC M A (eval value env) (fun v s₂ => wpAny M A (inplaceOp op old v)
      (fun r s₃ => wpAny M A (storeName env x r) (fun _ s₄ => Q .next s₄) E s₃) E s₂) E s₁) E s) : wpC M A (exec (.AugAssign (.Name x pos') op value pos) env) Q E s := by
  rw [exec_AugAssign_Name]
  refine wpC_standAt (wpC_first (wpAny_mono h (fun old s₁ h₁ => ?_) fun _ _ x => x))
  refine wpC_bind (wpC_holding (wpC_mono h₁ (fun v s₂ h₂ => wpC_standAt ?_) fun _ _ x => x))
  refine wpC_bind (wpC_operate (wpC_of_any (wpAny_mono h₂ (fun r s₃ h₃ => wpC_standAt ?_) fun _ _ x => x)))
  exact wpC_first (wpAny_bindName (wpAny_mono h₃ (fun _ _ q => wpC_pure q) fun _ _ x => x))
theorem wpC_If {test body orelse pos} {Q : Flow → Shared → Prop}
    (h : wpC M A (isTrue test env (eval test env)) (fun b s₂ => if b then wpC M A (execs body env) Q E s₂ else wpC M A (execs orelse env) Q E s₂) E s) : wpC M A (exec (.If test body orelse pos) env) Q E s := by
  rw [exec_If]
  refine wpC_standAt (wpC_bind (wpC_mono h (fun b s₂ h₂ => ?_) fun _ _ x => x))
  cases b <;> exact h₂
theorem wpC_isTrue_Compare1 {l op r pos whole} {Q : Bool → Shared → Prop}
    (h : wpC M A (eval l env) (fun a s₁ => wpAny M A (eval r env) (fun b s₂ => wpAny M A (compareOp op a b) (fun c s₃ => wpAny M A (truthy c) Q E s₃) E s₂) E s₁) E s)
    (hm : behindInMarks op r = false := by with_unfolding_all rfl) : wpC M A (isTrue (.Compare l [op] [r] pos) env whole) Q E s := by
  rw [isTrue_Compare1, markedBehindIn_of_false hm]
  refine wpC_bind (wpC_mono h (fun a s₁ h₁ => ?_) fun _ _ x => x)
  refine wpC_bind (wpC_holding (wpC_of_any (wpAny_mono h₁ (fun b s₂ h₂ => wpC_standAt ?_) fun _ _ x => x)))
  exact wpC_bind (wpC_operate (wpC_of_any (wpAny_mono h₂ (fun c s₃ h₃ => wpC_holding (wpC_of_any h₃)) fun _ _ x => x)))
theorem wpC_BinOp {l op r pos} {Q : Value → Shared → Prop}
    (h : wpC M A (eval l env) (fun a s₁ => wpC M A (eval r env) (fun b s₂ => wpAny M A (binaryOp op a b) Q E s₂) E s₁) E s) : wpC M A (eval (.BinOp l op r pos) env) Q E s := by
  rw [eval_BinOp]
  refine wpC_bind (wpC_mono h (fun a s₁ h₁ => ?_) fun _ _ x => x)
  exact wpC_bind (wpC_holding (wpC_mono h₁ (fun b s₂ h₂ => wpC_standAt (wpC_operate (wpC_of_any h₂))) fun _ _ x => x))
theorem wpC_spliced_nil {Q : List Value → Shared → Prop} (h : Q [] s) : wpC M A (spliced []) Q E s := wpC_of_any (spliced_nil h)
theorem wpC_spliced_cons {x : Sem Value} {rest : List (Bool × Sem Value)} {Q : List Value → Shared → Prop}
    (h : wpC M A x (fun v s₁ => wpC M A (spliced rest) (fun vs s₂ => Q (v :: vs) s₂) E s₁) E s) : wpC M A (spliced ((false, x) :: rest)) Q E s := by
  rw [spliced]
  refine wpC_bind (wpC_mono h (fun v s₁ h₁ => ?_) fun _ _ x => x)
  simp only [Bool.false_eq_true, if_false]
  exact wpC_bind (wpC_pure (wpC_bind (wpC_holding (wpC_mono h₁ (fun vs s₂ h₂ => wpC_pure h₂) fun _ _ x => x))))
theorem wpC_evalArgs {f : Value} {x : Sem Value} {rest : List (Bool × Sem Value)} {Q : Args → Shared → Prop}
    (h : wpC M A (spliced ((false, x) :: rest)) (fun vs s' => Q ⟨vs, []⟩ s') E s) : wpC M A (evalArgs f true ((false, x) :: rest) []) Q E s := by
  unfold evalArgs
  show wpC M A (spliced ((false, x) :: rest) >>= _) Q E s
  refine wpC_bind (wpC_mono h (fun vs s' h' => ?_) fun _ _ x => x)
  refine wpC_holding ?_
  exact wpC_bind (wpC_pure (wpC_bind (wpC_pure (wpC_pure h'))))
/-- a call of a def -/
theorem wpC_callWith_def {pos : Pos} {a : Addr} {o : Obj} {fd : FuncData} {args : List (Bool × Sem Value)} {Q : Value → Shared → Prop} (hplain : args.any (·.1) = false)
    (h : wpC M A (evalArgs (.ref a) true args []) (fun x s₁ => (s₁.heap.get? a = some o ∧ o.data = .func fd) ∧ wpC M A (call (.ref a) x.pos x.kw) Q E s₁) E s) :
    wpC M A (callWith pos (.ref a) [] args []) Q E s := by
  unfold callWith
  refine wpC_bind (wpC_holding (wpC_mono h (fun x s₁ h₁ => wpC_standAt ?_) fun _ _ x => x))
  have tail : ∀ {t : Sem Value}, wpC M A t Q E s₁ → wpC M A (t >>= fun r => holding [r] point >>= fun _ => pure r) Q E s₁ :=
    fun ht => wpC_bind (wpC_mono ht (fun r s₂ hr => wpC_first (wpAny_holding (wpAny_point (wpC_pure hr)))) fun _ _ x => x)
  simp only [hplain, List.any_nil, Bool.or_false]
  refine wpC_first (m := keeperOf (.ref a)) ?_
  unfold keeperOf
  refine wpAny_bind (wpAny_load h₁.1.1 ?_)
  rw [h₁.1.2]
  refine wpAny_pure ?_
  dsimp only [List.nil_append]
  refine wpC_ite ?_
  split
  · exact tail h₁.2
  · exact tail (by unfold callMarked; exact wpC_keep h₁.2)
/-- a call of a built-in -/
theorem wpC_callWith_builtin {pos : Pos} {id : String} {first : List Value} {args : List (Bool × Sem Value)} {Q : Value → Shared → Prop} (hplain : args.any (·.1) = false)
    (h : wpC M A (evalArgs (.builtin id) true args []) (fun a s₁ => wpAny M A (call (.builtin id) (first ++ a.pos) a.kw) Q E s₁) E s) :
    wpC M A (callWith pos (.builtin id) first args []) Q E s := by
  unfold callWith
  refine wpC_bind (wpC_holding (wpC_mono h (fun a s₁ h₁ => wpC_standAt ?_) fun _ _ x => x))
  simp only [hplain, List.any_nil, Bool.or_false]
  refine wpC_first (wpAny_pure ?_)
  exact wpC_first (wpAny_mono h₁ (fun r s₂ hr => wpC_first (wpAny_holding (wpAny_point (wpC_pure hr)))) fun _ _ x => x)
theorem wpC_Call {f : Expr} {args : List Expr} {pos : Pos} {Q : Value → Shared → Prop} (x : Str) (p : Pos) (e : f = .Name x p)
    (h : wpAny M A (eval (.Name x p) env) (fun v s₁ => wpC M A (callWith pos v [] (backTo pos (starEach args env)) (backToKw pos (keywordEach [] env))) Q E s₁) E s) :
    wpC M A (eval (.Call f args [] pos) env) Q E s := by
  subst e
  show wpC M A (do callWith pos (← eval (.Name x p) env) [] (backTo pos (starEach args env)) (backToKw pos (keywordEach [] env))) Q E s
  exact wpC_first h
theorem under_zero {c : Code} (hw : c.weight = 0) (hu : c.cUnits = 0) : A.under c = A := Around.under_of_weight hw hu
/-- one turn of a while -/
theorem codeC_while {test : Expr} {body : List Stmt} {R : Result → Shared → Prop} (prog : Program) (w : World)
    (h : wpAny (model prog w) A (isTrue test env (eval test env)) (fun b s₂ =>
        if b then wpC (model prog w) A (execs body env) (fun f s₃ => match f with
            | .next | .cont => codeC (model prog w) A (.whileLoop test body [] env) R s₃
            | .brk => R (.ok .next) s₃
            | .ret v => R (.ok (.ret v)) s₃) (fun _ _ => False) s₂
        else R (.ok .next) s₂) (fun _ _ => False) s) : codeC (model prog w) A (.whileLoop test body [] env) R s := by
  refine codeC_of_tree ?_
  rw [under_zero rfl rfl]
  show wpC _ A ((whileTurn test body [] env).onRaise (fun x => do noteFrame x env; theTreesLotGoes x)) _ _ s
  refine wpC_onRaise ?_
  simp only [whileTurn]
  refine wpC_first (wpAny_mono h (fun b s₂ h₂ => ?_) fun _ _ x => x)
  cases b with
  | false =>
    simp only [Bool.false_eq_true, if_false] at h₂ ⊢
    exact wpC_bind (wpC_execs_nil (wpC_pure h₂))
  | true =>
    simp only [if_true] at h₂ ⊢
    refine wpC_bind (wpC_mono h₂ (fun f s₃ h₃ => ?_) fun _ _ x => x)
    cases f with
    | next => exact wpC_pure ⟨rfl, rfl, h₃⟩
    | cont => exact wpC_pure ⟨rfl, rfl, h₃⟩
    | brk => exact wpC_pure h₃
    | ret v => exact wpC_pure h₃
theorem wpC_While {prog : Program} {w : World} {test : Expr} {body : List Stmt} {pos : Pos} {Q : Flow → Shared → Prop}
    (h : codeC (model prog w) A (.whileLoop test body [] env) (fun r s' => match r with | .ok f => Q f s' | .error _ => False) s) : wpC (model prog w) A (exec (.While test body [] pos) env) Q E s := by
  rw [exec_While]
  exact wpC_standAt (wpC_runOwn rfl h)
/-- one turn of a for -/
theorem codeC_for {target : Expr} {it : Value} {body : List Stmt} {R : Result → Shared → Prop} (prog : Program) (w : World)
    (h : wpAny (model prog w) A (pyNext it) (fun r s₁ => match r with
        | none => R (.ok .next) s₁
        | some v => wpAny (model prog w) A (letOwnedTupleGo target it v) (fun _ s₂ => wpAny (model prog w) A (assign target env v) (fun _ s₃ =>
            wpC (model prog w) A (execs body env) (fun f s₄ => match f with
              | .next | .cont => codeC (model prog w) A (.forLoop target it body [] env) R s₄
              | .brk => R (.ok .next) s₄
              | .ret v => R (.ok (.ret v)) s₄) (fun _ _ => False) s₃) (fun _ _ => False) s₂) (fun _ _ => False) s₁) (fun _ _ => False) s) : codeC (model prog w) A (.forLoop target it body [] env) R s := by
  refine codeC_of_tree ?_
  rw [under_zero rfl rfl]
  show wpC _ A ((forTurn target it body [] env).onRaise (fun x => do noteFrame x env; theTreesLotGoes x)) _ _ s
  refine wpC_onRaise ?_
  simp only [forTurn]
  refine wpC_standAt (wpC_bind (wpC_onRaise (wpC_of_any (wpAny_mono h (fun r s₁ h₁ => ?_) fun _ _ x => x))))
  cases r with
  | none =>
    refine wpC_pure ⟨rfl, rfl, codeC_of_tree ?_⟩
    rw [under_zero rfl rfl]
    exact wpC_of_any (show wpAny _ A (do return Fin.done (← execs [] env)) _ _ s₁ from wpAny_bind (wpAny_execs_nil (wpAny_pure h₁)))
  | some v =>
    refine wpC_first (wpAny_mono h₁ (fun _ s₂ h₂ => ?_) fun _ _ x => x)
    refine wpC_first (wpAny_mono h₂ (fun _ s₃ h₃ => ?_) fun _ _ x => x)
    refine wpC_bind (wpC_mono h₃ (fun f s₄ h₄ => ?_) fun _ _ x => x)
    cases f with
    | next => exact wpC_pure ⟨rfl, rfl, h₄⟩
    | cont => exact wpC_pure ⟨rfl, rfl, h₄⟩
    | brk => exact wpC_pure h₄
    | ret v => exact wpC_pure h₄
theorem wpC_For {prog : Program} {w : World} {target iter : Expr} {body : List Stmt} {pos : Pos} {Q : Flow → Shared → Prop}
    (h : wpAny (model prog w) A (eval iter env) (fun x s₁ => wpAny (model prog w) A (pyIter x) (fun it s₂ =>
      codeC (model prog w) A (.forLoop target it body [] env) (fun r s' => match r with | .ok f => Q f s' | .error _ => False) s₂) E s₁) E s)
    (hs : ∀ x, foldedSetIterable iter env x = pure x := by intro _; rfl) : wpC (model prog w) A (exec (.For target iter body [] pos) env) Q E s := by
  rw [exec_For]
  refine wpC_standAt (wpC_first (wpAny_mono h (fun x s₁ h₁ => ?_) fun _ _ x => x))
  rw [hs x]
  refine wpC_first (wpAny_pure (wpC_standAt (wpC_bind (wpC_holding (wpC_of_any (wpAny_mono h₁ (fun it s₂ h₂ => ?_) fun _ _ x => x))))))
  exact wpC_runOwn rfl h₂
end
-- entering a def
section
variable {prog : Program} {w : World} {A₀ A : Around} {s : Shared} {base h₀ : Heap} {outer : List Env} {L : Addr} {m mg mb : Str → Option Value} {env : Env} {news : List (Addr × Obj)} {K : Frag} {p : Program} {loose : List Str} {mean : ExcName → Option Value}
  {R : Result → Shared → Prop} {name qual : Str} {params : Arguments} {body : List Stmt} {scope : Scope} {dV kV doc pm cdv ct oc : Value} {an od : Option Addr} {osl : Array (Option Value)} {f : Addr} {args : Args} {binds : List (Str × Value)}
theorem codeC_func {e : Env} (h : wpC (model prog w) (A.deeper e) (execs body e) (fun fl s' => R (.ok (.ret (match fl with | .ret v => v | _ => .none))) s') (fun _ _ => False) s) :
    codeC (model prog w) A (.func body e) R s := by
  refine codeC_of_tree ?_
  show wpC _ (A.deeper e) (do point; match ← (execs body e).onRaise (leaving e) with | .ret v => ret v | _ => ret .none) _ _ s
  refine wpC_first (wpAny_point (wpC_bind (wpC_onRaise (wpC_mono h (fun fl s' h' => ?_) fun _ _ x => x))))
  cases fl <;> exact wpC_pure h'
theorem codeC_call_function {a : Addr} {o : Obj} {fd : FuncData} (hroom : A.depth < recursionLimit)
    (ho : s.heap.get? a = some o) (hd' : o.data = .func fd) (hco : fd.scope.isCoroutine = false) (hgen : fd.scope.isGenerator = false) (hbody : fd.body = .stmts body) (hcd : s.heap.CodeRec fd.code fd.qualname)
    (h : wpAny (model prog w) A.in1 (bindArgs fd args) (fun binds s₁ =>
      wpAny (model prog w) A.in1 (newFunctionEnv fd.scope fd.globals fd.closure binds (fd.qualname ++ ".<locals>.") (some a) fd.code none fd.builtins)
        (fun env s₂ => s₂.heap.NoLimit ∧ codeC (model prog w) A (.func body env) R s₂) (fun _ _ => False) s₁) (fun _ _ => False) s) :
    codeC (model prog w) A (.call (.ref a) args) R s := by
  refine codeC_of_tree (wpC_of_any ?_)
  show wpAny _ A.in1 (callAny (.ref a) args) _ _ s
  simp only [callAny]
  refine wpAny_bind (wpAny_load ho ?_)
  obtain ⟨c, oc, vs, tq, hc, hoc, hdc, hq⟩ := hcd
  simp only [hd', callFunction, hco, hgen, hbody, hc]
  rw [hc] at h
  refine wpAny_bind (m := field (.ref c) 1) (wpAny_field hoc hdc hq (wpAny_bind (wpAny_pure ?_)))
  refine wpAny_bind (wpAny_mono h (fun binds s₁ h₁ => ?_) fun _ _ x => x)
  refine wpAny_bind (wpAny_mono h₁ (fun env s₂ h₂ => ?_) fun _ _ x => x)
  exact wpAny_bind (wpAny_enterFrame h₂.1 hroom (wpAny_pure ⟨rfl, rfl, h₂.2⟩))
theorem codeC_def (B : Below A₀ base outer h₀) (F : Fr h₀ L s.heap m) (X₀ : K.In h₀) (N : News h₀ L s.heap news) (T : Top p loose mean mg mb h₀) (hA : A.frames = some (env :: outer)) (hf : env.frame = some L) (hke : env.scope.kind = .function)
    (ho : K.lookup f = some ⟨oc, od, .func (fnOf name qual params body scope dV kV doc pm an cdv ct), osl⟩) (hcd : codeIn K cdv qual = true) (hroom : A.depth < recursionLimit)
    (hbind : BindsTo s (fnOf name qual params body scope dV kV doc pm an cdv ct) args binds) (hloc : ∀ y ∈ binds, scope.names.lookup y.1 = some .local)
    (h : ∀ g L' h₁, Fr h₀ L g m → Fr g L' h₁ (fun y => binds.reverse.lookup y) → News g L' h₁ news → Below A base (env :: outer) g → K.In g → Top p loose mean mg mb g →
      wpC (model prog w) (A.deeper (envOf qual scope L' f cdv)) (execs body (envOf qual scope L' f cdv))
        (fun fl s' => LeaveK h₀ L m g R (match fl with | .ret v => v | _ => .none) s') (fun _ _ => False) { s with heap := h₁, toks := s.toks + binds.length })
    (hco : scope.isCoroutine = false) (hgen : scope.isGenerator = false) (hk : scope.kind = .function)
    (hcell : ∀ x ∈ scope.names, x.2 ≠ .cell) : codeC (model prog w) A (.call (.ref f) args) R s := by
  obtain ⟨FG, BG, st, lv⟩ := groundX (R := R) B F N hA hf hke
  have X := X₀.keeps F.keep
  refine codeC_call_function (fd := fnOf name qual params body scope dV kV doc pm an cdv ct) (body := body) hroom (X _ _ ho) rfl hco hgen rfl (codeRec_of X hcd) (hbind _ _ _ _ ?_)
  refine wpAny_newFunctionEnv hcell hloc (fun h₁ hns hsb => ⟨(T.nolimit.keeps F.keep).fresh _ hsb, codeC_func ?_⟩) hk
  have hk₁ : ∀ b o, s.heap.get? b = some o → h₁.get? b = some o := fun b o e => hsb.extBut b o (Nat.ne_of_lt (Heap.lt_size e)) (Heap.get?_push_of_some _ e)
  refine wpC_mono (h _ s.heap.objs.size h₁ FG ⟨hns, fun b o e => hk₁ b o (of_hideAll _ e), Nat.le_of_eq (hideAll_size _ _)⟩
    (fun q hq => ⟨hk₁ _ _ (N q hq).1, Nat.ne_of_lt (Heap.lt_size (N q hq).1), hideAll_none _ (List.mem_map_of_mem hq)⟩) BG (X₀.keeps st) (T.keeps st)) (fun fl s' hl => lv _ _ hl) fun _ _ x => x
end
end Mine

namespace Mine
open PySem.Calls
namespace BF
theorem mro : mroOf (.type "bytearray") = pure [.type "bytearray", .type "object"] := by rw [mroOf_type]; kernel_rfl
theorem lookup_new : typeLookup (.type "bytearray") "__new__" = pure (some (.builtin "bytearray.__new__")) := by rw [typeLookup_type, builtinLookup_eq_fast]; kernel_rfl
theorem sub : isSubtype (.type "bytearray") (.type "bytearray") = pure true := by rw [isSubtype_type]; kernel_rfl
theorem slot_init : Slot "bytearray" "__init__" "bytearray.__init__" :=
  .of (owner := "bytearray") (n := "__init__") (by rw [typeLookup_type, builtinLookup_eq_fast]; kernel_rfl) (by decide +kernel) (by decide +kernel) (by decide +kernel)
    (by first | exact .inl (by decide +kernel) | exact .inr (by decide +kernel)) (by rw [isSubtype_type]; kernel_rfl)
theorem called : TypeCalled "bytearray" "bytearray.__new__" "bytearray.__init__" :=
  ⟨by decide +kernel, by decide +kernel, ⟨_, _, mro⟩, madeBy_type mro lookup_new (by decide +kernel), by decide +kernel, sub, slot_init⟩
theorem typeCall (a : Value) : checkTypeCall "bytearray" ⟨[a], []⟩ = pure () := by kernel_rfl
theorem newCall (a : Value) : checkBuiltinCall "bytearray.__new__" ⟨[.type "bytearray", a], []⟩ = pure () := by kernel_rfl
theorem entry_new : entryFor table "bytearray.__new__" = some Builtin.«list.__new__» := entryFor_alias (id' := "list.__new__") (by kernel_rfl) (by decide +kernel) (by decide +kernel) (by kernel_rfl)
theorem plain_new : plainId "bytearray.__new__" = true := by decide +kernel
theorem entry_init : entryFor table "bytearray.__init__" = some Builtin.«bytearray.__init__» := entryFor_of_tree (by kernel_rfl)
theorem plain_init : plainId "bytearray.__init__" = true := by decide +kernel
theorem args_init (a b : Value) : argsOk "bytearray.__init__" ⟨[a, b], []⟩ := by unfold argsOk; kernel_rfl
theorem bind_init (v : Value) : Builtin.Bytes.bindOptional "bytearray.__init__" "bytearray" ["source", "encoding", "errors"] [v] [] = pure [some v, none, none] := by kernel_rfl
theorem lookup_release : typeLookup (.type "bytearray") "__release_buffer__" = pure (some (.builtin "bytearray.__release_buffer__")) := by rw [typeLookup_type, builtinLookup_eq_fast]; kernel_rfl
theorem int_index : typeLookup (.type "int") "__index__" = pure (some (.builtin "int.__index__")) := by rw [typeLookup_type, builtinLookup_eq_fast]; kernel_rfl
end BF
set_option maxRecDepth 1000000 in
set_option maxHeartbeats 4000000 in
theorem owner_bytearray_new : ("bytearray.__new__".splitOn ".__new__").headD "" = "bytearray" := by simp +decide [String.splitOn, String.splitOnAux]
abbrev baObj (b : Array UInt8) : Obj := { cls := .type "bytearray", data := .bytearray b }
section
variable {prog : Program} {w : World} {A : Around} {E : Value → Shared → Prop} {s : Shared}
theorem code_ba_new (a : Value) {Q₁ : Value → Shared → Prop} (h : Q₁ (.ref s.heap.objs.size) { s with heap := s.heap.push (baObj #[]) }) :
    codeAny (model prog w) A (.call (.builtin "bytearray.__new__") ⟨[.type "bytearray", a], []⟩) (wants Q₁ E) s := by
  refine codeAny_of_tree ?_
  show wpAny _ A.in1 (do checkBuiltinCall "bytearray.__new__" ⟨[.type "bytearray", a], []⟩; again (.builtin "bytearray.__new__" ⟨[.type "bytearray", a], []⟩)) _ _ s
  refine wpAny_bind (wpAny_of_eq (BF.newCall a) (wpAny_pure ⟨plainId_quiet BF.plain_new _, codeAny_builtin_stack BF.entry_new rfl fun p st => ?_⟩))
  rw [Around.under_plainId BF.plain_new _]
  have hsub := BF.sub
  have hown := owner_bytearray_new
  obtain ⟨hp, g, d, tk, os⟩ := s
  simp only [hown]
  wp_walk
  exact h
end
/-- no entry of a clean stack holds the object -/
theorem wpC_exported {M : Model} {A : Around} {E : Value → Shared → Prop} {s : Shared} {self : Value} {Q : Bool → Shared → Prop} (h : Q false s) : wpC M A (Builtin.Bytes.exported self) Q E s := by
  refine wpC_in fun Γ p _ hcl => ?_
  have hl : ∀ c ∈ (Γ.code, p) :: Γ.below, goodC c.1 = true := fun c hc => by
    rcases List.mem_cons.mp hc with rfl | hc
    · exact hcl.1
    · exact hcl.2 c hc
  unfold Builtin.Bytes.exported
  rw [Sem.wp_bind']
  show Q (List.any ((Γ.code, p) :: Γ.below) _) s
  refine Eq.mpr (congrArg (fun b => Q b s) (List.any_eq_false.mpr fun c hc => ?_)) h
  have hg := hl c hc
  clear hl hc hcl
  obtain ⟨c, p'⟩ := c
  cases c with
  | builtin n args =>
    have hb : badIds.contains n = false := by simpa [goodC] using hg
    have h1 : n ≠ "bytearray.__contains__" := by rintro rfl; revert hb; decide
    have h2 : n ≠ "bytearray.__mod__" := by rintro rfl; revert hb; decide
    have h3 : n ≠ "bytearray.__rmod__" := by rintro rfl; revert hb; decide
    have h4 : n ≠ "_struct.pack_into.held" := by rintro rfl; revert hb; decide
    have h5 : n ≠ "bytearray.find.held" := by rintro rfl; revert hb; decide
    have h6 : Builtin.Bytes.decodersThatHold.contains n = false := by
      have e : badIds.contains n = (["bytearray.__contains__", "bytearray.__mod__", "bytearray.__rmod__", "_struct.pack_into.held", "bytearray.find.held"].contains n || Builtin.Bytes.decodersThatHold.contains n) := by
        unfold badIds
        exact List.contains_append
      rw [e] at hb
      exact (Bool.or_eq_false_iff.mp hb).2
    split <;> simp_all
  | _ => simp
section
variable {prog : Program} {w : World} {A : Around} {E : Value → Shared → Prop} {s : Shared}
theorem ba_typeIs {S : Addr} {b : Array UInt8} (h : s.heap.get? S = some (baObj b)) : s.TypeIs (.ref S) "bytearray" := ⟨_, h, rfl⟩
theorem ba_ownRelease {S : Addr} {b : Array UInt8} {Q : Bool → Shared → Prop} (hS : s.heap.get? S = some (baObj b)) (h : Q false s) : wpAny (model prog w) A (Builtin.Bytes.ownRelease (.ref S)) Q E s := by
  unfold Builtin.Bytes.ownRelease Builtin.Bytes.slotIsOwn
  refine wpAny_bind (wpAny_bind (wpAny_specialOf (ba_typeIs hS) BF.lookup_release ?_))
  show wpAny _ _ (if (!("bytearray.__release_buffer__".endsWith ("." ++ "__release_buffer__"))) = true then pure false else isInstance (.ref S) (.type ("bytearray.__release_buffer__".dropRight ("__release_buffer__".length + 1)))) _ _ _
  rw [if_neg (by decide +kernel), show "bytearray.__release_buffer__".dropRight ("__release_buffer__".length + 1) = "bytearray" from by decide +kernel]
  exact wpAny_isInstance (ba_typeIs hS) BF.sub (wpAny_pure h)
theorem ba_exportsOf {S : Addr} {b : Array UInt8} {Q : Nat → Shared → Prop} (hS : s.heap.get? S = some (baObj b)) (h : Q 0 s) : wpAny (model prog w) A (Builtin.Bytes.exportsOf (.ref S)) Q E s := by
  unfold Builtin.Bytes.exportsOf
  exact wpAny_bind (wpAny_load hS (wpAny_pure h))
theorem ba_update {S : Addr} {b : Array UInt8} {f : Array UInt8 → Array UInt8} {Q : Unit → Shared → Prop} (hS : s.heap.get? S = some (baObj b)) (hz : (f b).size ≤ sizeLine)
    (h : ∀ h', h'.get? S = some (baObj (f b)) → Heap.SameBut S s.heap h' → Q () { s with heap := h' }) : wpAny (model prog w) A (Builtin.Bytes.write (.ref S) f) Q E s := by
  show wpAny _ _ (updateBytearray S f) _ _ _
  unfold updateBytearray
  refine wpAny_bind (wpAny_load hS ?_)
  show wpAny _ _ (update S (Obj.mapBytearray f) >>= fun _ => lookBehind S) _ _ _
  refine wpAny_bind (wpAny_update hS ?_)
  have hS₂ : (s.heap.update S (Obj.mapBytearray f)).get? S = some (baObj (f b)) := Heap.get?_update_self (Obj.mapBytearray f) hS rfl
  refine wpAny_lookBehind hS₂ ?_ (h _ hS₂ (Heap.SameBut.update ..))
  show (if (f b).size > sizeLine then some "bytearray:memory" else none) = none
  rw [if_neg (Nat.not_lt.mpr hz)]
end
end Mine

namespace Mine
open PySem.Calls
def gOK (l : List (Code × Pos)) : Bool := l.all fun c => goodC c.1
/-- t in a clean context, d at once in any other -/
def guarded {α : Type} (t : Sem α) (d : α) : Sem α := .stack fun l => if gOK l = true then t else .pure d
section
variable {α : Type} {M : Model} {A : Around} {E : Value → Shared → Prop} {s : Shared}
theorem gOK_iff {Γ : Ctx} {p : Pos} : gOK ((Γ.code, p) :: Γ.below) = true ↔ Clean Γ := by
  simp only [gOK, List.all_cons, Bool.and_eq_true, List.all_eq_true, Clean]
theorem wp_guarded {Γ : Ctx} {t : Sem α} {d : α} {Q : α → Pos → Shared → Prop} {R : Value → Pos → Shared → Prop} {p : Pos} : Sem.wp M Γ (guarded t d) Q R p s = Sem.wp M Γ (if gOK ((Γ.code, p) :: Γ.below) = true then t else .pure d) Q R p s := rfl
theorem guarded_of {t : Sem α} {d : α} {Q : α → Shared → Prop} (h : wpC M A t Q E s) (hd : Q d s) : wpAny M A (guarded t d) Q E s := by
  intro Γ p hΓ
  rw [wp_guarded]
  by_cases hc : gOK ((Γ.code, p) :: Γ.below) = true
  · rw [if_pos hc]
    exact h.out Γ p hΓ (gOK_iff.mp hc)
  · rw [if_neg hc]
    exact hd
theorem guarded_tree {β : Type} {t : Sem α} {d : α} {t' : Sem β} {d' : β} {Q : α → Shared → Prop} {Q' : β → Shared → Prop} (h : wpAny M A (guarded t d) Q E s) (h1 : wpC M A t Q E s → wpC M A t' Q' E s) (h2 : Q d s → Q' d' s) : wpAny M A (guarded t' d') Q' E s := by
  have hC : wpC M A t Q E s := wpC_in fun Γ p hΓ hc => by
    have x := h Γ p hΓ
    rw [wp_guarded, if_pos (gOK_iff.mpr hc)] at x
    exact x
  intro Γ p hΓ
  rw [wp_guarded]
  by_cases hc : gOK ((Γ.code, p) :: Γ.below) = true
  · rw [if_pos hc]
    exact (h1 hC).out Γ p hΓ (gOK_iff.mp hc)
  · rw [if_neg hc]
    have x := h Γ p hΓ
    rw [wp_guarded, if_neg hc] at x
    exact h2 x
end
/-- the guarded stub takes one step more, to the stub itself -/
theorem sched_guarded {p : Program} {w : World} {s : Shared} {t : Sem Fin} {d : Fin} {n : Nat} {o : Outcome} {s' : Shared} (hz : s.asleep)
    (h : schedN (denote table) p w n (.single s ⟨guarded t d, .builtin "claim.caller" {}, default, []⟩) = .halted o s') :
    ∃ m, schedN (denote table) p w m (.single s ⟨t, .builtin "claim.caller" {}, default, []⟩) = .halted o s' := by
  cases n with
  | zero => cases h
  | succ n =>
    have e : step (denote table) p w s ⟨guarded t d, .builtin "claim.caller" {}, default, []⟩ = .go s ⟨t, .builtin "claim.caller" {}, default, []⟩ := by
      obtain ⟨heap, gens, drawn, toks, os⟩ := s
      show Step.go _ _ = Step.go _ _
      have hg : gOK [((Code.builtin "claim.caller" {}), (default : Pos))] = true := by decide +kernel
      simp only [List.map_nil, if_pos hg]
    have hs : sstep (denote table) p w (.single s ⟨guarded t d, .builtin "claim.caller" {}, default, []⟩) = .go (.single s ⟨t, .builtin "claim.caller" {}, default, []⟩) := by
      have hcalm : (Thread.mk (guarded t d) (.builtin "claim.caller" {}) default []).calm = true := by rfl
      rcases sstep_single (denote table) p w s _ hcalm hz with x | x
      · rw [x, e]; rfl
      · rw [e] at x; cases x
    refine ⟨n, ?_⟩
    simp only [schedN, hs] at h
    exact h
/-- what is so of the guarded stub is so of the stub -/
theorem unguard {c : ClaimW} {tree : List Value → Sem Fin} {d : Fin} {defs keeps : List Str} {writes : Bool} (H : c.HoldsOpenBy (fun vs => ⟨guarded (tree vs) d, .builtin "claim.caller" {}, default, []⟩) defs keeps writes) :
    c.HoldsOpenBy (fun vs => ⟨tree vs, .builtin "claim.caller" {}, default, []⟩) defs keeps writes := by
  refine ⟨H.1, H.2.1, fun w => ⟨(H.2.2 w).1, fun s hs => ?_⟩⟩
  obtain ⟨s₀, h1, h2, s₁, hT, h3, h4, h5, hcall⟩ := (H.2.2 w).2 s hs
  refine ⟨s₀, h1, h2, s₁, hT, h3, h4, h5, fun args hpre hlay ord hord => ?_⟩
  obtain ⟨vs, s₂, hl, n, o, s', hrun, rest⟩ := hcall args hpre hlay ord hord
  have hz : s₂.asleep := Shared.asleep_of_life (layAllW_rest _ _ _ hl).2.2.2 (Shared.asleep_of_life hT.2.1 (Shared.asleep_of_life (fence_lifeW h1) (AfterImport.life hs)))
  obtain ⟨m, hm⟩ := sched_guarded hz hrun
  exact ⟨vs, s₂, hl, m, o, s', hm, rest⟩
end Mine

namespace Mine
open PySem.Calls
/-- the walk of a law's call in clean contexts; what is asked of a call that answers True at once -/
abbrev WalkC (q : Program) (loose : List Str) (XP : (Str → Option Value) → Heap → Prop) (YP : World → Heap → Prop) (r : RowW) (d : DefRec) (kwd : List (Str × Expr)) : Prop :=
  ∀ (w : World) (s₀ s₁ : Shared) (mg mb : Str → Option Value), Ground q loose r.records XP w s₀ mg mb s₁.heap → YP w s₁.heap → ∀ (a : Addr) (o : Obj) (pm cd doc dV kV : Value), s₁.heap.get? a = some o →
    o.data = .func { docDef d.name d.params d.body d.scope pm cd doc with defaults := dV, kwdefaults := kV } → s₁.heap.CodeRec cd d.name → Dflts mg s₁.heap d.params kwd dV kV → mg d.name = some (.ref a) → s₁.gens = #[] →
    ∀ (args : List WData) (vals : List Value) (as : List Addr), r.claim.pre args = true → WData.layableAll args = true → ReadsAllW r.records (classAt s₀.heap) s₁.heap vals args as → WellAll w.params s₁.heap vals args → (∀ a ∈ as, (a == sysModules) = false) →
      wpC (model r.prog w) callerA (PySem.call (.ref a) vals) (fun v s' => GoodWG r.claim (classAt s₀.heap) (ExcName.means s₀.heap) args s₁ (.ok (.ret v)) s')
        (fun e s' => GoodWG r.claim (classAt s₀.heap) (ExcName.means s₀.heap) args s₁ (.error e) s') s₁ ∧
      GoodWG r.claim (classAt s₀.heap) (ExcName.means s₀.heap) args s₁ (.ok (.ret (.bool true))) s₁
/-- the head of a law, what its top leaves still to be shown -/
theorem head_of {r : OpenRow} {q : Program} {loose : List Str} {Xt : Shared → Bool} {XP : (Str → Option Value) → Heap → Prop} {α : Type} {Yf : Shared → α} {Ya : World → α} {YP : World → Heap → Prop} {d : DefRec} {kwd : List (Str × Expr)} (N : Nat)
    (hY : ∀ w s, Yf s = Ya w → YP w s.heap) (hYk : ∀ w h h', YP w h → (∀ b o, h.get? b = some o → h'.get? b = some o) → YP w h')
    (hX : ∀ s, Xt s = true → XP (s.heap.nsMap mainGlobals) s.heap) (hXk : ∀ mg h h', XP mg h → (∀ b o, h.get? b = some o → h'.get? b = some o) → XP mg h')
    (hdef : defOf q r.name = some (d, kwd)) (hp : r.prog.theDef r.name = some (d.params, d.body, d.scope)) (hk : kwWritten? d.params.kwonlyargs d.params.kw_defaults = some kwd) (hRf : ∀ s, Xt s = true → RecFacts r.records s.heap) (hwr : (!r.writes || r.records.isEmpty) = true)
    (k1 : r.wellSaid = true) (ok : (chainsOk q && opensWell r.prog && (frees r.toRowW && r.within.isEmpty)) = true) (hb : r.prog.bare) (hw : r.toRowW.promised)
    (call : LeftO r.prog q loose Xt Yf Ya N ∧ WalkC q loose XP YP r.toRowW d kwd) : r.Holds := by
  obtain ⟨left, call⟩ := call
  refine ⟨k1, hw, ?_⟩
  refine unguard (d := .done (.ret (.bool true))) (tree := fun vs => (callStub r.name vs).cur) ?_
  refine open_anyG (r := r.toRowW) (run := fun f vs => guarded (PySem.call f vs) (.bool true)) (tree := fun vs => guarded (callStub r.name vs).cur (.done (.ret (.bool true)))) left hY hYk hX hXk hRf hwr ok hb hw ?_ ?_ ?_
  · intro vs w s mg f Q E hg hf h
    refine guarded_tree h (fun hc => ?_) fun x => x
    refine wpC_first (wpAny_nsGet hg ?_)
    rw [hf]
    exact wpC_bind (wpC_mono hc (fun _ _ x => wpC_pure x) fun _ _ x => x)
  · intro w s hg G n hn
    have e : n = r.name := by
      cases hpin : r.pinned with
      | true => rw [hpin] at hn; simpa using hn
      | false => rw [hpin] at hn; simp at hn
    exact e ▸ pinned_of_view hg G hdef hp hk
  · intro w s₀ s₁ mg mb G Y args vs as hpre hlay L low
    obtain ⟨a, o, pm, cd, doc, dV, kV, h1, h2, h3, h4, h5⟩ := G.fn hdef
    have z := call w s₀ s₁ mg mb G Y a o pm cd doc dV kV h2 h3 h4 h5 (defOf_name hdef ▸ h1) L.gens args vs as hpre hlay L.reads L.well (L.low low)
    exact ⟨.ref a, h1, guarded_of z.1 z.2⟩
end Mine

namespace Mine
/-- what the head looks at of the text: all but the statements that give __name__ -/
def vw : Program := PySem.W.view PySem.Challenge.rw_pf0266_01.row.prog [1, 2, 3, 4, 5, 6, 7, 8, 9, 10, 11, 12, 13, 14, 15, 16, 17, 18, 19, 20, 21, 22, 23, 24, 25, 26, 27, 28, 30, 31, 32, 33, 35, 36, 37, 38, 39, 40, 41, 42, 43, 44, 45, 47, 48, 49, 50, 52, 53, 54, 56, 57, 59, 60, 61, 62, 64, 65, 66, 67, 69, 70, 71]
theorem said : PySem.Challenge.rw_pf0266_01.wellSaid = true := by kernel_rfl
theorem said_row : PySem.Challenge.rw_pf0266_01.row.wellSaid = true := row_said said
theorem vw_ok : (chainsOk vw && opensWell PySem.Challenge.rw_pf0266_01.row.prog && (frees PySem.Challenge.rw_pf0266_01.row.toRowW && PySem.Challenge.rw_pf0266_01.row.toRowW.within.isEmpty)) = true := by kernel_rfl
local macro_rules | `(tactic| o_head $H) => `(tactic| refine Mine.head_of (r := PySem.Challenge.rw_pf0266_01.row) (q := Mine.vw) (loose := [PySem.Str.ofString "NUMBER_FRAMES", PySem.Str.ofString "LONG_KINDS"]) (Xt := fun s => xlAt Mine.vw [] s && recOk (RowW.records PySem.Challenge.rw_pf0266_01.row.toRowW) s) (XP := XL Mine.vw []) (Yf := Hook.obs $H) (Ya := Hook.val $H) (YP := Hook.says $H) 3542 (Hook.of $H) (Hook.keeps $H) (fun s e => xl_of s (Bool.and_eq_true_iff.mp e).1) XL.keeps (by rfl) (by rfl) (by rfl) (fun s e => recFacts_of (Bool.and_eq_true_iff.mp e).2) (by rfl) Mine.said_row Mine.vw_ok ⟨rfl, rfl, rfl, rfl, rfl, by decide +kernel⟩ ?hw ?hc)
set_option maxHeartbeats 8000000 in
open_top hd for PySem.Challenge.rw_pf0266_01.row
end Mine

namespace Mine
def asK : List Addr := [2, 3, 15, 22, 24, 25, 27, 28, 29, 30, 31, 32, 35, 36, 38, 39, 41, 42, 43, 45, 46, 48, 49, 50, 52, 53, 55, 56, 57, 58, 61, 62, 63, 65, 66, 68, 69, 70, 72, 73, 75, 76, 77, 79, 80, 82, 83, 84, 86, 87, 89, 90, 91, 93, 94, 96, 97, 98, 100, 101, 103, 104, 105, 107, 108, 110, 111, 112, 114, 115, 117, 118, 119, 122, 123, 124, 125, 127, 128, 130, 131, 132, 134, 135, 137, 138, 139, 141, 142, 144, 145, 146, 148, 149, 151, 152, 153, 155, 156, 158, 159, 160, 162, 163, 165, 166, 167, 169, 170, 172, 173, 174, 176, 177, 179, 180, 181, 183, 184, 186, 187, 188, 190, 191, 193, 194, 195, 197, 198, 200, 201, 202, 204, 205, 207, 208, 209, 211, 212, 214, 215, 216, 218, 219, 221, 222, 223, 225, 226, 228, 229, 230, 233, 234, 235, 238, 239]
theorem asK_eq : ∀ P, asK = (hd.heap_1 P).map (·.1) := by intro P; kernel_rfl
abbrev prg : Program := PySem.Challenge.rw_pf0266_01.row.prog
abbrev lse : List Str := [Str.ofString "NUMBER_FRAMES", Str.ofString "LONG_KINDS"]
abbrev seesAt (s : Shared) : Bool := xlAt vw [] s && recOk (RowW.records PySem.Challenge.rw_pf0266_01.row.toRowW) s
set_option maxHeartbeats 0 in
/-- what the text's top leaves in a world of the one kind: one run of it, checked at once -/
theorem left_f : ∀ w : World, (openEnds treeTable prg (w.withFollow "special-get-raises" false) 3542).map (fun s => (openSeen vw lse (importedModules prg.main.body) seesAt true s, Hook.obs (kHook hd.heap_1 asK asK_eq) s)) = some (openGood vw lse, Hook.val (kHook hd.heap_1 asK asK_eq) (w.withFollow "special-get-raises" false)) := by
  intro w
  kernel_rfl
set_option maxHeartbeats 0 in
/-- and of the other -/
theorem left_t : ∀ w : World, (openEnds treeTable prg (w.withFollow "special-get-raises" true) 3542).map (fun s => (openSeen vw lse (importedModules prg.main.body) seesAt true s, Hook.obs (kHook hd.heap_1 asK asK_eq) s)) = some (openGood vw lse, Hook.val (kHook hd.heap_1 asK asK_eq) (w.withFollow "special-get-raises" true)) := by
  intro w
  kernel_rfl
theorem left : LeftO prg vw lse seesAt (Hook.obs (kHook hd.heap_1 asK asK_eq)) (Hook.val (kHook hd.heap_1 asK asK_eq)) 3542 := by
  intro w
  have e := World.withFollow_self w "special-get-raises"
  cases hb : w.params.followText "special-get-raises" with
  | false => rw [hb] at e; have h := left_f w; rw [e] at h; exact h
  | true => rw [hb] at e; have h := left_t w; rw [e] at h; exact h
end Mine

namespace Mine
open PySem.Calls
section
variable {prog : Program} {w : World} {A : Around} {E : Value → Shared → Prop} {s : Shared}
theorem wpC_ba_init {S : Addr} {n : Int} {t : Tok} {Q : Fin → Shared → Prop} (hS : s.heap.get? S = some (baObj #[])) (h0 : 0 ≤ n) (hn : n ≤ 1000)
    (h : ∀ h', h'.get? S = some (baObj (Array.replicate n.toNat 0)) → Heap.SameBut S s.heap h' → Q (.done (.ret .none)) { s with heap := h' }) :
    wpC (model prog w) A (Builtin.«bytearray.__init__» ⟨[.ref S, .int n t], []⟩) Q E s := by
  have hl : sizeLine = 16777216 := sizeLine_eq
  unfold Builtin.«bytearray.__init__»
  refine wpC_first (ba_ownRelease hS ?_)
  refine wpC_ite ?_
  rw [if_neg (by decide)]
  refine wpC_first (wpAny_of_eq (BF.bind_init _) ?_)
  refine wpC_first (wpAny_of_eq (a := ()) rfl ?_)
  refine wpC_first (wpAny_of_eq (a := ()) rfl ?_)
  refine wpC_bind (wpC_bind (wpC_exported ?_))
  show wpC _ _ (Builtin.Bytes.exportsOf (.ref S) >>= _) _ _ _
  refine wpC_first (ba_exportsOf hS (wpC_pure ?_))
  try dsimp only
  refine wpC_ite ?_
  rw [if_neg (by decide)]
  refine wpC_first (ba_update hS (by rw [hl]; decide) fun h₁ hS₁ e₁ => ?_)
  try dsimp only
  refine wpC_first (wpAny_of_eq (a := none) rfl ?_)
  refine wpC_ite ?_
  rw [if_neg (by decide)]
  refine wpC_first (wpAny_of_eq (a := ()) rfl ?_)
  refine wpC_first (wpAny_specialOf (T := "int") rfl BF.int_index ?_)
  refine wpC_ite ?_
  rw [if_pos (by rfl)]
  refine wpC_first (wpAny_attempt (wpAny_of_eq (a := n) rfl ?_))
  try dsimp only
  refine wpC_ite ?_
  rw [if_neg (by simp only [Builtin.Bytes.fitsIndex]; simp; omega)]
  refine wpC_ite ?_
  rw [if_neg (by omega)]
  refine wpC_ite ?_
  rw [if_neg (by simp; omega)]
  refine wpC_ite ?_
  rw [if_neg (by simp [Builtin.Bytes.tooLong]; omega)]
  refine wpC_first (wpAny_rule ?_)
  refine wpC_ite ?_
  split
  · refine wpC_first (ba_update hS₁ (by simp only [Array.size_replicate]; omega) fun h₂ hS₂ e₂ => ?_)
    exact wpC_pure (h h₂ hS₂ (e₁.trans e₂))
  · have hz : n.toNat = 0 := by omega
    rw [hz] at h
    exact wpC_pure (h h₁ hS₁ e₁)
theorem codeC_builtin {id : String} {args : Args} {b : Builtin} {R : Result → Shared → Prop} (hb : entryFor table id = some b)
    (h : wpC (model prog w) (A.under (.builtin id args)) (b args) (fun fin s' => match fin with | .done f => R (.ok f) s' | .again c' => c'.quiet = true ∧ goodC c' = true ∧ codeC (model prog w) A c' R s') (fun _ _ => False) s) :
    codeC (model prog w) A (.builtin id args) R s := by
  refine codeC_of_tree ?_
  show wpC _ _ (match entryFor table id with | some b => b args | none => unsupported ((withoutEnding? id "#data").getD id)) _ _ s
  rw [hb]
  exact h
theorem codeC_call_builtin {id : String} {args : Args} {b : Builtin} {R : Result → Shared → Prop} (hq : plainId id = true) (hg : badIds.contains id = false) (hb : entryFor table id = some b)
    (h : wpAny (model prog w) A.in1 (checkBuiltinCall id args) (fun _ s₁ => wpC (model prog w) A.in1 (b args)
      (fun fin s' => match fin with | .done f => R (.ok f) s' | .again c' => c'.quiet = true ∧ goodC c' = true ∧ codeC (model prog w) A c' R s') (fun _ _ => False) s₁) (fun _ _ => False) s) : codeC (model prog w) A (.call (.builtin id) args) R s := by
  refine codeC_of_tree ?_
  show wpC _ A.in1 (do checkBuiltinCall id args; again (.builtin id args)) _ _ s
  refine wpC_first (wpAny_mono h (fun _ s₁ h₁ => wpC_pure ⟨plainId_quiet hq _, by simp only [goodC, hg]; rfl, codeC_builtin hb ?_⟩) fun _ _ x => x)
  rw [Around.under_plainId hq _]
  exact h₁
/-- bytearray(n), where no decoder stands in the stack -/
theorem wpC_bytearray {n : Int} {t : Tok} {Q : Value → Shared → Prop} (h0 : 0 ≤ n) (hn : n ≤ 1000)
    (h : ∀ h', h'.get? s.heap.objs.size = some (baObj (Array.replicate n.toNat 0)) → (∀ b o, s.heap.get? b = some o → h'.get? b = some o) → Q (.ref s.heap.objs.size) { s with heap := h' }) :
    wpC (model prog w) A (call (.type "bytearray") [.int n t]) Q E s := by
  obtain ⟨c, tl, hmro⟩ := BF.called.mro
  refine wpC_call (codeC_of_tree ?_)
  show wpC _ _ (callAny (.type "bytearray") _) _ _ _
  refine wpC_pure ⟨Code.quiet_builtin _ (by decide +kernel), rfl, codeC_builtin F.entry_type_call ?_⟩
  rw [Around.under_plain (weight_type_call_type "bytearray" [.int n t] []) rfl]
  unfold Builtin.«type.__call__»
  try dsimp only
  refine wpC_ite ?_
  rw [if_neg (by decide)]
  refine wpC_ite ?_
  rw [if_neg (fun e => Bool.false_ne_true (BF.called.canCreate.symm.trans e))]
  refine wpC_first (wpAny_of_eq (BF.typeCall _) ?_)
  refine wpC_first (wpAny_of_eq BF.mro ?_)
  try dsimp only
  refine wpC_ite ?_
  rw [if_neg (by decide)]
  refine wpC_first (wpAny_of_eq BF.called.made ?_)
  try dsimp only
  refine wpC_first (wpAny_pure ?_)
  have hnew : wpAny (model prog w) A.in1 (call (.builtin "bytearray.__new__") [.type "bytearray", .int n t]) (fun obj s₁ => obj = .ref s.heap.objs.size ∧ s₁ = { s with heap := s.heap.push (baObj #[]) }) (fun _ _ => False) s :=
    wpAny_call (code_ba_new _ ⟨rfl, rfl⟩)
  refine wpC_first (wpAny_holding (wpAny_mono hnew (fun obj s₁ e => ?_) fun _ _ x => x))
  obtain ⟨rfl, rfl⟩ := e
  have hS : (s.heap.push (baObj #[])).get? s.heap.objs.size = some (baObj #[]) := Heap.get?_push_size _ rfl
  have hT : ({ s with heap := s.heap.push (baObj #[]) } : Shared).TypeIs (.ref s.heap.objs.size) "bytearray" := ba_typeIs hS
  refine wpC_first (wpAny_isInstance hT BF.sub ?_)
  refine wpC_ite ?_
  rw [if_neg (by decide)]
  refine wpC_bind (wpC_holding ?_)
  simp only [callSpecial?]
  refine wpC_first (wpAny_specialOf hT BF.slot_init.lookup ?_)
  simp only [BF.slot_init.bind]
  refine wpC_holding (wpC_first (wpAny_pure (wpC_bind (wpC_call (codeC_call_builtin BF.plain_init (by decide) BF.entry_init ?_)))))
  refine BF.slot_init.check _ _ _ _ _ _ _ _ hT (BF.args_init _ _) ?_
  refine wpC_ba_init hS h0 hn fun h' hS' e' => ?_
  refine wpC_pure ?_
  try dsimp only
  refine wpC_ite ?_
  rw [if_neg (by decide)]
  refine wpC_pure ?_
  exact h h' hS' fun b o e => (e'.2 b (Nat.ne_of_lt (Heap.lt_size e))).trans (Heap.get?_push_of_some _ e)
end
end Mine

namespace Mine
open PySem.Calls
namespace BF
theorem slot_setitem : Slot "bytearray" "__setitem__" "bytearray.__setitem__" :=
  .of (owner := "bytearray") (n := "__setitem__") (by rw [typeLookup_type, builtinLookup_eq_fast]; kernel_rfl) (by decide +kernel) (by decide +kernel) (by decide +kernel)
    (by first | exact .inl (by decide +kernel) | exact .inr (by decide +kernel)) (by rw [isSubtype_type]; kernel_rfl)
theorem entry_setitem : entryFor table "bytearray.__setitem__" = some Builtin.«bytearray.__setitem__» := entryFor_of_tree (by kernel_rfl)
theorem args_setitem (a b c : Value) : argsOk "bytearray.__setitem__" ⟨[a, b, c], []⟩ := by unfold argsOk; kernel_rfl
theorem noBytes : typeLookup (.type "bytearray") "__bytes__" = pure none := by rw [typeLookup_type, builtinLookup_eq_fast]; kernel_rfl
theorem noIndex : typeLookup (.type "bytearray") "__index__" = pure none := by rw [typeLookup_type, builtinLookup_eq_fast]; kernel_rfl
theorem lookup_buffer : typeLookup (.type "bytearray") "__buffer__" = pure (some (.builtin "bytearray.__buffer__")) := by rw [typeLookup_type, builtinLookup_eq_fast]; kernel_rfl
end BF
section
variable {prog : Program} {w : World} {A : Around} {E : Value → Shared → Prop} {s : Shared}
theorem ba_payload {S : Addr} {b : Array UInt8} {Q : Array UInt8 → Shared → Prop} (hS : s.heap.get? S = some (baObj b)) (h : Q b s) : wpAny (model prog w) A (Builtin.Bytes.payload (.ref S)) Q E s := by
  unfold Builtin.Bytes.payload Builtin.Bytes.payload?
  exact wpAny_bind (wpAny_bind (wpAny_load hS (wpAny_pure (wpAny_pure h))))
theorem ba_setItem {S : Addr} {b : Array UInt8} {k x : Int} {t u : Tok} {Q : Unit → Shared → Prop} (hS : s.heap.get? S = some (baObj b)) (hz : b.size ≤ 1000) (h0 : 0 ≤ k) (hk : k < b.size) (hx : 0 ≤ x) (hx1 : x < 256)
    (h : ∀ h', h'.get? S = some (baObj (b.setIfInBounds k.toNat x.toNat.toUInt8)) → Heap.SameBut S s.heap h' → Q () { s with heap := h' }) :
    wpAny (model prog w) A (setItem (.ref S) (.int k t) (.int x u)) Q E s := by
  have hl : sizeLine = 16777216 := sizeLine_eq
  unfold setItem
  try with_reducible refine wpAny_holding ?_
  first | refine wpAny_bind (wpAny_pure ?_) | skip
  refine wpAny_bind (wpAny_sequenceKey (ba_typeIs hS) (by decide) ?_)
  refine wpAny_bind (wpAny_callSpecial?_slot (name := Str.ofString "__setitem__") (ba_typeIs hS) BF.slot_setitem
    (wpAny_call_entry BF.slot_setitem (ba_typeIs hS) BF.entry_setitem ?_ (BF.args_setitem _ _ _)))
  unfold Builtin.«bytearray.__setitem__»
  dsimp only
  rw [if_neg (by decide)]
  refine wpAny_bind ?_
  unfold Builtin.Bytes.subscript?
  refine wpAny_bind (wpAny_specialOf (T := "int") rfl BF.int_index ?_)
  rw [if_neg (by decide)]
  refine wpAny_bind (wpAny_of_eq (a := k) rfl ?_)
  rw [if_neg (by simp only [Builtin.Bytes.fitsIndex]; simp; omega)]
  refine wpAny_pure ?_
  dsimp only
  refine wpAny_bind ?_
  unfold Builtin.Bytes.byteValue
  refine wpAny_bind (wpAny_of_eq (a := x) rfl ?_)
  rw [if_neg (by simp; omega)]
  refine wpAny_pure ?_
  refine wpAny_bind (ba_payload hS ?_)
  have hj : seqIndex? k b.size = some k.toNat := by
    unfold seqIndex?
    simp only [Int.not_lt.mpr h0, if_false]
    rw [if_pos (by simp; omega)]
  rw [hj]
  dsimp only
  refine wpAny_bind (ba_update hS (by simp only [Array.size_setIfInBounds]; omega) fun h' hS' e' => ?_)
  exact wpAny_pure ⟨.none, rfl, wpAny_pure (h h' hS' e')⟩
theorem ba_bytes_new {S : Addr} {b : Array UInt8} {Q : Value → Shared → Prop} (hS : s.heap.get? S = some (baObj b)) (hz : b.size ≤ 1000)
    (h : Q (.bytes b s.toks) { s with toks := s.toks + 1 }) : codeAny (model prog w) A (.call (.builtin "bytes.__new__") ⟨[.type "bytes", .ref S], []⟩) (wants Q E) s := by
  have hl : sizeLine = 16777216 := sizeLine_eq
  refine codeAny_of_tree ?_
  show wpAny _ A.in1 (do checkBuiltinCall "bytes.__new__" ⟨[.type "bytes", .ref S], []⟩; again (.builtin "bytes.__new__" ⟨[.type "bytes", .ref S], []⟩)) _ _ s
  refine wpAny_bind (wpAny_of_eq (F.bm_newCall _) (wpAny_pure ⟨plainId_quiet F.bm_plain _, codeAny_builtin F.bm_entry ?_⟩))
  rw [Around.under_plainId F.bm_plain _]
  unfold Builtin.«bytes.__new__»
  refine wpAny_bind (wpAny_of_eq (a := true) rfl ?_)
  refine bm_if_false rfl ?_
  refine wpAny_bind (wpAny_of_eq F.bm_sub ?_)
  refine bm_if_false rfl ?_
  refine wpAny_bind (wpAny_of_eq (F.bm_bind _) ?_)
  refine wpAny_bind (wpAny_of_eq (a := ()) rfl ?_)
  refine wpAny_bind (wpAny_of_eq (a := ()) rfl ?_)
  refine bm_if_false rfl ?_
  refine wpAny_bind (wpAny_specialOf (ba_typeIs hS) BF.noBytes ?_)
  refine wpAny_bind (wpAny_bind ?_)
  show wpAny _ _ (load S >>= _) _ _ _
  refine wpAny_bind (wpAny_load hS ?_)
  refine wpAny_pure (wpAny_pure ?_)
  refine bm_if_false rfl ?_
  refine wpAny_bind (wpAny_specialOf (ba_typeIs hS) BF.noIndex ?_)
  refine bm_if_true rfl ?_
  show wpAny _ _ (Builtin.Bytes.buffer? "bytes.__new__" (.ref S) true >>= _) _ _ _
  refine wpAny_bind ?_
  unfold Builtin.Bytes.buffer? Builtin.Bytes.slotIsOwn
  refine wpAny_bind (wpAny_specialOf (ba_typeIs hS) BF.lookup_buffer ?_)
  try dsimp only
  refine wpAny_bind (wpAny_bind (wpAny_specialOf (ba_typeIs hS) BF.lookup_buffer ?_))
  show wpAny _ _ (if (!("bytearray.__buffer__".endsWith ("." ++ "__buffer__"))) = true then pure false else isInstance (.ref S) (.type ("bytearray.__buffer__".dropRight ("__buffer__".length + 1)))) _ _ _
  rw [if_neg (by decide +kernel), show "bytearray.__buffer__".dropRight ("__buffer__".length + 1) = "bytearray" from by decide +kernel]
  refine wpAny_isInstance (ba_typeIs hS) BF.sub ?_
  rw [if_neg (by decide)]
  refine wpAny_bind (wpAny_specialOf (ba_typeIs hS) BF.lookup_buffer ?_)
  try dsimp only
  refine wpAny_bind (ba_ownRelease hS ?_)
  rw [if_neg (by decide)]
  refine wpAny_bind (ba_payload hS (wpAny_pure ?_))
  try dsimp only
  refine wpAny_bind (wpAny_rule ?_)
  refine wpAny_bind (wpAny_mkBytes ?_ (by omega))
  show wpAny _ _ (if (Value.type "bytes" == Value.type "bytes") = true then _ else _) _ _ _
  refine bm_if_true (by decide) ?_
  first
    | exact wpAny_pure h
    | exact wpAny_bind (wpAny_pure (wpAny_pure h))
theorem call_bytes_ba {S : Addr} {b : Array UInt8} {Q : Value → Shared → Prop} (hS : s.heap.get? S = some (baObj b)) (hz : b.size ≤ 1000)
    (h : Q (.bytes b s.toks) { s with toks := s.toks + 1 }) : wpAny (model prog w) A (call (.type "bytes") [.ref S]) Q E s := by
  refine callType_codes (Q₁ := fun obj s₁ => s₁.TypeIs obj "bytes" ∧ Q obj s₁) F.bm_called (F.bm_typeCall _) F.entry_object_init (ba_bytes_new hS hz ⟨PySem.W.typeIs_bytes _ _ _, h⟩) fun obj s₁ h₁ => ?_
  exact ⟨h₁.1, F.args_object_init_2 obj _, object_init_meets F.bm_called.init.lookup F.bm_called.made (by decide) prog w A.in1 _ s₁ ⟨h₁.1, rfl, h₁.2⟩⟩
end
end Mine

namespace Mine
open PySem.Calls
/-- the names whose call reaches bytearray(n) -/
def dNames : List Str := ["bytearray", "varint_size", "number_size", "put_whole", "put_varint", "put_numbers", "put_counted", "put_ack", "put_stream", "put_new_cid", "put_close", "put_octets_frame", "put_frame", "put_frames", "long_head", "cut_number", "head_of", "packet_size", "rows_size", "full_rows", "_law_one_right"]
def eD : Nat → Expr → Bool
  | 0, _ => true
  | n + 1, e => match e with
    | .Call f args _ _ => (match f with | .Name x _ => dNames.contains x | .Attribute o _ _ => eD n o | _ => false) || args.any (eD n)
    | .BinOp l _ r _ => eD n l || eD n r
    | .BoolOp _ vs _ => vs.any (eD n)
    | .Compare l _ rs _ => eD n l || rs.any (eD n)
    | .UnaryOp _ x _ => eD n x
    | .IfExp a b c _ => eD n a || eD n b || eD n c
    | .ListComp e gs _ _ => eD n e || gs.any fun g => eD n g.iter || g.ifs.any (eD n)
    | .Tuple es _ _ => es.any (eD n)
    | .List es _ => es.any (eD n)
    | .Subscript v i _ => eD n v || eD n i
    | .Attribute v _ _ => eD n v
    | _ => false
def sD : Nat → Stmt → Bool
  | 0, _ => true
  | n + 1, st => match st with
    | .Return (some e) _ => eD n e
    | .Assign _ v _ => eD n v
    | .AugAssign _ _ v _ => eD n v
    | .Expr v _ => eD n v
    | .If t b o _ => eD n t || b.any (sD n) || o.any (sD n)
    | .While t b o _ => eD n t || b.any (sD n) || o.any (sD n)
    | .For _ i b o _ => eD n i || b.any (sD n) || o.any (sD n)
    | _ => false
section
variable {M : Model} {A : Around} {E : Value → Shared → Prop} {s : Shared} {env : Env}
theorem wpC_st {st : Stmt} {Q : Flow → Shared → Prop} (_hd : sD 12 st = false) (h : wpAny M A (exec st env) Q E s) : wpC M A (exec st env) Q E s := wpC_of_any h
theorem wpC_ev {e : Expr} {Q : Value → Shared → Prop} (_hd : eD 12 e = false) (h : wpAny M A (eval e env) Q E s) : wpC M A (eval e env) Q E s := wpC_of_any h
theorem wpC_test {e : Expr} {Q : Bool → Shared → Prop} (_hd : eD 12 e = false) (h : wpAny M A (isTrue e env (eval e env)) Q E s) : wpC M A (isTrue e env (eval e env)) Q E s := wpC_of_any h
theorem wpC_call_any {f : Value} {vs : List Value} {Q : Value → Shared → Prop} (h : wpAny M A (call f vs) Q E s) : wpC M A (call f vs) Q E s := wpC_of_any h
theorem wpC_iteF {α : Type} {a b : Sem α} {Q : α → Shared → Prop} (h : wpC M A b Q E s) : wpC M A (if false = true then a else b) Q E s := by
  rw [if_neg (by decide)]
  exact h
theorem wpC_callWith_K {prog : Program} {w : World} {pos : Pos} {a : Addr} {K : Frag} {h₀ : Heap} {fd : FuncData} {oc : Value} {od : Option Addr} {osl : Array (Option Value)} {args : List (Bool × Sem Value)} {Q : Value → Shared → Prop} (hk : K.lookup a = some ⟨oc, od, .func fd, osl⟩)
    (hplain : args.any (·.1) = false) (_X : K.In h₀)
    (h : wpC (model prog w) A (evalArgs (.ref a) true args []) (fun x s₁ => K.In s₁.heap ∧ wpC (model prog w) A (call (.ref a) x.pos x.kw) Q E s₁) E s) :
    wpC (model prog w) A (callWith pos (.ref a) [] args []) Q E s :=
  wpC_callWith_def (o := ⟨oc, od, .func fd, osl⟩) (fd := fd) hplain (wpC_mono h (fun x s₁ hx => ⟨⟨hx.1 _ _ hk, rfl⟩, hx.2⟩) fun _ _ x => x)
theorem wpC_callWith_type {pos : Pos} {T : String} {first : List Value} {args : List (Bool × Sem Value)} {Q : Value → Shared → Prop} (hplain : args.any (·.1) = false)
    (h : wpC M A (evalArgs (.type T) true args []) (fun a s₁ => wpC M A (call (.type T) (first ++ a.pos) a.kw) Q E s₁) E s) : wpC M A (callWith pos (.type T) first args []) Q E s := by
  unfold callWith
  refine wpC_bind (wpC_holding (wpC_mono h (fun a s₁ h₁ => wpC_standAt ?_) fun _ _ x => x))
  simp only [hplain, List.any_nil, Bool.or_false]
  refine wpC_first (wpAny_pure ?_)
  exact wpC_bind (wpC_mono h₁ (fun r s₂ hr => wpC_first (wpAny_holding (wpAny_point (wpC_pure hr)))) fun _ _ x => x)
end
section
variable {prog : Program} {w : World} {A : Around} {E : Value → Shared → Prop} {s : Shared} {h₀ : Heap} {L S : Addr} {m : Str → Option Value} {news news' : List (Addr × Obj)} {b : Array UInt8} {n k x : Int} {t u : Tok}
theorem fr_push {h' : Heap} (F : Fr h₀ L s.heap m) (e : ∀ b o, s.heap.get? b = some o → h'.get? b = some o) : Fr h₀ L h' m := F.keeps e
theorem ba_new_K {Q : Value → Shared → Prop} (F : Fr h₀ L s.heap m) (N : News h₀ L s.heap news) (h0 : 0 ≤ n) (hn : n ≤ 1000)
    (h : ∀ S h', Fr h₀ L h' m → News h₀ L h' ((S, baObj (Array.replicate n.toNat 0)) :: news) → (∀ p ∈ news, p.1 < S) → Q (.ref S) { s with heap := h' }) :
    wpC (model prog w) A (call (.type "bytearray") [.int n t]) Q E s := by
  refine wpC_bytearray h0 hn fun h' hS hk => h _ h' (F.keeps hk) (fun p hp => ?_) fun p hp => Heap.lt_size (N p hp).1
  rcases List.mem_cons.mp hp with rfl | hp
  · refine ⟨hS, fun e => ?_, ?_⟩
    · have := F.ns.lt
      exact absurd (show s.heap.objs.size = L from e) (Nat.ne_of_gt this)
    · cases q : h₀.get? s.heap.objs.size with
      | none => rfl
      | some o => exact absurd (Heap.lt_size (F.keep _ _ q)) (Nat.lt_irrefl _)
  · exact ⟨hk _ _ (N p hp).1, (N p hp).2⟩
theorem ba_set_K {Q : Unit → Shared → Prop} (F : Fr h₀ L s.heap m) (N : News h₀ L s.heap news) (U : Upd S (baObj b) (baObj (b.setIfInBounds k.toNat x.toNat.toUInt8)) news news') (hz : b.size ≤ 1000) (h0 : 0 ≤ k) (hk : k < b.size) (hx : 0 ≤ x) (hx1 : x < 256)
    (h : ∀ h', Fr h₀ L h' m → News h₀ L h' news' → Q () { s with heap := h' }) : wpAny (model prog w) A (setItem (.ref S) (.int k t) (.int x u)) Q E s := by
  obtain ⟨pre, post, rfl, rfl, a, c⟩ := U.split
  have z := N (S, baObj b) (List.mem_append.mpr (.inr (.head _)))
  refine ba_setItem z.1 hz h0 hk hx hx1 fun h' hS e => h h' (F.change e z.2.1 z.2.2) fun p hp => ?_
  rcases List.mem_append.mp hp with q | q
  · exact ⟨(e.2 p.1 (a p q)).trans (N p (List.mem_append_left _ q)).1, (N p (List.mem_append_left _ q)).2⟩
  · rcases List.mem_cons.mp q with rfl | q
    · exact ⟨hS, z.2⟩
    · exact ⟨(e.2 p.1 (c p q)).trans (N p (List.mem_append_right _ (.tail _ q))).1, (N p (List.mem_append_right _ (.tail _ q))).2⟩
theorem ba_bytes_K {Q : Value → Shared → Prop} (N : News h₀ L s.heap news) (hm : (S, baObj b) ∈ news) (hz : b.size ≤ 1000) (h : ∀ t k, Q (.bytes b t) { s with toks := k }) : wpAny (model prog w) A (call (.type "bytes") [.ref S]) Q E s :=
  call_bytes_ba (N _ hm).1 hz (h _ _)
end
/-- the ledger behind a call that was handed the entries led of it: where led stands, all of it stands -/
def Back (h₀ : Heap) (L : Addr) (led news : List (Addr × Obj)) (P : Prop) (h' : Heap) : Prop := (News h₀ L h' led → News h₀ L h' news) → P
section
variable {prog : Program} {w : World} {A₀ A : Around} {s : Shared} {base h₀ : Heap} {outer : List Env} {L : Addr} {m mg mb : Str → Option Value} {env : Env} {news led : List (Addr × Obj)} {K : Frag} {p : Program} {loose : List Str} {mean : ExcName → Option Value}
  {R : Result → Shared → Prop} {name qual : Str} {params : Arguments} {body : List Stmt} {scope : Scope} {dV kV doc pm cdv ct oc : Value} {an od : Option Addr} {osl : Array (Option Value)} {f : Addr} {args : Args} {binds : List (Str × Value)}
theorem ledger_back {h' : Heap} {L' : Addr} {m' : Str → Option Value} (N : News h₀ L s.heap news) (hl : ∀ p ∈ led, p ∈ news) (F' : Fr (hideAll s.heap (led.map (·.1))) L' h' m') (NL : News h₀ L h' led) : News h₀ L h' news := by
  intro q hq
  refine ⟨?_, (N q hq).2⟩
  by_cases hm : q.1 ∈ led.map (·.1)
  · obtain ⟨r, hr, e⟩ := List.mem_map.mp hm
    have e1 := (N q hq).1
    have e2 := (N r (hl r hr)).1
    rw [e, e1] at e2
    have e3 : q.2 = r.2 := Option.some.inj e2
    have := (NL r hr).1
    rw [e, ← e3] at this
    exact this
  · exact F'.keep _ _ (hideAll_get _ (N q hq).1 hm)
theorem codeC_defL (led : List (Addr × Obj)) (hl : ∀ p ∈ led, p ∈ news) (B : Below A₀ base outer h₀) (F : Fr h₀ L s.heap m) (X₀ : K.In h₀) (N : News h₀ L s.heap news) (T : Top p loose mean mg mb h₀) (hA : A.frames = some (env :: outer)) (hf : env.frame = some L) (hke : env.scope.kind = .function)
    (ho : K.lookup f = some ⟨oc, od, .func (fnOf name qual params body scope dV kV doc pm an cdv ct), osl⟩) (hcd : codeIn K cdv qual = true) (hroom : A.depth < recursionLimit)
    (hbind : BindsTo s (fnOf name qual params body scope dV kV doc pm an cdv ct) args binds) (hloc : ∀ y ∈ binds, scope.names.lookup y.1 = some .local)
    (h : ∀ g L' h₁ tk, Fr h₀ L g m → Fr g L' h₁ (fun y => binds.reverse.lookup y) → News g L' h₁ led → Below A base (env :: outer) g → K.In g → Top p loose mean mg mb g → (∀ q ∈ led, q.1 < L') →
      wpC (model prog w) (A.deeper (envOf qual scope L' f cdv)) (execs body (envOf qual scope L' f cdv))
        (fun fl s' => LeaveK h₀ L m g (fun r s' => Back h₀ L led news (R r s') s'.heap) (match fl with | .ret v => v | _ => .none) s') (fun _ _ => False) { s with heap := h₁, toks := tk })
    (hco : scope.isCoroutine = false) (hgen : scope.isGenerator = false) (hk : scope.kind = .function)
    (hcell : ∀ x ∈ scope.names, x.2 ≠ .cell) : codeC (model prog w) A (.call (.ref f) args) R s := by
  have NL : News h₀ L s.heap led := fun q hq => N q (hl q hq)
  obtain ⟨FG, BG, st, lv⟩ := groundX (R := fun r s' => Back h₀ L led news (R r s') s'.heap) B F NL hA hf hke
  have X := X₀.keeps F.keep
  refine codeC_call_function (fd := fnOf name qual params body scope dV kV doc pm an cdv ct) (body := body) hroom (X _ _ ho) rfl hco hgen rfl (codeRec_of X hcd) (hbind _ _ _ _ ?_)
  refine wpAny_newFunctionEnv hcell hloc (fun h₁ hns hsb => ⟨(T.nolimit.keeps F.keep).fresh _ hsb, codeC_func ?_⟩) hk
  have hk₁ : ∀ b o, s.heap.get? b = some o → h₁.get? b = some o := fun b o e => hsb.extBut b o (Nat.ne_of_lt (Heap.lt_size e)) (Heap.get?_push_of_some _ e)
  refine wpC_mono (h _ s.heap.objs.size h₁ _ FG ⟨hns, fun b o e => hk₁ b o (of_hideAll _ e), Nat.le_of_eq (hideAll_size _ _)⟩
    (fun q hq => ⟨hk₁ _ _ (NL q hq).1, Nat.ne_of_lt (Heap.lt_size (NL q hq).1), hideAll_none _ (List.mem_map_of_mem hq)⟩) BG (X₀.keeps st) (T.keeps st) fun q hq => Heap.lt_size (NL q hq).1) (fun fl s' hl' => ?_) fun _ _ x => x
  obtain ⟨L', m', news', F', N', k⟩ := id hl'
  exact lv _ _ hl' fun NL' => ledger_back N hl F' NL'
theorem code_defL (led : List (Addr × Obj)) (hl : ∀ p ∈ led, p ∈ news) (B : Below A₀ base outer h₀) (F : Fr h₀ L s.heap m) (X₀ : K.In h₀) (N : News h₀ L s.heap news) (T : Top p loose mean mg mb h₀) (hA : A.frames = some (env :: outer)) (hf : env.frame = some L) (hke : env.scope.kind = .function)
    (ho : K.lookup f = some ⟨oc, od, .func (fnOf name qual params body scope dV kV doc pm an cdv ct), osl⟩) (hcd : codeIn K cdv qual = true) (hroom : A.depth < recursionLimit)
    (hbind : BindsTo s (fnOf name qual params body scope dV kV doc pm an cdv ct) args binds) (hloc : ∀ y ∈ binds, scope.names.lookup y.1 = some .local)
    (h : ∀ g L' h₁ tk, Fr h₀ L g m → Fr g L' h₁ (fun y => binds.reverse.lookup y) → News g L' h₁ led → Below A base (env :: outer) g → K.In g → Top p loose mean mg mb g → (∀ q ∈ led, q.1 < L') →
      wpAny (model prog w) (A.deeper (envOf qual scope L' f cdv)) (execs body (envOf qual scope L' f cdv))
        (fun fl s' => LeaveK h₀ L m g (fun r s' => Back h₀ L led news (R r s') s'.heap) (match fl with | .ret v => v | _ => .none) s') (fun _ _ => False) { s with heap := h₁, toks := tk })
    (hco : scope.isCoroutine = false) (hgen : scope.isGenerator = false) (hk : scope.kind = .function)
    (hcell : ∀ x ∈ scope.names, x.2 ≠ .cell) : codeAny (model prog w) A (.call (.ref f) args) R s := by
  have NL : News h₀ L s.heap led := fun q hq => N q (hl q hq)
  obtain ⟨FG, BG, st, lv⟩ := groundX (R := fun r s' => Back h₀ L led news (R r s') s'.heap) B F NL hA hf hke
  have X := X₀.keeps F.keep
  refine codeAny_call_def (fd := fnOf name qual params body scope dV kV doc pm an cdv ct) (body := body) (binds := binds) hroom (X _ _ ho) rfl (T.nolimit.keeps F.keep) (codeRec_of X hcd) rfl hbind hcell hloc (fun h₁ hns hk₁ => ?_) hco hgen hk
  refine wpAny_mono (h _ s.heap.objs.size h₁ _ FG ⟨hns, fun b o e => hk₁ b o (of_hideAll _ e), Nat.le_of_eq (hideAll_size _ _)⟩
    (fun q hq => ⟨hk₁ _ _ (NL q hq).1, Nat.ne_of_lt (Heap.lt_size (NL q hq).1), hideAll_none _ (List.mem_map_of_mem hq)⟩) BG (X₀.keeps st) (T.keeps st) fun q hq => Heap.lt_size (NL q hq).1) (fun fl s' hl' => ?_) fun _ _ x => x.elim
  obtain ⟨L', m', news', F', N', k⟩ := id hl'
  exact lv _ _ hl' fun NL' => ledger_back N hl F' NL'
end
/-- what a call of the def at f does, seen from a caller's frame, in a clean context: it hands back what Post says, with what was made for good put upon the ledger -/
def CSC (w : World) (f : Addr) (news : List (Addr × Obj)) (vs : List Value) (room : Nat) (Post : Value → List (Addr × Obj) → Prop) : Prop :=
  ∀ (mean : ExcName → Option Value) (mg mb : Str → Option Value) (dp un : Nat) (gd : Option (List Code)) (cn : Str) (cs : Scope) (a : Addr) (ccd : Value) (cl : List (Str × Addr)) (outer : List Env) (A₀ : Around)
    (base h₀ : Heap) (L : Addr) (m : Str → Option Value) (s : Shared) (Q E : Value → Shared → Prop),
    Below A₀ base outer h₀ → Fr h₀ L s.heap m → (hd.heap_1 w.params).In h₀ → News h₀ L s.heap news → Top vw (looseW vw [Str.ofString "NUMBER_FRAMES", Str.ofString "LONG_KINDS"]) mean mg mb h₀ → cs.kind = .function →
    dp + room < recursionLimit → un + 8 * room < cLine →
    (∀ v new h' tk', Post v new → Fr h₀ L h' m → News h₀ L h' (new ++ news) → Q v { s with heap := h', toks := tk' }) →
    wpC (model PySem.Challenge.rw_pf0266_01.row.prog w) (ktrTop dp un gd cn cs L a ccd cl outer) (call (.ref f) vs) Q E s
/-- the same in any context -/
def CS (w : World) (f : Addr) (news : List (Addr × Obj)) (vs : List Value) (room : Nat) (Post : Value → List (Addr × Obj) → Prop) : Prop :=
  ∀ (mean : ExcName → Option Value) (mg mb : Str → Option Value) (dp un : Nat) (gd : Option (List Code)) (cn : Str) (cs : Scope) (a : Addr) (ccd : Value) (cl : List (Str × Addr)) (outer : List Env) (A₀ : Around)
    (base h₀ : Heap) (L : Addr) (m : Str → Option Value) (s : Shared) (Q E : Value → Shared → Prop),
    Below A₀ base outer h₀ → Fr h₀ L s.heap m → (hd.heap_1 w.params).In h₀ → News h₀ L s.heap news → Top vw (looseW vw [Str.ofString "NUMBER_FRAMES", Str.ofString "LONG_KINDS"]) mean mg mb h₀ → cs.kind = .function →
    dp + room < recursionLimit → un + 8 * room < cLine →
    (∀ v new h' tk', Post v new → Fr h₀ L h' m → News h₀ L h' (new ++ news) → Q v { s with heap := h', toks := tk' }) →
    wpAny (model PySem.Challenge.rw_pf0266_01.row.prog w) (ktrTop dp un gd cn cs L a ccd cl outer) (call (.ref f) vs) Q E s
section
variable {w : World} {f : Addr} {news : List (Addr × Obj)} {vs : List Value} {room : Nat} {Post : Value → List (Addr × Obj) → Prop}
  {mean : ExcName → Option Value} {mg mb : Str → Option Value} {dp un : Nat} {gd : Option (List Code)} {cn : Str} {cs : Scope} {a : Addr} {ccd : Value} {cl : List (Str × Addr)} {outer : List Env} {A₀ : Around}
  {base h₀ : Heap} {L : Addr} {m : Str → Option Value} {s : Shared} {Q E : Value → Shared → Prop}
theorem csc_use (C : CSC w f news vs room Post) (B : Below A₀ base outer h₀) (F : Fr h₀ L s.heap m) (X : (hd.heap_1 w.params).In h₀) (N : News h₀ L s.heap news)
    (T : Top vw (looseW vw [Str.ofString "NUMBER_FRAMES", Str.ofString "LONG_KINDS"]) mean mg mb h₀) (hk : cs.kind = .function) (hd : dp + room < recursionLimit) (hu : un + 8 * room < cLine)
    (ret : ∀ v new h' tk', Post v new → Fr h₀ L h' m → News h₀ L h' (new ++ news) → Q v { s with heap := h', toks := tk' }) :
    wpC (model PySem.Challenge.rw_pf0266_01.row.prog w) (ktrTop dp un gd cn cs L a ccd cl outer) (call (.ref f) vs) Q E s := C _ _ _ _ _ _ _ _ _ _ _ _ _ _ _ _ _ _ _ _ B F X N T hk hd hu ret
theorem cs_use (C : CS w f news vs room Post) (B : Below A₀ base outer h₀) (F : Fr h₀ L s.heap m) (X : (hd.heap_1 w.params).In h₀) (N : News h₀ L s.heap news)
    (T : Top vw (looseW vw [Str.ofString "NUMBER_FRAMES", Str.ofString "LONG_KINDS"]) mean mg mb h₀) (hk : cs.kind = .function) (hd : dp + room < recursionLimit) (hu : un + 8 * room < cLine)
    (ret : ∀ v new h' tk', Post v new → Fr h₀ L h' m → News h₀ L h' (new ++ news) → Q v { s with heap := h', toks := tk' }) :
    wpAny (model PySem.Challenge.rw_pf0266_01.row.prog w) (ktrTop dp un gd cn cs L a ccd cl outer) (call (.ref f) vs) Q E s := C _ _ _ _ _ _ _ _ _ _ _ _ _ _ _ _ _ _ _ _ B F X N T hk hd hu ret
/-- the end of a way of a body that leaves nothing behind -/
theorem cs_ret {h' : Heap} {tk' : Nat} {v : Value} {news' led : List (Addr × Obj)} (ret : ∀ v new h' tk', Post v new → Fr h₀ L h' m → News h₀ L h' (new ++ news) → Q v { s with heap := h', toks := tk' })
    (hp : Post v []) (F : Fr h₀ L h' m) (N : News h₀ L h' news') (hs : SubL led news') : Back h₀ L led news (Q v { s with heap := h', toks := tk' }) h' :=
  fun back => ret v [] h' tk' hp F (back fun p hp => N p (hs.mem p hp))
/-- the end of a way of a body that leaves the entries new behind -/
theorem cs_retN {h' : Heap} {tk' : Nat} {v : Value} {news' led new : List (Addr × Obj)} (ret : ∀ v new h' tk', Post v new → Fr h₀ L h' m → News h₀ L h' (new ++ news) → Q v { s with heap := h', toks := tk' })
    (F : Fr h₀ L h' m) (N : News h₀ L h' news') (hn : SubL new news') (hs : SubL led news') (hp : Post v new) : Back h₀ L led news (Q v { s with heap := h', toks := tk' }) h' :=
  fun back => ret v new h' tk' hp F fun p hp => (List.mem_append.mp hp).elim (fun h => N p (hn.mem p h)) fun h => back (fun p hp => N p (hs.mem p hp)) p h
/-- made bytes of size n -/
def BytesN (n : Nat) (v : Value) (new : List (Addr × Obj)) : Prop := new = [] ∧ ∃ b u, v = .bytes b u ∧ b.size = n
def IntIs (n : Int) (v : Value) (new : List (Addr × Obj)) : Prop := new = [] ∧ ∃ u, v = .int n u
theorem csc_use_int {n : Int} (C : CSC w f news vs room (IntIs n)) (B : Below A₀ base outer h₀) (F : Fr h₀ L s.heap m) (X : (hd.heap_1 w.params).In h₀) (N : News h₀ L s.heap news)
    (T : Top vw (looseW vw [Str.ofString "NUMBER_FRAMES", Str.ofString "LONG_KINDS"]) mean mg mb h₀) (hk : cs.kind = .function) (hd : dp + room < recursionLimit) (hu : un + 8 * room < cLine)
    (ret : ∀ u h' tk', Fr h₀ L h' m → News h₀ L h' news → Q (.int n u) { s with heap := h', toks := tk' }) :
    wpC (model PySem.Challenge.rw_pf0266_01.row.prog w) (ktrTop dp un gd cn cs L a ccd cl outer) (call (.ref f) vs) Q E s :=
  csc_use C B F X N T hk hd hu fun v new h' tk' hp F' N' => by
    obtain ⟨rfl, u, rfl⟩ := hp
    exact ret u h' tk' F' N'
theorem csc_use_bytes {n : Nat} (C : CSC w f news vs room (BytesN n)) (B : Below A₀ base outer h₀) (F : Fr h₀ L s.heap m) (X : (hd.heap_1 w.params).In h₀) (N : News h₀ L s.heap news)
    (T : Top vw (looseW vw [Str.ofString "NUMBER_FRAMES", Str.ofString "LONG_KINDS"]) mean mg mb h₀) (hk : cs.kind = .function) (hd : dp + room < recursionLimit) (hu : un + 8 * room < cLine)
    (ret : ∀ b u h' tk', b.size = n → Fr h₀ L h' m → News h₀ L h' news → Q (.bytes b u) { s with heap := h', toks := tk' }) :
    wpC (model PySem.Challenge.rw_pf0266_01.row.prog w) (ktrTop dp un gd cn cs L a ccd cl outer) (call (.ref f) vs) Q E s :=
  csc_use C B F X N T hk hd hu fun v new h' tk' hp F' N' => by
    obtain ⟨rfl, b, u, rfl, hb⟩ := hp
    exact ret b u h' tk' hb F' N'
theorem cs_use_int {n : Int} (C : CS w f news vs room (IntIs n)) (B : Below A₀ base outer h₀) (F : Fr h₀ L s.heap m) (X : (hd.heap_1 w.params).In h₀) (N : News h₀ L s.heap news)
    (T : Top vw (looseW vw [Str.ofString "NUMBER_FRAMES", Str.ofString "LONG_KINDS"]) mean mg mb h₀) (hk : cs.kind = .function) (hd : dp + room < recursionLimit) (hu : un + 8 * room < cLine)
    (ret : ∀ u h' tk', Fr h₀ L h' m → News h₀ L h' news → Q (.int n u) { s with heap := h', toks := tk' }) :
    wpAny (model PySem.Challenge.rw_pf0266_01.row.prog w) (ktrTop dp un gd cn cs L a ccd cl outer) (call (.ref f) vs) Q E s :=
  cs_use C B F X N T hk hd hu fun v new h' tk' hp F' N' => by
    obtain ⟨rfl, u, rfl⟩ := hp
    exact ret u h' tk' F' N'
theorem cs_use_bytes {n : Nat} (C : CS w f news vs room (BytesN n)) (B : Below A₀ base outer h₀) (F : Fr h₀ L s.heap m) (X : (hd.heap_1 w.params).In h₀) (N : News h₀ L s.heap news)
    (T : Top vw (looseW vw [Str.ofString "NUMBER_FRAMES", Str.ofString "LONG_KINDS"]) mean mg mb h₀) (hk : cs.kind = .function) (hd : dp + room < recursionLimit) (hu : un + 8 * room < cLine)
    (ret : ∀ b u h' tk', b.size = n → Fr h₀ L h' m → News h₀ L h' news → Q (.bytes b u) { s with heap := h', toks := tk' }) :
    wpAny (model PySem.Challenge.rw_pf0266_01.row.prog w) (ktrTop dp un gd cn cs L a ccd cl outer) (call (.ref f) vs) Q E s :=
  cs_use C B F X N T hk hd hu fun v new h' tk' hp F' N' => by
    obtain ⟨rfl, b, u, rfl, hb⟩ := hp
    exact ret b u h' tk' hb F' N'
theorem bytesN_of {b : Array UInt8} {u : Tok} {n : Nat} (h : b.size = n) : BytesN n (.bytes b u) [] := ⟨rfl, b, u, rfl, h⟩
theorem intIs_of {a b : Int} {u : Tok} (h : a = b) : IntIs b (.int a u) [] := ⟨rfl, u, by rw [h]⟩
end
theorem lt_of_all {l : List (Addr × Obj)} {D a : Addr} {o : Obj} (h : ∀ p ∈ l, p.1 < D) (m : (a, o) ∈ l) : @_root_.LT.lt Nat _ a D := h _ m
theorem off1_mem {l : List (Addr × Obj)} {D a : Addr} {o : Obj} (h : LCg.Off1 D l) (m : (a, o) ∈ l) : @Ne Nat a D := by
  induction l with
  | nil => exact nomatch m
  | cons p r ih =>
    rcases List.mem_cons.mp m with e | m
    · subst e; exact h.1
    · exact ih h.2 m
end Mine

namespace Mine
open PySem.Calls
/-- what is asked, folded into a letter -/
def Conts {α : Type} (Q Q' : α → Shared → Prop) : Prop := ∀ a s, Q a s → Q' a s
theorem Conts.back {α : Type} {Q Q' : α → Shared → Prop} {a : α} {s : Shared} (h : Conts Q Q') (x : Q a s) : Q' a s := h a s x
section
variable {α : Type} {M : Model} {A : Around} {E : Value → Shared → Prop} {s : Shared} {env : Env}
theorem wpC_fold {t : Sem α} {Q : α → Shared → Prop} (h : ∀ Q', Conts Q Q' → wpC M A t Q' E s) : wpC M A t Q E s := h Q fun _ _ x => x
theorem wpAny_fold {t : Sem α} {Q : α → Shared → Prop} (h : ∀ Q', Conts Q Q' → wpAny M A t Q' E s) : wpAny M A t Q E s := h Q fun _ _ x => x
theorem codeC_fold {c : Code} {R : Result → Shared → Prop} (h : ∀ R', Conts R R' → codeC M A c R' s) : codeC M A c R s := h R fun _ _ x => x
/-- what is asked behind a statement -/
def SeqC (M : Model) (A : Around) (rest : List Stmt) (env : Env) (Q : Flow → Shared → Prop) (E : Value → Shared → Prop) (f : Flow) (s' : Shared) : Prop :=
  match f with | .next => wpC M A (execs rest env) Q E s' | f => Q f s'
def SeqA (M : Model) (A : Around) (rest : List Stmt) (env : Env) (Q : Flow → Shared → Prop) (E : Value → Shared → Prop) (f : Flow) (s' : Shared) : Prop :=
  match f with | .next => wpAny M A (execs rest env) Q E s' | f => Q f s'
theorem wpC_execs_consF {st rest} {Q : Flow → Shared → Prop} (h : ∀ Q', Conts (SeqC M A rest env Q E) Q' → wpC M A (exec st env) Q' E s) : wpC M A (execs (st :: rest) env) Q E s :=
  wpC_execs_cons (h _ fun _ _ x => x)
theorem wpAny_execs_consF {st rest} {Q : Flow → Shared → Prop} (h : ∀ Q', Conts (SeqA M A rest env Q E) Q' → wpAny M A (exec st env) Q' E s) : wpAny M A (execs (st :: rest) env) Q E s :=
  wpAny_execs_cons (h _ fun _ _ x => x)
theorem seqC_next {rest} {Q Q' : Flow → Shared → Prop} (c : Conts (SeqC M A rest env Q E) Q') (h : wpC M A (execs rest env) Q E s) : Q' .next s := c _ _ h
theorem seqC_ret {rest} {v : Value} {Q Q' : Flow → Shared → Prop} (c : Conts (SeqC M A rest env Q E) Q') (h : Q (.ret v) s) : Q' (.ret v) s := c _ _ h
theorem seqC_cont {rest} {Q Q' : Flow → Shared → Prop} (c : Conts (SeqC M A rest env Q E) Q') (h : Q .cont s) : Q' .cont s := c _ _ h
theorem seqC_brk {rest} {Q Q' : Flow → Shared → Prop} (c : Conts (SeqC M A rest env Q E) Q') (h : Q .brk s) : Q' .brk s := c _ _ h
theorem seqA_next {rest} {Q Q' : Flow → Shared → Prop} (c : Conts (SeqA M A rest env Q E) Q') (h : wpAny M A (execs rest env) Q E s) : Q' .next s := c _ _ h
theorem seqA_ret {rest} {v : Value} {Q Q' : Flow → Shared → Prop} (c : Conts (SeqA M A rest env Q E) Q') (h : Q (.ret v) s) : Q' (.ret v) s := c _ _ h
theorem seqA_cont {rest} {Q Q' : Flow → Shared → Prop} (c : Conts (SeqA M A rest env Q E) Q') (h : Q .cont s) : Q' .cont s := c _ _ h
theorem seqA_brk {rest} {Q Q' : Flow → Shared → Prop} (c : Conts (SeqA M A rest env Q E) Q') (h : Q .brk s) : Q' .brk s := c _ _ h
end
section
variable {h₀ : Heap} {L : Addr} {news led : List (Addr × Obj)} {h' : Heap} {m : Str → Option Value} {tk' : Nat} {v : Value} {s : Shared} {Q : Value → Shared → Prop} {Post : Value → List (Addr × Obj) → Prop}
theorem cs_retA {news' : List (Addr × Obj)} (ret : ∀ v new h' tk', Post v new → Fr h₀ L h' m → News h₀ L h' (new ++ news) → Q v { s with heap := h', toks := tk' })
    (hp : Post v []) (F : Fr h₀ L h' m) (N : News h₀ L h' news') (hs : ∀ p ∈ led, p ∈ news') : Back h₀ L led news (Q v { s with heap := h', toks := tk' }) h' :=
  fun back => ret v [] h' tk' hp F (back fun p hp => N p (hs p hp))
theorem all_ne {l r : List (Addr × Obj)} {D : Addr} (h : ∀ p ∈ l, p.1 < D) (hs : ∀ p ∈ r, p ∈ l) : ∀ p ∈ r, p.1 ≠ D := fun p hp => Nat.ne_of_lt (h p (hs p hp))
theorem off1_of {l : List (Addr × Obj)} {D : Addr} (h : ∀ p ∈ l, p.1 ≠ D) : LCg.Off1 D l := by
  induction l with
  | nil => trivial
  | cons p r ih => exact ⟨h p (.head _), ih fun q hq => h q (.tail _ hq)⟩
end
end Mine

namespace Mine
open PySem.Calls
/-- a frame's names, the newest first -/
def mapL (l : List (Str × Value)) : Str → Option Value := fun y => l.lookup y
theorem mapL_cons {l : List (Str × Value)} {x : Str} {v : Value} : (fun y => if y = x then some v else mapL l y) = mapL ((x, v) :: l) := by
  funext y
  by_cases h : y = x
  · subst h
    rw [if_pos rfl]
    simp [mapL, List.lookup]
  · rw [if_neg h]
    have : (y == x) = false := by simpa using h
    simp [mapL, List.lookup, this]
theorem offI_of {I : Addr} {it : Obj} {l : List (Addr × Obj)} (h : ∀ p ∈ l, p.1 ≠ I) : OffI I it l := by
  induction l with
  | nil => trivial
  | cons p r ih => exact ⟨Or.inl (h p (.head _)), ih fun q hq => h q (.tail _ hq)⟩
theorem unrEnd_hd {h₀ : Heap} {L I : Addr} {it : Obj} {rest : (Str → Option Value) → List (Addr × Obj) → Prop} {s₁ : Shared} {h' : Heap} {tk : Nat} {m' : Str → Option Value} {news' : List (Addr × Obj)} (F : Fr h₀ L h' m') (N : News h₀ L h' ((I, it) :: news'))
    (off : ∀ p ∈ news', p.1 ≠ I) (r : rest m' news') : UnrEnd h₀ L s₁ I it rest { s₁ with heap := h', toks := tk } := UnrEnd.intro F N news' (fun _ h => h) off r
section
variable {α : Type} {x : Str} {v : α} {l : List (Str × α)}
theorem lk0 : List.lookup x ((x, v) :: l) = some v := by simp [List.lookup]
theorem lkS {y : Str} {w : α} {r : Option α} (h : (x == y) = false) (e : List.lookup x l = r) : List.lookup x ((y, w) :: l) = r := by simp [List.lookup, h, e]
theorem lk1 {y0 : Str} {w0 : α} (h0 : (x == y0) = false) : List.lookup x ((y0, w0) :: (x, v) :: l) = some v := lkS h0 lk0
theorem lk2 {y0 y1 : Str} {w0 w1 : α} (h0 : (x == y0) = false) (h1 : (x == y1) = false) : List.lookup x ((y0, w0) :: (y1, w1) :: (x, v) :: l) = some v := lkS h0 (lkS h1 lk0)
theorem lk3 {y0 y1 y2 : Str} {w0 w1 w2 : α} (h0 : (x == y0) = false) (h1 : (x == y1) = false) (h2 : (x == y2) = false) : List.lookup x ((y0, w0) :: (y1, w1) :: (y2, w2) :: (x, v) :: l) = some v := lkS h0 (lkS h1 (lkS h2 lk0))
theorem lk4 {y0 y1 y2 y3 : Str} {w0 w1 w2 w3 : α} (h0 : (x == y0) = false) (h1 : (x == y1) = false) (h2 : (x == y2) = false) (h3 : (x == y3) = false) : List.lookup x ((y0, w0) :: (y1, w1) :: (y2, w2) :: (y3, w3) :: (x, v) :: l) = some v := lkS h0 (lkS h1 (lkS h2 (lkS h3 lk0)))
theorem lk5 {y0 y1 y2 y3 y4 : Str} {w0 w1 w2 w3 w4 : α} (h0 : (x == y0) = false) (h1 : (x == y1) = false) (h2 : (x == y2) = false) (h3 : (x == y3) = false) (h4 : (x == y4) = false) : List.lookup x ((y0, w0) :: (y1, w1) :: (y2, w2) :: (y3, w3) :: (y4, w4) :: (x, v) :: l) = some v := lkS h0 (lkS h1 (lkS h2 (lkS h3 (lkS h4 lk0))))
theorem lk6 {y0 y1 y2 y3 y4 y5 : Str} {w0 w1 w2 w3 w4 w5 : α} (h0 : (x == y0) = false) (h1 : (x == y1) = false) (h2 : (x == y2) = false) (h3 : (x == y3) = false) (h4 : (x == y4) = false) (h5 : (x == y5) = false) : List.lookup x ((y0, w0) :: (y1, w1) :: (y2, w2) :: (y3, w3) :: (y4, w4) :: (y5, w5) :: (x, v) :: l) = some v := lkS h0 (lkS h1 (lkS h2 (lkS h3 (lkS h4 (lkS h5 lk0)))))
theorem lk7 {y0 y1 y2 y3 y4 y5 y6 : Str} {w0 w1 w2 w3 w4 w5 w6 : α} (h0 : (x == y0) = false) (h1 : (x == y1) = false) (h2 : (x == y2) = false) (h3 : (x == y3) = false) (h4 : (x == y4) = false) (h5 : (x == y5) = false) (h6 : (x == y6) = false) : List.lookup x ((y0, w0) :: (y1, w1) :: (y2, w2) :: (y3, w3) :: (y4, w4) :: (y5, w5) :: (y6, w6) :: (x, v) :: l) = some v := lkS h0 (lkS h1 (lkS h2 (lkS h3 (lkS h4 (lkS h5 (lkS h6 lk0))))))
theorem lk8 {y0 y1 y2 y3 y4 y5 y6 y7 : Str} {w0 w1 w2 w3 w4 w5 w6 w7 : α} (h0 : (x == y0) = false) (h1 : (x == y1) = false) (h2 : (x == y2) = false) (h3 : (x == y3) = false) (h4 : (x == y4) = false) (h5 : (x == y5) = false) (h6 : (x == y6) = false) (h7 : (x == y7) = false) : List.lookup x ((y0, w0) :: (y1, w1) :: (y2, w2) :: (y3, w3) :: (y4, w4) :: (y5, w5) :: (y6, w6) :: (y7, w7) :: (x, v) :: l) = some v := lkS h0 (lkS h1 (lkS h2 (lkS h3 (lkS h4 (lkS h5 (lkS h6 (lkS h7 lk0)))))))
theorem lk9 {y0 y1 y2 y3 y4 y5 y6 y7 y8 : Str} {w0 w1 w2 w3 w4 w5 w6 w7 w8 : α} (h0 : (x == y0) = false) (h1 : (x == y1) = false) (h2 : (x == y2) = false) (h3 : (x == y3) = false) (h4 : (x == y4) = false) (h5 : (x == y5) = false) (h6 : (x == y6) = false) (h7 : (x == y7) = false) (h8 : (x == y8) = false) : List.lookup x ((y0, w0) :: (y1, w1) :: (y2, w2) :: (y3, w3) :: (y4, w4) :: (y5, w5) :: (y6, w6) :: (y7, w7) :: (y8, w8) :: (x, v) :: l) = some v := lkS h0 (lkS h1 (lkS h2 (lkS h3 (lkS h4 (lkS h5 (lkS h6 (lkS h7 (lkS h8 lk0))))))))
end
theorem room_of {d n k b : Nat} (h : d + n < b) (e : 1 + k ≤ n) : d + 1 + k < b := by omega
theorem units_of {d n k b : Nat} (h : d + 8 * n < b) (e : 3 + 8 * k ≤ 8 * n) : d + 3 + 8 * k < b := by omega
section
variable {prog : Program} {w : World} {M : Model} {A : Around} {E : Value → Shared → Prop} {hp : Heap} {gn} {dr} {tk : Nat} {os} {s : Shared} {env : Env} {a b : Int} {t u : Tok} {Q : Value → Shared → Prop}
theorem intS {i k pos} (h : ∀ t k, Q (.int i t) ⟨hp, gn, dr, k, os⟩) : wpAny M A (eval (.Constant (.int i) k pos) env) Q E ⟨hp, gn, dr, tk, os⟩ := wpAny_Constant_int (h _ _)
theorem strS {x : Str} {k pos} (h : ∀ t k, Q (.str x t) ⟨hp, gn, dr, k, os⟩) : wpAny M A (eval (.Constant (.str x) k pos) env) Q E ⟨hp, gn, dr, tk, os⟩ := Calls.Constant_str (h _ _)
theorem addS (h : ∀ t k, Q (.int (a + b) t) ⟨hp, gn, dr, k, os⟩) : wpAny (model prog w) A (binaryOp .Add (.int a t) (.int b u)) Q E ⟨hp, gn, dr, tk, os⟩ := PyProof.Rows.add_int (h _ _)
theorem subS (h : ∀ t k, Q (.int (a - b) t) ⟨hp, gn, dr, k, os⟩) : wpAny (model prog w) A (binaryOp .Sub (.int a t) (.int b u)) Q E ⟨hp, gn, dr, tk, os⟩ := PyProof.Rows.sub_int (h _ _)
theorem mulS (hm : IntMulOk a b) (h : ∀ t k, Q (.int (a * b) t) ⟨hp, gn, dr, k, os⟩) : wpAny (model prog w) A (binaryOp .Mult (.int a t) (.int b u)) Q E ⟨hp, gn, dr, tk, os⟩ := PyProof.Rows.mul_int (h _ _) hm
theorem modS (hb : b ≠ 0) (h : ∀ t k, Q (.int (a.fmod b) t) ⟨hp, gn, dr, k, os⟩) : wpAny (model prog w) A (binaryOp .Mod (.int a t) (.int b u)) Q E ⟨hp, gn, dr, tk, os⟩ := mod_int' hb (h _ _)
theorem iaddS (h : ∀ t k, Q (.int (a + b) t) ⟨hp, gn, dr, k, os⟩) : wpAny (model prog w) A (inplaceOp .Add (.int a t) (.int b u)) Q E ⟨hp, gn, dr, tk, os⟩ := PyProof.Rows.iadd_int (h _ _)
theorem negS (h : ∀ t k, Q (.int (-a) t) ⟨hp, gn, dr, k, os⟩) : wpAny (model prog w) A (unaryOp .USub (.int a t)) Q E ⟨hp, gn, dr, tk, os⟩ := PyProof.Rows.neg_int (h _ _)
theorem ltS (h : Q (.bool (decide (a < b))) s) : wpAny (model prog w) A (compareOp .Lt (.int a t) (.int b u)) Q E s := PyProof.Rows.lt_int h
theorem gtS (h : Q (.bool (decide (b < a))) s) : wpAny (model prog w) A (compareOp .Gt (.int a t) (.int b u)) Q E s := PyProof.Rows.gt_int h
theorem leS (h : Q (.bool (decide (a ≤ b))) s) : wpAny (model prog w) A (compareOp .LtE (.int a t) (.int b u)) Q E s := PyProof.Rows.le_int h
end
section
variable {M : Model} {A : Around} {hp : Heap} {gn} {dr} {tk : Nat} {os} {s : Shared} {h₀ : Heap} {E : Value → Shared → Prop} {L a : Addr} {cn : Str} {cs : Scope} {ccd : Value} {cl : List (Str × Addr)} {l : List (Str × Value)} {news : List (Addr × Obj)} {x : Str} {v : Value}
theorem storeM {Q : Unit → Shared → Prop} (F : Fr h₀ L hp (mapL l)) (N : News h₀ L hp news)
    (h : ∀ h' k, Fr h₀ L h' (mapL ((x, v) :: l)) → News h₀ L h' news → Q () ⟨h', gn, dr, k, os⟩)
    (hk : cs.kind = .function) (hx : (envX cn cs L a ccd cl).kindOf x = some .local) : wpAny M A (storeName (envX cn cs L a ccd cl) x v) Q E ⟨hp, gn, dr, tk, os⟩ :=
  storeX_L (s := ⟨hp, gn, dr, tk, os⟩) F N (fun h' F' N' => h h' _ (mapL_cons ▸ F') N') hk hx
theorem storeG {Q : Unit → Shared → Prop} {m : Str → Option Value} (F : Fr h₀ L hp m) (N : News h₀ L hp news)
    (h : ∀ h' k, Fr h₀ L h' (fun y => if y = x then some v else m y) → News h₀ L h' news → Q () ⟨h', gn, dr, k, os⟩)
    (hk : cs.kind = .function) (hx : (envX cn cs L a ccd cl).kindOf x = some .local) : wpAny M A (storeName (envX cn cs L a ccd cl) x v) Q E ⟨hp, gn, dr, tk, os⟩ :=
  storeX_L (s := ⟨hp, gn, dr, tk, os⟩) F N (fun h' F' N' => h h' _ F' N') hk hx
theorem fr_mapL {m : Str → Option Value} {h : Heap} (F : Fr h₀ L h (fun y => if y = x then some v else mapL l y)) : Fr h₀ L h (mapL ((x, v) :: l)) := mapL_cons ▸ F
theorem fr_mapLX {en : Str} {sc : Scope} {ad : Addr} {cv : Value} {h : Heap} (F : Fr h₀ (PyProof.Rows.envOf en sc L ad cv).locals h (fun y => if y = x then some v else mapL l y)) : Fr h₀ L h (mapL ((x, v) :: l)) := fr_mapL (m := fun _ => none) F
theorem unpackS {prog : Program} {w : World} {env : Env} {m : Str → Option Value} {elts : List Expr} {k} {pos : Pos} {t : Addr} {items : Array Value} {Q : Unit → Shared → Prop} (F : Fr h₀ L hp m) (N : News h₀ L hp news) (ht : IsTup hp t items)
    (hh : A.handled = none) (hn : (assignEach elts env).length = items.size) (hstar : (assignEach elts env).findIdx? (·.1) = none)
    (h : ∀ h', Fr h₀ L h' m → News h₀ L h' news → wpAny (model prog w) A (assignInOrder ((assignEach elts env).map (·.2)) items.toList) Q E ⟨h', gn, dr, tk, os⟩) :
    wpAny (model prog w) A (assign (.Tuple elts k pos) env (.ref t)) Q E ⟨hp, gn, dr, tk, os⟩ := unpackN_ (s := ⟨hp, gn, dr, tk, os⟩) F N ht hh hn hstar h
theorem loadM {Q : Value → Shared → Prop} {m : Str → Option Value} (F : Fr h₀ L s.heap m) (hv : m x = some v) (h : Q v s)
    (hk : cs.kind = .function) (hx : (envX cn cs L a ccd cl).kindOf x = some .local) : wpAny M A (loadName (envX cn cs L a ccd cl) x) Q E s := wpAny_loadName_local hk hx F.ns hv h
theorem nameM {Q : Value → Shared → Prop} {pos : Pos} (F : Fr h₀ L s.heap (mapL l)) (hv : l.lookup x = some v) (h : Q v s)
    (hk : cs.kind = .function) (hx : (envX cn cs L a ccd cl).kindOf x = some .local) (hd : (x == ("__debug__" : Str)) = false) :
    wpAny M A (eval (.Name x pos) (envX cn cs L a ccd cl)) Q E s := nameX_L F hv h hk hx hd
end
end Mine

namespace Mine
open PySem.Calls
section
variable {prog : Program} {w : World} {A : Around} {E : Value → Shared → Prop} {s : Shared} {h₀ : Heap} {L I l : Addr} {m : Str → Option Value} {news all keep : List (Addr × Obj)} {items : Array Value} {vs : List Value} {o : Obj} {env : Env}
def LIter (_I l : Addr) (i : Nat) (o : Obj) : Prop := o.cls = .type "list_iterator" ∧ o.data = .fields #[.ref l, .int (i : Int) 0]
def TIter (_I l : Addr) (i : Nat) (o : Obj) : Prop := o.cls = .type "tuple_iterator" ∧ o.data = .fields #[.ref l, .int (i : Int) 0]
/-- what a loop with the iterator I keeps of the ledger -/
def LoopKeep (I : Addr) (keep : List (Addr × Obj)) : Prop := ∀ p ∈ keep, p.1 ≠ I
theorem loopKeep_of (h : ∀ p ∈ news, p.1 < I) : LoopKeep I news := fun p hp => Nat.ne_of_lt (h p hp)
theorem news_push {ob : Obj} (F : Fr h₀ L s.heap m) (N : News h₀ L s.heap news) (hf : ob.isFreed = false) : News h₀ L (s.heap.push ob) ((s.heap.objs.size, ob) :: news) := by
  intro p hp
  rcases List.mem_cons.mp hp with rfl | hp
  · refine ⟨Heap.get?_push_size _ hf, fun e => ?_, ?_⟩
    · exact absurd (show s.heap.objs.size = L from e) (Nat.ne_of_gt F.ns.lt)
    · cases q : h₀.get? s.heap.objs.size with
      | none => rfl
      | some o => exact absurd (Heap.lt_size (F.keep _ _ q)) (Nat.lt_irrefl _)
  · exact ⟨Heap.get?_push_of_some _ (N p hp).1, (N p hp).2⟩
theorem news_lt (N : News h₀ L s.heap news) : ∀ p ∈ news, p.1 < s.heap.objs.size := fun p hp => Heap.lt_size (N p hp).1
theorem iter_list {Q : Value → Shared → Prop} (F : Fr h₀ L s.heap m) (N : News h₀ L s.heap news) (hl : s.heap.IsList l items)
    (h : ∀ I o h', LIter I l 0 o → Fr h₀ L h' m → News h₀ L h' ((I, o) :: news) → LoopKeep I news → (∀ p ∈ news, p.1 < I) → Q (.ref I) { s with heap := h' }) : wpAny (model prog w) A (pyIter (.ref l)) Q E s :=
  wpAny_pyIter_list hl (h _ _ _ ⟨rfl, rfl⟩ (F.push _) (news_push F N rfl) (loopKeep_of (news_lt N)) (news_lt N))
theorem iter_tup {Q : Value → Shared → Prop} (F : Fr h₀ L s.heap m) (N : News h₀ L s.heap news) (hl : s.heap.IsTuple l items)
    (h : ∀ I o h', TIter I l 0 o → Fr h₀ L h' m → News h₀ L h' ((I, o) :: news) → LoopKeep I news → (∀ p ∈ news, p.1 < I) → Q (.ref I) { s with heap := h' }) : wpAny (model prog w) A (pyIter (.ref l)) Q E s :=
  wpAny_pyIter_tuple hl (h _ _ _ ⟨rfl, rfl⟩ (F.push _) (news_push F N rfl) (loopKeep_of (news_lt N)) (news_lt N))
theorem news_same {h' : Heap} {o' : Obj} (N : News h₀ L s.heap all) (hI : (I, o) ∈ all) (hs : SubL keep all) (hoff : LoopKeep I keep) (e : Heap.SameBut I s.heap h') (ho : h'.get? I = some o') : News h₀ L h' ((I, o') :: keep) := by
  intro p hp
  rcases List.mem_cons.mp hp with rfl | hp
  · exact ⟨ho, (N _ hI).2⟩
  · exact ⟨(e.2 p.1 (hoff p hp)).trans (N p (hs.mem p hp)).1, (N p (hs.mem p hp)).2⟩
theorem news_ext {h' : Heap} (N : News h₀ L s.heap all) (hs : SubL keep all) (hoff : LoopKeep I keep) (e : Heap.ExtBut I s.heap h') : News h₀ L h' keep :=
  fun p hp => ⟨e p.1 p.2 (hoff p hp) (N p (hs.mem p hp)).1, (N p (hs.mem p hp)).2⟩
theorem fr_same {h' : Heap} (F : Fr h₀ L s.heap m) (N : News h₀ L s.heap all) (hI : (I, o) ∈ all) (e : Heap.SameBut I s.heap h') : Fr h₀ L h' m := F.change e (N _ hI).2.1 (N _ hI).2.2
theorem fr_ext {h' : Heap} (F : Fr h₀ L s.heap m) (N : News h₀ L s.heap all) (hI : (I, o) ∈ all) (e : Heap.ExtBut I s.heap h') : Fr h₀ L h' m := by
  obtain ⟨oL, a1, a2, hL, a3⟩ := F.ns
  refine ⟨⟨oL, a1, a2, e L oL (fun q => (N _ hI).2.1 q.symm) hL, a3⟩, fun b x q => e b x (fun z => ?_) (F.keep b x q), F.above⟩
  have h1 := (N _ hI).2.2
  have h2 : h₀.get? I = some x := z ▸ q
  rw [show h₀.get? I = none from h1] at h2
  cases h2
theorem next_list {i : Nat} {x : Value} {Q : Option Value → Shared → Prop} (F : Fr h₀ L s.heap m) (N : News h₀ L s.heap all) (ho : LIter I l i o) (hI : (I, o) ∈ all) (hs : SubL keep all) (hoff : LoopKeep I keep) (hl : s.heap.IsList l vs.toArray) (hx : vs[i]? = some x)
    (h : ∀ o' h', LIter I l (i + 1) o' → Fr h₀ L h' m → News h₀ L h' ((I, o') :: keep) → Q (some x) { s with heap := h' }) : wpAny (model prog w) A (pyNext (.ref I)) Q E s := by
  refine wpAny_pyNext_list_item ⟨o, (N _ hI).1, ho.1, ho.2⟩ hl (by simpa using hx) fun h' hit e => ?_
  obtain ⟨o', h1, h2, h3⟩ := hit
  exact h o' h' ⟨h2, h3⟩ (fr_same F N hI e) (news_same N hI hs hoff e h1)
theorem next_list_end {i : Nat} {Q : Option Value → Shared → Prop} (hh : A.handled = none) (F : Fr h₀ L s.heap m) (N : News h₀ L s.heap all) (ho : LIter I l i o) (hI : (I, o) ∈ all) (hs : SubL keep all) (hoff : LoopKeep I keep) (hl : s.heap.IsList l vs.toArray) (hx : vs[i]? = none)
    (h : ∀ h', Fr h₀ L h' m → News h₀ L h' keep → Q none { s with heap := h' }) : wpAny (model prog w) A (pyNext (.ref I)) Q E s :=
  wpAny_pyNext_list_end hh ⟨o, (N _ hI).1, ho.1, ho.2⟩ hl (by simpa using hx) fun h' e => h h' (fr_ext F N hI e) (news_ext N hs hoff e)
theorem next_tup {i : Nat} {x : Value} {Q : Option Value → Shared → Prop} (F : Fr h₀ L s.heap m) (N : News h₀ L s.heap all) (ho : TIter I l i o) (hI : (I, o) ∈ all) (hs : SubL keep all) (hoff : LoopKeep I keep) (hl : s.heap.IsTuple l vs.toArray) (hx : vs[i]? = some x)
    (h : ∀ o' h', TIter I l (i + 1) o' → Fr h₀ L h' m → News h₀ L h' ((I, o') :: keep) → Q (some x) { s with heap := h' }) : wpAny (model prog w) A (pyNext (.ref I)) Q E s := by
  refine wpAny_pyNext_tuple_item ⟨o, (N _ hI).1, ho.1, ho.2⟩ hl (by simpa using hx) fun h' hit e => ?_
  obtain ⟨o', h1, h2, h3⟩ := hit
  exact h o' h' ⟨h2, h3⟩ (fr_same F N hI e) (news_same N hI hs hoff e h1)
/-- a turn of a for over a list, its target a name -/
theorem for_list_N {i : Nat} {x : Value} {nm : Str} {np : Pos} {body : List Stmt} {R : Result → Shared → Prop} (F : Fr h₀ L s.heap m) (N : News h₀ L s.heap all) (ho : LIter I l i o) (hI : (I, o) ∈ all) (hs : SubL keep all) (hoff : LoopKeep I keep) (hl : s.heap.IsList l vs.toArray) (hx : vs[i]? = some x)
    (h : ∀ o' h', LIter I l (i + 1) o' → Fr h₀ L h' m → News h₀ L h' ((I, o') :: keep) → wpAny (model prog w) A (assign (.Name nm np) env x) (fun _ s₃ =>
            wpC (model prog w) A (execs body env) (fun f s₄ => match f with
              | .next | .cont => codeC (model prog w) A (.forLoop (.Name nm np) (.ref I) body [] env) R s₄
              | .brk => R (.ok .next) s₄
              | .ret v => R (.ok (.ret v)) s₄) (fun _ _ => False) s₃) (fun _ _ => False) { s with heap := h' }) : codeC (model prog w) A (.forLoop (.Name nm np) (.ref I) body [] env) R s :=
  codeC_for prog w (next_list F N ho hI hs hoff hl hx fun o' h' a b c => wpAny_of_eq (a := ()) rfl (h o' h' a b c))
theorem for_list_T {i : Nat} {a : Addr} {elts : List Expr} {x1} {np : Pos} {body : List Stmt} {R : Result → Shared → Prop} (F : Fr h₀ L s.heap m) (N : News h₀ L s.heap all) (ho : LIter I l i o) (hI : (I, o) ∈ all) (hs : SubL keep all) (hoff : LoopKeep I keep) (hl : s.heap.IsList l vs.toArray) (hx : vs[i]? = some (.ref a))
    (h : ∀ o' h', LIter I l (i + 1) o' → Fr h₀ L h' m → News h₀ L h' ((I, o') :: keep) → wpAny (model prog w) A (assign (.Tuple elts x1 np) env (.ref a)) (fun _ s₃ =>
            wpC (model prog w) A (execs body env) (fun f s₄ => match f with
              | .next | .cont => codeC (model prog w) A (.forLoop (.Tuple elts x1 np) (.ref I) body [] env) R s₄
              | .brk => R (.ok .next) s₄
              | .ret v => R (.ok (.ret v)) s₄) (fun _ _ => False) s₃) (fun _ _ => False) { s with heap := h' }) : codeC (model prog w) A (.forLoop (.Tuple elts x1 np) (.ref I) body [] env) R s :=
  codeC_for prog w (next_list F N ho hI hs hoff hl hx fun o' h' a b c => wpAny_letOwnedTupleGo_listiter ⟨o', (c _ (.head _)).1, a.1, a.2⟩ (h o' h' a b c))
theorem for_list_end {i : Nat} {tg : Expr} {body : List Stmt} {R : Result → Shared → Prop} (hh : A.handled = none) (F : Fr h₀ L s.heap m) (N : News h₀ L s.heap all) (ho : LIter I l i o) (hI : (I, o) ∈ all) (hs : SubL keep all) (hoff : LoopKeep I keep) (hl : s.heap.IsList l vs.toArray) (hx : vs[i]? = none)
    (h : ∀ h', Fr h₀ L h' m → News h₀ L h' keep → R (.ok .next) { s with heap := h' }) : codeC (model prog w) A (.forLoop tg (.ref I) body [] env) R s :=
  codeC_for prog w (next_list_end hh F N ho hI hs hoff hl hx h)
theorem for_tup_N {i : Nat} {x : Value} {nm : Str} {np : Pos} {body : List Stmt} {R : Result → Shared → Prop} (F : Fr h₀ L s.heap m) (N : News h₀ L s.heap all) (ho : TIter I l i o) (hI : (I, o) ∈ all) (hs : SubL keep all) (hoff : LoopKeep I keep) (hl : s.heap.IsTuple l vs.toArray) (hx : vs[i]? = some x)
    (h : ∀ o' h', TIter I l (i + 1) o' → Fr h₀ L h' m → News h₀ L h' ((I, o') :: keep) → wpAny (model prog w) A (assign (.Name nm np) env x) (fun _ s₃ =>
            wpC (model prog w) A (execs body env) (fun f s₄ => match f with
              | .next | .cont => codeC (model prog w) A (.forLoop (.Name nm np) (.ref I) body [] env) R s₄
              | .brk => R (.ok .next) s₄
              | .ret v => R (.ok (.ret v)) s₄) (fun _ _ => False) s₃) (fun _ _ => False) { s with heap := h' }) : codeC (model prog w) A (.forLoop (.Name nm np) (.ref I) body [] env) R s :=
  codeC_for prog w (next_tup F N ho hI hs hoff hl hx fun o' h' a b c => wpAny_of_eq (a := ()) rfl (h o' h' a b c))
theorem tuple_K {K : Frag} {h : Heap} {dd : Option Addr} {sl : Array (Option Value)} {a : Addr} {vs : List Value} {n : Nat} (X : K.In h) (e : K.lookup a = some ⟨.type "tuple", dd, .seq vs.toArray n, sl⟩) : h.IsTuple a vs.toArray := tupK X e
end
end Mine

namespace Mine
open PySem.Calls
section
variable {prog : Program} {w : World} {A : Around} {E : Value → Shared → Prop} {s : Shared} {K : Frag} {a : Addr} {n : Nat}
theorem tup_method_K {vs : List Value} {name : Str} {id : String} {pl : Sem Bool} {Q : Value × List Value → Shared → Prop} (X : K.In s.heap) (e : K.lookup a = some ⟨.type "tuple", none, .seq vs.toArray n, #[]⟩) (slot : Slot "tuple" name id) (hty : typeOf (.builtin id) = pure (.type "method_descriptor"))
    (h : Q (.builtin id, [.ref a]) s) : wpAny (model prog w) A (getMethod (.ref a) name pl) Q E s :=
  getMethod_builtin ⟨_, X _ _ e, rfl⟩ PySem.F.plainAttrs_tuple slot hty (fun b e' => by cases e'; exact ⟨_, X _ _ e, rfl⟩) h
theorem list_method_K {vs : List Value} {name : Str} {id : String} {pl : Sem Bool} {Q : Value × List Value → Shared → Prop} (X : K.In s.heap) (e : K.lookup a = some ⟨.type "list", none, .seq vs.toArray n, #[]⟩) (slot : Slot "list" name id) (hty : typeOf (.builtin id) = pure (.type "method_descriptor"))
    (h : Q (.builtin id, [.ref a]) s) : wpAny (model prog w) A (getMethod (.ref a) name pl) Q E s :=
  getMethod_builtin ⟨_, X _ _ e, rfl⟩ PySem.F.plainAttrs_list slot hty (fun b e' => by cases e'; exact ⟨_, X _ _ e, rfl⟩) h
theorem notin_tup_K {ns : List (Int × Tok)} {k : Int} {t : Tok} {b : Bool} {Q : Value → Shared → Prop} (X : K.In s.heap) (e : K.lookup a = some ⟨.type "tuple", none, .seq (ns.map fun p => Value.int p.1 p.2).toArray n, #[]⟩) (hb : (!(ns.any fun p => p.1 == k)) = b) (h : Q (.bool b) s) :
    wpAny (model prog w) A (compareOp .NotIn (.int k t) (.ref a)) Q E s := by
  refine PySem.SeqAt.notIn_tupleAt (items := (ns.map fun p => Value.int p.1 p.2).toArray) (isInt k) ⟨_, X _ _ e, rfl, n, rfl⟩ (fun y hy => ?_) ?_
  · obtain ⟨p, _, rfl⟩ := List.mem_map.mp (List.mem_toArray.mp hy)
    exact PySem.SeqAt.EqAt.int_int _ _ _ _
  · have e1 : (ns.map fun p => Value.int p.1 p.2).toArray.any (isInt k) = ns.any fun p => p.1 == k := by
      rw [← Array.any_toList]
      simp only [List.any_map]
      rfl
    rw [e1, hb]
    exact h
/-- the place of a text in a list of texts -/
theorem list_index_K {ns : List (Str × Tok)} {k : Str} {t : Tok} {j : Nat} {Q : Value → Shared → Prop} (X : K.In s.heap) (e : K.lookup a = some ⟨.type "list", none, .seq (ns.map fun p => Value.str p.1 p.2).toArray n, #[]⟩)
    (hj : j < ns.length) (hs : ns.length ≤ 1000) (hit : ((ns.map fun p => p.1 == k)[j]? = some true)) (hno : ∀ i, i < j → (ns.map fun p => p.1 == k)[i]? = some false)
    (h : Q (.int j s.toks) { s with toks := s.toks + 1 }) : wpAny (model prog w) A (call (.builtin "list.index") [.ref a, .str k t]) Q E s := by
  have ev : ∀ y, y ∈ (ns.map fun p => Value.str p.1 p.2).toArray → MeetsSeq.EqGives y (.str k t) (match y with | .str x _ => x == k | _ => false) := fun y hy => by
    obtain ⟨⟨x, u⟩, _, rfl⟩ := List.mem_map.mp (List.mem_toArray.mp hy)
    exact eqGives_str x k u t
  have sz : (ns.map fun p => Value.str p.1 p.2).toArray.size = ns.length := by simp
  refine call_meets PySem.F.slot_list_index ⟨_, X _ _ e, rfl⟩ PySem.F.entry_list_index (PySem.F.args_list_index_2 _ _)
    (MeetsSeq.list_index a (ns.map fun p => Value.str p.1 p.2).toArray n (.str k t) (fun y => match y with | .str x _ => x == k | _ => false) ev j (by omega) (by omega) ?_ fun i hi hlt => ?_) ⟨X _ _ e, h⟩
  · simp [hj] at hit ⊢
    exact hit
  · have hi' : i < ns.length := by omega
    have := hno i hlt
    simp [hi'] at this ⊢
    exact this
theorem tup_index_K {ns : List (Int × Tok)} {k : Int} {t : Tok} {j : Nat} {Q : Value → Shared → Prop} (X : K.In s.heap) (e : K.lookup a = some ⟨.type "tuple", none, .seq (ns.map fun p => Value.int p.1 p.2).toArray n, #[]⟩)
    (hj : ns.findIdx? (fun p => p.1 == k) = some j) (h : Q (.int j s.toks) { s with toks := s.toks + 1 }) : wpAny (model prog w) A (call (.builtin "tuple.index") [.ref a, .int k t]) Q E s := by
  refine wpAny_call_entry PySem.F.slot_tuple_index ⟨_, X _ _ e, rfl⟩ PySem.F.entry_tuple_index ?_ (PySem.F.args_tuple_index_2 _ _)
  have hl := X _ _ e
  unfold Builtin.«tuple.index»
  refine wpAny_bind (wpAny_of_eq (a := (.ref a, [.int k t])) rfl ?_)
  dsimp only
  refine wpAny_bind ?_
  unfold Builtin.Tuple.tupleItemsOf seqItems?
  refine wpAny_bind (wpAny_bind (wpAny_load hl (wpAny_pure ?_)))
  refine wpAny_pure (wpAny_bind (wpAny_pure (wpAny_bind (wpAny_pure ?_))))
  rw [Std.Legacy.Range.forIn_eq_forIn_range']
  obtain ⟨hlt, hat, hbef⟩ := List.findIdx?_eq_some_iff_getElem.mp hj
  have sz : (ns.map fun p => Value.int p.1 p.2).toArray.size = ns.length := by simp
  have get : ∀ i (hi : i < ns.length), (ns.map fun p => Value.int p.1 p.2).toArray[i]? = some (Value.int ns[i].1 ns[i].2) := fun i hi => by simp [hi]
  refine wpAny_bind ?_
  refine wpAny_forIn_list _ (fun rest b s' => s' = s ∧ b = (none, ()) ∧ ∃ i, i ≤ j ∧ rest = List.range' i (ns.length - i)) _ ?_ ?_ _ _ ⟨rfl, rfl, 0, Nat.zero_le _, ?_⟩
  · rintro x rest b s' ⟨rfl, rfl, i, hij, hr⟩
    have hi : i < ns.length := by omega
    have e1 : ns.length - i = (ns.length - (i + 1)) + 1 := by omega
    rw [e1, List.range'_succ] at hr
    obtain ⟨rfl, rfl⟩ := List.cons.inj hr
    rw [get x hi]
    refine wpAny_bind (MeetsSeq.EqGives.int ns[x].1 k ns[x].2 t prog w A.in1 _ _ _ ?_)
    by_cases hx : x = j
    · subst hx
      rw [show (ns[x].1 == k) = true from hat, if_pos rfl]
      unfold retInt
      refine wpAny_bind (wpAny_bind (wpAny_mkInt (wpAny_pure (wpAny_pure ?_))))
      exact wpAny_pure ⟨_, rfl, h⟩
    · have hf : (ns[x].1 == k) = false := by
        have := hbef x (by omega)
        simpa using this
      rw [hf, if_neg (by decide)]
      exact wpAny_pure ⟨rfl, rfl, x + 1, by omega, rfl⟩
  · rintro b s' ⟨rfl, rfl, i, hij, hr⟩
    have hi : ns.length - i ≠ 0 := by omega
    have := congrArg List.length hr
    rw [List.length_range'] at this
    exact absurd this.symm hi
  · show List.range' 0 _ _ = _
    rw [sz]
    congr 1
    simp [Std.Legacy.Range.size]
end
end Mine

namespace Mine
open PySem.Calls
namespace BF
theorem slot_join : Slot "bytes" "join" "bytes.join" :=
  .of (owner := "bytes") (n := "join") (by rw [typeLookup_type, builtinLookup_eq_fast]; kernel_rfl) (by decide +kernel) (by decide +kernel) (by decide +kernel)
    (by first | exact .inl (by decide +kernel) | exact .inr (by decide +kernel)) (by rw [isSubtype_type]; kernel_rfl)
theorem type_join : typeOf (.builtin "bytes.join") = pure (.type "method_descriptor") := by show builtinType _ = _; rw [builtinType_eq_fast]; kernel_rfl
theorem entry_join : entryFor table "bytes.join" = some Builtin.«bytes.join» := entryFor_of_tree (by kernel_rfl)
theorem args_join (a b : Value) : argsOk "bytes.join" ⟨[a, b], []⟩ := by unfold argsOk; kernel_rfl
theorem bytes_buffer : typeLookup (.type "bytes") "__buffer__" = pure (some (.builtin "bytes.__buffer__")) := by rw [typeLookup_type, builtinLookup_eq_fast]; kernel_rfl
theorem bytes_release : typeLookup (.type "bytes") "__release_buffer__" = pure none := by rw [typeLookup_type, builtinLookup_eq_fast]; kernel_rfl
end BF
section
variable {prog : Program} {w : World} {A : Around} {E : Value → Shared → Prop} {s : Shared}
theorem bj_own {b : Array UInt8} {t : Tok} {Q : Bool → Shared → Prop} (h : Q true s) : wpAny (model prog w) A (Builtin.Bytes.slotIsOwn (.bytes b t) "__buffer__") Q E s := by
  unfold Builtin.Bytes.slotIsOwn
  refine wpAny_bind (wpAny_specialOf (T := "bytes") rfl BF.bytes_buffer ?_)
  show wpAny _ _ (if (!("bytes.__buffer__".endsWith ("." ++ "__buffer__"))) = true then pure false else isInstance (.bytes b t) (.type ("bytes.__buffer__".dropRight ("__buffer__".length + 1)))) _ _ _
  rw [if_neg (by decide +kernel), show "bytes.__buffer__".dropRight ("__buffer__".length + 1) = "bytes" from by decide +kernel]
  exact wpAny_isInstance (T := "bytes") rfl F.bm_sub h
theorem bj_release {b : Array UInt8} {t : Tok} {Q : Bool → Shared → Prop} (h : Q false s) : wpAny (model prog w) A (Builtin.Bytes.ownRelease (.bytes b t)) Q E s := by
  unfold Builtin.Bytes.ownRelease Builtin.Bytes.slotIsOwn
  exact wpAny_bind (wpAny_bind (wpAny_specialOf (T := "bytes") rfl BF.bytes_release (wpAny_pure (wpAny_pure h))))
theorem bj_buffer {n : String} {b : Array UInt8} {t : Tok} {f : Bool} {Q : Option (Array UInt8) → Shared → Prop} (h : Q (some b) s) : wpAny (model prog w) A (Builtin.Bytes.buffer? n (.bytes b t) f) Q E s := by
  unfold Builtin.Bytes.buffer?
  refine wpAny_bind (wpAny_specialOf (T := "bytes") rfl BF.bytes_buffer ?_)
  try dsimp only
  refine wpAny_bind (bj_own ?_)
  rw [if_neg (by decide)]
  refine wpAny_bind (wpAny_specialOf (T := "bytes") rfl BF.bytes_buffer ?_)
  try dsimp only
  refine wpAny_bind (bj_release ?_)
  rw [if_neg (by decide)]
  exact wpAny_bind (wpAny_of_eq (a := b) rfl (wpAny_pure h))
theorem bj_take {n : String} {b : Array UInt8} {t : Tok} {Q : Option (Array UInt8 × Option Value) → Shared → Prop} (h : Q (some (b, none)) s) : wpAny (model prog w) A (Builtin.Bytes.takeBufferQuiet? n (.bytes b t) 0) Q E s := by
  unfold Builtin.Bytes.takeBufferQuiet? Builtin.Bytes.takeBuffer?
  refine wpAny_bind (wpAny_attempt ?_)
  refine wpAny_bind (wpAny_specialOf (T := "bytes") rfl BF.bytes_buffer ?_)
  try dsimp only
  refine wpAny_bind (bj_own ?_)
  rw [if_neg (by decide)]
  refine wpAny_bind (wpAny_specialOf (T := "bytes") rfl BF.bytes_buffer ?_)
  try dsimp only
  exact wpAny_bind (bj_buffer (wpAny_pure (wpAny_pure h)))
theorem bj_letGo {keep : List Value} {Q : Unit → Shared → Prop} : ∀ (l : List (Value × Option Value)), (∀ p ∈ l, p.2 = none) → Q () s → wpAny (model prog w) A (Builtin.Bytes.joinLetGo l keep) Q E s
  | [], _, h => wpAny_pure h
  | (x, u) :: r, hl, h => by
    have hu : u = none := hl (x, u) (.head _)
    subst hu
    unfold Builtin.Bytes.joinLetGo
    try dsimp only
    exact wpAny_bind (wpAny_letGo (bj_letGo r (fun p hp => hl p (.tail _ hp)) h))
theorem joined_size : ∀ (l : List (Array UInt8)) (k : Nat) (out : Array UInt8), ((l.zipIdx k).foldl (fun out (p, i) => (if i > 0 then out ++ #[] else out) ++ p) out).size = out.size + (l.map (·.size)).sum
  | [], _, _ => by simp
  | p :: r, k, out => by
    rw [List.zipIdx_cons, List.foldl_cons, joined_size r (k + 1)]
    have e : (if k > 0 then out ++ #[] else out) = out := by split <;> simp
    simp only [e, Array.size_append, List.map_cons, List.sum_cons]
    omega
theorem foldl_size : ∀ (l : List (Array UInt8)) (k : Nat), l.foldl (fun x1 x2 => x1 + x2.size) k = k + (l.map (·.size)).sum
  | [], _ => by simp
  | p :: r, k => by
    rw [List.foldl_cons, foldl_size r]
    simp only [List.map_cons, List.sum_cons]
    omega
theorem bytes_join {l : Addr} {u : Tok} {ps : List (Array UInt8 × Tok)} {Q : Value → Shared → Prop} (hl : s.heap.IsList l (ps.map fun p => Value.bytes p.1 p.2).toArray) (hz : (ps.map (·.1.size)).sum ≤ 100000) (hne : ps ≠ [])
    (h : ∀ b t k, b.size = (ps.map (·.1.size)).sum → Q (.bytes b t) { s with toks := k }) : wpAny (model prog w) A (call (.builtin "bytes.join") [.bytes #[] u, .ref l]) Q E s := by
  have hsl : sizeLine = 16777216 := sizeLine_eq
  obtain ⟨ol, hol, hoc, nl, hod⟩ := id hl
  refine wpAny_call_entry BF.slot_join rfl BF.entry_join ?_ (BF.args_join _ _)
  show wpAny _ _ (Builtin.Bytes.joinM .bytes ⟨[.bytes #[] u, .ref l], []⟩) _ _ _
  unfold Builtin.Bytes.joinM
  refine wpAny_bind (wpAny_of_eq (a := (.bytes #[] u, .ref l)) rfl ?_)
  try dsimp only
  refine wpAny_bind ?_
  unfold Builtin.Bytes.joinItems
  refine wpAny_bind (wpAny_typeOf hl.typeIs ?_)
  rw [if_pos (by decide)]
  refine wpAny_pure ?_
  have hseq : ∀ {Q' : Option (Array Value) → Shared → Prop} {s' : Shared}, s'.heap = s.heap → Q' (some (ps.map fun p => Value.bytes p.1 p.2).toArray) s' → wpAny (model prog w) A.in1 (seqItems? (.ref l)) Q' E s' := fun e q => by
    unfold seqItems?
    refine wpAny_bind (wpAny_load (by rw [e]; exact hol) ?_)
    rw [hod]
    exact wpAny_pure q
  refine wpAny_bind (hseq rfl ?_)
  try dsimp only
  rw [if_pos (by decide)]
  rcases ps with _ | ⟨p, _ | ⟨q, r⟩⟩
  · exact absurd rfl hne
  · show wpAny _ _ (typeOf (.bytes p.1 p.2) >>= _) _ _ _
    refine wpAny_bind (wpAny_typeOf (T := "bytes") rfl ?_)
    rw [if_pos (by decide)]
    exact wpAny_bind (wpAny_rule (wpAny_pure ⟨_, rfl, h p.1 p.2 s.toks (by simp)⟩))
  · show wpAny _ _ (forIn [:((p :: q :: r).map fun p => Value.bytes p.1 p.2).toArray.size] _ _ >>= _) _ _ _
    generalize p :: q :: r = ps at *
    clear p q r
    rw [Std.Legacy.Range.forIn_eq_forIn_range']
    have sz : (ps.map fun p => Value.bytes p.1 p.2).toArray.size = ps.length := by simp
    refine wpAny_bind ?_
    refine wpAny_forIn_list _ (fun rest b s' => s' = s ∧ ∃ i, i ≤ ps.length ∧ rest = List.range' i (ps.length - i) ∧ b = (((ps.take i).map (·.1)).toArray, (ps.take i).map fun p => (Value.bytes p.1 p.2, none))) _ ?_ ?_ _ _ ⟨rfl, 0, Nat.zero_le _, ?_, rfl⟩
    · rintro x rest b s' ⟨rfl, i, hi, hr, rfl⟩
      have hlt : i < ps.length := by
        rcases Nat.lt_or_ge i ps.length with h1 | h1
        · exact h1
        · rw [show ps.length - i = 0 from by omega] at hr
          exact absurd hr (by simp)
      rw [show ps.length - i = (ps.length - (i + 1)) + 1 from by omega, List.range'_succ] at hr
      obtain ⟨rfl, rfl⟩ := List.cons.inj hr
      have hx : (ps.map fun p => Value.bytes p.1 p.2).toArray.getD x Value.none = Value.bytes ps[x].1 ps[x].2 := by simp [hlt]
      have ht : ps.take (x + 1) = ps.take x ++ [ps[x]] := by rw [List.take_add_one]; simp [hlt]
      refine wpAny_bind (hseq rfl ?_)
      dsimp only
      have hh : (((ps.take x).map fun p => (Value.bytes p.1 p.2, (none : Option Value))).any fun y => y.1.onHeap) = false := by
        rw [List.any_map, List.any_eq_false]
        intro p _
        exact Bool.false_ne_true
      rw [if_neg (by rw [hh]; decide)]
      rw [hx]
      refine wpAny_bind (wpAny_holding (bj_take ?_))
      dsimp only
      refine wpAny_bind (hseq rfl ?_)
      dsimp only
      rw [if_neg (by simp)]
      refine wpAny_pure ⟨rfl, x + 1, hlt, rfl, ?_⟩
      rw [ht]
      simp only [List.map_append, List.map_cons, List.map_nil, List.push_toArray]
    · rintro b s' ⟨rfl, i, hi, hr, rfl⟩
      have hi' : i = ps.length := by
        rcases Nat.lt_or_ge i ps.length with h1 | h1
        · rw [show ps.length - i = (ps.length - (i + 1)) + 1 from by omega, List.range'_succ] at hr
          exact absurd hr (by simp)
        · omega
      subst hi'
      rw [List.take_length]
      dsimp only
      refine wpAny_bind (wpAny_of_eq (a := #[]) rfl ?_)
      have es : ((ps.map (·.1)).toArray.toList.map (·.size)).sum = (ps.map (·.1.size)).sum := by simp [Function.comp_def]
      rw [if_neg (by
        unfold Builtin.Bytes.tooLong
        rw [← Array.foldl_toList, foldl_size, es]
        simp
        omega)]
      have ej : (Builtin.Bytes.joined #[] (ps.map (·.1)).toArray.toList).size = (ps.map (·.1.size)).sum := by
        unfold Builtin.Bytes.joined
        rw [joined_size, es]
        simp
      refine wpAny_bind ?_
      show wpAny _ _ (mkBytes _) _ _ _
      refine wpAny_mkBytes ?_ (by rw [ej]; omega)
      refine wpAny_bind (wpAny_holding (wpAny_point ?_))
      refine wpAny_bind (bj_letGo _ (fun p hp => ?_) ?_)
      · obtain ⟨q, _, rfl⟩ := List.mem_map.mp hp
        rfl
      · exact wpAny_pure ⟨_, rfl, h _ _ _ ej⟩
    · rw [sz]
      simp [Std.Legacy.Range.size]
end
end Mine

namespace Mine
open PySem.Calls
section
variable {prog : Program} {w : World} {A : Around} {E : Value → Shared → Prop} {s : Shared} {env : Env}
theorem wpC_Call_method {o : Expr} {name : Str} {apos pos : Pos} {args : List Expr} {T id : String} {Q : Value → Shared → Prop}
    (pa : PlainAttrs T) (slot : Slot T name id) (hty : typeOf (.builtin id) = pure (.type "method_descriptor"))
    (hbase : attributeBase o name env (eval o env) = eval o env)
    (hform : methodCallForm (args.length + ([] : List Keyword).length) (backTo pos (starEach args env)) (backToKw pos (keywordEach [] env)) = true)
    (hline : (apos.endLine == pos.line) = true)
    (h : wpAny (model prog w) A (eval o env) (fun ov s₁ => s₁.TypeIs ov T ∧ (∀ a, ov = .ref a → ∃ ob, s₁.heap.get? a = some ob ∧ ob.dict = none) ∧
      wpC (model prog w) A (callWith pos (.builtin id) [ov] (backTo pos (starEach args env)) []) Q E s₁) E s) :
    wpC (model prog w) A (eval (.Call (.Attribute o name apos) args [] pos) env) Q E s := by
  rw [arm_eval_Call, hbase]
  refine wpC_first (wpAny_mono h (fun ov s₁ h₁ => ?_) fun _ _ e => e)
  obtain ⟨hT, hd, hc⟩ := h₁
  refine wpC_first (wpAny_standAt ?_)
  have hpos : methodCallPos true o env apos pos = pure pos := by unfold methodCallPos; simp [hline]
  unfold methodCall
  rw [hform]
  refine wpC_first (wpAny_holding (getMethod_builtin hT pa slot hty hd ?_))
  exact wpC_first (wpAny_of_eq hpos hc)
/-- b''.join([..]) -/
theorem wpC_join {k : Nat} {kp apos pos : Pos} {args : List Expr} {Q : Value → Shared → Prop}
    (hform : methodCallForm (args.length + ([] : List Keyword).length) (backTo pos (starEach args env)) (backToKw pos (keywordEach [] env)) = true)
    (hline : (apos.endLine == pos.line) = true)
    (h : ∀ u tk, wpC (model prog w) A (callWith pos (.builtin "bytes.join") [.bytes #[] u] (backTo pos (starEach args env)) []) Q E { s with toks := tk }) :
    wpC (model prog w) A (eval (.Call (.Attribute (.Constant (.bytes []) k kp) (Str.ofString "join") apos) args [] pos) env) Q E s :=
  wpC_Call_method FB.plainAttrs_bytes BF.slot_join BF.type_join rfl hform hline (Constant_bytes ⟨rfl, fun _ e => (nomatch e), h _ _⟩)
theorem subL_of {all : List (Addr × Obj)} : ∀ {l : List (Addr × Obj)}, (∀ p ∈ l, p ∈ all) → SubL l all
  | [], _ => trivial
  | _ :: _, h => ⟨h _ (.head _), subL_of fun p hp => h p (.tail _ hp)⟩
/-- what the end of a block asks -/
def CFin (C : Addr) (acc : Value) (Q : Value → Shared → Prop) (r : Result) (s' : Shared) : Prop :=
  match r with | .ok _ => ∃ m, s'.heap.Ns C m ∧ ∀ h', Heap.SameBut C s'.heap h' → Q acc { s' with heap := h' } | .error _ => False
def CSrc (M : Model) (A : Around) (env : Env) (elt iter : Expr) (nm : Str) (np : Pos) (scope : Scope) (pos : Pos) (Q : Value → Shared → Prop) (E : Value → Shared → Prop) (x : Value) (s₁ : Shared) : Prop :=
  wpAny M A (pyIter x) (fun it s₂ => wpAny M A (newList []) (fun acc s₃ => wpAny M A (newFunctionEnv scope env.globals [] [] env.qual none .none (some env)) (fun cenv s₄ =>
    codeC M A (.compStart (.ListComp elt [⟨.Name nm np, iter, [], 0⟩] scope pos) 0 it acc { cenv with scope := relabel scope env }) (CFin cenv.locals acc Q) s₄) E s₃) E s₂) E s₁
theorem wpC_standIf {α : Type} {M : Model} {c : Prop} [Decidable c] {pos : Pos} {k : PUnit → Sem α} {Q : α → Shared → Prop} (h : wpC M A (k ()) Q E s) :
    wpC M A (if c then (standAt pos >>= k) else k ()) Q E s := by
  split
  · exact wpC_standAt h
  · exact h
theorem wpC_ListComp {elt iter : Expr} {nm : Str} {np : Pos} {scope : Scope} {pos : Pos} {Q : Value → Shared → Prop}
    (hclos : closureFor scope env = pure []) (hkind : scope.kind = .function)
    (hnames : ∀ y ∈ scope.names, y.2 = .local → scope.names.lookup y.1 = some .local)
    (h : wpAny (model prog w) A (eval iter env) (CSrc (model prog w) A env elt iter nm np scope pos Q E) E s)
    (hs : ∀ x, foldedSetIterable iter env x = pure x := by intro _; rfl) :
    wpC (model prog w) A (eval (.ListComp elt [⟨.Name nm np, iter, [], 0⟩] scope pos) env) Q E s := by
  rw [eval_ListComp]
  show wpC _ A (comprehension (.ListComp elt [⟨.Name nm np, iter, [], 0⟩] scope pos) scope env _ (newList []) false (eval iter env) none) _ _ s
  unfold comprehension
  rw [hclos]
  refine wpC_first (wpAny_mono h (fun x s₁ h₁ => ?_) fun _ _ e => e)
  refine wpC_standAt ?_
  show wpC _ A (foldedSetIterable iter env x >>= _) _ _ s₁
  rw [hs x]
  refine wpC_first (wpAny_pure ?_)
  refine wpC_first (wpAny_holding (wpAny_mono h₁ (fun it s₂ h₂ => ?_) fun _ _ e => e))
  refine wpC_standIf ?_
  refine wpC_first (wpAny_mono h₂ (fun acc s₃ h₃ => ?_) fun _ _ e => e)
  refine wpC_first (wpAny_pure ?_)
  refine wpC_first (wpAny_mono h₃ (fun cenv s₄ h₄ => ?_) fun _ _ e => e)
  dsimp only
  have hv : ∀ x ∈ (scope.names.filter fun x => (x.2 == .local || x.2 == .cell) && x.1 != (".0" : Str)).reverse, x.2 = .local →
      Env.kindOf { cenv with scope := relabel scope env } x.1 = some .local := fun x hx hl => lookup_relabel_local (hnames x (List.mem_filter.mp (List.mem_reverse.mp hx)).1 hl)
  refine wpC_holding (wpC_bind (wpC_attempt (wpC_holding (wpC_run rfl (codeC_mono h₄ fun r s' hr => ?_)))))
  cases r with
  | error e => exact hr.elim
  | ok f =>
    obtain ⟨m, hn, hq⟩ := hr
    exact wpC_of_any (wpAny_bind (wpAny_holding (wpAny_comp_letGo (cenv := { cenv with scope := relabel scope env }) hkind _ s' m hv hn fun h' m' _ hs' => wpAny_pure (hq h' hs'))))
section
variable {h₀ : Heap} {L I l C D : Addr} {m m₂ : Str → Option Value} {news all keep : List (Addr × Obj)} {vs : List Value} {o oC : Obj} {R : Result → Shared → Prop}
  {elt iter : Expr} {nm : Str} {np : Pos} {scope : Scope} {pos : Pos}
theorem codeC_notedAt {α : Type} {M : Model} {t : Sem α} {k : Value → Sem Unit} {Q : α → Shared → Prop} (h : wpC M A t Q (fun _ _ => False) s) : wpC M A (t.onRaise k) Q E s := wpC_onRaise h
theorem codeC_compStart {it acc : Value}
    (h0 : codeC (model prog w) A (.compLoop (.ListComp elt [⟨.Name nm np, iter, [], 0⟩] scope pos) 0 it acc env) R s)
    (h : wpAny (model prog w) A (pyIter it) (fun it' s' => codeC (model prog w) A (.compLoop (.ListComp elt [⟨.Name nm np, iter, [], 0⟩] scope pos) 0 it' acc env) R s') (fun _ _ => False) s) :
    codeC (model prog w) A (.compStart (.ListComp elt [⟨.Name nm np, iter, [], 0⟩] scope pos) 0 it acc env) R s := by
  refine codeC_of_tree ?_
  show wpC _ _ ((compStart (.ListComp elt [⟨.Name nm np, iter, [], 0⟩] scope pos) 0 it acc env).onRaise (fun x => do noteFrame x env; standAt theWindowsPlace)) _ _ s
  rw [under_zero rfl rfl]
  refine wpC_onRaise ?_
  unfold compStart
  show wpC _ _ (ask >>= _) _ _ s
  refine wpC_first (wpAny_askSetting (?_))
  refine wpC_ite ?_
  split
  · first
      | exact wpC_bind (wpC_pure (wpC_pure ⟨rfl, rfl, h0⟩))
      | exact wpC_pure ⟨rfl, rfl, h0⟩
  · refine wpC_first (wpAny_rule ?_)
    show wpC _ _ (standAt iter.pos >>= _) _ _ s
    exact wpC_standAt (wpC_first (wpAny_mono h (fun it' s' h' => wpC_pure ⟨rfl, rfl, h'⟩) fun _ _ x => x))
theorem codeC_compLoop
    (h : wpAny (model prog w) A (pyNext (.ref I)) (fun r s₁ => match r with
      | none => R (.ok .next) s₁
      | some v => wpAny (model prog w) A (assign (.Name nm np) env v) (fun _ s₂ => wpC (model prog w) A (eval elt env) (fun x s₃ =>
          wpAny (model prog w) A (call (.builtin "list.append") [.ref D, x]) (fun _ s₄ => codeC (model prog w) A (.compLoop (.ListComp elt [⟨.Name nm np, iter, [], 0⟩] scope pos) 0 (.ref I) (.ref D) env) R s₄) (fun _ _ => False) s₃)
          (fun _ _ => False) s₂) (fun _ _ => False) s₁) (fun _ _ => False) s) :
    codeC (model prog w) A (.compLoop (.ListComp elt [⟨.Name nm np, iter, [], 0⟩] scope pos) 0 (.ref I) (.ref D) env) R s := by
  refine codeC_of_tree ?_
  rw [under_zero rfl rfl]
  show wpC _ _ ((compTurn (.ListComp elt [⟨.Name nm np, iter, [], 0⟩] scope pos) 0 (.ref I) (.ref D) env).onRaise (fun x => do noteFrame x env; theTreesLotGoes x)) _ _ s
  refine wpC_onRaise ?_
  rw [compTurn_list1]
  refine wpC_standAt (wpC_first (wpAny_mono h (fun r s₁ h₁ => ?_) fun _ _ h' => h'))
  cases r with
  | none => exact wpC_pure h₁
  | some v =>
    refine wpC_first (wpAny_of_eq (a := ()) rfl ?_)
    refine wpC_first (wpAny_mono h₁ (fun _ s₂ h₂ => ?_) fun _ _ h' => h')
    refine wpC_bind (wpC_bind (wpC_mono h₂ (fun x s₃ h₃ => ?_) fun _ _ h' => h'))
    exact wpC_first (wpAny_mono h₃ (fun _ s₄ h₄ => wpC_pure (wpC_pure ⟨rfl, rfl, h₄⟩)) fun _ _ h' => h')
/-- into a block over a list -/
theorem csrc_list {Q : Value → Shared → Prop} (F : Fr h₀ L s.heap m) (N : News h₀ L s.heap news) (hl : s.heap.IsList l vs.toArray)
    (hcell : ∀ y ∈ scope.names, y.2 ≠ .cell) (hkind : scope.kind = .function)
    (h : ∀ I o D C oC h' tk, LIter I l 0 o → LCg.NsObj oC (fun _ => none) → Fr h₀ L h' m → News h₀ L h' ((I, o) :: (C, oC) :: (D, PySem.W.listOf ([] : List Value).toArray 0) :: news) → (∀ p ∈ news, p.1 < I) → (∀ p ∈ (I, o) :: news, p.1 < D) → (∀ p ∈ (D, PySem.W.listOf ([] : List Value).toArray 0) :: (I, o) :: news, p.1 < C) →
      codeC (model prog w) A (.compLoop (.ListComp elt [⟨.Name nm np, iter, [], 0⟩] scope pos) 0 (.ref I) (.ref D) (compEnvC scope [] C env)) (CFin C (.ref D) Q) { s with heap := h', toks := tk }) :
    CSrc (model prog w) A env elt iter nm np scope pos Q E (.ref l) s := by
  unfold CSrc
  refine iter_list F N hl fun I o h1 hI F1 N1 _ l1 => ?_
  refine newList_K F1 N1 (fun D h2 F2 N2 l2 => ?_) (by simp [sizeLine_eq])
  refine wpAny_newFunctionEnv hcell (by intro y hy; simp at hy) (fun h3 hns hsb => ?_) hkind
  dsimp only at hns hsb ⊢
  have hk₁ : ∀ b o, h2.get? b = some o → h3.get? b = some o := fun b o e => hsb.extBut b o (Nat.ne_of_lt (Heap.lt_size e)) (Heap.get?_push_of_some _ e)
  obtain ⟨oC, hC, hCn⟩ := LCg.ns_obj hns
  have l3 : ∀ p ∈ (D, PySem.W.listOf ([] : List Value).toArray 0) :: (I, o) :: news, p.1 < h2.objs.size := fun p hp => Heap.lt_size (N2 p hp).1
  have F3 := F2.keeps hk₁
  have N3 : News h₀ L h3 ((h2.objs.size, oC) :: (D, PySem.W.listOf ([] : List Value).toArray 0) :: (I, o) :: news) := fun p hp => by
    rcases List.mem_cons.mp hp with rfl | hp
    · refine ⟨hC, fun e => ?_, ?_⟩
      · exact absurd (show h2.objs.size = L from e) (Nat.ne_of_gt F2.ns.lt)
      · cases q : h₀.get? h2.objs.size with
        | none => rfl
        | some o => exact absurd (Heap.lt_size (F2.keep _ _ q)) (Nat.lt_irrefl _)
    · exact ⟨hk₁ _ _ (N2 p hp).1, (N2 p hp).2⟩
  have loop := h I o D h2.objs.size oC h3 (s.toks + ([] : List (Str × Value)).length) hI hCn F3 (fun p hp => N3 p (by
    simp only [List.mem_cons] at hp ⊢
    rcases hp with h | h | h | h <;> simp [h])) l1 l2 l3
  refine codeC_compStart loop ?_
  refine wpAny_pyIter_listiter ⟨o, (N3 (I, o) (.tail _ (.tail _ (.head _)))).1, hI.1, hI.2⟩ ?_
  exact loop
theorem comp_turn {i : Nat} {v : Value} (F : Fr h₀ L s.heap m) (N : News h₀ L s.heap ((I, o) :: (C, oC) :: keep)) (ho : LIter I l i o) (hCn : LCg.NsObj oC m₂) (hoI : LCg.Off1 I keep) (hoC : LCg.Off1 C keep) (hIC : @Ne Nat I C)
    (hl : s.heap.IsList l vs.toArray) (hx : vs[i]? = some v) (hn : scope.names.lookup nm = some .local) (hkind : scope.kind = .function)
    (h : ∀ o' oC' m' h' tk, LIter I l (i + 1) o' → LCg.NsObj oC' m' → m' nm = some v → Fr h₀ L h' m → News h₀ L h' ((I, o') :: (C, oC') :: keep) →
      wpC (model prog w) A (eval elt (compEnvC scope [] C env)) (fun x s₃ =>
          wpAny (model prog w) A (call (.builtin "list.append") [.ref D, x]) (fun _ s₄ => codeC (model prog w) A (.compLoop (.ListComp elt [⟨.Name nm np, iter, [], 0⟩] scope pos) 0 (.ref I) (.ref D) (compEnvC scope [] C env)) R s₄) (fun _ _ => False) s₃)
          (fun _ _ => False) { s with heap := h', toks := tk }) :
    codeC (model prog w) A (.compLoop (.ListComp elt [⟨.Name nm np, iter, [], 0⟩] scope pos) 0 (.ref I) (.ref D) (compEnvC scope [] C env)) R s := by
  have off1 : ∀ {X : Addr} {k : List (Addr × Obj)}, LCg.Off1 X k → ∀ p ∈ k, p.1 ≠ X := fun {X} k => by
    induction k with
    | nil => intro _ p hp; exact nomatch hp
    | cons a r ih =>
      intro x p hp
      rcases List.mem_cons.mp hp with rfl | hp
      · exact x.1
      · exact ih x.2 p hp
  have hI : (I, o) ∈ (I, o) :: (C, oC) :: keep := .head _
  have hkC : SubL ((C, oC) :: keep) ((I, o) :: (C, oC) :: keep) := subL_of fun p hp => .tail _ hp
  have hoff : LoopKeep I ((C, oC) :: keep) := fun p hp => by
    rcases List.mem_cons.mp hp with rfl | hp
    · exact Ne.symm hIC
    · exact off1 hoI p hp
  refine codeC_compLoop (next_list F N ho hI hkC hoff hl hx fun o' h' ho' F' N' => ?_)
  refine wpAny_assign_Name (wpAny_storeName_local (lookup_relabel_local hn) (hCn.ns (N' (C, oC) (.tail _ (.head _))).1) (fun h₂ hn₂ hs₂ => ?_) (by simp [compEnvC, relabel, hkind]))
  obtain ⟨oC', heC, hC'⟩ := LCg.ns_obj hn₂
  have zC := (N' (C, oC) (.tail _ (.head _)))
  refine h o' oC' _ h₂ _ ho' hC' (by simp) (F'.change hs₂ zC.2.1 zC.2.2) fun p hp => ?_
  rcases List.mem_cons.mp hp with rfl | hp
  · exact ⟨hs₂.extBut _ _ hIC (N' _ (.head _)).1, (N' _ (.head _)).2⟩
  · rcases List.mem_cons.mp hp with rfl | hp
    · exact ⟨heC, zC.2⟩
    · have z := N' p (.tail _ (.tail _ hp))
      exact ⟨hs₂.extBut _ _ (off1 hoC p hp) z.1, z.2⟩
theorem comp_end {i : Nat} {Q : Value → Shared → Prop} (hh : A.handled = none) (F : Fr h₀ L s.heap m) (N : News h₀ L s.heap ((I, o) :: (C, oC) :: keep)) (ho : LIter I l i o) (hCn : LCg.NsObj oC m₂) (hoI : LCg.Off1 I keep) (hoC : LCg.Off1 C keep) (hIC : @Ne Nat I C)
    (hl : s.heap.IsList l vs.toArray) (hx : vs[i]? = none)
    (h : ∀ h', Fr h₀ L h' m → News h₀ L h' keep → Q (.ref D) { s with heap := h' }) :
    codeC (model prog w) A (.compLoop (.ListComp elt [⟨.Name nm np, iter, [], 0⟩] scope pos) 0 (.ref I) (.ref D) env) (CFin C (.ref D) Q) s := by
  have off1 : ∀ {X : Addr} {k : List (Addr × Obj)}, LCg.Off1 X k → ∀ p ∈ k, p.1 ≠ X := fun {X} k => by
    induction k with
    | nil => intro _ p hp; exact nomatch hp
    | cons a r ih =>
      intro x p hp
      rcases List.mem_cons.mp hp with rfl | hp
      · exact x.1
      · exact ih x.2 p hp
  have hI : (I, o) ∈ (I, o) :: (C, oC) :: keep := .head _
  have hkC : SubL ((C, oC) :: keep) ((I, o) :: (C, oC) :: keep) := subL_of fun p hp => .tail _ hp
  have hoff : LoopKeep I ((C, oC) :: keep) := fun p hp => by
    rcases List.mem_cons.mp hp with rfl | hp
    · exact Ne.symm hIC
    · exact off1 hoI p hp
  refine codeC_compLoop (next_list_end hh F N ho hI hkC hoff hl hx fun h' F' N' => ?_)
  have zC := N' (C, oC) (.head _)
  refine ⟨m₂, hCn.ns zC.1, fun h'' hs'' => h h'' (F'.change hs'' zC.2.1 zC.2.2) fun p hp => ?_⟩
  have z := N' p (.tail _ hp)
  exact ⟨hs''.extBut _ _ (off1 hoC p hp) z.1, z.2⟩
end
-- bytes.join for lists of one to three
theorem join1 {l : Addr} {u u1 : Tok} {b1 : Array UInt8} {n1 : Nat} {Q : Value → Shared → Prop} (hl : s.heap.IsList l [Value.bytes b1 u1].toArray) (e1 : b1.size = n1) (hz : n1 ≤ 100000)
    (h : ∀ b t k, b.size = n1 → Q (.bytes b t) { s with toks := k }) : wpAny (model prog w) A (call (.builtin "bytes.join") [.bytes #[] u, .ref l]) Q E s :=
  bytes_join (ps := [(b1, u1)]) hl (by simp [e1]; exact hz) (by simp) fun b t k e => h b t k (by simpa [e1] using e)
theorem join2 {l : Addr} {u u1 u2 : Tok} {b1 b2 : Array UInt8} {n1 n2 : Nat} {Q : Value → Shared → Prop} (hl : s.heap.IsList l [Value.bytes b1 u1, Value.bytes b2 u2].toArray) (e1 : b1.size = n1) (e2 : b2.size = n2) (hz : n1 + n2 ≤ 100000)
    (h : ∀ b t k, b.size = n1 + n2 → Q (.bytes b t) { s with toks := k }) : wpAny (model prog w) A (call (.builtin "bytes.join") [.bytes #[] u, .ref l]) Q E s :=
  bytes_join (ps := [(b1, u1), (b2, u2)]) hl (by simp [e1, e2]; exact hz) (by simp) fun b t k e => h b t k (by simpa [e1, e2] using e)
theorem join3 {l : Addr} {u u1 u2 u3 : Tok} {b1 b2 b3 : Array UInt8} {n1 n2 n3 : Nat} {Q : Value → Shared → Prop} (hl : s.heap.IsList l [Value.bytes b1 u1, Value.bytes b2 u2, Value.bytes b3 u3].toArray) (e1 : b1.size = n1) (e2 : b2.size = n2) (e3 : b3.size = n3) (hz : n1 + n2 + n3 ≤ 100000)
    (h : ∀ b t k, b.size = n1 + n2 + n3 → Q (.bytes b t) { s with toks := k }) : wpAny (model prog w) A (call (.builtin "bytes.join") [.bytes #[] u, .ref l]) Q E s :=
  bytes_join (ps := [(b1, u1), (b2, u2), (b3, u3)]) hl (by simp [e1, e2, e3]; omega) (by simp) fun b t k e => h b t k (by rw [e]; simp [e1, e2, e3]; omega)
end
end Mine

namespace Mine
open PySem.Calls
section
variable {prog : Program} {w : World} {A : Around} {E : Value → Shared → Prop} {s : Shared} {h₀ : Heap} {L t l : Addr} {m : Str → Option Value} {news : List (Addr × Obj)} {vs : List Value} {k : Nat}
abbrev tupObj (vs : List Value) (k : Nat) : Obj := ⟨.type "tuple", none, .seq vs.toArray k, #[]⟩
theorem tup_from_K {value slice : Expr} {a : Nat} {u : Tok} {Q : Value → Shared → Prop} (F : Fr h₀ L s.heap m) (N : News h₀ L s.heap news) (hm : (t, tupObj vs k) ∈ news) (h1 : 1 ≤ a) (ha : a ≤ vs.length) (hz : vs.length ≤ 1000)
    (h : ∀ D h', Fr h₀ L h' m → News h₀ L h' ((D, tupObj (vs.drop a) 0) :: news) → (∀ p ∈ news, p.1 < D) → Q (.ref D) { s with heap := h' })
    (hs : subscripted slice false (.ref t) (.ref s.heap.objs.size) = operate [.ref s.heap.objs.size, .ref t] (getItem (.ref t) (.ref s.heap.objs.size)))
    (hg : ∀ r, letTemporaryGo value (.ref t) r = pure ()) :
    wpAny (model prog w) A (subscriptTail value slice (.ref t) (.ref s.heap.objs.size)) Q E { s with heap := s.heap.push { cls := .type "slice", data := .fields #[.int a u, .none, .none] } } :=
  slice_tuple_from F N ⟨_, (N _ hm).1, rfl, _, rfl⟩ h1 (by simpa using ha) (fun h' F' N' => h _ h' F' (by simpa using N') fun p hp => Nat.lt_succ_of_lt (Heap.lt_size (N p hp).1)) hs hg (by simp [sizeLine_eq]; omega)
theorem rep_flat (n : Nat) (v : α) : (List.replicate n [v]).flatten = List.replicate n v := by
  induction n with
  | zero => rfl
  | succ n ih => rw [List.replicate_succ, List.flatten_cons, ih]; rfl
/-- bytes of a list of zeros -/
theorem bytes_zeros_K {n : Nat} {u : Tok} {Q : Value → Shared → Prop} (F : Fr h₀ L s.heap m) (N : News h₀ L s.heap news) (hm : (l, PySem.W.listOf (List.replicate n [Value.int 0 u]).flatten.toArray k) ∈ news) (hz : n ≤ 1000) (hh : A.handled = none)
    (h : ∀ h' b t k, Fr h₀ L h' m → News h₀ L h' news → b.size = n → Q (.bytes b t) { s with heap := h', toks := k }) : wpAny (model prog w) A (call (.type "bytes") [.ref l]) Q E s := by
  rw [rep_flat] at hm
  have hi : IntsAre (List.replicate n (Value.int 0 u)) (List.replicate n 0) := by
    clear hm hz h
    induction n with
    | zero => exact .nil
    | succ n ih => exact .cons _ _ ih
  refine bytes_K F N ⟨_, (N _ hm).1, rfl, _, rfl⟩ hi (fun x hx => by rw [(List.mem_replicate.mp hx).2]; decide) (by simp [sizeLine_eq]; omega) hh fun h' t k' F' N' _ => h h' _ t k' F' N' (by simp)
end
end Mine

namespace Mine
open PySem.Calls
theorem BF.int_noBytes : typeLookup (.type "int") "__bytes__" = pure none := by rw [typeLookup_type, builtinLookup_eq_fast]; kernel_rfl
section
variable {prog : Program} {w : World} {A : Around} {E : Value → Shared → Prop} {s : Shared}
theorem bytes_new_int {n : Int} {u : Tok} {Q : Value → Shared → Prop} (h0 : 0 ≤ n) (hz : n ≤ 1000)
    (h : Q (.bytes (Array.replicate n.toNat 0) s.toks) { s with toks := s.toks + 1 }) : codeAny (model prog w) A (.call (.builtin "bytes.__new__") ⟨[.type "bytes", .int n u], []⟩) (wants Q E) s := by
  have hl : sizeLine = 16777216 := sizeLine_eq
  refine codeAny_of_tree ?_
  show wpAny _ A.in1 (do checkBuiltinCall "bytes.__new__" ⟨[.type "bytes", .int n u], []⟩; again (.builtin "bytes.__new__" ⟨[.type "bytes", .int n u], []⟩)) _ _ s
  refine wpAny_bind (wpAny_of_eq (F.bm_newCall _) (wpAny_pure ⟨plainId_quiet F.bm_plain _, codeAny_builtin F.bm_entry ?_⟩))
  rw [Around.under_plainId F.bm_plain _]
  unfold Builtin.«bytes.__new__»
  refine wpAny_bind (wpAny_of_eq (a := true) rfl ?_)
  refine bm_if_false rfl ?_
  refine wpAny_bind (wpAny_of_eq F.bm_sub ?_)
  refine bm_if_false rfl ?_
  refine wpAny_bind (wpAny_of_eq (F.bm_bind _) ?_)
  refine wpAny_bind (wpAny_of_eq (a := ()) rfl ?_)
  refine wpAny_bind (wpAny_of_eq (a := ()) rfl ?_)
  refine bm_if_false rfl ?_
  refine wpAny_bind (wpAny_specialOf (T := "int") rfl BF.int_noBytes ?_)
  refine wpAny_bind (wpAny_bind (wpAny_of_eq (a := none) rfl (wpAny_pure ?_)))
  refine bm_if_false rfl ?_
  refine wpAny_bind (wpAny_specialOf (T := "int") rfl BF.int_index ?_)
  refine bm_if_false rfl ?_
  refine wpAny_bind (wpAny_attempt (wpAny_of_eq (a := n) rfl ?_))
  try dsimp only
  refine bm_if_false (by simp only [Builtin.Bytes.fitsIndex]; simp; omega) ?_
  refine wpAny_ite ?_
  rw [if_neg (by omega)]
  refine wpAny_ite ?_
  rw [if_neg (by simp; omega)]
  refine wpAny_ite ?_
  rw [if_neg (by simp [Builtin.Bytes.tooLong]; omega)]
  refine wpAny_bind (wpAny_rule ?_)
  refine wpAny_bind (wpAny_mkBytes ?_ (by simp [hl]; omega))
  show wpAny _ _ (if (Value.type "bytes" == Value.type "bytes") = true then _ else _) _ _ _
  refine bm_if_true (by decide) ?_
  first
    | exact wpAny_pure h
    | exact wpAny_bind (wpAny_pure (wpAny_pure h))
theorem call_bytes_int {n : Int} {u : Tok} {Q : Value → Shared → Prop} (h0 : 0 ≤ n) (hz : n ≤ 1000)
    (h : ∀ b t k, b.size = n.toNat → Q (.bytes b t) { s with toks := k }) : wpAny (model prog w) A (call (.type "bytes") [.int n u]) Q E s := by
  refine callType_codes (Q₁ := fun obj s₁ => s₁.TypeIs obj "bytes" ∧ Q obj s₁) F.bm_called (F.bm_typeCall _) F.entry_object_init (bytes_new_int h0 hz ⟨PySem.W.typeIs_bytes _ _ _, h _ _ _ (by simp)⟩) fun obj s₁ h₁ => ?_
  exact ⟨h₁.1, F.args_object_init_2 obj _, object_init_meets F.bm_called.init.lookup F.bm_called.made (by decide) prog w A.in1 _ s₁ ⟨h₁.1, rfl, h₁.2⟩⟩
theorem bytes_add_N {b c : Array UInt8} {t u : Tok} {n1 n2 : Nat} {Q : Value → Shared → Prop} (e1 : b.size = n1) (e2 : c.size = n2) (hz : n1 + n2 ≤ 100000) (h : ∀ d t' k, d.size = n1 + n2 → Q (.bytes d t') { s with toks := k }) :
    wpAny (model prog w) A (binaryOp .Add (.bytes b t) (.bytes c u)) Q E s :=
  KBy.add_bytes (by omega) fun t' k => h _ t' k (by simp [e1, e2])
theorem size_lit1 {x : UInt8} : ([x].toArray).size = 1 := rfl
theorem size_lit1' {x : UInt8} : (#[x] : Array UInt8).size = 1 := rfl
end
end Mine

namespace Mine
open PySem.Calls
theorem tup_from_S {prog : Program} {w : World} {A : Around} {E : Value → Shared → Prop} {hp h₀ : Heap} {gn} {dr} {tk : Nat} {os} {L t : Addr} {m : Str → Option Value} {news : List (Addr × Obj)} {vs : List Value} {k : Nat} {value slice : Expr} {a : Nat} {u : Tok} {Q : Value → Shared → Prop} (F : Fr h₀ L hp m) (N : News h₀ L hp news) (hm : (t, tupObj vs k) ∈ news) (h1 : 1 ≤ a) (ha : a ≤ vs.length) (hz : vs.length ≤ 1000)
    (h : ∀ D h', Fr h₀ L h' m → News h₀ L h' ((D, tupObj (vs.drop a) 0) :: news) → (∀ p ∈ news, p.1 < D) → Q (.ref D) ⟨h', gn, dr, tk, os⟩)
    (hs : subscripted slice false (.ref t) (.ref hp.objs.size) = operate [.ref hp.objs.size, .ref t] (getItem (.ref t) (.ref hp.objs.size)))
    (hg : ∀ r, letTemporaryGo value (.ref t) r = pure ()) :
    wpAny (model prog w) A (subscriptTail value slice (.ref t) (.ref hp.objs.size)) Q E ⟨hp.push { cls := .type "slice", data := .fields #[.int a u, .none, .none] }, gn, dr, tk, os⟩ :=
  tup_from_K (s := ⟨hp, gn, dr, tk, os⟩) F N hm h1 ha hz h hs hg
end Mine

namespace Mine
open PySem.Calls
section
variable {M : Model} {A : Around} {E : Value → Shared → Prop} {s : Shared} {env : Env}
theorem wpC_Tuple {elts : List Expr} {k : Nat} {pos : Pos} {Q : Value → Shared → Prop} (h : wpC M A (spliced (backTo pos (starEach elts env))) (fun vs s₁ => wpAny M A (newTuple vs) Q E s₁) E s) : wpC M A (eval (.Tuple elts k pos) env) Q E s := by
  rw [arm_eval_Tuple]
  exact wpC_standAt (wpC_bind (wpC_mono h (fun vs s₁ h₁ => wpC_of_any h₁) fun _ _ x => x))
theorem wpC_Assign_Tuple {elts : List Expr} {k : Nat} {tpos : Pos} {value : Expr} {pos : Pos} {Q : Flow → Shared → Prop}
    (hs : swapsWithSole [.Tuple elts k tpos] value pos.line env = pure false) (hw : swappedStores [.Tuple elts k tpos] value env = pure none)
    (h : wpC M A (eval value env) (fun v s₁ => wpAny M A (assign (.Tuple elts k tpos) env v) (fun _ => Q .next) E s₁) E s) :
    wpC M A (exec (.Assign [.Tuple elts k tpos] value pos) env) Q E s := by
  rw [exec_Assign]
  refine wpC_standAt ?_
  rw [hs]
  refine wpC_first (wpAny_pure ?_)
  rw [if_neg (by decide)]
  refine wpC_bind (wpC_mono h (fun v s₁ h₁ => ?_) fun _ _ x => x)
  rw [hw]
  refine wpC_first (wpAny_pure (wpC_of_any ?_))
  show wpAny M A (do assignAll v [assign (.Tuple elts k tpos) env]; pure .next) Q E s₁
  exact wpAny_bind (wpAny_mono h₁ (fun _ _ x => wpAny_pure x) fun _ _ x => x)
theorem wpC_Assign_Tuple_swapped {elts : List Expr} {k : Nat} {tpos : Pos} {value : Expr} {pos : Pos} {names : List Str} {Q : Flow → Shared → Prop}
    (hs : swapsWithSole [.Tuple elts k tpos] value pos.line env = pure false) (hw : swappedStores [.Tuple elts k tpos] value env = pure (some names))
    (h : wpC M A (eval value env) (fun v s₁ => wpAny M A (unpackItems v names.length none) (fun items s₂ =>
      wpAny M A (assignInOrder (names.reverse.map fun n => bindName env n) items.reverse) (fun _ => Q .next) E s₂) E s₁) E s) :
    wpC M A (exec (.Assign [.Tuple elts k tpos] value pos) env) Q E s := by
  rw [exec_Assign]
  refine wpC_standAt ?_
  rw [hs]
  refine wpC_first (wpAny_pure ?_)
  rw [if_neg (by decide)]
  refine wpC_bind (wpC_mono h (fun v s₁ h₁ => ?_) fun _ _ x => x)
  rw [hw]
  refine wpC_first (wpAny_pure (wpC_of_any ?_))
  show wpAny M A (do rule "assign.swapped-stores"; let items ← unpackItems v names.length none; assignInOrder (names.reverse.map fun n => bindName env n) items.reverse; pure .next) Q E s₁
  exact wpAny_bind (wpAny_rule (wpAny_bind (wpAny_mono h₁ (fun items s₂ h₂ => wpAny_bind (wpAny_mono h₂ (fun _ _ x => wpAny_pure x) fun _ _ x => x)) fun _ _ x => x)))
end
/-- the size of the rows R, asked of these ids and places, is T: shown wherever the entries es stand -/
def RowsOK (w : World) (ids pl R : Addr) (es : List (Addr × Obj)) (T : Int) : Prop := ∀ news : List (Addr × Obj), (∀ p ∈ es, p ∈ news) → CSC w 208 news [.ref ids, .ref pl, .ref R] 6 (IntIs T)
theorem rowsOK_use {w : World} {ids pl R : Addr} {es news : List (Addr × Obj)} {T : Int} (h : RowsOK w ids pl R es T) (hs : ∀ p ∈ es, p ∈ news) : CSC w 208 news [.ref ids, .ref pl, .ref R] 6 (IntIs T) := h news hs
/-- padding put upon the rows R: new rows, made of entries of the form Fd, whose size is T k -/
def PadOK (w : World) (ids pl R : Addr) (base : List (Addr × Obj)) (T : Int → Int) (Fd : Int → Addr → List (Addr × Obj) → Prop) : Prop :=
  ∀ (news : List (Addr × Obj)) (k : Int) (u : Tok), (∀ p ∈ base, p ∈ news) → 0 < k → k ≤ 1000 → CS w 215 news [.ref R, .int k u] 1 (fun v new => ∃ f, v = .ref f ∧ Fd k f new ∧ RowsOK w ids pl f (new ++ base) (T k))
theorem padOK_use {w : World} {ids pl R : Addr} {base news : List (Addr × Obj)} {T : Int → Int} {Fd : Int → Addr → List (Addr × Obj) → Prop} {k : Int} {u : Tok} (h : PadOK w ids pl R base T Fd) (hs : ∀ p ∈ base, p ∈ news) (h0 : 0 < k) (h1 : k ≤ 1000) :
    CS w 215 news [.ref R, .int k u] 1 (fun v new => ∃ f, v = .ref f ∧ Fd k f new ∧ RowsOK w ids pl f (new ++ base) (T k)) := h news k u hs h0 h1
end Mine

namespace Mine
open PySem.Calls
def goT (T : Int → Int) (goal : Int) : Nat → Int → Option Int
  | 0, k => if goal - T k > 0 then none else some k
  | n + 1, k => if goal - T k > 0 then goT T goal n (k + (goal - T k)) else some k
theorem goT_ge {T : Int → Int} {goal : Int} : ∀ {n : Nat} {k res : Int}, goT T goal n k = some res → k ≤ res
  | 0, k, res, h => by
    simp only [goT] at h
    split at h
    · cases h
    · cases h; exact Int.le_refl _
  | n + 1, k, res, h => by
    simp only [goT] at h
    split at h
    · have := goT_ge h
      omega
    · cases h; exact Int.le_refl _
theorem goT_stop {T : Int → Int} {goal : Int} : ∀ {n : Nat} {k res : Int}, goT T goal n k = some res → ¬ goal - T k > 0 → res = k
  | 0, k, res, h, g => by
    simp only [goT, if_neg g] at h
    cases h; rfl
  | n + 1, k, res, h, g => by
    simp only [goT, if_neg g] at h
    cases h; rfl
theorem goT_on {T : Int → Int} {goal : Int} : ∀ {n : Nat} {k res : Int}, goT T goal n k = some res → goal - T k > 0 → ∃ n', n = n' + 1 ∧ goT T goal n' (k + (goal - T k)) = some res
  | 0, k, res, h, g => by
    simp only [goT, if_pos g] at h
    cases h
  | n + 1, k, res, h, g => by
    simp only [goT, if_pos g] at h
    exact ⟨n, rfl, h⟩
/-- what is held as found: the rows themselves, or rows padded by k -/
def FoundR (w : World) (ids pl R : Addr) (base : List (Addr × Obj)) (T : Int → Int) (Fd : Int → Addr → List (Addr × Obj) → Prop) (fd : Addr) (es : List (Addr × Obj)) (k : Int) : Prop :=
  ((k = 0 ∧ fd = R ∧ es = []) ∨ (0 < k ∧ Fd k fd es)) ∧ RowsOK w ids pl fd (es ++ base) (T k)
structure FullAt (w : World) (ids pl R : Addr) (base : List (Addr × Obj)) (T : Int → Int) (Fd : Int → Addr → List (Addr × Obj) → Prop) (goal : Int) (g' : Heap) (L' : Addr) (fx : List (Str × Value)) (n : Nat) (res : Int) (fd : Addr) (es : List (Addr × Obj)) (k : Int) (h : Heap) (m : Str → Option Value) : Prop where
  F : Fr g' L' h m
  N : News g' L' h (es ++ base)
  found : m (Str.ofString "found") = some (.ref fd)
  lack : ∃ t, m (Str.ofString "lack") = some (.int k t)
  gap : ∃ t, m (Str.ofString "gap") = some (.int (goal - T k) t)
  fixed : ∀ x ∈ fx, m x.1 = some x.2
  isF : FoundR w ids pl R base T Fd fd es k
  pos : 0 ≤ k
  go : goT T goal n k = some res
def LoopOn (w : World) (ids pl R : Addr) (base : List (Addr × Obj)) (T : Int → Int) (Fd : Int → Addr → List (Addr × Obj) → Prop) (goal : Int) (g' : Heap) (L' : Addr) (fx : List (Str × Value)) (n : Nat) (res : Int) (s : Shared) (s' : Shared) : Prop :=
  ∃ n' fd es k h t m, n' < n ∧ s' = { s with heap := h, toks := t } ∧ FullAt w ids pl R base T Fd goal g' L' fx n' res fd es k h m
section
variable {prog : Program} {w : World} {A : Around} {s : Shared} {env : Env} {ids pl R : Addr} {base all : List (Addr × Obj)} {T : Int → Int} {Fd : Int → Addr → List (Addr × Obj) → Prop} {goal : Int} {g' : Heap} {L' : Addr} {fx : List (Str × Value)} {n : Nat} {res : Int}
theorem while_full {test : Expr} {body : List Stmt} {RR : Result → Shared → Prop}
    (turn : ∀ n fd es k h t m, FullAt w ids pl R base T Fd goal g' L' fx n res fd es k h m →
      wpAny (model prog w) A (isTrue test env (eval test env)) (fun b s₂ =>
        if b then wpC (model prog w) A (execs body env) (fun f s₃ => match f with
            | .next | .cont => LoopOn w ids pl R base T Fd goal g' L' fx n res s s₃
            | .brk => RR (.ok .next) s₃
            | .ret v => RR (.ok (.ret v)) s₃) (fun _ _ => False) s₂
        else RR (.ok .next) s₂) (fun _ _ => False) { s with heap := h, toks := t }) :
    ∀ n fd es k h t m, FullAt w ids pl R base T Fd goal g' L' fx n res fd es k h m → codeC (model prog w) A (.whileLoop test body [] env) RR { s with heap := h, toks := t } := by
  intro n
  induction n using Nat.strongRecOn with
  | ind n ih =>
    intro fd es k h t m H
    refine codeC_while prog w (wpAny_mono (turn n fd es k h t m H) (fun b s₂ hb => ?_) fun _ _ x => x)
    cases b with
    | false => exact hb
    | true =>
      refine wpC_mono hb (fun f s₃ hf => ?_) fun _ _ x => x
      cases f with
      | next =>
        obtain ⟨n', fd', es', k', h', t', m', hn, rfl, H'⟩ := hf
        exact ih n' hn _ _ _ _ _ _ H'
      | cont =>
        obtain ⟨n', fd', es', k', h', t', m', hn, rfl, H'⟩ := hf
        exact ih n' hn _ _ _ _ _ _ H'
      | brk => exact hf
      | ret v => exact hf
end
section
variable {w : World} {ids pl R : Addr} {base all es : List (Addr × Obj)} {T : Int → Int} {Fd : Int → Addr → List (Addr × Obj) → Prop} {goal res k : Int} {g' h : Heap} {L' fd : Addr} {fx : List (Str × Value)} {n : Nat} {m : Str → Option Value} {s : Shared} {t : Nat} {t1 t2 : Tok}
theorem fullAt_init (F : Fr g' L' h m) (N : News g' L' h all) (hsub : ∀ p ∈ base, p ∈ all) (hf : m (Str.ofString "found") = some (.ref R)) (hk : m (Str.ofString "lack") = some (.int 0 t1)) (hg : m (Str.ofString "gap") = some (.int (goal - T 0) t2))
    (hx : ∀ x ∈ fx, m x.1 = some x.2) (hR : RowsOK w ids pl R base (T 0)) (hgo : goT T goal n 0 = some res) : FullAt w ids pl R base T Fd goal g' L' fx n res R [] 0 h m :=
  ⟨F, fun p hp => N p (hsub p hp), hf, ⟨_, hk⟩, ⟨_, hg⟩, hx, ⟨.inl ⟨rfl, rfl, rfl⟩, hR⟩, Int.le_refl _, hgo⟩
theorem loopOn_intro (hgo : goT T goal n k = some res) (hc : goal - T k > 0) (hpos : 0 ≤ k) (F : Fr g' L' h m) (N : News g' L' h all) (hsub : ∀ p ∈ es ++ base, p ∈ all) (hf : m (Str.ofString "found") = some (.ref fd)) (hk : m (Str.ofString "lack") = some (.int (k + (goal - T k)) t1))
    (hg : m (Str.ofString "gap") = some (.int (goal - T (k + (goal - T k))) t2)) (hx : ∀ x ∈ fx, m x.1 = some x.2) (hF : Fd (k + (goal - T k)) fd es) (hr : RowsOK w ids pl fd (es ++ base) (T (k + (goal - T k)))) :
    LoopOn w ids pl R base T Fd goal g' L' fx n res s { s with heap := h, toks := t } := by
  obtain ⟨n', rfl, hn⟩ := goT_on hgo hc
  exact ⟨n', fd, es, _, h, t, m, Nat.lt_succ_self _, rfl, F, fun p hp => N p (hsub p hp), hf, ⟨_, hk⟩, ⟨_, hg⟩, hx, ⟨.inr ⟨by omega, hF⟩, hr⟩, by omega, hn⟩
end
/-- the result: the rows themselves, or rows padded by res -/
def FullPost (R : Addr) (Fd : Int → Addr → List (Addr × Obj) → Prop) (res : Int) (v : Value) (new : List (Addr × Obj)) : Prop :=
  (res = 0 ∧ v = .ref R ∧ new = []) ∨ (0 < res ∧ ∃ f, v = .ref f ∧ Fd res f new)
def fullLack (T : Int → Int) (size lack : Int) : Int := if T lack ≤ size then lack else if lack > 1 then lack - 1 else 0
section
variable {R fd : Addr} {Fd : Int → Addr → List (Addr × Obj) → Prop} {T : Int → Int} {size res k : Int} {es : List (Addr × Obj)}
theorem fullPost_found (hst : (k = 0 ∧ fd = R ∧ es = []) ∨ (0 < k ∧ Fd k fd es)) (hr : res = k) (hT : T k ≤ size) : FullPost R Fd (fullLack T size res) (.ref fd) es := by
  subst hr
  rw [show fullLack T size res = res from by simp [fullLack, hT]]
  rcases hst with ⟨a, rfl, rfl⟩ | ⟨a, b⟩
  · exact .inl ⟨a, rfl, rfl⟩
  · exact .inr ⟨a, _, rfl, b⟩
theorem fullPost_less (hr : res = k) (hT : ¬ T k ≤ size) (h1 : 1 < k) (g : Fd (k - 1) fd es) : FullPost R Fd (fullLack T size res) (.ref fd) es := by
  subst hr
  rw [show fullLack T size res = res - 1 from by simp [fullLack, hT, h1]]
  exact .inr ⟨by omega, _, rfl, g⟩
theorem fullPost_rows (hr : res = k) (hT : ¬ T k ≤ size) (h1 : ¬ 1 < k) : FullPost R Fd (fullLack T size res) (.ref R) [] := by
  subst hr
  rw [show fullLack T size res = 0 from by simp [fullLack, hT, h1]]
  exact .inl ⟨rfl, rfl, rfl⟩
end
theorem ld_name {M : Model} {A : Around} {E : Value → Shared → Prop} {s : Shared} {env : Env} {h₀ : Heap} {L : Addr} {m : Str → Option Value} {x : Str} {v : Value} {Q : Value → Shared → Prop} (F : Fr h₀ L s.heap m) (hL : env.locals = L) (hx : m x = some v) (h : Q v s)
    (hk : env.scope.kind = .function) (hl : env.kindOf x = some .local) : wpAny M A (loadName env x) Q E s := by
  subst hL
  exact wpAny_loadName_local hk hl F.ns hx h
theorem ld_frame {M : Model} {A : Around} {E : Value → Shared → Prop} {s : Shared} {env : Env} {h₀ : Heap} {L : Addr} {m : Str → Option Value} {x : Str} {pos : Pos} {v : Value} {Q : Value → Shared → Prop} (F : Fr h₀ L s.heap m) (hL : env.locals = L) (hx : m x = some v) (h : Q v s)
    (hk : env.scope.kind = .function) (hl : env.kindOf x = some .local) (hd : (x == ("__debug__" : Str)) = false) : wpAny M A (eval (.Name x pos) env) Q E s := by
  subst hL
  exact wpAny_Name (wpAny_loadName_local hk hl F.ns hx h) hd
end Mine

namespace Mine
/-- the law's own length of one packet: its kind, the sizes of the two ids, its payload -/
def lsz (kind : Nat) (d s : Nat) (q : Int) : Int :=
  match kind with
  | 0 => 1 + d + (17 + if 3 > q then 3 else q)
  | 1 => 7 + d + s + 1 + (if 17 + (if 3 > q then 3 else q) < 64 then 1 else 2) + (17 + if 3 > q then 3 else q)
  | _ => 7 + d + s + (if 17 + (if 3 > q then 3 else q) < 64 then 1 else 2) + (17 + if 3 > q then 3 else q)
/-- the numbers of a pick: what the loop finds, and that it is right -/
structure NumR (LT : Int → Int) (q g sl : Int) (lack : Int) : Prop where
  g0 : 0 ≤ g
  g5 : g ≤ 5
  l0 : 0 ≤ lack
  l1 : lack < g + 4
  right : ∀ i, 0 ≤ i → i < g + 4 → LT q + g ≤ LT (q + i) → LT (q + i) ≤ LT q + g + sl → LT q + g ≤ LT (q + lack) ∧ LT (q + lack) ≤ LT q + g + sl
  most : (∀ i, 0 ≤ i → i < g + 4 → ¬ (LT q + g ≤ LT (q + i) ∧ LT (q + i) ≤ LT q + g + sl)) → LT (q + lack) ≤ LT q + g + sl ∧ ∀ i, 0 ≤ i → i < g + 4 → LT (q + i) ≤ LT q + g + sl → LT (q + i) ≤ LT (q + lack)
/-- the length beyond the ids: what hangs on the payload alone -/
def lz (kind : Nat) (q : Int) : Int := lsz kind 0 0 q
theorem lsz_0 (d : Nat) (q : Int) : lsz 0 d 0 q = (d : Int) + lz 0 q := by simp only [lz, lsz]; omega
theorem lsz_1 (d s : Nat) (q : Int) : lsz 1 d s q = ((d : Int) + s) + lz 1 q := by simp only [lz, lsz]; omega
theorem lsz_2 (d s : Nat) (q : Int) : lsz 2 d s q = ((d : Int) + s) + lz 2 q := by simp only [lz, lsz]; omega
def inR (f : Int → Int) (g sl i : Int) : Bool := decide (f 0 + g ≤ f i) && decide (f i ≤ f 0 + g + sl)
def upTo9 : List Int := [0, 1, 2, 3, 4, 5, 6, 7, 8]
theorem mem_upTo9 {i : Int} (h0 : 0 ≤ i) (h1 : i < 9) : i ∈ upTo9 := by
  have : i = 0 ∨ i = 1 ∨ i = 2 ∨ i = 3 ∨ i = 4 ∨ i = 5 ∨ i = 6 ∨ i = 7 ∨ i = 8 := by omega
  rcases this with rfl | rfl | rfl | rfl | rfl | rfl | rfl | rfl | rfl <;> decide
/-- NumR, to be run: f i stands for the length with i more -/
def numB (f : Int → Int) (g sl lack : Int) : Bool :=
  decide (0 ≤ g) && decide (g ≤ 5) && decide (0 ≤ lack) && decide (lack < g + 4) &&
  (inR f g sl lack || upTo9.all fun i => !(decide (i < g + 4) && inR f g sl i)) &&
  (inR f g sl lack || (decide (f lack ≤ f 0 + g + sl) && upTo9.all fun i => !(decide (i < g + 4) && decide (f i ≤ f 0 + g + sl)) || decide (f i ≤ f lack)))
def goB (f : Int → Int) (g sl : Int) : Bool :=
  match goT f (f 0 + g) 6 0 with
  | some res => decide (0 ≤ res) && decide (res ≤ 1000) && numB f g sl (fullLack f (f 0 + g + sl) res)
  | none => false
theorem numR_of {f LT : Int → Int} {q g sl lack C : Int} (hf : ∀ i, LT (q + i) = C + f i) (h : numB f g sl lack = true) : NumR LT q g sl lack := by
  simp only [numB, Bool.and_eq_true, decide_eq_true_eq] at h
  obtain ⟨⟨⟨⟨⟨g0, g5⟩, l0⟩, l1⟩, hr⟩, hm⟩ := h
  have h0 : LT q = C + f 0 := by have := hf 0; rwa [Int.add_zero] at this
  have hin : ∀ i, inR f g sl i = true ↔ (LT q + g ≤ LT (q + i) ∧ LT (q + i) ≤ LT q + g + sl) := fun i => by
    rw [inR, Bool.and_eq_true, decide_eq_true_eq, decide_eq_true_eq, hf i, h0]
    omega
  refine ⟨g0, g5, l0, l1, fun i i0 i1 a b => ?_, fun hn => ?_⟩
  · rw [← hin lack]
    rcases Bool.or_eq_true _ _ ▸ hr with hr | hr
    · exact hr
    · have := List.all_eq_true.mp hr i (mem_upTo9 i0 (by omega))
      rw [(hin i).mpr ⟨a, b⟩, decide_eq_true i1] at this
      simp at this
  · have hno : inR f g sl lack ≠ true := fun e => hn lack l0 l1 ((hin lack).mp e)
    rcases Bool.or_eq_true _ _ ▸ hm with hm | hm
    · exact absurd hm hno
    · rw [Bool.and_eq_true, decide_eq_true_eq] at hm
      refine ⟨by rw [hf lack, h0]; omega, fun i i0 i1 hi => ?_⟩
      have := List.all_eq_true.mp hm.2 i (mem_upTo9 i0 (by omega))
      have hi' : f i ≤ f 0 + g + sl := by rw [hf i, h0] at hi; omega
      rw [decide_eq_true i1, decide_eq_true hi'] at this
      simp only [Bool.and_self, Bool.not_true, Bool.false_or, decide_eq_true_eq] at this
      rw [hf i, hf lack]
      omega
theorem goT_shift {f T : Int → Int} {C goal : Int} (hf : ∀ k, T k = C + f k) : ∀ (n : Nat) (k : Int), goT T (C + goal) n k = goT f goal n k
  | 0, k => by
    have e : C + goal - T k = goal - f k := by rw [hf k]; omega
    simp only [goT, e]
  | n + 1, k => by
    have e : C + goal - T k = goal - f k := by rw [hf k]; omega
    simp only [goT, e, goT_shift hf n]
theorem fullLack_shift {f T : Int → Int} {C size res : Int} (hf : ∀ k, T k = C + f k) : fullLack T (C + size) res = fullLack f size res := by
  simp only [fullLack, hf res]
  by_cases h : f res ≤ size
  · rw [if_pos h, if_pos (by omega)]
  · rw [if_neg h, if_neg (by omega)]
/-- all picks, but for what the ids add -/
theorem all_picks : ([0, 1, 2] : List Nat).all (fun kind => ([46, 45, 1, 47, 44, 2] : List Int).all fun q => ([1, 2, 3, 0, 5] : List Int).all fun g => ([0, 1] : List Int).all fun sl => goB (fun i => lz kind (q + i)) g sl) = true := by decide +kernel
theorem pick_num {LT : Int → Int} {C q g sl : Int} {kind : Nat} (hL : ∀ x, LT x = C + lz kind x) (hk : kind = 0 ∨ kind = 1 ∨ kind = 2) (hq : q = 46 ∨ q = 45 ∨ q = 1 ∨ q = 47 ∨ q = 44 ∨ q = 2) (hg : g = 1 ∨ g = 2 ∨ g = 3 ∨ g = 0 ∨ g = 5) (s0 : 0 ≤ sl) (s1 : sl < 2) :
    ∃ res, goT (fun k => LT (q + k)) (LT q + g) 6 0 = some res ∧ res ≤ 1000 ∧ NumR LT q g sl (fullLack (fun k => LT (q + k)) (LT q + g + sl) res) := by
  have hs : sl = 0 ∨ sl = 1 := by omega
  have h1 := List.all_eq_true.mp all_picks kind (by simp only [List.mem_cons, List.not_mem_nil, or_false]; exact hk)
  have h2 := List.all_eq_true.mp h1 q (by simp only [List.mem_cons, List.not_mem_nil, or_false]; exact hq)
  have h3 := List.all_eq_true.mp h2 g (by simp only [List.mem_cons, List.not_mem_nil, or_false]; exact hg)
  have h4 := List.all_eq_true.mp h3 sl (by simp only [List.mem_cons, List.not_mem_nil, or_false]; exact hs)
  have hf : ∀ i, LT (q + i) = C + (fun i => lz kind (q + i)) i := fun i => hL (q + i)
  have h0 : LT q = C + lz kind (q + 0) := by rw [Int.add_zero]; exact hL q
  have e1 : LT q + g = C + (lz kind (q + 0) + g) := by rw [h0]; omega
  have e2 : LT q + g + sl = C + (lz kind (q + 0) + g + sl) := by rw [h0]; omega
  unfold goB at h4
  rw [e2, e1, goT_shift hf]
  simp only [fullLack_shift hf]
  cases hr : goT (fun i => lz kind (q + i)) (lz kind (q + 0) + g) 6 0 with
  | none => rw [hr] at h4; cases h4
  | some res =>
    rw [hr] at h4
    simp only [Bool.and_eq_true, decide_eq_true_eq] at h4
    exact ⟨res, rfl, h4.1.2, numR_of hf h4.2⟩
end Mine

namespace Mine
open PySem.Calls
def GenV (v : Value) (P : Value → Prop) : Prop := P v
theorem genV_int {e : Int} {t : Tok} {P : Value → Prop} (h : ∀ i : Int, i = e → P (.int i t)) : GenV (.int e t) P := h e rfl
theorem genV_same {v : Value} {P : Value → Prop} (h : P v) : GenV v P := h
theorem execs_append (env : Env) : ∀ (a b : List Stmt), execs (a ++ b) env = (execs a env >>= fun f => match f with | .next => execs b env | f => pure f)
  | [], b => by
    show execs b env = (pure Flow.next >>= fun f => match f with | .next => execs b env | f => pure f)
    rw [pure_bind]
  | st :: r, b => by
    rw [List.cons_append, execs_cons, execs_cons, bind_assoc]
    congr 1
    funext f
    cases f with
    | next => exact execs_append env r b
    | brk => show pure Flow.brk = (pure Flow.brk >>= _); rw [pure_bind]
    | cont => show pure Flow.cont = (pure Flow.cont >>= _); rw [pure_bind]
    | ret v => show pure (Flow.ret v) = (pure (Flow.ret v) >>= _); rw [pure_bind]
section
variable {M : Model} {A : Around} {E : Value → Shared → Prop} {s : Shared} {env : Env}
theorem assign_gen {x pos' value pos} {Q : Flow → Shared → Prop} (hs : swapsWith value (some (.Name x pos')) pos.line env = pure false)
    (h : wpAny M A (eval value env) (fun v s₁ => GenV v fun v => wpAny M A (storeName env x v) (fun _ s₂ => Q .next s₂) E s₁) E s) : wpAny M A (exec (.Assign [.Name x pos'] value pos) env) Q E s :=
  wpAny_Assign_Name h hs
/-- a body cut in two: what holds at the cut, and the rest from there -/
theorem execs_cut {l : List Stmt} {Q : Flow → Shared → Prop} (n : Nat) (Mid : Shared → Prop) (h₁ : wpC M A (execs (l.take n) env) (fun f s' => f = .next ∧ Mid s') E s) (h₂ : ∀ s', Mid s' → wpC M A (execs (l.drop n) env) Q E s') : wpC M A (execs l env) Q E s := by
  conv => arg 3; rw [← List.take_append_drop n l]
  rw [execs_append]
  refine wpC_bind (wpC_mono h₁ (fun f s' hf => ?_) fun _ _ x => x)
  obtain ⟨rfl, hm⟩ := hf
  exact h₂ s' hm
end
end Mine

namespace Mine
open PySem.Calls
/-- what the law's own total is, asked with a list of sizes that ends with q -/
def TotOK (w : World) (ids nm : Addr) (oi on : Obj) (pre : List Value) (LT : Int → Int) : Prop :=
  ∀ (news : List (Addr × Obj)) (sz : Addr) (ks : Nat) (q : Int) (tq : Tok), (ids, oi) ∈ news → (nm, on) ∈ news → (sz, PySem.W.listOf (pre ++ [Value.int q tq]).toArray ks) ∈ news → CS w 229 news [.ref ids, .ref nm, .ref sz] 2 (IntIs (LT q))
theorem totOK_1 {w : World} {ids nm sz : Addr} {oi on : Obj} {LT : Int → Int} {news : List (Addr × Obj)} {ks : Nat} {q : Int} {tq : Tok} (h : TotOK w ids nm oi on [] LT) (m1 : (ids, oi) ∈ news) (m2 : (nm, on) ∈ news) (m3 : (sz, PySem.W.listOf [Value.int q tq].toArray ks) ∈ news) :
    CS w 229 news [.ref ids, .ref nm, .ref sz] 2 (IntIs (LT q)) := h news sz ks q tq m1 m2 m3
theorem totOK_2 {w : World} {ids nm sz : Addr} {oi on : Obj} {LT : Int → Int} {news : List (Addr × Obj)} {ks : Nat} {q x : Int} {tq tx : Tok} (h : TotOK w ids nm oi on [Value.int x tx] LT) (m1 : (ids, oi) ∈ news) (m2 : (nm, on) ∈ news) (m3 : (sz, PySem.W.listOf [Value.int x tx, Value.int q tq].toArray ks) ∈ news) :
    CS w 229 news [.ref ids, .ref nm, .ref sz] 2 (IntIs (LT q)) := h news sz ks q tq m1 m2 m3
/-- the numbers of a pick: what the loop finds, and that it is right -/
def InB (LT : Int → Int) (q g sl i : Int) : Bool := decide (LT q + g ≤ LT (q + i)) && decide (LT (q + i) ≤ LT q + g + sl)
structure NumOK (LT : Int → Int) (q g sl : Int) (lack : Int) : Prop where
  g0 : 0 ≤ g
  g5 : g ≤ 5
  l0 : 0 ≤ lack
  l1 : lack < g + 4
  right : (∃ i ∈ PyProof.Rows.rangeInts 0 1 (g + 4).toNat, InB LT q g sl i = true) → InB LT q g sl lack = true
  most : (∀ i ∈ PyProof.Rows.rangeInts 0 1 (g + 4).toNat, InB LT q g sl i = false) → LT (q + lack) ≤ LT q + g + sl ∧ ∀ i ∈ PyProof.Rows.rangeInts 0 1 (g + 4).toNat, LT (q + i) ≤ LT q + g + sl → LT (q + i) ≤ LT (q + lack)
/-- the state ahead of the last statements -/
structure Mid10 (w : World) (pre : List Value) (g' : Heap) (L' : Addr) (ids nm sz : Addr) (oi on : Obj) (ks : Nat) (tq tg ts tgo tla : Tok) (LT : Int → Int) (q g sl lack : Int) (h : Heap) (m : Str → Option Value) : Prop where
  F : Fr g' L' h m
  N : News g' L' h [(ids, oi), (nm, on), (sz, PySem.W.listOf (pre ++ [Value.int q tq]).toArray ks)]
  tot : TotOK w ids nm oi on pre LT
  num : NumOK LT q g sl lack
  m1 : m (Str.ofString "ids") = some (.ref ids)
  m2 : m (Str.ofString "names") = some (.ref nm)
  m3 : m (Str.ofString "sizes") = some (.ref sz)
  m4 : m (Str.ofString "payload") = some (.int q tq)
  m5 : m (Str.ofString "gap") = some (.int g tg)
  m6 : m (Str.ofString "slack") = some (.int sl ts)
  m7 : m (Str.ofString "goal") = some (.int (LT q + g) tgo)
  m8 : m (Str.ofString "lack") = some (.int lack tla)
section
variable {M : Model} {A : Around} {E : Value → Shared → Prop} {s : Shared} {env : Env}
theorem cut_at {g' : Heap} {L' : Addr} {m : Str → Option Value} {l : List Stmt} {Q : Flow → Shared → Prop} (n : Nat) (_F : Fr g' L' s.heap m) (Mid : Heap → Addr → Heap → Prop)
    (h₁ : wpC M A (execs (l.take n) env) (fun f s' => f = .next ∧ ∃ h t, s' = { s with heap := h, toks := t } ∧ Mid g' L' h) E s) (h₂ : ∀ h t, Mid g' L' h → wpC M A (execs (l.drop n) env) Q E { s with heap := h, toks := t }) : wpC M A (execs l env) Q E s :=
  execs_cut n (fun s' => ∃ h t, s' = { s with heap := h, toks := t } ∧ Mid g' L' h) h₁ fun s' ⟨h, t, e, hm⟩ => by subst e; exact h₂ h t hm
end
def TrueIs (v : Value) (new : List (Addr × Obj)) : Prop := new = [] ∧ v = .bool true
end Mine

namespace Mine
open PySem.Calls
section
variable {prog : Program} {w : World} {A₀ A : Around} {s : Shared} {base h₀ : Heap} {outer : List Env} {L : Addr} {m mg mb : Str → Option Value} {env : Env} {news led : List (Addr × Obj)} {K : Frag} {p : Program} {loose : List Str} {mean : ExcName → Option Value}
  {R : Result → Shared → Prop} {name qual : Str} {params : Arguments} {body : List Stmt} {scope : Scope} {dV kV doc pm cdv ct oc : Value} {an od : Option Addr} {osl : Array (Option Value)} {f : Addr} {args : Args} {binds : List (Str × Value)}
theorem codeC_defCL (led : List (Addr × Obj)) (hl : ∀ p ∈ led, p ∈ news) (B : Below A₀ base outer h₀) (F : Fr h₀ L s.heap m) (X₀ : K.In h₀) (N : News h₀ L s.heap news) (T : Top p loose mean mg mb h₀) (hA : A.frames = some (env :: outer)) (hf : env.frame = some L) (hke : env.scope.kind = .function)
    (ho : K.lookup f = some ⟨oc, od, .func (fnOf name qual params body scope dV kV doc pm an cdv ct), osl⟩) (hcd : codeIn K cdv qual = true) (hroom : A.depth < recursionLimit)
    (hbind : BindsTo s (fnOf name qual params body scope dV kV doc pm an cdv ct) args binds) (hkind : (binds.all fun y => scope.names.lookup y.1 == some .local || scope.names.lookup y.1 == some .cell) = true)
    (hnd : ((cellsFrom 0 scope.names []).map (·.1)).Nodup)
    (h : ∀ g L' h₁ tk cells, Fr h₀ L g m → Fr g L' h₁ (bindL (envOfC qual scope L' f cdv).kindOf binds fun _ => none) → News g L' h₁ (cells ++ led) →
      CellsAre (bindC (envOfC qual scope L' f cdv).kindOf binds fun _ => none) (cellsFrom (L' + 1) scope.names []) cells → Below A base (env :: outer) g → K.In g → Top p loose mean mg mb g → (∀ p ∈ led, p.1 < L') →
      wpC (model prog w) (A.deeper (envOfC qual scope L' f cdv)) (execs body (envOfC qual scope L' f cdv))
        (fun fl s' => LeaveK h₀ L m g (fun r s' => Back h₀ L led news (R r s') s'.heap) (match fl with | .ret v => v | _ => .none) s') (fun _ _ => False) { s with heap := h₁, toks := tk })
    (hco : scope.isCoroutine = false) (hgen : scope.isGenerator = false) (hk : scope.kind = .function) : codeC (model prog w) A (.call (.ref f) args) R s := by
  have NL : News h₀ L s.heap led := fun q hq => N q (hl q hq)
  obtain ⟨FG, BG, st, lv⟩ := groundX (R := fun r s' => Back h₀ L led news (R r s') s'.heap) B F NL hA hf hke
  have X := X₀.keeps F.keep
  refine codeC_call_function (fd := fnOf name qual params body scope dV kV doc pm an cdv ct) (body := body) hroom (X _ _ ho) rfl hco hgen rfl (codeRec_of X hcd) (hbind _ _ _ _ ?_)
  refine wpAny_newFunctionEnv_cells hk (kindsX hkind _) fun env' he s' x => ?_
  subst he
  refine ⟨(T.nolimit.keeps F.keep).keeps x.toInCall.keep, codeC_func ?_⟩
  obtain ⟨h₁, tk, rfl, _⟩ := x.done
  have hk₁ := x.toInCall.keep
  obtain ⟨cells, NC, Y⟩ := Cl.news (h₀ := s.heap) (Nat.le_refl _) fun n c hm => ⟨x.cell n c (lookup_of_mem_nodup (cellsFrom_names scope.names 0 (s.heap.objs.size + 1) [] [] rfl ▸ hnd) hm), x.above n c hm⟩
  refine wpC_mono (h _ s.heap.objs.size h₁ tk cells FG ⟨x.toInCall.ns, fun b o e => hk₁ b o (of_hideAll _ e), Nat.le_of_eq (hideAll_size _ _)⟩ (fun p hp => ?_) Y BG (X₀.keeps st) (T.keeps st) (fun p hp => Heap.lt_size (NL p hp).1)) (fun fl s' hl' => ?_) fun _ _ y => y
  · rcases List.mem_append.mp hp with hp | hp
    · refine ⟨(NC p hp).1, (NC p hp).2.1, ?_⟩
      cases q : (hideAll s.heap (led.map (·.1))).get? p.1 with
      | none => rfl
      | some o => have := of_hideAll _ q; rw [(NC p hp).2.2] at this; cases this
    · exact ⟨hk₁ _ _ (NL p hp).1, Nat.ne_of_lt (Heap.lt_size (NL p hp).1), hideAll_none _ (List.mem_map_of_mem hp)⟩
  · obtain ⟨L', m', news', F', N', k⟩ := id hl'
    exact lv _ _ hl' fun NL' => ledger_back N hl F' NL'
end
end Mine

namespace Mine
open PySem.Calls
section
variable {prog : Program} {w : World} {A : Around} {E : Value → Shared → Prop} {s : Shared}
theorem item_any {value slice : Expr} {l : Addr} {vs : List Value} {k : Int} {u : Tok} {Q : Value → Shared → Prop} (hl : s.heap.IsList l vs.toArray) (h0 : 0 ≤ k) (h1 : k < vs.length) (hz : vs.length ≤ 1000) (h : ∀ v ∈ vs, Q v s)
    (hs : subscripted slice false (.ref l) (.int k u) = operate [.ref l, .int k u] (getItem (.ref l) (.int k u))) : wpAny (model prog w) A (subscriptTail value slice (.ref l) (.int k u)) Q E s := by
  have hk : k.toNat < vs.length := by omega
  exact tail_any hl.typeIs slot_list_getitem.lookup (wpAny_getItem_list (x := vs[k.toNat]) hl h0 (by omega) (by simp [hk]) (h _ (List.getElem_mem hk))) hs
/-- an item of a list of ints, at a place of which only the bounds are known -/
theorem item_pick {value slice : Expr} {l : Addr} {vs : List Value} {ns : List Int} {k : Int} {u : Tok} {Q : Value → Shared → Prop} (hl : s.heap.IsList l vs.toArray) (hi : IntsAre vs ns) (h0 : 0 ≤ k) (h1 : k < ns.length) (hz : ns.length ≤ 1000) (h : ∀ v t, v ∈ ns → Q (.int v t) s)
    (hs : subscripted slice false (.ref l) (.int k u) = operate [.ref l, .int k u] (getItem (.ref l) (.int k u))) : wpAny (model prog w) A (subscriptTail value slice (.ref l) (.int k u)) Q E s := by
  refine item_any hl h0 (by rw [hi.length]; exact h1) (by rw [hi.length]; exact hz) (fun v hv => ?_) hs
  have : ∀ {vs : List Value} {ns : List Int}, IntsAre vs ns → ∀ v ∈ vs, ∃ n t, v = .int n t ∧ n ∈ ns := fun hi => by
    induction hi with
    | nil => intro v hv; exact nomatch hv
    | cons n t _ ih =>
      intro v hv
      rcases List.mem_cons.mp hv with rfl | hv
      · exact ⟨n, t, rfl, .head _⟩
      · obtain ⟨n', t', e, h⟩ := ih v hv
        exact ⟨n', t', e, .tail _ h⟩
  obtain ⟨n, t, rfl, hn⟩ := this hi v hv
  exact h n t hn
theorem call_bytes_small {c x m : Int} {u : Tok} {Q : Value → Shared → Prop} (h0 : 0 ≤ c) (hm : 0 < m) (hz : c * m ≤ 100) (h : ∀ b t k, b.size ≤ 100 → Q (.bytes b t) { s with toks := k }) : wpAny (model prog w) A (call (.type "bytes") [.int (c * x.fmod m) u]) Q E s := by
  have h1 : 0 ≤ x.fmod m := Int.fmod_nonneg_of_pos x hm
  have h2 : x.fmod m < m := Int.fmod_lt_of_pos x hm
  have h3 : 0 ≤ c * x.fmod m := Int.mul_nonneg h0 h1
  have h4 : c * x.fmod m ≤ c * m := Int.mul_le_mul_of_nonneg_left (Int.le_of_lt h2) h0
  exact call_bytes_int h3 (by omega) fun b t k e => h b t k (by omega)
end
end Mine

namespace Mine
open PySem.Calls
/-- the state ahead of the last statements -/
structure MidT (w : World) (pre : List Value) (g' : Heap) (L' : Addr) (ids nm sz : Addr) (oi on o1 o2 o3 o4 o5 o6 o7 : Obj) (ks : Nat) (tq tq2 tg ts tgo tla : Tok) (LT : Int → Int) (q g sl lack : Int) (h : Heap) (m : Str → Option Value) : Prop where
  F : Fr g' L' h m
  N : News g' L' h [(L' + 1 + 1 + 1 + 1 + 1 + 1 + 1, o1), (L' + 1 + 1 + 1 + 1 + 1 + 1, o2), (L' + 1 + 1 + 1 + 1 + 1, o3), (L' + 1 + 1 + 1 + 1, o4), (L' + 1 + 1 + 1, o5), (L' + 1 + 1, o6), (L' + 1, o7), (ids, oi), (nm, on), (sz, PySem.W.listOf (pre ++ [Value.int q tq2]).toArray ks)]
  lt1 : @_root_.LT.lt Nat _ (L' + 1 + 1 + 1 + 1 + 1 + 1 + 1) ids
  lt2 : @_root_.LT.lt Nat _ (L' + 1 + 1 + 1 + 1 + 1 + 1 + 1) nm
  lt3 : @_root_.LT.lt Nat _ (L' + 1 + 1 + 1 + 1 + 1 + 1 + 1) sz
  d7 : o7.data = .cell (some (.int q tq))
  d6 : o6.data = .cell (some (.int sl ts))
  d5 : o5.data = .cell (some (.ref nm))
  d4 : o4.data = .cell (some (.ref ids))
  d3 : o3.data = .cell (some (.ref sz))
  d2 : o2.data = .cell (some (.int (LT q + g) tgo))
  d1 : o1.data = .cell none
  tot : TotOK w ids nm oi on pre LT
  num : NumR LT q g sl lack
  q0 : 0 ≤ q
  q1 : q ≤ 100
  s0 : 0 ≤ sl
  s1 : sl ≤ 1
  m5 : m (Str.ofString "gap") = some (.int g tg)
  m8 : m (Str.ofString "lack") = some (.int lack tla)
def MidTAny (w : World) (g' : Heap) (L' : Addr) (h : Heap) : Prop := ∃ pre ids nm sz oi on o1 o2 o3 o4 o5 o6 o7 ks tq tq2 tg ts tgo tla LT q g sl lack m, (pre = [] ∨ ∃ t1, pre = [Value.int 1 t1]) ∧ MidT w pre g' L' ids nm sz oi on o1 o2 o3 o4 o5 o6 o7 ks tq tq2 tg ts tgo tla LT q g sl lack h m
theorem midT_intro {w : World} {pre : List Value} {g' : Heap} {L' : Addr} {ids nm sz : Addr} {oi on o1 o2 o3 o4 o5 o6 o7 : Obj} {ks : Nat} {tq tq2 tg ts tgo tla : Tok} {LT : Int → Int} {q g sl lack : Int} {h : Heap} {m : Str → Option Value} {all : List (Addr × Obj)}
    (F : Fr g' L' h m) (N : News g' L' h all) (n1 : (L' + 1 + 1 + 1 + 1 + 1 + 1 + 1, o1) ∈ all) (n2 : (L' + 1 + 1 + 1 + 1 + 1 + 1, o2) ∈ all) (n3 : (L' + 1 + 1 + 1 + 1 + 1, o3) ∈ all) (n4 : (L' + 1 + 1 + 1 + 1, o4) ∈ all)
    (n5 : (L' + 1 + 1 + 1, o5) ∈ all) (n6 : (L' + 1 + 1, o6) ∈ all) (n7 : (L' + 1, o7) ∈ all)
    (d7 : o7.data = .cell (some (.int q tq))) (d6 : o6.data = .cell (some (.int sl ts))) (d5 : o5.data = .cell (some (.ref nm))) (d4 : o4.data = .cell (some (.ref ids))) (d3 : o3.data = .cell (some (.ref sz))) (d2 : o2.data = .cell (some (.int (LT q + g) tgo))) (d1 : o1.data = .cell none)
    (n8 : (ids, oi) ∈ all) (n9 : (nm, on) ∈ all) (n10 : (sz, PySem.W.listOf (pre ++ [Value.int q tq2]).toArray ks) ∈ all)
    (lt1 : @_root_.LT.lt Nat _ (L' + 1 + 1 + 1 + 1 + 1 + 1 + 1) ids) (lt2 : @_root_.LT.lt Nat _ (L' + 1 + 1 + 1 + 1 + 1 + 1 + 1) nm) (lt3 : @_root_.LT.lt Nat _ (L' + 1 + 1 + 1 + 1 + 1 + 1 + 1) sz)
    (tot : TotOK w ids nm oi on pre LT) (num : NumR LT q g sl lack) (q0 : 1 ≤ q) (q1 : q ≤ 50) (s0 : 0 ≤ sl) (s1 : sl < 2) (m5 : m (Str.ofString "gap") = some (.int g tg)) (m8 : m (Str.ofString "lack") = some (.int lack tla)) (hpre : pre = [] ∨ ∃ t1, pre = [Value.int 1 t1]) : MidTAny w g' L' h :=
  ⟨pre, ids, nm, sz, oi, on, o1, o2, o3, o4, o5, o6, o7, ks, tq, tq2, tg, ts, tgo, tla, LT, q, g, sl, lack, m, hpre, F, fun p hp => by
    refine N p ?_
    simp only [List.mem_cons, List.not_mem_nil, or_false] at hp
    rcases hp with rfl | rfl | rfl | rfl | rfl | rfl | rfl | rfl | rfl | rfl
    all_goals assumption, lt1, lt2, lt3, d7, d6, d5, d4, d3, d2, d1, tot, num, by omega, by omega, s0, by omega, m5, m8⟩
/-- the state behind the totals -/
structure MidU (g' : Heap) (L' : Addr) (tl : Addr) (o1 o2 o6 : Obj) (ys : List Value) (ts tg tgo tla : Tok) (LT : Int → Int) (q g sl lack : Int) (h : Heap) (m : Str → Option Value) : Prop where
  F : Fr g' L' h m
  N : News g' L' h [(L' + 1 + 1 + 1 + 1 + 1 + 1 + 1, o1), (L' + 1 + 1 + 1 + 1 + 1 + 1, o2), (L' + 1 + 1, o6), (tl, LCg.lst ys)]
  d6 : o6.data = .cell (some (.int sl ts))
  d2 : o2.data = .cell (some (.int (LT q + g) tgo))
  d1 : o1.data = .cell (some (.ref tl))
  hys : IntsAre ys (List.map (fun k' => LT (q + k')) (rangeKs 0 (g + 4 - 0).toNat))
  num : NumR LT q g sl lack
  s0 : 0 ≤ sl
  s1 : sl ≤ 1
  m5 : m (Str.ofString "gap") = some (.int g tg)
  m8 : m (Str.ofString "lack") = some (.int lack tla)
def MidUAny (g' : Heap) (L' : Addr) (h : Heap) : Prop := ∃ tl o1 o2 o6 ys ts tg tgo tla LT q g sl lack m, MidU g' L' tl o1 o2 o6 ys ts tg tgo tla LT q g sl lack h m
theorem midU_intro {g' : Heap} {L' : Addr} {tl : Addr} {o1 o2 o6 : Obj} {ys : List Value} {ts tg tgo tla : Tok} {LT : Int → Int} {q g sl lack : Int} {h : Heap} {m : Str → Option Value} {all : List (Addr × Obj)} (F : Fr g' L' h m) (N : News g' L' h all)
    (n1 : (L' + 1 + 1 + 1 + 1 + 1 + 1 + 1, o1) ∈ all) (n2 : (L' + 1 + 1 + 1 + 1 + 1 + 1, o2) ∈ all) (n6 : (L' + 1 + 1, o6) ∈ all) (d1 : o1.data = .cell (some (.ref tl))) (d2 : o2.data = .cell (some (.int (LT q + g) tgo))) (d6 : o6.data = .cell (some (.int sl ts))) (nt : (tl, LCg.lst ys) ∈ all)
    (hys : IntsAre ys (List.map (fun k' => LT (q + k')) (rangeKs 0 (g + 4 - 0).toNat))) (num : NumR LT q g sl lack) (s0 : 0 ≤ sl) (s1 : sl ≤ 1) (m5 : m (Str.ofString "gap") = some (.int g tg)) (m8 : m (Str.ofString "lack") = some (.int lack tla)) : MidUAny g' L' h :=
  ⟨tl, o1, o2, o6, ys, ts, tg, tgo, tla, LT, q, g, sl, lack, m, F, fun p hp => by
    refine N p ?_
    simp only [List.mem_cons, List.not_mem_nil, or_false] at hp
    rcases hp with rfl | rfl | rfl | rfl <;> assumption, d6, d2, d1, hys, num, s0, s1, m5, m8⟩
end Mine

namespace Mine
open PySem.Calls
section
variable {prog : Program} {w : World} {A : Around} {E : Value → Shared → Prop} {s : Shared}
/-- an item of a list of ints made over a range, at a place within it -/
theorem item_map {value slice : Expr} {l : Addr} {ys : List Value} {f : Int → Int} {n : Nat} {k : Int} {u : Tok} {Q : Value → Shared → Prop} (hl : s.heap.IsList l ys.toArray) (hi : IntsAre ys (List.map f (rangeKs 0 n))) (h0 : 0 ≤ k) (h1 : k < (n : Int)) (hz : n ≤ 1000) (h : ∀ t, Q (.int (f k) t) s)
    (hs : subscripted slice false (.ref l) (.int k u) = operate [.ref l, .int k u] (getItem (.ref l) (.int k u))) : wpAny (model prog w) A (subscriptTail value slice (.ref l) (.int k u)) Q E s := by
  have hlen : ys.length = n := by rw [hi.length, List.length_map, rangeKs_length]
  have hk : k.toNat < ys.length := by omega
  obtain ⟨i, t, e, hx⟩ := IntsAre.at hi k.toNat ys[k.toNat] (by simp [hk])
  have hi2 : i = f k := by
    have : (List.map f (rangeKs 0 n))[k.toNat]? = some (f k) := by
      have hk' : k.toNat < n := by omega
      simp [rangeKs, hk', Int.max_eq_left h0]
    rw [this] at hx
    exact (Option.some.inj hx).symm
  exact tail_any hl.typeIs slot_list_getitem.lookup (wpAny_getItem_list (x := ys[k.toNat]) hl h0 (by omega) (by simp [hk]) (by rw [e, hi2]; exact h t)) hs
theorem item_mapG {value slice : Expr} {l : Addr} {ys : List Value} {f : Int → Int} {g k : Int} {u : Tok} {Q : Value → Shared → Prop} (hl : s.heap.IsList l ys.toArray) (hi : IntsAre ys (List.map f (rangeKs 0 (g + 4 - 0).toNat))) (h0 : 0 ≤ k) (h1 : k < 0 + ((g + 4 - 0).toNat : Int)) (hg : g ≤ 5) (h : ∀ t, Q (.int (f k) t) s)
    (hs : subscripted slice false (.ref l) (.int k u) = operate [.ref l, .int k u] (getItem (.ref l) (.int k u))) : wpAny (model prog w) A (subscriptTail value slice (.ref l) (.int k u)) Q E s :=
  item_map hl hi h0 (by omega) (by omega) h hs
end
def StopHere (P : Prop) : Prop := P
theorem stopHere {P : Prop} (h : StopHere P) : P := h
theorem small_g {g : Int} (h0 : 0 ≤ g) (h5 : g ≤ 5) : Builtin.Range.small 0 (g + 4) 1 = true := small_one (by omega) (by omega) (by omega) (by omega)
theorem size_g {g : Int} (h5 : g ≤ 5) : (g + 4 - 0).toNat ≤ sizeLine := by rw [PySem.sizeLine_eq]; omega
def TestIs (p : Bool) (s : Shared) (b : Bool) (s' : Shared) : Prop := b = p ∧ ∃ tk, s' = { s with toks := tk }
theorem testIs_of {p b : Bool} {s : Shared} {tk : Nat} (h : b = p) : TestIs p s b { s with toks := tk } := ⟨h, tk, rfl⟩
section
variable {prog : Program} {w : World} {A : Around} {h₀ : Heap} {L : Addr} {m : Str → Option Value} {env : Env} {ct : Expr} {x : Str} {px : Pos} {scope : Scope} {cl : List (Str × Addr)} {s : Shared} {S : List (Addr × Obj) → Prop} {P : Nat → Value → Prop} {Fin : List Value → List (Addr × Obj) → Prop} {news : List (Addr × Obj)}
/-- a block that filters ints by a test that answers p -/
theorem filt_rest {n : Nat} {ks : List Int} (p : Int → Bool) (hks : ks.length = n) (hP : ∀ i v, i < n → P i v → ∃ k t, ks[i]? = some k ∧ v = .int k t) (hS : S news) (hkind : scope.kind = .function) (hn : scope.names.lookup x = some .local) (hdb : (x == ("__debug__" : Str)) = false)
    (fin : ∀ ys, IntsAre ys (ks.filter p) → Fin ys news)
    (turn : ∀ k t C oC m₂ h tk (E' : Value → Shared → Prop), k ∈ ks → LCg.NsObj oC m₂ → m₂ x = some (.int k t) → Fr h₀ L h m → News h₀ L h ((C, oC) :: news) →
      wpAny (model prog w) A (isTrue ct (compEnvC scope cl C env) (eval ct (compEnvC scope cl C env))) (TestIs (p k) { s with heap := h, toks := tk }) E' { s with heap := h, toks := tk }) :
    LCt.CompRestT prog w A h₀ L m env ct (.Name x px) x scope cl s S P Fin n 0 [] news := by
  have key : ∀ (j i : Nat) (ys : List Value), i + j = n → IntsAre ys ((ks.take i).filter p) → LCt.CompRestT prog w A h₀ L m env ct (.Name x px) x scope cl s S P Fin j i ys news := by
    intro j
    induction j with
    | zero =>
      intro i ys hi hy
      have e : i = ks.length := by omega
      subst e
      rw [List.take_length] at hy
      exact LCt.CompRestT.zero (fin ys hy)
    | succ j ih =>
      intro i ys hi hy
      refine LCt.CompRestT.succ ?_
      intro v I oI C oC D m₂ h tk E' hv hC hx F N off ne
      obtain ⟨k, t, hk, hv'⟩ := hP i v (by omega) hv
      rw [hv'] at hx
      have hs : (ks.take (i + 1)).filter p = (ks.take i).filter p ++ if p k then [k] else [] := by
        rw [List.take_add_one, hk]
        simp [List.filter_cons]
      have N1 : News h₀ L h ((C, oC) :: news) := fun q hq => N q (by
        rcases List.mem_cons.mp hq with rfl | hq
        · simp
        · simp [hq])
      refine wpAny_mono (turn k t C oC m₂ h tk E' (List.mem_of_getElem? hk) hC hx F N1) (fun b s₂ hq => ?_) fun _ _ e => e
      obtain ⟨hb, tk', e⟩ := hq
      subst e
      cases b with
      | true =>
        simp only [if_true]
        refine LCgL.ld_own (C := C) (oC := oC) (m₂ := m₂) N1 (.head _) hC hx ?_ (by simp [compEnvC, relabel, hkind]) (lookup_relabel_local hn) hdb
        refine ⟨h, tk', news, rfl, F, N, off, hS, ih (i + 1) _ (by omega) ?_⟩
        rw [hs, ← hb]
        exact IntsAre.append hy (.cons k t .nil)
      | false =>
        simp only [Bool.false_eq_true, if_false]
        refine ⟨h, tk', news, rfl, F, N, off, hS, ih (i + 1) _ (by omega) ?_⟩
        rw [hs, ← hb]
        simpa using hy
  exact key n 0 [] (by omega) (by simp only [List.take_zero, List.filter_nil]; exact .nil)
theorem filt_range {n : Nat} {a : Int} (p : Int → Bool) (hS : S news) (hkind : scope.kind = .function) (hn : scope.names.lookup x = some .local) (hdb : (x == ("__debug__" : Str)) = false)
    (fin : ∀ ys, IntsAre ys ((rangeKs a n).filter p) → Fin ys news)
    (turn : ∀ k t C oC m₂ h tk (E' : Value → Shared → Prop), a ≤ k → k < a + (n : Int) → LCg.NsObj oC m₂ → m₂ x = some (.int k t) → Fr h₀ L h m → News h₀ L h ((C, oC) :: news) →
      wpAny (model prog w) A (isTrue ct (compEnvC scope cl C env) (eval ct (compEnvC scope cl C env))) (TestIs (p k) { s with heap := h, toks := tk }) E' { s with heap := h, toks := tk }) :
    LCt.CompRestT prog w A h₀ L m env ct (.Name x px) x scope cl s S (fun i v => ∃ t, v = .int (a + (i : Int)) t) Fin n 0 [] news :=
  filt_rest (ks := rangeKs a n) p (rangeKs_length a n) (fun i v hi hv => by
    obtain ⟨t, e⟩ := hv
    exact ⟨a + (i : Int), t, by simp [rangeKs, hi], e⟩) hS hkind hn hdb fin fun k t C oC m₂ h tk E' hk hC hx F N => turn k t C oC m₂ h tk E' (mem_rangeKs hk).1 (mem_rangeKs hk).2 hC hx F N
theorem filt_list {vs : List Value} {ns : List Int} (p : Int → Bool) (hi : IntsAre vs ns) (hS : S news) (hkind : scope.kind = .function) (hn : scope.names.lookup x = some .local) (hdb : (x == ("__debug__" : Str)) = false)
    (fin : ∀ ys, IntsAre ys (ns.filter p) → Fin ys news)
    (turn : ∀ k t C oC m₂ h tk (E' : Value → Shared → Prop), k ∈ ns → LCg.NsObj oC m₂ → m₂ x = some (.int k t) → Fr h₀ L h m → News h₀ L h ((C, oC) :: news) →
      wpAny (model prog w) A (isTrue ct (compEnvC scope cl C env) (eval ct (compEnvC scope cl C env))) (TestIs (p k) { s with heap := h, toks := tk }) E' { s with heap := h, toks := tk }) :
    LCt.CompRestT prog w A h₀ L m env ct (.Name x px) x scope cl s S (fun i v => vs.toArray[i]? = some v) Fin vs.toArray.size 0 [] news :=
  filt_rest (ks := ns) p (by rw [List.size_toArray]; exact hi.length.symm) (fun i v _ hv => by
    obtain ⟨k, t, e, hk⟩ := IntsAre.at hi i v (by simpa using hv)
    exact ⟨k, t, hk, e⟩) hS hkind hn hdb fin turn
end
theorem mem_range0 {g k : Int} (h0 : 0 ≤ k) (h1 : k < g + 4) : k ∈ rangeKs 0 (g + 4 - 0).toNat := by
  unfold rangeKs
  exact List.mem_map.mpr ⟨k.toNat, List.mem_range.mpr (by omega), by omega⟩
theorem of_mem0 {g k : Int} (h : k ∈ rangeKs 0 (g + 4 - 0).toNat) (g0 : 0 ≤ g) : 0 ≤ k ∧ k < g + 4 := by
  have := mem_rangeKs h
  omega
/-- the pick is right where some count does -/
theorem end_right {LT : Int → Int} {q g sl lack : Int} (h : NumR LT q g sl lack)
    (hne : decide (List.filter (fun k => decide (LT q + g ≤ LT (q + k)) && decide (LT (q + k) ≤ LT q + g + sl)) (rangeKs 0 (g + 4 - 0).toNat) = []) = false) :
    ((List.filter (fun k => decide (LT q + g ≤ LT (q + k)) && decide (LT (q + k) ≤ LT q + g + sl)) (rangeKs 0 (g + 4 - 0).toNat)).any fun x => x == lack) = true := by
  have hne' := of_decide_eq_false hne
  obtain ⟨x, hx⟩ := List.exists_mem_of_ne_nil _ hne'
  rw [List.mem_filter, Bool.and_eq_true, decide_eq_true_eq, decide_eq_true_eq] at hx
  have hb := of_mem0 hx.1 h.g0
  have hr := h.right x hb.1 hb.2 hx.2.1 hx.2.2
  rw [List.any_eq_true]
  refine ⟨lack, ?_, by simp⟩
  rw [List.mem_filter, Bool.and_eq_true, decide_eq_true_eq, decide_eq_true_eq]
  exact ⟨mem_range0 h.l0 h.l1, hr⟩
/-- none does: the totals are below -/
theorem none_does {LT : Int → Int} {q g sl : Int}
    (hne : decide (List.filter (fun k => decide (LT q + g ≤ LT (q + k)) && decide (LT (q + k) ≤ LT q + g + sl)) (rangeKs 0 (g + 4 - 0).toNat) = []) = true) :
    ∀ i, 0 ≤ i → i < g + 4 → ¬ (LT q + g ≤ LT (q + i) ∧ LT (q + i) ≤ LT q + g + sl) := by
  intro i h0 h1 hc
  have e := of_decide_eq_true hne
  have hm : i ∈ List.filter (fun k => decide (LT q + g ≤ LT (q + k)) && decide (LT (q + k) ≤ LT q + g + sl)) (rangeKs 0 (g + 4 - 0).toNat) := by
    rw [List.mem_filter, Bool.and_eq_true, decide_eq_true_eq, decide_eq_true_eq]
    exact ⟨mem_range0 h0 h1, hc⟩
  rw [e] at hm
  exact nomatch hm
theorem below_mem {LT : Int → Int} {q g sl lack : Int} (h : NumR LT q g sl lack) (hn : ∀ i, 0 ≤ i → i < g + 4 → ¬ (LT q + g ≤ LT (q + i) ∧ LT (q + i) ≤ LT q + g + sl)) :
    LT (q + lack) ∈ (List.map (fun k => LT (q + k)) (rangeKs 0 (g + 4 - 0).toNat)).filter (fun k => decide (k ≤ LT q + g + sl)) := by
  rw [List.mem_filter, decide_eq_true_eq]
  exact ⟨List.mem_map_of_mem (f := fun k => LT (q + k)) (mem_range0 h.l0 h.l1), (h.most hn).1⟩
theorem end_most {LT : Int → Int} {q g sl lack M : Int} (h : NumR LT q g sl lack) (hn : ∀ i, 0 ≤ i → i < g + 4 → ¬ (LT q + g ≤ LT (q + i) ∧ LT (q + i) ≤ LT q + g + sl))
    (hM : M ∈ (List.map (fun k => LT (q + k)) (rangeKs 0 (g + 4 - 0).toNat)).filter (fun k => decide (k ≤ LT q + g + sl)))
    (hge : ∀ x ∈ (List.map (fun k => LT (q + k)) (rangeKs 0 (g + 4 - 0).toNat)).filter (fun k => decide (k ≤ LT q + g + sl)), x ≤ M) : LT (q + lack) = M := by
  have h1 := hge _ (below_mem h hn)
  rw [List.mem_filter, decide_eq_true_eq] at hM
  obtain ⟨i, hi, e⟩ := List.mem_map.mp hM.1
  have hb := of_mem0 hi h.g0
  have h2 := (h.most hn).2 i hb.1 hb.2 (by show LT (q + i) ≤ _; have e' : LT (q + i) = M := e; rw [e']; exact hM.2)
  have e' : LT (q + i) = M := e
  omega
end Mine

namespace Mine
open PySem.Calls
def CutEnd (Mid : Heap → Prop) (s : Shared) (f : Flow) (s' : Shared) : Prop := f = .next ∧ ∃ h t, s' = { s with heap := h, toks := t } ∧ Mid h
theorem cutEnd_of {Mid : Heap → Prop} {s : Shared} {h : Heap} {t : Nat} (x : Mid h) : CutEnd Mid s .next { s with heap := h, toks := t } := ⟨rfl, h, t, rfl, x⟩
section
variable {M : Model} {A : Around} {E : Value → Shared → Prop} {s : Shared} {env : Env}
theorem cut_to {g' : Heap} {L' : Addr} {m : Str → Option Value} {l : List Stmt} {Q : Flow → Shared → Prop} (n : Nat) (_F : Fr g' L' s.heap m) (Mid : Heap → Addr → Heap → Prop)
    (h₁ : wpC M A (execs (l.take n) env) (CutEnd (Mid g' L') s) E s) (h₂ : ∀ h t, Mid g' L' h → wpC M A (execs (l.drop n) env) Q E { s with heap := h, toks := t }) : wpC M A (execs l env) Q E s :=
  execs_cut n (fun s' => ∃ h t, s' = { s with heap := h, toks := t } ∧ Mid g' L' h) h₁ fun s' ⟨h, t, e, hm⟩ => by subst e; exact h₂ h t hm
theorem cut2 {l : List Stmt} {Q : Flow → Shared → Prop} (n : Nat) (Mid : Heap → Prop)
    (h₁ : wpC M A (execs (l.take n) env) (CutEnd Mid s) E s) (h₂ : ∀ h t, Mid h → wpC M A (execs (l.drop n) env) Q E { s with heap := h, toks := t }) : wpC M A (execs l env) Q E s :=
  execs_cut n (fun s' => ∃ h t, s' = { s with heap := h, toks := t } ∧ Mid h) h₁ fun s' ⟨h, t, e, hm⟩ => by subst e; exact h₂ h t hm
end
theorem news_sub {g' h : Heap} {L' : Addr} {all led : List (Addr × Obj)} (N : News g' L' h all) (hs : SubL led all) : News g' L' h led := fun p hp => N p (hs.mem p hp)
/-- the names of a pick -/
def NamesOf (kind : Nat) (t0 t1 : Tok) : List Value :=
  match kind with
  | 0 => [.str (Str.ofString "handshake") t0]
  | 1 => [.str (Str.ofString "initial") t0]
  | 2 => [.str (Str.ofString "initial") t0, .str (Str.ofString "handshake") t1]
  | _ => [.str (Str.ofString "initial") t0, .str (Str.ofString "application") t1]
/-- the state behind the first three statements -/
structure Mid3 (g' : Heap) (L' : Addr) (ids nm : Addr) (o1 o2 o3 o4 o5 o6 o7 : Obj) (ki kn : Nat) (ud us : Tok) (bd bs : Array UInt8) (ns : List Value) (tq tg ts : Tok) (q g sl : Int) (h : Heap) (m : Str → Option Value) : Prop where
  F : Fr g' L' h m
  N : News g' L' h [(L' + 1 + 1 + 1 + 1 + 1 + 1 + 1, o1), (L' + 1 + 1 + 1 + 1 + 1 + 1, o2), (L' + 1 + 1 + 1 + 1 + 1, o3), (L' + 1 + 1 + 1 + 1, o4), (L' + 1 + 1 + 1, o5), (L' + 1 + 1, o6), (L' + 1, o7), (ids, tupObj [Value.bytes bd ud, Value.bytes bs us] ki), (nm, PySem.W.listOf ns.toArray kn)]
  lt1 : @_root_.LT.lt Nat _ (L' + 1 + 1 + 1 + 1 + 1 + 1 + 1) ids
  lt2 : @_root_.LT.lt Nat _ (L' + 1 + 1 + 1 + 1 + 1 + 1 + 1) nm
  lt3 : @_root_.LT.lt Nat _ nm ids
  d7 : o7.data = .cell (some (.int q tq))
  d6 : o6.data = .cell (some (.int sl ts))
  d5 : o5.data = .cell (some (.ref nm))
  d4 : o4.data = .cell (some (.ref ids))
  d3 : o3.data = .cell none
  d2 : o2.data = .cell none
  d1 : o1.data = .cell none
  m5 : m (Str.ofString "gap") = some (.int g tg)
  hq : q = 46 ∨ q = 45 ∨ q = 1 ∨ q = 47 ∨ q = 44 ∨ q = 2
  hg : g = 1 ∨ g = 2 ∨ g = 3 ∨ g = 0 ∨ g = 5
  s0 : 0 ≤ sl
  s1 : sl < 2
  hb : bd.size ≤ 100
  hs : bs.size ≤ 100
/-- the same at a heap, all else whatever it is -/
def Mid3At (ns : Tok → Tok → List Value) (g' : Heap) (L' : Addr) (h : Heap) : Prop :=
  ∃ ids nm o1 o2 o3 o4 o5 o6 o7 ki kn ud us bd bs t0 t1 tq tg ts q g sl m, Mid3 g' L' ids nm o1 o2 o3 o4 o5 o6 o7 ki kn ud us bd bs (ns t0 t1) tq tg ts q g sl h m
def Mid3Any (g' : Heap) (L' : Addr) (h : Heap) : Prop := Mid3At (NamesOf 0) g' L' h ∨ Mid3At (NamesOf 1) g' L' h ∨ Mid3At (NamesOf 2) g' L' h ∨ Mid3At (NamesOf 3) g' L' h
section
variable {g' : Heap} {L' : Addr} {ids nm : Addr} {o1 o2 o3 o4 o5 o6 o7 : Obj} {ki kn : Nat} {ud us : Tok} {bd bs : Array UInt8} {ns : List Value} {tq tg ts : Tok} {q g x : Int} {h : Heap} {m : Str → Option Value} {all : List (Addr × Obj)}
theorem mid3_intro {nsf : Tok → Tok → List Value} {t0 t1 : Tok} (F : Fr g' L' h m) (N : News g' L' h all) (n1 : (L' + 1 + 1 + 1 + 1 + 1 + 1 + 1, o1) ∈ all) (n2 : (L' + 1 + 1 + 1 + 1 + 1 + 1, o2) ∈ all) (n3 : (L' + 1 + 1 + 1 + 1 + 1, o3) ∈ all) (n4 : (L' + 1 + 1 + 1 + 1, o4) ∈ all)
    (n5 : (L' + 1 + 1 + 1, o5) ∈ all) (n6 : (L' + 1 + 1, o6) ∈ all) (n7 : (L' + 1, o7) ∈ all)
    (d7 : o7.data = .cell (some (.int q tq))) (d6 : o6.data = .cell (some (.int (x.fmod 2) ts))) (d5 : o5.data = .cell (some (.ref nm))) (d4 : o4.data = .cell (some (.ref ids))) (d3 : o3.data = .cell none) (d2 : o2.data = .cell none) (d1 : o1.data = .cell none)
    (n8 : (ids, tupObj [Value.bytes bd ud, Value.bytes bs us] ki) ∈ all) (n9 : (nm, PySem.W.listOf (nsf t0 t1).toArray kn) ∈ all)
    (lt1 : @_root_.LT.lt Nat _ (L' + 1 + 1 + 1 + 1 + 1 + 1 + 1) ids) (lt2 : @_root_.LT.lt Nat _ (L' + 1 + 1 + 1 + 1 + 1 + 1 + 1) nm) (lt3 : @_root_.LT.lt Nat _ nm ids)
    (m5 : m (Str.ofString "gap") = some (.int g tg)) (hq : q = 46 ∨ q = 45 ∨ q = 1 ∨ q = 47 ∨ q = 44 ∨ q = 2) (hg : g = 1 ∨ g = 2 ∨ g = 3 ∨ g = 0 ∨ g = 5) (hb : bd.size ≤ 100) (hs : bs.size ≤ 100) :
    Mid3At nsf g' L' h :=
  ⟨_, _, _, _, _, _, _, _, _, _, _, _, _, _, _, t0, t1, _, _, _, _, _, _, _, F, news_sub N ⟨n1, n2, n3, n4, n5, n6, n7, n8, n9, trivial⟩, lt1, lt2, lt3, d7, d6, d5, d4, d3, d2, d1, m5, hq, hg, Int.fmod_nonneg_of_pos x (by decide), Int.fmod_lt_of_pos x (by decide), hb, hs⟩
end
theorem compEnd3 {h₀ : Heap} {L I C D : Addr} {m : Str → Option Value} {s₁ : Shared} {oI oC oD : Obj} {S : List (Addr × Obj) → Prop} {restf : Value → List (Addr × Obj) → Prop} {y : Value} {h' : Heap} {tk : Nat} {e1 e2 e3 : Addr × Obj} {rest : List (Addr × Obj)}
    (F : Fr h₀ L h' m) (N : News h₀ L h' (e1 :: e2 :: e3 :: (I, oI) :: (C, oC) :: (D, oD) :: rest)) (off : LCg.Off3 I C D rest) (o1 : (@Ne Nat e1.1 I) ∧ (@Ne Nat e1.1 C) ∧ (@Ne Nat e1.1 D)) (o2 : (@Ne Nat e2.1 I) ∧ (@Ne Nat e2.1 C) ∧ (@Ne Nat e2.1 D)) (o3 : (@Ne Nat e3.1 I) ∧ (@Ne Nat e3.1 C) ∧ (@Ne Nat e3.1 D))
    (hS : S (e1 :: e2 :: e3 :: rest)) (r : restf y (e1 :: e2 :: e3 :: rest)) : LCg.CompEnd h₀ L m s₁ I oI C oC D oD S restf y { s₁ with heap := h', toks := tk } :=
  LCg.CompEnd.intro F N (e1 :: e2 :: e3 :: rest) (fun p hp => by
    simp only [List.mem_cons] at hp ⊢
    rcases hp with h | h | h | h | h | h | h <;> simp [h]) ⟨o1, o2, o3, off⟩ hS r
end Mine

namespace Mine
open PySem.Calls
/-- a turn's end: it goes on, the entries led stand -/
def TurnEnd (h₀ : Heap) (L : Addr) (led : List (Addr × Obj)) (s : Shared) (f : Flow) (s' : Shared) : Prop := f = .next ∧ ∃ h' tk' m', s' = { s with heap := h', toks := tk' } ∧ Fr h₀ L h' m' ∧ News h₀ L h' led
theorem turnEnd_of {h₀ h' : Heap} {L : Addr} {led all : List (Addr × Obj)} {s : Shared} {tk' : Nat} {m' : Str → Option Value} (F : Fr h₀ L h' m') (N : News h₀ L h' all) (hs : SubL led all) : TurnEnd h₀ L led s .next { s with heap := h', toks := tk' } :=
  ⟨rfl, h', tk', m', rfl, F, fun p hp => N p (hs.mem p hp)⟩
section
variable {prog : Program} {w : World} {A : Around} {s : Shared} {env : Env} {h₀ : Heap} {L I l : Addr} {vs : List Value} {ns : List Int} {kl : Nat} {nm : Str} {np : Pos} {body : List Stmt} {R : Result → Shared → Prop}
/-- a loop over a list of ints whose turns go on and leave what stands -/
theorem for_ints (hh : A.handled = none) (hi : IntsAre vs ns) (hIl : @Ne Nat l I) (hLe : env.locals = L) (hk : env.kindOf nm = some .local) (hp : (env.scope.kind == .class || (env.scope.kind == .module && env.locals != env.globals)) = false)
    (turn : ∀ k t h tk m o, Fr h₀ L h m → m nm = some (.int k t) → News h₀ L h [(I, o), (l, PySem.W.listOf vs.toArray kl)] →
      wpC (model prog w) A (execs body env) (TurnEnd h₀ L [(I, o), (l, PySem.W.listOf vs.toArray kl)] s) (fun _ _ => False) { s with heap := h, toks := tk })
    (fin : ∀ h tk m, Fr h₀ L h m → R (.ok .next) { s with heap := h, toks := tk }) :
    ∀ (j i : Nat), i + j = vs.length → ∀ h tk m o, LIter I l i o → Fr h₀ L h m → News h₀ L h [(I, o), (l, PySem.W.listOf vs.toArray kl)] → codeC (model prog w) A (.forLoop (.Name nm np) (.ref I) body [] env) R { s with heap := h, toks := tk } := by
  intro j
  induction j with
  | zero =>
    intro i hij h tk m o ho F N
    have hl : h.IsList l vs.toArray := ⟨_, (N _ (.tail _ (.head _))).1, rfl, kl, rfl⟩
    refine for_list_end (keep := []) hh F N ho (.head _) trivial (fun p hp => nomatch hp) hl (by simp; omega) fun h' F' N' => ?_
    exact fin h' tk m F'
  | succ j ih =>
    intro i hij h tk m o ho F N
    have hl : h.IsList l vs.toArray := ⟨_, (N _ (.tail _ (.head _))).1, rfl, kl, rfl⟩
    have hlt : i < vs.length := by omega
    obtain ⟨k, t, hv, _⟩ := IntsAre.at hi i vs[i] (by simp [hlt])
    refine for_list_N (keep := [(l, PySem.W.listOf vs.toArray kl)]) (x := .int k t) F N ho (.head _) ⟨.tail _ (.head _), trivial⟩ (fun p hp => ?_) hl (by rw [← hv]; simp [hlt]) fun o' h' ho' F' N' => ?_
    · rw [List.mem_singleton.mp hp]
      exact hIl
    · subst hLe
      refine wpAny_assign_Name (wpAny_storeName_local hk F'.ns (fun h₂ hn₂ hs₂ => ?_) hp)
      refine wpC_mono (turn k t h₂ _ _ o' (F'.set hn₂ hs₂) (if_pos rfl) (N'.set hs₂)) (fun f s' hf => ?_) fun _ _ x => x
      obtain ⟨rfl, h3, tk3, m3, rfl, F3, N3⟩ := hf
      exact ih (i + 1) (by omega) h3 tk3 m3 o' ho' F3 N3
end
section
variable {M : Model} {A : Around} {E : Value → Shared → Prop} {s : Shared} {env : Env}
theorem wpC_isTrue_Not {x : Expr} {pos : Pos} {whole : Sem Value} {Q : Bool → Shared → Prop} (h : wpC M A (isTrue x env (eval x env)) (fun b s₁ => Q (!b) s₁) E s) : wpC M A (isTrue (.UnaryOp .Not x pos) env whole) Q E s := by
  rw [arm_isTrue_UnaryOp]
  exact wpC_bind (wpC_mono h (fun b s₁ h₁ => wpC_pure h₁) fun _ _ x => x)
theorem wpC_isTrue_Call {f : Expr} {args : List Expr} {kws : List Keyword} {pos : Pos} {whole : Sem Value} {Q : Bool → Shared → Prop} (h : wpC M A whole (fun v s₁ => wpAny M A (truthy v) Q E s₁) E s) : wpC M A (isTrue (.Call f args kws pos) env whole) Q E s := by
  show wpC M A (whole >>= fun v => standAt (Expr.Call f args kws pos).pos >>= fun _ => holding [v] (truthy v)) Q E s
  exact wpC_bind (wpC_mono h (fun v s₁ h₁ => wpC_standAt (wpC_holding (wpC_of_any h₁))) fun _ _ x => x)
end
section
variable {prog : Program} {w : World} {A : Around} {R : Result → Shared → Prop} {s : Shared} {name : Str} {params : Arguments} {body : List Stmt} {scope : Scope} {dV kV pm cd doc : Value} {a : Addr} {o : Obj} {args : Args} {binds : List (Str × Value)}
/-- entering a def where no frame stands -/
theorem codeC_top (hroom : A.depth < recursionLimit) (ho : s.heap.get? a = some o) (hdata : o.data = .func { docDef name params body scope pm cd doc with defaults := dV, kwdefaults := kV }) (hlim : s.heap.NoLimit) (hcd : s.heap.CodeRec cd name)
    (hbind : BindsTo s { docDef name params body scope pm cd doc with defaults := dV, kwdefaults := kV } args binds) (hloc : ∀ x ∈ binds, scope.names.lookup x.1 = some .local)
    (h : ∀ h₁, Fr s.heap s.heap.objs.size h₁ (fun x => binds.reverse.lookup x) →
      wpC (model prog w) (A.deeper (envOf name scope s.heap.objs.size a cd)) (execs body (envOf name scope s.heap.objs.size a cd)) (fun f s' => R (.ok (.ret (match f with | .ret v => v | _ => .none))) s') (fun _ _ => False) { s with heap := h₁, toks := s.toks + binds.length })
    (hco : scope.isCoroutine = false) (hgen : scope.isGenerator = false) (hk : scope.kind = .function) (hcell : ∀ x ∈ scope.names, x.2 ≠ .cell) :
    codeC (model prog w) A (.call (.ref a) args) R s := by
  refine codeC_call_function (fd := { docDef name params body scope pm cd doc with defaults := dV, kwdefaults := kV }) (body := body) hroom ho hdata hco hgen rfl hcd (hbind _ _ _ _ ?_)
  refine wpAny_newFunctionEnv hcell hloc (fun h₁ hns hsb => ⟨hlim.fresh _ hsb, codeC_func ?_⟩) hk
  exact h h₁ ⟨hns, fun b o e => hsb.extBut b o (Nat.ne_of_lt (Heap.lt_size e)) (Heap.get?_push_of_some _ e), Nat.le_refl _⟩
end
end Mine
namespace Mine
open PySem.Calls
theorem fill1 : (fun (_ : OpenLaw) (_ : Params → Frag) => True) PySem.Challenge.rw_pf0266_01 hd.heap_1 := by
  k_fill
  trivial
abbrev sc42 : Scope := { kind := ScopeKind.function, names := [(Str.ofString "n", NameKind.local), (Str.ofString "size", NameKind.local), (Str.ofString "found", NameKind.local), (Str.ofString "place", NameKind.local), (Str.ofString "QuicError", NameKind.globalImplicit), (Str.ofString "INTERNAL_ERROR", NameKind.globalImplicit), (Str.ofString "bytearray", NameKind.globalImplicit), (Str.ofString "range", NameKind.globalImplicit), (Str.ofString "bytes", NameKind.globalImplicit)], isGenerator := false, isCoroutine := false }
theorem k42_n (L : Addr) : (envX (Str.ofString "put_whole") sc42 L 42 (Value.ref 41) []).kindOf (Str.ofString "n") = some .local := by kernel_rfl
theorem k42_size (L : Addr) : (envX (Str.ofString "put_whole") sc42 L 42 (Value.ref 41) []).kindOf (Str.ofString "size") = some .local := by kernel_rfl
theorem k42_found (L : Addr) : (envX (Str.ofString "put_whole") sc42 L 42 (Value.ref 41) []).kindOf (Str.ofString "found") = some .local := by kernel_rfl
theorem k42_place (L : Addr) : (envX (Str.ofString "put_whole") sc42 L 42 (Value.ref 41) []).kindOf (Str.ofString "place") = some .local := by kernel_rfl
theorem k42_bytearray (L : Addr) : (envX (Str.ofString "put_whole") sc42 L 42 (Value.ref 41) []).kindOf (Str.ofString "bytearray") = some .globalImplicit := by kernel_rfl
theorem k42_range (L : Addr) : (envX (Str.ofString "put_whole") sc42 L 42 (Value.ref 41) []).kindOf (Str.ofString "range") = some .globalImplicit := by kernel_rfl
theorem k42_bytes (L : Addr) : (envX (Str.ofString "put_whole") sc42 L 42 (Value.ref 41) []).kindOf (Str.ofString "bytes") = some .globalImplicit := by kernel_rfl
abbrev sc49 : Scope := { kind := ScopeKind.function, names := [(Str.ofString "n", NameKind.local), (Str.ofString "size", NameKind.local), (Str.ofString "VARINT_SIZES", NameKind.globalImplicit), (Str.ofString "QuicError", NameKind.globalImplicit), (Str.ofString "INTERNAL_ERROR", NameKind.globalImplicit)], isGenerator := false, isCoroutine := false }
theorem k49_n (L : Addr) : (envX (Str.ofString "varint_size") sc49 L 49 (Value.ref 48) []).kindOf (Str.ofString "n") = some .local := by kernel_rfl
theorem k49_size (L : Addr) : (envX (Str.ofString "varint_size") sc49 L 49 (Value.ref 48) []).kindOf (Str.ofString "size") = some .local := by kernel_rfl
theorem k49_VARINT_SIZES (L : Addr) : (envX (Str.ofString "varint_size") sc49 L 49 (Value.ref 48) []).kindOf (Str.ofString "VARINT_SIZES") = some .globalImplicit := by kernel_rfl
abbrev sc56 : Scope := { kind := ScopeKind.function, names := [(Str.ofString "n", NameKind.local), (Str.ofString "size", NameKind.local), (Str.ofString "least", NameKind.local), (Str.ofString "varint_size", NameKind.globalImplicit), (Str.ofString "VARINT_SIZES", NameKind.globalImplicit), (Str.ofString "QuicError", NameKind.globalImplicit), (Str.ofString "INTERNAL_ERROR", NameKind.globalImplicit), (Str.ofString "put_whole", NameKind.globalImplicit)], isGenerator := false, isCoroutine := false }
theorem k56_n (L : Addr) : (envX (Str.ofString "put_varint") sc56 L 56 (Value.ref 55) []).kindOf (Str.ofString "n") = some .local := by kernel_rfl
theorem k56_size (L : Addr) : (envX (Str.ofString "put_varint") sc56 L 56 (Value.ref 55) []).kindOf (Str.ofString "size") = some .local := by kernel_rfl
theorem k56_least (L : Addr) : (envX (Str.ofString "put_varint") sc56 L 56 (Value.ref 55) []).kindOf (Str.ofString "least") = some .local := by kernel_rfl
theorem k56_varint_size (L : Addr) : (envX (Str.ofString "put_varint") sc56 L 56 (Value.ref 55) []).kindOf (Str.ofString "varint_size") = some .globalImplicit := by kernel_rfl
theorem k56_VARINT_SIZES (L : Addr) : (envX (Str.ofString "put_varint") sc56 L 56 (Value.ref 55) []).kindOf (Str.ofString "VARINT_SIZES") = some .globalImplicit := by kernel_rfl
theorem k56_put_whole (L : Addr) : (envX (Str.ofString "put_varint") sc56 L 56 (Value.ref 55) []).kindOf (Str.ofString "put_whole") = some .globalImplicit := by kernel_rfl
abbrev sc62 : Scope := { kind := ScopeKind.function, names := [(Str.ofString "numbers", NameKind.local)], isGenerator := false, isCoroutine := false, more := [(Str.ofString "fast", Const.str (Str.ofString "numbers")), (Str.ofString "fast", Const.str (Str.ofString "number"))] }
theorem k62_numbers (L : Addr) : (envX (Str.ofString "put_numbers") sc62 L 62 (Value.ref 61) []).kindOf (Str.ofString "numbers") = some .local := by kernel_rfl
abbrev sc118 : Scope := { kind := ScopeKind.function, names := [(Str.ofString "f", NameKind.local), (Str.ofString "kind", NameKind.local), (Str.ofString "found", NameKind.local), (Str.ofString "bytes", NameKind.globalImplicit), (Str.ofString "NUMBER_FRAMES", NameKind.globalImplicit), (Str.ofString "put_numbers", NameKind.globalImplicit), (Str.ofString "list", NameKind.globalImplicit), (Str.ofString "put_ack", NameKind.globalImplicit), (Str.ofString "put_stream", NameKind.globalImplicit), (Str.ofString "put_new_cid", NameKind.globalImplicit), (Str.ofString "put_close", NameKind.globalImplicit), (Str.ofString "put_octets_frame", NameKind.globalImplicit), (Str.ofString "QuicError", NameKind.globalImplicit), (Str.ofString "INTERNAL_ERROR", NameKind.globalImplicit)], isGenerator := false, isCoroutine := false }
theorem k118_f (L : Addr) : (envX (Str.ofString "put_frame") sc118 L 118 (Value.ref 117) []).kindOf (Str.ofString "f") = some .local := by kernel_rfl
theorem k118_kind (L : Addr) : (envX (Str.ofString "put_frame") sc118 L 118 (Value.ref 117) []).kindOf (Str.ofString "kind") = some .local := by kernel_rfl
theorem k118_found (L : Addr) : (envX (Str.ofString "put_frame") sc118 L 118 (Value.ref 117) []).kindOf (Str.ofString "found") = some .local := by kernel_rfl
theorem k118_bytes (L : Addr) : (envX (Str.ofString "put_frame") sc118 L 118 (Value.ref 117) []).kindOf (Str.ofString "bytes") = some .globalImplicit := by kernel_rfl
theorem k118_NUMBER_FRAMES (L : Addr) : (envX (Str.ofString "put_frame") sc118 L 118 (Value.ref 117) []).kindOf (Str.ofString "NUMBER_FRAMES") = some .globalImplicit := by kernel_rfl
theorem k118_put_numbers (L : Addr) : (envX (Str.ofString "put_frame") sc118 L 118 (Value.ref 117) []).kindOf (Str.ofString "put_numbers") = some .globalImplicit := by kernel_rfl
theorem k118_list (L : Addr) : (envX (Str.ofString "put_frame") sc118 L 118 (Value.ref 117) []).kindOf (Str.ofString "list") = some .globalImplicit := by kernel_rfl
theorem k118_put_ack (L : Addr) : (envX (Str.ofString "put_frame") sc118 L 118 (Value.ref 117) []).kindOf (Str.ofString "put_ack") = some .globalImplicit := by kernel_rfl
theorem k118_put_stream (L : Addr) : (envX (Str.ofString "put_frame") sc118 L 118 (Value.ref 117) []).kindOf (Str.ofString "put_stream") = some .globalImplicit := by kernel_rfl
theorem k118_put_new_cid (L : Addr) : (envX (Str.ofString "put_frame") sc118 L 118 (Value.ref 117) []).kindOf (Str.ofString "put_new_cid") = some .globalImplicit := by kernel_rfl
theorem k118_put_close (L : Addr) : (envX (Str.ofString "put_frame") sc118 L 118 (Value.ref 117) []).kindOf (Str.ofString "put_close") = some .globalImplicit := by kernel_rfl
theorem k118_put_octets_frame (L : Addr) : (envX (Str.ofString "put_frame") sc118 L 118 (Value.ref 117) []).kindOf (Str.ofString "put_octets_frame") = some .globalImplicit := by kernel_rfl
abbrev sc123 : Scope := { kind := ScopeKind.function, names := [(Str.ofString "row", NameKind.local)], isGenerator := false, isCoroutine := false, more := [(Str.ofString "fast", Const.str (Str.ofString "row")), (Str.ofString "fast", Const.str (Str.ofString "f"))] }
theorem k123_row (L : Addr) : (envX (Str.ofString "put_frames") sc123 L 123 (Value.ref 122) []).kindOf (Str.ofString "row") = some .local := by kernel_rfl
abbrev sc166 : Scope := { kind := ScopeKind.function, names := [(Str.ofString "payload", NameKind.local), (Str.ofString "number_size", NameKind.local), (Str.ofString "lacking", NameKind.local), (Str.ofString "len", NameKind.globalImplicit), (Str.ofString "bytes", NameKind.globalImplicit)], isGenerator := false, isCoroutine := false }
theorem k166_payload (L : Addr) : (envX (Str.ofString "padded_payload") sc166 L 166 (Value.ref 165) []).kindOf (Str.ofString "payload") = some .local := by kernel_rfl
theorem k166_number_size (L : Addr) : (envX (Str.ofString "padded_payload") sc166 L 166 (Value.ref 165) []).kindOf (Str.ofString "number_size") = some .local := by kernel_rfl
theorem k166_lacking (L : Addr) : (envX (Str.ofString "padded_payload") sc166 L 166 (Value.ref 165) []).kindOf (Str.ofString "lacking") = some .local := by kernel_rfl
theorem k166_len (L : Addr) : (envX (Str.ofString "padded_payload") sc166 L 166 (Value.ref 165) []).kindOf (Str.ofString "len") = some .globalImplicit := by kernel_rfl
theorem k166_bytes (L : Addr) : (envX (Str.ofString "padded_payload") sc166 L 166 (Value.ref 165) []).kindOf (Str.ofString "bytes") = some .globalImplicit := by kernel_rfl
abbrev sc138 : Scope := { kind := ScopeKind.function, names := [(Str.ofString "kind", NameKind.local), (Str.ofString "low_bits", NameKind.local), (Str.ofString "LONG_KINDS", NameKind.globalImplicit)], isGenerator := false, isCoroutine := false }
theorem k138_kind (L : Addr) : (envX (Str.ofString "long_first") sc138 L 138 (Value.ref 137) []).kindOf (Str.ofString "kind") = some .local := by kernel_rfl
theorem k138_low_bits (L : Addr) : (envX (Str.ofString "long_first") sc138 L 138 (Value.ref 137) []).kindOf (Str.ofString "low_bits") = some .local := by kernel_rfl
theorem k138_LONG_KINDS (L : Addr) : (envX (Str.ofString "long_first") sc138 L 138 (Value.ref 137) []).kindOf (Str.ofString "LONG_KINDS") = some .globalImplicit := by kernel_rfl
abbrev sc131 : Scope := { kind := ScopeKind.function, names := [(Str.ofString "dcid", NameKind.local), (Str.ofString "scid", NameKind.local), (Str.ofString "bytes", NameKind.globalImplicit), (Str.ofString "len", NameKind.globalImplicit)], isGenerator := false, isCoroutine := false }
theorem k131_dcid (L : Addr) : (envX (Str.ofString "put_ids") sc131 L 131 (Value.ref 130) []).kindOf (Str.ofString "dcid") = some .local := by kernel_rfl
theorem k131_scid (L : Addr) : (envX (Str.ofString "put_ids") sc131 L 131 (Value.ref 130) []).kindOf (Str.ofString "scid") = some .local := by kernel_rfl
theorem k131_bytes (L : Addr) : (envX (Str.ofString "put_ids") sc131 L 131 (Value.ref 130) []).kindOf (Str.ofString "bytes") = some .globalImplicit := by kernel_rfl
theorem k131_len (L : Addr) : (envX (Str.ofString "put_ids") sc131 L 131 (Value.ref 130) []).kindOf (Str.ofString "len") = some .globalImplicit := by kernel_rfl
abbrev sc173 : Scope := { kind := ScopeKind.function, names := [(Str.ofString "spin", NameKind.local), (Str.ofString "key_phase", NameKind.local), (Str.ofString "dcid", NameKind.local), (Str.ofString "number_size", NameKind.local), (Str.ofString "bytes", NameKind.globalImplicit)], isGenerator := false, isCoroutine := false }
theorem k173_spin (L : Addr) : (envX (Str.ofString "short_head") sc173 L 173 (Value.ref 172) []).kindOf (Str.ofString "spin") = some .local := by kernel_rfl
theorem k173_key_phase (L : Addr) : (envX (Str.ofString "short_head") sc173 L 173 (Value.ref 172) []).kindOf (Str.ofString "key_phase") = some .local := by kernel_rfl
theorem k173_dcid (L : Addr) : (envX (Str.ofString "short_head") sc173 L 173 (Value.ref 172) []).kindOf (Str.ofString "dcid") = some .local := by kernel_rfl
theorem k173_number_size (L : Addr) : (envX (Str.ofString "short_head") sc173 L 173 (Value.ref 172) []).kindOf (Str.ofString "number_size") = some .local := by kernel_rfl
theorem k173_bytes (L : Addr) : (envX (Str.ofString "short_head") sc173 L 173 (Value.ref 172) []).kindOf (Str.ofString "bytes") = some .globalImplicit := by kernel_rfl
abbrev sc152 : Scope := { kind := ScopeKind.function, names := [(Str.ofString "full", NameKind.local), (Str.ofString "largest_acked", NameKind.local), (Str.ofString "apart", NameKind.local), (Str.ofString "size", NameKind.local), (Str.ofString "range", NameKind.globalImplicit), (Str.ofString "MOST_OCTETS", NameKind.globalImplicit), (Str.ofString "QuicError", NameKind.globalImplicit), (Str.ofString "INTERNAL_ERROR", NameKind.globalImplicit)], isGenerator := false, isCoroutine := false }
theorem k152_full (L : Addr) : (envX (Str.ofString "number_size") sc152 L 152 (Value.ref 151) []).kindOf (Str.ofString "full") = some .local := by kernel_rfl
theorem k152_largest_acked (L : Addr) : (envX (Str.ofString "number_size") sc152 L 152 (Value.ref 151) []).kindOf (Str.ofString "largest_acked") = some .local := by kernel_rfl
theorem k152_apart (L : Addr) : (envX (Str.ofString "number_size") sc152 L 152 (Value.ref 151) []).kindOf (Str.ofString "apart") = some .local := by kernel_rfl
theorem k152_size (L : Addr) : (envX (Str.ofString "number_size") sc152 L 152 (Value.ref 151) []).kindOf (Str.ofString "size") = some .local := by kernel_rfl
theorem k152_range (L : Addr) : (envX (Str.ofString "number_size") sc152 L 152 (Value.ref 151) []).kindOf (Str.ofString "range") = some .globalImplicit := by kernel_rfl
theorem k152_MOST_OCTETS (L : Addr) : (envX (Str.ofString "number_size") sc152 L 152 (Value.ref 151) []).kindOf (Str.ofString "MOST_OCTETS") = some .globalImplicit := by kernel_rfl
abbrev sc159 : Scope := { kind := ScopeKind.function, names := [(Str.ofString "full", NameKind.local), (Str.ofString "largest_acked", NameKind.local), (Str.ofString "size", NameKind.local), (Str.ofString "number_size", NameKind.globalImplicit), (Str.ofString "put_whole", NameKind.globalImplicit)], isGenerator := false, isCoroutine := false }
theorem k159_full (L : Addr) : (envX (Str.ofString "cut_number") sc159 L 159 (Value.ref 158) []).kindOf (Str.ofString "full") = some .local := by kernel_rfl
theorem k159_largest_acked (L : Addr) : (envX (Str.ofString "cut_number") sc159 L 159 (Value.ref 158) []).kindOf (Str.ofString "largest_acked") = some .local := by kernel_rfl
theorem k159_size (L : Addr) : (envX (Str.ofString "cut_number") sc159 L 159 (Value.ref 158) []).kindOf (Str.ofString "size") = some .local := by kernel_rfl
theorem k159_number_size (L : Addr) : (envX (Str.ofString "cut_number") sc159 L 159 (Value.ref 158) []).kindOf (Str.ofString "number_size") = some .globalImplicit := by kernel_rfl
theorem k159_put_whole (L : Addr) : (envX (Str.ofString "cut_number") sc159 L 159 (Value.ref 158) []).kindOf (Str.ofString "put_whole") = some .globalImplicit := by kernel_rfl
abbrev sc187 : Scope := { kind := ScopeKind.function, names := [(Str.ofString "packet", NameKind.local), (Str.ofString "len", NameKind.globalImplicit)], isGenerator := false, isCoroutine := false }
theorem k187_packet (L : Addr) : (envX (Str.ofString "number_in") sc187 L 187 (Value.ref 186) []).kindOf (Str.ofString "packet") = some .local := by kernel_rfl
theorem k187_len (L : Addr) : (envX (Str.ofString "number_in") sc187 L 187 (Value.ref 186) []).kindOf (Str.ofString "len") = some .globalImplicit := by kernel_rfl
abbrev sc145 : Scope := { kind := ScopeKind.function, names := [(Str.ofString "kind", NameKind.local), (Str.ofString "version", NameKind.local), (Str.ofString "dcid", NameKind.local), (Str.ofString "scid", NameKind.local), (Str.ofString "token", NameKind.local), (Str.ofString "rest_size", NameKind.local), (Str.ofString "number_size", NameKind.local), (Str.ofString "head", NameKind.local), (Str.ofString "bytes", NameKind.globalImplicit), (Str.ofString "long_first", NameKind.globalImplicit), (Str.ofString "put_whole", NameKind.globalImplicit), (Str.ofString "put_ids", NameKind.globalImplicit), (Str.ofString "put_varint", NameKind.globalImplicit), (Str.ofString "len", NameKind.globalImplicit)], isGenerator := false, isCoroutine := false }
theorem k145_kind (L : Addr) : (envX (Str.ofString "long_head") sc145 L 145 (Value.ref 144) []).kindOf (Str.ofString "kind") = some .local := by kernel_rfl
theorem k145_version (L : Addr) : (envX (Str.ofString "long_head") sc145 L 145 (Value.ref 144) []).kindOf (Str.ofString "version") = some .local := by kernel_rfl
theorem k145_dcid (L : Addr) : (envX (Str.ofString "long_head") sc145 L 145 (Value.ref 144) []).kindOf (Str.ofString "dcid") = some .local := by kernel_rfl
theorem k145_scid (L : Addr) : (envX (Str.ofString "long_head") sc145 L 145 (Value.ref 144) []).kindOf (Str.ofString "scid") = some .local := by kernel_rfl
theorem k145_token (L : Addr) : (envX (Str.ofString "long_head") sc145 L 145 (Value.ref 144) []).kindOf (Str.ofString "token") = some .local := by kernel_rfl
theorem k145_rest_size (L : Addr) : (envX (Str.ofString "long_head") sc145 L 145 (Value.ref 144) []).kindOf (Str.ofString "rest_size") = some .local := by kernel_rfl
theorem k145_number_size (L : Addr) : (envX (Str.ofString "long_head") sc145 L 145 (Value.ref 144) []).kindOf (Str.ofString "number_size") = some .local := by kernel_rfl
theorem k145_head (L : Addr) : (envX (Str.ofString "long_head") sc145 L 145 (Value.ref 144) []).kindOf (Str.ofString "head") = some .local := by kernel_rfl
theorem k145_bytes (L : Addr) : (envX (Str.ofString "long_head") sc145 L 145 (Value.ref 144) []).kindOf (Str.ofString "bytes") = some .globalImplicit := by kernel_rfl
theorem k145_long_first (L : Addr) : (envX (Str.ofString "long_head") sc145 L 145 (Value.ref 144) []).kindOf (Str.ofString "long_first") = some .globalImplicit := by kernel_rfl
theorem k145_put_whole (L : Addr) : (envX (Str.ofString "long_head") sc145 L 145 (Value.ref 144) []).kindOf (Str.ofString "put_whole") = some .globalImplicit := by kernel_rfl
theorem k145_put_ids (L : Addr) : (envX (Str.ofString "long_head") sc145 L 145 (Value.ref 144) []).kindOf (Str.ofString "put_ids") = some .globalImplicit := by kernel_rfl
theorem k145_put_varint (L : Addr) : (envX (Str.ofString "long_head") sc145 L 145 (Value.ref 144) []).kindOf (Str.ofString "put_varint") = some .globalImplicit := by kernel_rfl
theorem k145_len (L : Addr) : (envX (Str.ofString "long_head") sc145 L 145 (Value.ref 144) []).kindOf (Str.ofString "len") = some .globalImplicit := by kernel_rfl
abbrev sc180 : Scope := { kind := ScopeKind.function, names := [(Str.ofString "packet", NameKind.local), (Str.ofString "number_size", NameKind.local), (Str.ofString "payload", NameKind.local), (Str.ofString "kind", NameKind.local), (Str.ofString "rest", NameKind.local), (Str.ofString "token", NameKind.local), (Str.ofString "len", NameKind.globalImplicit), (Str.ofString "TAG_SIZE", NameKind.globalImplicit), (Str.ofString "short_head", NameKind.globalImplicit), (Str.ofString "long_head", NameKind.globalImplicit)], isGenerator := false, isCoroutine := false }
theorem k180_packet (L : Addr) : (envX (Str.ofString "head_of") sc180 L 180 (Value.ref 179) []).kindOf (Str.ofString "packet") = some .local := by kernel_rfl
theorem k180_number_size (L : Addr) : (envX (Str.ofString "head_of") sc180 L 180 (Value.ref 179) []).kindOf (Str.ofString "number_size") = some .local := by kernel_rfl
theorem k180_payload (L : Addr) : (envX (Str.ofString "head_of") sc180 L 180 (Value.ref 179) []).kindOf (Str.ofString "payload") = some .local := by kernel_rfl
theorem k180_kind (L : Addr) : (envX (Str.ofString "head_of") sc180 L 180 (Value.ref 179) []).kindOf (Str.ofString "kind") = some .local := by kernel_rfl
theorem k180_rest (L : Addr) : (envX (Str.ofString "head_of") sc180 L 180 (Value.ref 179) []).kindOf (Str.ofString "rest") = some .local := by kernel_rfl
theorem k180_token (L : Addr) : (envX (Str.ofString "head_of") sc180 L 180 (Value.ref 179) []).kindOf (Str.ofString "token") = some .local := by kernel_rfl
theorem k180_len (L : Addr) : (envX (Str.ofString "head_of") sc180 L 180 (Value.ref 179) []).kindOf (Str.ofString "len") = some .globalImplicit := by kernel_rfl
theorem k180_TAG_SIZE (L : Addr) : (envX (Str.ofString "head_of") sc180 L 180 (Value.ref 179) []).kindOf (Str.ofString "TAG_SIZE") = some .globalImplicit := by kernel_rfl
theorem k180_short_head (L : Addr) : (envX (Str.ofString "head_of") sc180 L 180 (Value.ref 179) []).kindOf (Str.ofString "short_head") = some .globalImplicit := by kernel_rfl
theorem k180_long_head (L : Addr) : (envX (Str.ofString "head_of") sc180 L 180 (Value.ref 179) []).kindOf (Str.ofString "long_head") = some .globalImplicit := by kernel_rfl
abbrev sc194 : Scope := { kind := ScopeKind.function, names := [(Str.ofString "packet", NameKind.local), (Str.ofString "largest_acked", NameKind.local), (Str.ofString "cut", NameKind.local), (Str.ofString "payload", NameKind.local), (Str.ofString "cut_number", NameKind.globalImplicit), (Str.ofString "number_in", NameKind.globalImplicit), (Str.ofString "padded_payload", NameKind.globalImplicit), (Str.ofString "len", NameKind.globalImplicit), (Str.ofString "head_of", NameKind.globalImplicit), (Str.ofString "TAG_SIZE", NameKind.globalImplicit)], isGenerator := false, isCoroutine := false }
theorem k194_packet (L : Addr) : (envX (Str.ofString "packet_size") sc194 L 194 (Value.ref 193) []).kindOf (Str.ofString "packet") = some .local := by kernel_rfl
theorem k194_largest_acked (L : Addr) : (envX (Str.ofString "packet_size") sc194 L 194 (Value.ref 193) []).kindOf (Str.ofString "largest_acked") = some .local := by kernel_rfl
theorem k194_cut (L : Addr) : (envX (Str.ofString "packet_size") sc194 L 194 (Value.ref 193) []).kindOf (Str.ofString "cut") = some .local := by kernel_rfl
theorem k194_payload (L : Addr) : (envX (Str.ofString "packet_size") sc194 L 194 (Value.ref 193) []).kindOf (Str.ofString "payload") = some .local := by kernel_rfl
theorem k194_cut_number (L : Addr) : (envX (Str.ofString "packet_size") sc194 L 194 (Value.ref 193) []).kindOf (Str.ofString "cut_number") = some .globalImplicit := by kernel_rfl
theorem k194_number_in (L : Addr) : (envX (Str.ofString "packet_size") sc194 L 194 (Value.ref 193) []).kindOf (Str.ofString "number_in") = some .globalImplicit := by kernel_rfl
theorem k194_padded_payload (L : Addr) : (envX (Str.ofString "packet_size") sc194 L 194 (Value.ref 193) []).kindOf (Str.ofString "padded_payload") = some .globalImplicit := by kernel_rfl
theorem k194_len (L : Addr) : (envX (Str.ofString "packet_size") sc194 L 194 (Value.ref 193) []).kindOf (Str.ofString "len") = some .globalImplicit := by kernel_rfl
theorem k194_head_of (L : Addr) : (envX (Str.ofString "packet_size") sc194 L 194 (Value.ref 193) []).kindOf (Str.ofString "head_of") = some .globalImplicit := by kernel_rfl
theorem k194_TAG_SIZE (L : Addr) : (envX (Str.ofString "packet_size") sc194 L 194 (Value.ref 193) []).kindOf (Str.ofString "TAG_SIZE") = some .globalImplicit := by kernel_rfl
abbrev sc201 : Scope := { kind := ScopeKind.function, names := [(Str.ofString "ids", NameKind.local), (Str.ofString "space", NameKind.local), (Str.ofString "number", NameKind.local), (Str.ofString "payload", NameKind.local), (Str.ofString "dcid", NameKind.local), (Str.ofString "scid", NameKind.local)], isGenerator := false, isCoroutine := false }
theorem k201_ids (L : Addr) : (envX (Str.ofString "packet_with") sc201 L 201 (Value.ref 200) []).kindOf (Str.ofString "ids") = some .local := by kernel_rfl
theorem k201_space (L : Addr) : (envX (Str.ofString "packet_with") sc201 L 201 (Value.ref 200) []).kindOf (Str.ofString "space") = some .local := by kernel_rfl
theorem k201_number (L : Addr) : (envX (Str.ofString "packet_with") sc201 L 201 (Value.ref 200) []).kindOf (Str.ofString "number") = some .local := by kernel_rfl
theorem k201_payload (L : Addr) : (envX (Str.ofString "packet_with") sc201 L 201 (Value.ref 200) []).kindOf (Str.ofString "payload") = some .local := by kernel_rfl
theorem k201_dcid (L : Addr) : (envX (Str.ofString "packet_with") sc201 L 201 (Value.ref 200) []).kindOf (Str.ofString "dcid") = some .local := by kernel_rfl
theorem k201_scid (L : Addr) : (envX (Str.ofString "packet_with") sc201 L 201 (Value.ref 200) []).kindOf (Str.ofString "scid") = some .local := by kernel_rfl
abbrev sc208 : Scope := { kind := ScopeKind.function, names := [(Str.ofString "ids", NameKind.local), (Str.ofString "places", NameKind.local), (Str.ofString "rows", NameKind.local), (Str.ofString "total", NameKind.local), (Str.ofString "space", NameKind.local), (Str.ofString "frames", NameKind.local), (Str.ofString "number", NameKind.local), (Str.ofString "acked", NameKind.local), (Str.ofString "packet_size", NameKind.globalImplicit), (Str.ofString "packet_with", NameKind.globalImplicit), (Str.ofString "put_frames", NameKind.globalImplicit)], isGenerator := false, isCoroutine := false }
theorem k208_ids (L : Addr) : (envX (Str.ofString "rows_size") sc208 L 208 (Value.ref 207) []).kindOf (Str.ofString "ids") = some .local := by kernel_rfl
theorem k208_places (L : Addr) : (envX (Str.ofString "rows_size") sc208 L 208 (Value.ref 207) []).kindOf (Str.ofString "places") = some .local := by kernel_rfl
theorem k208_rows (L : Addr) : (envX (Str.ofString "rows_size") sc208 L 208 (Value.ref 207) []).kindOf (Str.ofString "rows") = some .local := by kernel_rfl
theorem k208_total (L : Addr) : (envX (Str.ofString "rows_size") sc208 L 208 (Value.ref 207) []).kindOf (Str.ofString "total") = some .local := by kernel_rfl
theorem k208_space (L : Addr) : (envX (Str.ofString "rows_size") sc208 L 208 (Value.ref 207) []).kindOf (Str.ofString "space") = some .local := by kernel_rfl
theorem k208_frames (L : Addr) : (envX (Str.ofString "rows_size") sc208 L 208 (Value.ref 207) []).kindOf (Str.ofString "frames") = some .local := by kernel_rfl
theorem k208_number (L : Addr) : (envX (Str.ofString "rows_size") sc208 L 208 (Value.ref 207) []).kindOf (Str.ofString "number") = some .local := by kernel_rfl
theorem k208_acked (L : Addr) : (envX (Str.ofString "rows_size") sc208 L 208 (Value.ref 207) []).kindOf (Str.ofString "acked") = some .local := by kernel_rfl
theorem k208_packet_size (L : Addr) : (envX (Str.ofString "rows_size") sc208 L 208 (Value.ref 207) []).kindOf (Str.ofString "packet_size") = some .globalImplicit := by kernel_rfl
theorem k208_packet_with (L : Addr) : (envX (Str.ofString "rows_size") sc208 L 208 (Value.ref 207) []).kindOf (Str.ofString "packet_with") = some .globalImplicit := by kernel_rfl
theorem k208_put_frames (L : Addr) : (envX (Str.ofString "rows_size") sc208 L 208 (Value.ref 207) []).kindOf (Str.ofString "put_frames") = some .globalImplicit := by kernel_rfl
abbrev sc215 : Scope := { kind := ScopeKind.function, names := [(Str.ofString "rows", NameKind.local), (Str.ofString "lack", NameKind.local), (Str.ofString "space", NameKind.local), (Str.ofString "frames", NameKind.local)], isGenerator := false, isCoroutine := false }
theorem k215_rows (L : Addr) : (envX (Str.ofString "padded_rows") sc215 L 215 (Value.ref 214) []).kindOf (Str.ofString "rows") = some .local := by kernel_rfl
theorem k215_lack (L : Addr) : (envX (Str.ofString "padded_rows") sc215 L 215 (Value.ref 214) []).kindOf (Str.ofString "lack") = some .local := by kernel_rfl
theorem k215_space (L : Addr) : (envX (Str.ofString "padded_rows") sc215 L 215 (Value.ref 214) []).kindOf (Str.ofString "space") = some .local := by kernel_rfl
theorem k215_frames (L : Addr) : (envX (Str.ofString "padded_rows") sc215 L 215 (Value.ref 214) []).kindOf (Str.ofString "frames") = some .local := by kernel_rfl
abbrev sc222 : Scope := { kind := ScopeKind.function, names := [(Str.ofString "ids", NameKind.local), (Str.ofString "places", NameKind.local), (Str.ofString "rows", NameKind.local), (Str.ofString "goal", NameKind.local), (Str.ofString "size", NameKind.local), (Str.ofString "found", NameKind.local), (Str.ofString "lack", NameKind.local), (Str.ofString "gap", NameKind.local), (Str.ofString "rows_size", NameKind.globalImplicit), (Str.ofString "padded_rows", NameKind.globalImplicit)], isGenerator := false, isCoroutine := false }
theorem k222_ids (L : Addr) : (envX (Str.ofString "full_rows") sc222 L 222 (Value.ref 221) []).kindOf (Str.ofString "ids") = some .local := by kernel_rfl
theorem k222_places (L : Addr) : (envX (Str.ofString "full_rows") sc222 L 222 (Value.ref 221) []).kindOf (Str.ofString "places") = some .local := by kernel_rfl
theorem k222_rows (L : Addr) : (envX (Str.ofString "full_rows") sc222 L 222 (Value.ref 221) []).kindOf (Str.ofString "rows") = some .local := by kernel_rfl
theorem k222_goal (L : Addr) : (envX (Str.ofString "full_rows") sc222 L 222 (Value.ref 221) []).kindOf (Str.ofString "goal") = some .local := by kernel_rfl
theorem k222_size (L : Addr) : (envX (Str.ofString "full_rows") sc222 L 222 (Value.ref 221) []).kindOf (Str.ofString "size") = some .local := by kernel_rfl
theorem k222_found (L : Addr) : (envX (Str.ofString "full_rows") sc222 L 222 (Value.ref 221) []).kindOf (Str.ofString "found") = some .local := by kernel_rfl
theorem k222_lack (L : Addr) : (envX (Str.ofString "full_rows") sc222 L 222 (Value.ref 221) []).kindOf (Str.ofString "lack") = some .local := by kernel_rfl
theorem k222_gap (L : Addr) : (envX (Str.ofString "full_rows") sc222 L 222 (Value.ref 221) []).kindOf (Str.ofString "gap") = some .local := by kernel_rfl
theorem k222_rows_size (L : Addr) : (envX (Str.ofString "full_rows") sc222 L 222 (Value.ref 221) []).kindOf (Str.ofString "rows_size") = some .globalImplicit := by kernel_rfl
theorem k222_padded_rows (L : Addr) : (envX (Str.ofString "full_rows") sc222 L 222 (Value.ref 221) []).kindOf (Str.ofString "padded_rows") = some .globalImplicit := by kernel_rfl
abbrev sc229 : Scope := { kind := ScopeKind.function, names := [(Str.ofString "ids", NameKind.local), (Str.ofString "names", NameKind.local), (Str.ofString "sizes", NameKind.local), (Str.ofString "total", NameKind.local), (Str.ofString "space", NameKind.local), (Str.ofString "size", NameKind.local), (Str.ofString "rest", NameKind.local), (Str.ofString "zip", NameKind.globalImplicit), (Str.ofString "max", NameKind.globalImplicit), (Str.ofString "len", NameKind.globalImplicit)], isGenerator := false, isCoroutine := false }
theorem k229_ids (L : Addr) : (envX (Str.ofString "_law_total") sc229 L 229 (Value.ref 228) []).kindOf (Str.ofString "ids") = some .local := by kernel_rfl
theorem k229_names (L : Addr) : (envX (Str.ofString "_law_total") sc229 L 229 (Value.ref 228) []).kindOf (Str.ofString "names") = some .local := by kernel_rfl
theorem k229_sizes (L : Addr) : (envX (Str.ofString "_law_total") sc229 L 229 (Value.ref 228) []).kindOf (Str.ofString "sizes") = some .local := by kernel_rfl
theorem k229_total (L : Addr) : (envX (Str.ofString "_law_total") sc229 L 229 (Value.ref 228) []).kindOf (Str.ofString "total") = some .local := by kernel_rfl
theorem k229_space (L : Addr) : (envX (Str.ofString "_law_total") sc229 L 229 (Value.ref 228) []).kindOf (Str.ofString "space") = some .local := by kernel_rfl
theorem k229_size (L : Addr) : (envX (Str.ofString "_law_total") sc229 L 229 (Value.ref 228) []).kindOf (Str.ofString "size") = some .local := by kernel_rfl
theorem k229_rest (L : Addr) : (envX (Str.ofString "_law_total") sc229 L 229 (Value.ref 228) []).kindOf (Str.ofString "rest") = some .local := by kernel_rfl
theorem k229_zip (L : Addr) : (envX (Str.ofString "_law_total") sc229 L 229 (Value.ref 228) []).kindOf (Str.ofString "zip") = some .globalImplicit := by kernel_rfl
theorem k229_max (L : Addr) : (envX (Str.ofString "_law_total") sc229 L 229 (Value.ref 228) []).kindOf (Str.ofString "max") = some .globalImplicit := by kernel_rfl
theorem k229_len (L : Addr) : (envX (Str.ofString "_law_total") sc229 L 229 (Value.ref 228) []).kindOf (Str.ofString "len") = some .globalImplicit := by kernel_rfl
theorem g_put_whole (P : Params) : nsIn (hd.heap_1 P) mainGlobals (Str.ofString "put_whole") = some (some (.ref 42)) := by k_is
theorem g_varint_size (P : Params) : nsIn (hd.heap_1 P) mainGlobals (Str.ofString "varint_size") = some (some (.ref 49)) := by k_is
theorem g_put_varint (P : Params) : nsIn (hd.heap_1 P) mainGlobals (Str.ofString "put_varint") = some (some (.ref 56)) := by k_is
theorem g_put_numbers (P : Params) : nsIn (hd.heap_1 P) mainGlobals (Str.ofString "put_numbers") = some (some (.ref 62)) := by k_is
theorem g_put_frame (P : Params) : nsIn (hd.heap_1 P) mainGlobals (Str.ofString "put_frame") = some (some (.ref 118)) := by k_is
theorem g_put_frames (P : Params) : nsIn (hd.heap_1 P) mainGlobals (Str.ofString "put_frames") = some (some (.ref 123)) := by k_is
theorem g_padded_payload (P : Params) : nsIn (hd.heap_1 P) mainGlobals (Str.ofString "padded_payload") = some (some (.ref 166)) := by k_is
theorem g_long_first (P : Params) : nsIn (hd.heap_1 P) mainGlobals (Str.ofString "long_first") = some (some (.ref 138)) := by k_is
theorem g_put_ids (P : Params) : nsIn (hd.heap_1 P) mainGlobals (Str.ofString "put_ids") = some (some (.ref 131)) := by k_is
theorem g_short_head (P : Params) : nsIn (hd.heap_1 P) mainGlobals (Str.ofString "short_head") = some (some (.ref 173)) := by k_is
theorem g_number_size (P : Params) : nsIn (hd.heap_1 P) mainGlobals (Str.ofString "number_size") = some (some (.ref 152)) := by k_is
theorem g_cut_number (P : Params) : nsIn (hd.heap_1 P) mainGlobals (Str.ofString "cut_number") = some (some (.ref 159)) := by k_is
theorem g_number_in (P : Params) : nsIn (hd.heap_1 P) mainGlobals (Str.ofString "number_in") = some (some (.ref 187)) := by k_is
theorem g_long_head (P : Params) : nsIn (hd.heap_1 P) mainGlobals (Str.ofString "long_head") = some (some (.ref 145)) := by k_is
theorem g_head_of (P : Params) : nsIn (hd.heap_1 P) mainGlobals (Str.ofString "head_of") = some (some (.ref 180)) := by k_is
theorem g_packet_size (P : Params) : nsIn (hd.heap_1 P) mainGlobals (Str.ofString "packet_size") = some (some (.ref 194)) := by k_is
theorem g_packet_with (P : Params) : nsIn (hd.heap_1 P) mainGlobals (Str.ofString "packet_with") = some (some (.ref 201)) := by k_is
theorem g_rows_size (P : Params) : nsIn (hd.heap_1 P) mainGlobals (Str.ofString "rows_size") = some (some (.ref 208)) := by k_is
theorem g_padded_rows (P : Params) : nsIn (hd.heap_1 P) mainGlobals (Str.ofString "padded_rows") = some (some (.ref 215)) := by k_is
theorem g_full_rows (P : Params) : nsIn (hd.heap_1 P) mainGlobals (Str.ofString "full_rows") = some (some (.ref 222)) := by k_is
theorem g_law_total (P : Params) : nsIn (hd.heap_1 P) mainGlobals (Str.ofString "_law_total") = some (some (.ref 229)) := by k_is
theorem g_law_one_right (P : Params) : nsIn (hd.heap_1 P) mainGlobals (Str.ofString "_law_one_right") = some (some (.ref 234)) := by k_is
theorem g_law (P : Params) : nsIn (hd.heap_1 P) mainGlobals (Str.ofString "law") = some (some (.ref 239)) := by k_is
theorem g_VARINT_SIZES (P : Params) : nsIn (hd.heap_1 P) mainGlobals (Str.ofString "VARINT_SIZES") = some (some (.ref 35)) := by k_is
theorem g_LONG_KINDS (P : Params) : nsIn (hd.heap_1 P) mainGlobals (Str.ofString "LONG_KINDS") = some (some (.ref 124)) := by k_is
theorem b_len (P : Params) : nsIn (hd.heap_1 P) mainGlobals (Str.ofString "len") = some none := by k_is
theorem b_bytes (P : Params) : nsIn (hd.heap_1 P) mainGlobals (Str.ofString "bytes") = some none := by k_is
theorem b_bytearray (P : Params) : nsIn (hd.heap_1 P) mainGlobals (Str.ofString "bytearray") = some none := by k_is
theorem b_range (P : Params) : nsIn (hd.heap_1 P) mainGlobals (Str.ofString "range") = some none := by k_is
theorem b_list (P : Params) : nsIn (hd.heap_1 P) mainGlobals (Str.ofString "list") = some none := by k_is
theorem b_max (P : Params) : nsIn (hd.heap_1 P) mainGlobals (Str.ofString "max") = some none := by k_is
theorem b_zip (P : Params) : nsIn (hd.heap_1 P) mainGlobals (Str.ofString "zip") = some none := by k_is
theorem b_abs (P : Params) : nsIn (hd.heap_1 P) mainGlobals (Str.ofString "abs") = some none := by k_is
theorem bt_len : bootBuiltins (Str.ofString "len") = some (.builtin "len") := by kernel_rfl
theorem bt_bytes : bootBuiltins (Str.ofString "bytes") = some (.type "bytes") := by kernel_rfl
theorem bt_bytearray : bootBuiltins (Str.ofString "bytearray") = some (.type "bytearray") := by kernel_rfl
theorem bt_range : bootBuiltins (Str.ofString "range") = some (.type "range") := by kernel_rfl
theorem bt_list : bootBuiltins (Str.ofString "list") = some (.type "list") := by kernel_rfl
theorem bt_max : bootBuiltins (Str.ofString "max") = some (.builtin "max") := by kernel_rfl
theorem bt_zip : bootBuiltins (Str.ofString "zip") = some (.type "zip") := by kernel_rfl
theorem bt_abs : bootBuiltins (Str.ofString "abs") = some (.builtin "abs") := by kernel_rfl
local macro_rules | `(tactic| walk_at "eval Dict") => `(tactic| k_extra "eval Dict")
local macro_rules | `(tactic| walk_at "CompEnd") => `(tactic| k_extra "CompEnd")
local macro_rules | `(tactic| walk_at "CompSrcT") => `(tactic| k_extra "CompSrcT")
local macro_rules | `(tactic| walk_at "TestIs") => `(tactic| k_extra "TestIs")
local macro_rules | `(tactic| walk_at "CSrc") => `(tactic| k_extra "CSrc")
local macro_rules | `(tactic| walk_at "call builtin:bytes.join") => `(tactic| k_extra "call builtin:bytes.join")
local macro_rules | `(tactic| walk_at "FinE") => `(tactic| k_extra "FinE")
local macro_rules | `(tactic| walk_at "FinA") => `(tactic| k_extra "FinA")
local macro_rules | `(tactic| walk_at "CompRest") => `(tactic| k_extra "CompRest")
theorem base_rows1 : True := by
  k_with_none
  k_with "CSrc" => ((k_dflt (refine' Mine.csrc_list ?Fzq ?Nzq ?lzq ?azq ?bzq ?_; (case Fzq => k_asm); (case Nzq => k_asm); (case lzq => is_list); (case azq => decide); (case bzq => rfl)); intro I' o' D' C' oC' h' tk' hO' hC' F' N' l1 l2 l3; (try k_lt l1); (try k_lt l2); (try k_lt l3); (try dsimp only)))
  k_with "call builtin:bytes.join" => ((k_dflt (first | (refine' Mine.join1 ?lzq ?e1zq ?zzq ?_; (case lzq => is_list); (case e1zq => assumption); (case zzq => omega)) | (refine' Mine.join2 ?lzq ?e1zq ?e2zq ?zzq ?_; (case lzq => is_list); (case e1zq => assumption); (case e2zq => assumption); (case zzq => omega)) | (refine' Mine.join3 ?lzq ?e1zq ?e2zq ?e3zq ?zzq ?_; (case lzq => is_list); (case e1zq => assumption); (case e2zq => assumption); (case e3zq => assumption); (case zzq => omega))); intro b' t' k' hb'))
  k_with "FinE" => (((unfold LCg.FinE); intro D' h' tk' F' N' o1'; (try simp only [List.nil_append, List.cons_append] at N'); (try dsimp only)))
  k_with "FinA" => (((unfold LCg.FinA); intro D' h' tk' F' N' o1'; (try simp only [List.nil_append, List.cons_append] at N'); (try dsimp only)))
  k_with "CompRest" => ((with_unfolding_all first | (refine LCg.CompRest.succ ?_; intro v' I' oI' C' oC' D' m' h' tk' E' hv' hC' hx' F' N' off' ne'; (first | lcg_open hv' | (obtain ⟨t9', hv9'⟩ := hv'; subst hv9'))) | refine LCg.CompRest.zero ?_))
  k_with "off1" => (first | exact True.intro | exact Mine.off1_of (Mine.all_ne (by with_reducible assumption) (by k_extra "tails9")) | (refine And.intro (by k_ne) ?_; k_extra "off1"))
  k_with "csc_enter" => (( refine wpC_call ?_; k_dflt (refine' codeC_defL _ ?hlzq ?k1zq ?k2zq ?k3zq ?k4zq ?k5zq ?kAzq ?kFzq ?kKzq ?k6zq ?k7zq ?k8zq ?k9zq ?kBzq ?_ ?c2zq ?c3zq ?c4zq ?c5zq; (case hlzq => assumption); (case kAzq => exact rfl); (case kFzq => exact rfl); (case kKzq => assumption); (case k1zq => with_reducible assumption); (case k2zq => with_reducible assumption); (case k3zq => with_reducible assumption); (case k4zq => with_reducible assumption); (case k5zq => with_reducible assumption); (case k6zq => k_is); (case k7zq => k_is); (case k8zq => ktr_room); (case k9zq => exact BindsTo.of_eq rfl); (case c5zq => decide); (case kBzq => exact locs rfl); (case c2zq => exact rfl); (case c3zq => exact rfl); (case c4zq => exact rfl); k_whole; intro g' L' h' tk' FG' F' N' B' X' T' l1; (try k_lt l1); (try dsimp only))))
  k_with "cs_enter" => (( refine wpAny_call ?_; k_dflt (refine' code_defL _ ?hlzq ?k1zq ?k2zq ?k3zq ?k4zq ?k5zq ?kAzq ?kFzq ?kKzq ?k6zq ?k7zq ?k8zq ?k9zq ?kBzq ?_ ?c2zq ?c3zq ?c4zq ?c5zq; (case hlzq => assumption); (case kAzq => exact rfl); (case kFzq => exact rfl); (case kKzq => assumption); (case k1zq => with_reducible assumption); (case k2zq => with_reducible assumption); (case k3zq => with_reducible assumption); (case k4zq => with_reducible assumption); (case k5zq => with_reducible assumption); (case k6zq => k_is); (case k7zq => k_is); (case k8zq => ktr_room); (case k9zq => exact BindsTo.of_eq rfl); (case c5zq => decide); (case kBzq => exact locs rfl); (case c2zq => exact rfl); (case c3zq => exact rfl); (case c4zq => exact rfl); k_whole; intro g' L' h' tk' FG' F' N' B' X' T' l1; (try k_lt l1); (try dsimp only))))
  k_with "csc_enter7" => (( refine wpC_call ?_; k_dflt (refine' codeC_defCL _ ?hlzq ?k1zq ?k2zq ?k3zq ?k4zq ?k5zq ?kAzq ?kFzq ?kKzq ?k6zq ?k7zq ?k8zq ?k9zq ?kBzq ?kDzq ?_ ?c2zq ?c3zq ?c4zq; (case hlzq => assumption); (case kAzq => exact rfl); (case kFzq => exact rfl); (case kKzq => assumption); (case k1zq => with_reducible assumption); (case k2zq => with_reducible assumption); (case k3zq => with_reducible assumption); (case k4zq => with_reducible assumption); (case k5zq => with_reducible assumption); (case k6zq => k_is); (case k7zq => k_is); (case k8zq => ktr_room); (case k9zq => exact BindsTo.of_eq rfl); (case kBzq => exact rfl); (case kDzq => decide +kernel); (case c2zq => exact rfl); (case c3zq => exact rfl); (case c4zq => exact rfl); k_whole; intro g1 L1 h1 tk1 cells0 FG1 F1 N0 Y0 B1 X1 T1 l1; (try k_lt l1); (have hY0 := PyProof.Rows.kc_seven Y0; obtain ⟨z1, z2, z3, z4, z5, z6, z7, hE0, w1, w2, w3, w4, w5, w6, w7⟩ := hY0; subst hE0; clear Y0); (try simp only [List.cons_append, List.nil_append] at N0); (try dsimp only))))
  k_with "core" => (first
    | ((with_reducible show Mine.Back _ _ _ _ _ _); refine' Mine.cs_retA ?rzq ?_ ?Fzq ?Nzq ?hszq; (case rzq => assumption); (case Fzq => k_asm); (case Nzq => k_asm); (case hszq => k_extra "tails9"))
    | ((with_reducible show Mine.wpC _ _ (spliced _) _ _ _); first | refine Mine.wpC_spliced_cons ?_ | (refine Mine.wpC_spliced_nil ?_; (try dsimp only [List.nil_append, List.cons_append])))
    | ((with_reducible show wpAny _ _ (eval (PySem.Expr.Name _ _) (PyProof.Rows.envOf _ _ _ _ _)) _ _ _); first | (refine' Mine.nameM ?Fzq ?vzq ?_ ?azq ?bzq ?czq; (case Fzq => with_reducible assumption); (case azq => rfl); (case bzq => rfl); (case vzq => rfl); (case czq => decide +kernel)) | (refine' nameX_L ?Fzq ?vzq ?_ ?azq ?bzq ?czq; (case Fzq => k_asm); (case azq => rfl); (case bzq => rfl); (case vzq => rfl); (case czq => decide +kernel)) | (refine' nameX_K ?Fzq ?Xzq ?Tzq ?ezq ?_ ?azq ?bzq ?czq; (case Fzq => k_asm); (case Xzq => k_asm); (case Tzq => k_asm); (case azq => rfl); (case bzq => rfl); (case ezq => k_is); (case czq => decide +kernel)) | (refine' nameX_B ?Fzq ?Xzq ?Tzq ?ezq ?vzq ?nzq ?_ ?azq ?bzq ?czq; (case Fzq => k_asm); (case Xzq => k_asm); (case Tzq => k_asm); (case azq => rfl); (case bzq => rfl); (case ezq => k_is); (case vzq => boot_fast); (case nzq => decide +kernel); (case czq => decide +kernel)))
    | ((with_reducible show Mine.wpC _ _ (eval _ _) _ _ _); first | (refine' Mine.wpC_ev ?hdzq ?_; (case hdzq => decide +kernel)) | (with_reducible refine Mine.wpC_BinOp ?_) | ((with_reducible refine' Mine.wpC_Call _ _ ?hezq ?_); (case hezq => rfl)) | (with_reducible refine Mine.wpC_Tuple ?_) | (refine' Mine.wpC_join ?azq ?bzq ?_; (case azq => rfl); (case bzq => rfl); intro u' tk') | (refine' Mine.wpC_ListComp ?azq ?bzq ?czq ?_; (case azq => rfl); (case bzq => rfl); (case czq => decide)))
    | ((with_reducible show wpAny _ _ (call (Value.builtin _) [Value.bytes _ _]) _ _ _); (with_reducible refine' len_bytes ?hzzq ?_); (case hzzq => first | kby_size | sb_bound))
    | ((with_reducible show wpAny _ _ (subscriptTail _ _ (Value.ref _) (Value.int _ _)) _ _ _); k_dflt (refine' item_tupleT ?tzq ?azq ?bzq ?czq ?dzq ?_; (case tzq => exact News.isTup (by with_reducible assumption) (by k_mem)); (case azq => decide); (case bzq => decide); (case czq => rfl); (case dzq => rfl)))
    | ((with_reducible show wpAny _ _ (spliced _) _ _ _); first | (refine' PyProof.Rows.args_cons ?_ ?hezq; (case hezq => rfl)) | (refine PyProof.Rows.args_nil ?_; (try dsimp only [List.nil_append, List.cons_append])))
    | (with_reducible refine Mine.wpC_execs_consF ?_; intro qf' hqf')
    | (with_reducible refine Mine.wpAny_execs_consF ?_; intro qf' hqf')
    | (with_reducible refine Mine.intS ?_; intro t' k')
    | (with_reducible refine Mine.strS ?_; intro t' k')
    | (with_reducible refine wpAny_BinOp ?_)
    | ((with_reducible show wpAny _ _ (storeName (PyProof.Rows.envOf _ _ _ _ _) _ _) _ _ _); first | (refine' Mine.storeM ?Fzq ?Nzq ?_ ?azq ?bzq; (case Fzq => with_reducible assumption); (case Nzq => with_reducible assumption); (case azq => rfl); (case bzq => rfl); intro h' k' F' N'; (try k_sweep)) | (refine' Mine.storeG ?Fzq ?Nzq ?_ ?azq ?bzq; (case Fzq => k_asm); (case Nzq => k_asm); (case azq => rfl); (case bzq => rfl); intro h' k' F' N'; (try replace F' := Mine.fr_mapL F'); (try k_sweep)))
    | ((with_reducible show wpAny _ _ (callWith _ (Value.builtin _) _ _ _) _ _ _); refine' PyProof.Rows.callWith_builtin1 ?_ ?azq ?bzq; (case azq => rfl); (case bzq => rfl))
    | ((with_reducible show wpAny _ _ (callWith _ (Value.type _) _ _ _) _ _ _); refine' PyProof.Rows.callWith_type1 ?_ ?azq ?bzq; (case azq => rfl); (case bzq => rfl))
    | ((with_reducible refine' PyProof.Rows.Call_ ?_ ?hezq); (case hezq => rfl))
    | (with_reducible refine' Mine.seqC_next ?hczq ?_; (case hczq => with_reducible assumption))
    | (with_reducible refine' Mine.seqA_next ?hczq ?_; (case hczq => with_reducible assumption))
    | (with_reducible refine' Mine.seqC_ret ?hczq ?_; (case hczq => with_reducible assumption))
    | (with_reducible refine' Mine.seqA_ret ?hczq ?_; (case hczq => with_reducible assumption))
    | (with_reducible refine' Mine.seqC_cont ?hczq ?_; (case hczq => with_reducible assumption))
    | (with_reducible refine' Mine.seqA_cont ?hczq ?_; (case hczq => with_reducible assumption))
    | (with_reducible refine' Mine.Conts.back ?hczq ?_; (case hczq => with_reducible assumption); (try dsimp only))
    | ((with_reducible show Frag.In _ _ ∧ _); refine ⟨by k_in, ?_⟩; try dsimp only [List.nil_append, List.cons_append])
    | ((with_reducible show wpAny _ _ (binaryOp Operator.Add (Value.int _ _) (Value.int _ _)) _ _ _); first | (with_reducible refine Mine.addS ?_; intro t' k') | (with_reducible refine PyProof.Rows.add_int ?_))
    | ((with_reducible show wpAny _ _ (binaryOp Operator.Mult (Value.int _ _) (Value.int _ _)) _ _ _); first | ((with_reducible refine' Mine.mulS ?hmzq ?_); (case hmzq => mul_fits); intro t' k') | ((with_reducible refine' PyProof.Rows.mul_int ?_ ?hmzq); (case hmzq => mul_fits)))
    | ((with_reducible show wpAny _ _ (binaryOp Operator.Sub (Value.int _ _) (Value.int _ _)) _ _ _); first | (with_reducible refine Mine.subS ?_; intro t' k') | (with_reducible refine PyProof.Rows.sub_int ?_))
    | ((with_reducible show wpAny _ _ (inplaceOp Operator.Add (Value.int _ _) (Value.int _ _)) _ _ _); first | (with_reducible refine Mine.iaddS ?_; intro t' k') | (with_reducible refine PyProof.Rows.iadd_int ?_))
    | ((with_reducible show wpAny _ _ (unaryOp UnaryOp.USub (Value.int _ _)) _ _ _); first | (with_reducible refine Mine.negS ?_; intro t' k') | (with_reducible refine PyProof.Rows.neg_int ?_))
    | ((with_reducible show Mine.wpC _ _ (exec _ _) _ _ _); first | (refine' Mine.wpC_st ?hdzq ?_; (case hdzq => decide +kernel)) | (with_reducible refine Mine.wpC_Return ?_) | ((with_reducible refine' Mine.wpC_Assign_Name ?_ ?hszq); (case hszq => rfl)) | (with_reducible refine Mine.wpC_AugAssign_Name ?_) | (with_reducible refine Mine.wpC_If ?_) | (with_reducible refine Mine.wpC_While ?_) | ((with_reducible refine' Mine.wpC_For ?_ ?hszq); (case hszq => (intro _; rfl))))
    | (with_reducible refine Mine.wpC_execs_nil ?_)
    | (with_reducible refine wpAny_execs_nil ?_)
    | ((with_reducible show Mine.wpC _ _ (callWith _ _ _ _ _) _ _ _); first | (refine' Mine.wpC_callWith_K ?k1zq ?k2zq ?k3zq ?_; (case k3zq => k_asm); (case k1zq => k_is); (case k2zq => rfl)) | (refine' Mine.wpC_callWith_builtin ?hpzq ?_; (case hpzq => rfl)) | (refine' Mine.wpC_callWith_type ?hpzq ?_; (case hpzq => rfl)))
    | (with_reducible refine Mine.wpC_iteF ?_)
    | ((with_reducible show Mine.wpC _ _ (evalArgs _ _ _ _) _ _ _); refine Mine.wpC_evalArgs ?_)
    | ((with_reducible show Mine.wpC _ _ (isTrue _ _ _) _ _ _); first | (refine' Mine.wpC_test ?hdzq ?_; (case hdzq => decide +kernel)) | (refine' Mine.wpC_isTrue_Compare1 ?_ ?hmzq; (case hmzq => with_unfolding_all rfl)))
    | (with_reducible refine wpAny_truthy_bool ?_)
    | (with_reducible refine wpAny_Return_some ?_)
    | ((with_reducible show wpAny _ _ (exec (PySem.Stmt.Assign _ _ _) _) _ _ _); first | ((with_reducible refine' wpAny_Assign_Name ?_ ?hszq); (case hszq => rfl)) | ((with_reducible refine' PyProof.Rows.Assign_Tuple ?_ ?hszq); (case hszq => rfl)))
    | ((with_reducible show wpAny _ _ (assignInOrder _ _) _ _ _); first | refine PyProof.Rows.assignInOrder_cons ?_ | refine PyProof.Rows.assignInOrder_nil ?_)
    | (with_reducible refine PyProof.Rows.assign_Name ?_)
    | ((with_reducible show wpAny _ _ (assign (PySem.Expr.Tuple _ _ _) _ (Value.ref _)) _ _ _); refine' Mine.unpackS ?Fzq ?Nzq ?Tzq ?k1zq ?k2zq ?k3zq ?_; (case Fzq => with_reducible assumption); (case Nzq => with_reducible assumption); (case Tzq => (refine News.isTup (by with_reducible assumption) (by k_mem))); (case k1zq => exact rfl); (case k2zq => exact rfl); (case k3zq => exact rfl); intro h' F' N'; (try k_sweep))
    | ((with_reducible show LeaveK _ _ _ _ _ _ _); refine' leaveK_ ?k1zq ?k2zq ?_; (case k1zq => k_asm); (case k2zq => k_asm); intro kF kN; (try dsimp only))
    | ((with_reducible show wpAny _ _ (loadName (PyProof.Rows.envOf _ _ _ _ _) _) _ _ _); refine' Mine.loadM ?Fzq ?vzq ?_ ?azq ?bzq; (case Fzq => k_asm); (case azq => rfl); (case bzq => rfl); (case vzq => rfl))
    | ((with_reducible show UnrEnd _ _ _ _ _ _ _); refine' Mine.unrEnd_hd ?Fzq ?Nzq ?offzq ?_; (case Fzq => k_asm); (case Nzq => k_asm); (case offzq => k_all))
    | ((with_reducible show wpAny _ _ (exec (PySem.Stmt.Raise _ _ _) _) _ _ _); exfalso; first | contradiction | omega)
    | ((with_reducible show Mine.wpC _ _ (exec (PySem.Stmt.Raise _ _ _) _) _ _ _); exfalso; first | contradiction | omega)
    | ((with_reducible show wpAny _ _ (compareOp CmpOp.Lt (Value.int _ _) (Value.int _ _)) _ _ _); with_reducible refine Mine.ltS ?_)
    | ((with_reducible show wpAny _ _ (compareOp CmpOp.Gt (Value.int _ _) (Value.int _ _)) _ _ _); with_reducible refine Mine.gtS ?_)
    | ((with_reducible show wpAny _ _ (compareOp CmpOp.LtE (Value.int _ _) (Value.int _ _)) _ _ _); with_reducible refine Mine.leS ?_)
    | ((with_reducible refine' PySem.W.ite_pos ?cizq ?_); (case cizq => decide +kernel))
    | ((with_reducible refine' PySem.W.ite_neg ?cizq ?_); (case cizq => decide +kernel))
    | (with_reducible refine PyProof.Rows.UnaryOp_ ?_)
    | (with_reducible refine wpAny_If ?_)
    | ((with_reducible refine' wpAny_isTrue_Compare1 ?_ ?hmzq); (case hmzq => with_unfolding_all rfl))
    | ((with_reducible show wpAny _ _ (subscriptTail _ _ (Value.ref _) (Value.str _ _)) _ _ _); refine' kda_item (knd := PySem.strKind _ _) ?azq ?bzq ?czq ?dzq ?ezq ?_; (case azq => with_reducible assumption); (case bzq => k_mem); (case czq => with_reducible assumption); (case dzq => exact strKind_is _ _ _ _); (case ezq => rfl))
    | ((with_reducible show wpAny _ _ (binaryOp Operator.Add (Value.bytes _ _) (Value.bytes _ _)) _ _ _); refine' Mine.bytes_add_V ?k1zq ?k2zq ?k3zq ?_; (case k2zq => with_reducible assumption); (case k1zq => assumption); (case k3zq => omega); intro b' t' k' hb')
    | ((with_reducible show wpAny _ _ (binaryOp Operator.Add (Value.bytes _ _) (Value.bytes _ _)) _ _ _); k_dflt (refine' Mine.bytes_add_N ?k1zq ?k2zq ?k3zq ?_; (case k1zq => first | assumption | exact Mine.size_lit1 | exact rfl); (case k2zq => first | assumption | exact Mine.size_lit1 | exact rfl); (case k3zq => omega)); intro b' t' k' hb')
    | ((with_reducible show wpAny _ _ (call (Value.type "bytes") [Value.int _ _]) _ _ _); k_dflt (refine' Mine.call_bytes_int ?k1zq ?k2zq ?_; (case k1zq => omega); (case k2zq => omega)); intro b' t' k' hb')
    | ((with_reducible show wpAny _ _ (call (Value.type "bytes") [Value.int _ _]) _ _ _); k_dflt (refine' Mine.call_bytes_int ?k1zq ?k2zq ?_; (case k1zq => omega); (case k2zq => omega)); intro b' t' k' hb')
    | ((with_reducible show wpAny _ _ (call (Value.type "bytes") [Value.ref _]) _ _ _); k_dflt (refine' Mine.bytes_zeros_K ?Fzq ?Nzq ?mzq ?zzq ?hzq ?_; (case Fzq => k_asm); (case Nzq => k_asm); (case mzq => k_mem); (case zzq => omega); (case hzq => rfl)); intro h' b' t' k' F' N' hb'; (try k_sweep))
    | ((with_reducible show wpAny _ _ (subscriptTail _ (PySem.Expr.Slice (some _) none none _) (Value.ref _) (Value.ref _)) _ _ _); k_dflt (refine' Mine.tup_from_K ?Fzq ?Nzq ?mzq ?pzq ?qzq ?zzq ?_ ?szq ?tzq; (case Fzq => k_asm); (case Nzq => k_asm); (case mzq => k_mem); (case pzq => decide); (case qzq => exact Nat.le_of_ble_eq_true rfl); (case zzq => exact Nat.le_of_ble_eq_true rfl); (case szq => with_unfolding_all rfl); (case tzq => intro _; with_unfolding_all rfl)); intro D' h' F' N' l1; (try k_lt l1); (try dsimp only [List.drop] at N'); (try k_sweep))
    | ((with_reducible show Mine.codeC _ _ (Code.compLoop _ _ _ _ _) _ _); k_dflt (first | (refine' Mine.comp_turn ?Fzq ?Nzq ?hozq ?hCzq ?oIzq ?oCzq ?nezq ?hlzq ?hxzq ?hnzq ?hkzq ?_; (case Fzq => k_asm); (case Nzq => k_asm); (case hozq => assumption); (case hCzq => assumption); (case oIzq => k_extra "off1"); (case oCzq => k_extra "off1"); (case nezq => k_ne); (case hlzq => is_list); (case hxzq => rfl); (case hnzq => rfl); (case hkzq => rfl); intro o' oC' m' h' tk' hO' hC' hm' F' N') | (refine' Mine.comp_end ?hhzq ?Fzq ?Nzq ?hozq ?hCzq ?oIzq ?oCzq ?nezq ?hlzq ?hxzq ?_; (case hhzq => rfl); (case Fzq => k_asm); (case Nzq => k_asm); (case hozq => assumption); (case hCzq => assumption); (case oIzq => k_extra "off1"); (case oCzq => k_extra "off1"); (case nezq => k_ne); (case hlzq => is_list); (case hxzq => rfl); intro h' F' N')); (try k_sweep); (try simp only [List.push_toArray, List.nil_append, List.cons_append] at N'); (try dsimp only))
    | ((with_reducible show wpAny _ _ (call (Value.builtin _) [Value.ref 124, Value.str _ _]) _ _ _); k_dflt (first | (refine' Mine.list_index_K (j := 0) (ns := [(PySem.Str.ofString "initial", 434), (PySem.Str.ofString "zero", 435), (PySem.Str.ofString "handshake", 436), (PySem.Str.ofString "retry", 437)]) ?Xzq ?ezq ?jzq ?zzq ?pzq ?qzq ?_; (case Xzq => exact Frag.In.keeps (by k_asm) (Fr.keep (by k_asm))); (case ezq => k_is); (case jzq => decide); (case zzq => decide); (case pzq => decide); (case qzq => decide); k_whole) | (refine' Mine.list_index_K (j := 2) (ns := [(PySem.Str.ofString "initial", 434), (PySem.Str.ofString "zero", 435), (PySem.Str.ofString "handshake", 436), (PySem.Str.ofString "retry", 437)]) ?Xzq ?ezq ?jzq ?zzq ?pzq ?qzq ?_; (case Xzq => exact Frag.In.keeps (by k_asm) (Fr.keep (by k_asm))); (case ezq => k_is); (case jzq => decide); (case zzq => decide); (case pzq => decide); (case qzq => decide); k_whole)))
    | ((with_reducible show wpAny _ _ (getMethod (Value.ref 124) (PySem.Str.ofString "index") _) _ _ _); k_dflt (refine' Mine.list_method_K ?Xzq ?ezq PySem.F.slot_list_index PySem.F.type_list_index ?_; (case Xzq => exact Frag.In.keeps (by k_asm) (Fr.keep (by k_asm))); (case ezq => k_is)))
    | ((with_reducible show wpAny _ _ (call (Value.builtin _) [Value.ref 35, Value.int _ _]) _ _ _); k_dflt (refine' Mine.tup_index_K (ns := [(1, 278), (2, 279), (4, 280), (8, 281)]) ?Xzq ?ezq ?jzq ?_; (case Xzq => exact Frag.In.keeps (by k_asm) (Fr.keep (by k_asm))); (case ezq => k_is); (case jzq => rfl); k_whole))
    | ((with_reducible show wpAny _ _ (getMethod (Value.ref 35) (PySem.Str.ofString "index") _) _ _ _); k_dflt (refine' Mine.tup_method_K ?Xzq ?ezq PySem.F.slot_tuple_index PySem.F.type_tuple_index ?_; (case Xzq => exact Frag.In.keeps (by k_asm) (Fr.keep (by k_asm))); (case ezq => k_is)))
    | ((with_reducible show wpAny _ _ (compareOp CmpOp.NotIn (Value.int _ _) (Value.ref 35)) _ _ _); k_dflt (refine' Mine.notin_tup_K (ns := [(1, 278), (2, 279), (4, 280), (8, 281)]) ?Xzq ?ezq ?bzq ?_; (case Xzq => exact Frag.In.keeps (by k_asm) (Fr.keep (by k_asm))); (case ezq => k_is); (case bzq => rfl); k_whole))
    | ((with_reducible show Mine.codeC _ _ (Code.forLoop _ _ _ _ _) _ _); k_dflt (first | (refine' Mine.for_tup_N ?Fzq ?Nzq ?hozq ?hIzq ?hszq ?hKzq ?hlzq ?hxzq ?_; (case Fzq => k_asm); (case Nzq => k_asm); (case hKzq => assumption); (case hozq => assumption); (case hIzq => k_mem); (case hszq => k_subL); (case hlzq => exact Mine.tuple_K (Frag.In.keeps (by k_asm) (Fr.keep (by k_asm))) (by k_is)); (case hxzq => rfl); k_whole; intro o' h' hO' F' N') | (refine' Mine.for_list_N ?Fzq ?Nzq ?hozq ?hIzq ?hszq ?hKzq ?hlzq ?hxzq ?_; (case Fzq => k_asm); (case Nzq => k_asm); (case hKzq => assumption); (case hozq => assumption); (case hIzq => k_mem); (case hszq => k_subL); (case hlzq => is_list); (case hxzq => rfl); k_whole; intro o' h' hO' F' N') | (refine' Mine.for_list_T ?Fzq ?Nzq ?hozq ?hIzq ?hszq ?hKzq ?hlzq ?hxzq ?_; (case Fzq => k_asm); (case Nzq => k_asm); (case hKzq => assumption); (case hozq => assumption); (case hIzq => k_mem); (case hszq => k_subL); (case hlzq => is_list); (case hxzq => rfl); k_whole; intro o' h' hO' F' N') | (refine' Mine.for_list_end ?hhzq ?Fzq ?Nzq ?hozq ?hIzq ?hszq ?hKzq ?hlzq ?hxzq ?_; (case hhzq => rfl); (case Fzq => k_asm); (case Nzq => k_asm); (case hKzq => assumption); (case hozq => assumption); (case hIzq => k_mem); (case hszq => k_subL); (case hlzq => is_list); (case hxzq => rfl); k_whole; intro h' F' N')); (try k_sweep); (try dsimp only))
    | ((with_reducible show wpAny _ _ (pyIter (Value.ref _)) (fun it s₂ => Mine.codeC _ _ _ _ _) _ _); k_dflt (first | (refine' Mine.iter_tup ?Fzq ?Nzq ?lzq ?_; (case Fzq => k_asm); (case Nzq => k_asm); (case lzq => exact Mine.tuple_K (Frag.In.keeps (by k_asm) (Fr.keep (by k_asm))) (by k_is)); k_whole) | (refine' Mine.iter_list ?Fzq ?Nzq ?lzq ?_; (case Fzq => k_asm); (case Nzq => k_asm); (case lzq => is_list); k_whole)); intro I' o' h' hO' F' N' hK' l1; (try k_lt l1); (try dsimp only))
    | ((with_reducible show wpAny _ _ (call (Value.type "bytes") [Value.ref _]) _ _ _); k_dflt (refine' Mine.ba_bytes_K ?k1zq ?k2zq ?k3zq ?_; (case k1zq => k_asm); (case k2zq => k_mem); (case k3zq => ((try simp only [Array.size_setIfInBounds, Array.size_replicate]); first | decide | omega)); k_whole); intro _ _)
    | ((with_reducible show wpAny _ _ (PySem.setItem (Value.ref _) (Value.int _ _) (Value.int _ _)) _ _ _); k_dflt (refine' Mine.ba_set_K ?k1zq ?k2zq ?k3zq ?k4zq ?k5zq ?k6zq ?k7zq ?k8zq ?_; (case k1zq => k_asm); (case k2zq => k_asm); (case k3zq => k_upd); (case k4zq => ((try simp only [Array.size_setIfInBounds, Array.size_replicate]); first | decide | omega)); (case k5zq => decide); (case k6zq => ((try simp only [Array.size_setIfInBounds, Array.size_replicate]); first | decide | omega)); (case k7zq => first | exact fmod_lo _ (by decide) | exact fmod_hi _ (by decide)); (case k8zq => first | exact fmod_lo _ (by decide) | exact fmod_hi _ (by decide)); k_whole); intro h' F' N'; (try k_sweep))
    | ((with_reducible show Mine.wpC _ _ (call (Value.type "bytearray") _ _) _ _ _); k_dflt (refine' Mine.ba_new_K ?k1zq ?k2zq ?k3zq ?k4zq ?_; (case k1zq => k_asm); (case k2zq => k_asm); (case k3zq => first | decide | omega); (case k4zq => first | decide | omega); k_whole); intro S' h' F' N' l1; (try k_lt l1); (try k_sweep); (try dsimp only)))
  k_with "tails9" => (first | exact fun _ h => h | (intro _ h9; (repeat' (first | exact h9 | refine List.Mem.tail _ ?_)); done))
  k_with "mem9" => (first | exact List.mem_cons_self | (refine' List.mem_cons_of_mem _ ?_; k_extra "mem9") | assumption)
  k_with "ltS9" => (first | exact Nat.lt_succ_self _ | (refine Nat.lt_succ_of_lt ?_; k_extra "ltS9"))
  trivial
set_option maxHeartbeats 8000000
theorem lines_PM_1 : True := by
  k_with "steps" => (repeat' (first
    | ((with_reducible show wpAny _ _ (eval (PySem.Expr.Name _ _) (PyProof.Rows.envOf _ _ _ _ _)) _ _ _); first | (refine' Mine.nameM ?Fzq ?vzq ?_ rfl ?bzq ?czq; (case bzq => with_reducible first | exact k229_ids _ | exact k229_names _ | exact k229_sizes _ | exact k229_total _ | exact k229_space _ | exact k229_size _ | exact k229_rest _); (case Fzq => with_reducible assumption); (case vzq => first | (with_reducible exact Mine.lk0) | ((with_reducible refine' Mine.lk1 ?_) <;> decide +kernel) | ((with_reducible refine' Mine.lk2 ?_ ?_) <;> decide +kernel) | ((with_reducible refine' Mine.lk3 ?_ ?_ ?_) <;> decide +kernel) | ((with_reducible refine' Mine.lk4 ?_ ?_ ?_ ?_) <;> decide +kernel) | ((with_reducible refine' Mine.lk5 ?_ ?_ ?_ ?_ ?_) <;> decide +kernel) | ((with_reducible refine' Mine.lk6 ?_ ?_ ?_ ?_ ?_ ?_) <;> decide +kernel) | ((with_reducible refine' Mine.lk7 ?_ ?_ ?_ ?_ ?_ ?_ ?_) <;> decide +kernel) | ((with_reducible refine' Mine.lk8 ?_ ?_ ?_ ?_ ?_ ?_ ?_ ?_) <;> decide +kernel) | ((with_reducible refine' Mine.lk9 ?_ ?_ ?_ ?_ ?_ ?_ ?_ ?_ ?_) <;> decide +kernel)); (case czq => decide +kernel)) | ((first | have F' := Mine.fr_mapLX (by with_reducible assumption) | have F' := Mine.fr_mapL (m := fun _ => none) (by with_reducible assumption)); refine' Mine.nameM ?Fzq ?vzq ?_ rfl ?bzq ?czq; (case bzq => with_reducible first | exact k229_ids _ | exact k229_names _ | exact k229_sizes _ | exact k229_total _ | exact k229_space _ | exact k229_size _ | exact k229_rest _); (case Fzq => with_reducible assumption); (case vzq => first | (with_reducible exact Mine.lk0) | ((with_reducible refine' Mine.lk1 ?_) <;> decide +kernel) | ((with_reducible refine' Mine.lk2 ?_ ?_) <;> decide +kernel) | ((with_reducible refine' Mine.lk3 ?_ ?_ ?_) <;> decide +kernel) | ((with_reducible refine' Mine.lk4 ?_ ?_ ?_ ?_) <;> decide +kernel) | ((with_reducible refine' Mine.lk5 ?_ ?_ ?_ ?_ ?_) <;> decide +kernel) | ((with_reducible refine' Mine.lk6 ?_ ?_ ?_ ?_ ?_ ?_) <;> decide +kernel) | ((with_reducible refine' Mine.lk7 ?_ ?_ ?_ ?_ ?_ ?_ ?_) <;> decide +kernel) | ((with_reducible refine' Mine.lk8 ?_ ?_ ?_ ?_ ?_ ?_ ?_ ?_) <;> decide +kernel) | ((with_reducible refine' Mine.lk9 ?_ ?_ ?_ ?_ ?_ ?_ ?_ ?_ ?_) <;> decide +kernel)); (case czq => decide +kernel)) | (refine' nameX_K ?Fzq ?Xzq ?Tzq ?ezq ?_ rfl ?bzq ?czq; (case bzq => with_reducible first | exact k229_zip _ | exact k229_max _ | exact k229_len _); (case Fzq => k_asm); (case Xzq => k_asm); (case ezq => k_is); (case Tzq => k_asm); (case czq => decide +kernel)) | (refine' nameX_B ?Fzq ?Xzq ?Tzq ?ezq ?vzq ?nzq ?_ rfl ?bzq ?czq; (case bzq => with_reducible first | exact k229_zip _ | exact k229_max _ | exact k229_len _); (case Fzq => k_asm); (case Xzq => k_asm); (case ezq => with_reducible first | exact b_len _ | exact b_max _ | exact b_zip _); (case Tzq => k_asm); (case vzq => with_reducible first | exact bt_len | exact bt_max | exact bt_zip); (case nzq => decide +kernel); (case czq => decide +kernel)) | (refine' nameX_L ?Fzq ?vzq ?_ rfl ?bzq ?czq; (case bzq => with_reducible first | exact k229_ids _ | exact k229_names _ | exact k229_sizes _ | exact k229_total _ | exact k229_space _ | exact k229_size _ | exact k229_rest _); (case Fzq => k_asm); (case vzq => rfl); (case czq => decide +kernel)))
    | ((with_reducible show wpAny _ _ (storeName (PyProof.Rows.envOf _ _ _ _ _) _ _) _ _ _); first | (refine' Mine.storeM ?Fzq ?Nzq ?_ rfl ?bzq; (case bzq => with_reducible first | exact k229_ids _ | exact k229_names _ | exact k229_sizes _ | exact k229_total _ | exact k229_space _ | exact k229_size _ | exact k229_rest _); (case Fzq => with_reducible assumption); (case Nzq => with_reducible assumption); intro h' k' F' N'; (try k_sweep)) | ((first | have F' := Mine.fr_mapLX (by with_reducible assumption) | have F' := Mine.fr_mapL (m := fun _ => none) (by with_reducible assumption)); refine' Mine.storeM ?Fzq ?Nzq ?_ rfl ?bzq; (case bzq => with_reducible first | exact k229_ids _ | exact k229_names _ | exact k229_sizes _ | exact k229_total _ | exact k229_space _ | exact k229_size _ | exact k229_rest _); (case Fzq => with_reducible assumption); (case Nzq => with_reducible assumption); intro h' k' F' N'; (try k_sweep)) | (refine' Mine.storeG ?Fzq ?Nzq ?_ rfl ?bzq; (case bzq => with_reducible first | exact k229_ids _ | exact k229_names _ | exact k229_sizes _ | exact k229_total _ | exact k229_space _ | exact k229_size _ | exact k229_rest _); (case Fzq => k_asm); (case Nzq => k_asm); intro h' k' F' N'; (try replace F' := Mine.fr_mapL F'); (try k_sweep)))
    | k_extra "core"
    | (k_unfold; (try dsimp only))
    | (k_end; wrow_close)
    | ((first | (with_reducible show wpAny _ _ (eval (PySem.Expr.Slice _ _ _ _) _) _ _ _) | (with_reducible show wpAny _ _ (evalPart _ _) _ _ _)); walk1)
    | (walk1; (try dsimp only))
    | (dsimp only; walk1)
    | (leave1; walk_say "STEP leave1"; try dsimp only)
    | fail "no step"))
  trivial
theorem lines_PM_2 : True := by
  k_with "GenV" => (first | ((with_reducible show Mine.GenV (Value.int (_ + _) _) _); refine Mine.genV_int ?_; intro i9 hi9; (try dsimp only)) | (refine Mine.genV_same ?_; (try dsimp only)))
  k_with "steps" => (repeat' (first
    | ((with_reducible show wpAny _ _ (eval (PySem.Expr.Name _ _) (PyProof.Rows.envOf _ _ _ _ _)) _ _ _); first | (refine' Mine.nameM ?Fzq ?vzq ?_ rfl ?bzq ?czq; (case bzq => with_reducible first | exact k229_ids _ | exact k229_names _ | exact k229_sizes _ | exact k229_total _ | exact k229_space _ | exact k229_size _ | exact k229_rest _); (case Fzq => with_reducible assumption); (case vzq => first | (with_reducible exact Mine.lk0) | ((with_reducible refine' Mine.lk1 ?_) <;> decide +kernel) | ((with_reducible refine' Mine.lk2 ?_ ?_) <;> decide +kernel) | ((with_reducible refine' Mine.lk3 ?_ ?_ ?_) <;> decide +kernel) | ((with_reducible refine' Mine.lk4 ?_ ?_ ?_ ?_) <;> decide +kernel) | ((with_reducible refine' Mine.lk5 ?_ ?_ ?_ ?_ ?_) <;> decide +kernel) | ((with_reducible refine' Mine.lk6 ?_ ?_ ?_ ?_ ?_ ?_) <;> decide +kernel) | ((with_reducible refine' Mine.lk7 ?_ ?_ ?_ ?_ ?_ ?_ ?_) <;> decide +kernel) | ((with_reducible refine' Mine.lk8 ?_ ?_ ?_ ?_ ?_ ?_ ?_ ?_) <;> decide +kernel) | ((with_reducible refine' Mine.lk9 ?_ ?_ ?_ ?_ ?_ ?_ ?_ ?_ ?_) <;> decide +kernel)); (case czq => decide +kernel)) | ((first | have F' := Mine.fr_mapLX (by with_reducible assumption) | have F' := Mine.fr_mapL (m := fun _ => none) (by with_reducible assumption)); refine' Mine.nameM ?Fzq ?vzq ?_ rfl ?bzq ?czq; (case bzq => with_reducible first | exact k229_ids _ | exact k229_names _ | exact k229_sizes _ | exact k229_total _ | exact k229_space _ | exact k229_size _ | exact k229_rest _); (case Fzq => with_reducible assumption); (case vzq => first | (with_reducible exact Mine.lk0) | ((with_reducible refine' Mine.lk1 ?_) <;> decide +kernel) | ((with_reducible refine' Mine.lk2 ?_ ?_) <;> decide +kernel) | ((with_reducible refine' Mine.lk3 ?_ ?_ ?_) <;> decide +kernel) | ((with_reducible refine' Mine.lk4 ?_ ?_ ?_ ?_) <;> decide +kernel) | ((with_reducible refine' Mine.lk5 ?_ ?_ ?_ ?_ ?_) <;> decide +kernel) | ((with_reducible refine' Mine.lk6 ?_ ?_ ?_ ?_ ?_ ?_) <;> decide +kernel) | ((with_reducible refine' Mine.lk7 ?_ ?_ ?_ ?_ ?_ ?_ ?_) <;> decide +kernel) | ((with_reducible refine' Mine.lk8 ?_ ?_ ?_ ?_ ?_ ?_ ?_ ?_) <;> decide +kernel) | ((with_reducible refine' Mine.lk9 ?_ ?_ ?_ ?_ ?_ ?_ ?_ ?_ ?_) <;> decide +kernel)); (case czq => decide +kernel)) | (refine' nameX_K ?Fzq ?Xzq ?Tzq ?ezq ?_ rfl ?bzq ?czq; (case bzq => with_reducible first | exact k229_zip _ | exact k229_max _ | exact k229_len _); (case Fzq => k_asm); (case Xzq => k_asm); (case ezq => k_is); (case Tzq => k_asm); (case czq => decide +kernel)) | (refine' nameX_B ?Fzq ?Xzq ?Tzq ?ezq ?vzq ?nzq ?_ rfl ?bzq ?czq; (case bzq => with_reducible first | exact k229_zip _ | exact k229_max _ | exact k229_len _); (case Fzq => k_asm); (case Xzq => k_asm); (case ezq => with_reducible first | exact b_len _ | exact b_max _ | exact b_zip _); (case Tzq => k_asm); (case vzq => with_reducible first | exact bt_len | exact bt_max | exact bt_zip); (case nzq => decide +kernel); (case czq => decide +kernel)) | (refine' nameX_L ?Fzq ?vzq ?_ rfl ?bzq ?czq; (case bzq => with_reducible first | exact k229_ids _ | exact k229_names _ | exact k229_sizes _ | exact k229_total _ | exact k229_space _ | exact k229_size _ | exact k229_rest _); (case Fzq => k_asm); (case vzq => rfl); (case czq => decide +kernel)))
    | ((with_reducible show wpAny _ _ (storeName (PyProof.Rows.envOf _ _ _ _ _) _ _) _ _ _); first | (refine' Mine.storeM ?Fzq ?Nzq ?_ rfl ?bzq; (case bzq => with_reducible first | exact k229_ids _ | exact k229_names _ | exact k229_sizes _ | exact k229_total _ | exact k229_space _ | exact k229_size _ | exact k229_rest _); (case Fzq => with_reducible assumption); (case Nzq => with_reducible assumption); intro h' k' F' N'; (try k_sweep)) | ((first | have F' := Mine.fr_mapLX (by with_reducible assumption) | have F' := Mine.fr_mapL (m := fun _ => none) (by with_reducible assumption)); refine' Mine.storeM ?Fzq ?Nzq ?_ rfl ?bzq; (case bzq => with_reducible first | exact k229_ids _ | exact k229_names _ | exact k229_sizes _ | exact k229_total _ | exact k229_space _ | exact k229_size _ | exact k229_rest _); (case Fzq => with_reducible assumption); (case Nzq => with_reducible assumption); intro h' k' F' N'; (try k_sweep)) | (refine' Mine.storeG ?Fzq ?Nzq ?_ rfl ?bzq; (case bzq => with_reducible first | exact k229_ids _ | exact k229_names _ | exact k229_sizes _ | exact k229_total _ | exact k229_space _ | exact k229_size _ | exact k229_rest _); (case Fzq => k_asm); (case Nzq => k_asm); intro h' k' F' N'; (try replace F' := Mine.fr_mapL F'); (try k_sweep)))
    | ((with_reducible show wpAny _ _ (exec (Stmt.Assign [Expr.Name _ _] (Expr.BinOp _ _ _ _) _) _) _ _ _); (with_reducible refine' Mine.assign_gen ?hszq ?_); (case hszq => rfl))
    | k_extra "core"
    | (k_unfold; (try dsimp only))
    | (k_end; wrow_close)
    | ((first | (with_reducible show wpAny _ _ (eval (PySem.Expr.Slice _ _ _ _) _) _ _ _) | (with_reducible show wpAny _ _ (evalPart _ _) _ _ _)); walk1)
    | (walk1; (try dsimp only))
    | (dsimp only; walk1)
    | (leave1; walk_say "STEP leave1"; try dsimp only)
    | fail "no step"))
  trivial
theorem law_total_h (w : World) (news : List (Addr × Obj)) (ids nm sz : Addr) (ki kn ks : Nat) (ud us tq ts0 : Tok) (bd bs : Array UInt8) (pd ps : Nat) (q : Int) (hd1 : bd.size = pd) (hs1 : bs.size = ps) (h1 : pd ≤ 100) (h2 : ps ≤ 100) (hm0 : (ids, tupObj [Value.bytes bd ud, Value.bytes bs us] ki) ∈ news) (hm1 : (nm, PySem.W.listOf [Value.str (Str.ofString "handshake") ts0].toArray kn) ∈ news) (hm2 : (sz, PySem.W.listOf [Value.int q tq].toArray ks) ∈ news) : CS w 229 news [.ref ids, .ref nm, .ref sz] 2 (IntIs (lsz 2 pd ps q)) := by
  unfold CS
  intro mean mg mb dp un gd cn cs a ccd cl outer A₀ base h₀ L m s Q E B F X N T hk hd hu hret
  have hl : ∀ q9 ∈ ([(ids, tupObj [Value.bytes bd ud, Value.bytes bs us] ki), (nm, PySem.W.listOf [Value.str (Str.ofString "handshake") ts0].toArray kn), (sz, PySem.W.listOf [Value.int q tq].toArray ks)] : List (Addr × Obj)), q9 ∈ news := List.forall_mem_cons.mpr ⟨hm0, List.forall_mem_cons.mpr ⟨hm1, List.forall_mem_cons.mpr ⟨hm2, fun _ h => nomatch h⟩⟩⟩
  k_extra "cs_enter"
  change Fr g' L' h' (Mine.mapL [(Str.ofString "sizes", Value.ref sz), (Str.ofString "names", Value.ref nm), (Str.ofString "ids", Value.ref ids)]) at F'
  refine Mine.wpAny_fold ?_
  intro qf' hqf'
  k_extra "steps"
  all_goals exact intIs_of (by simp only [lsz]; generalize (if (3 : Int) > q then (3 : Int) else q) = m9 at *; first | omega | (split <;> omega) | (split <;> split <;> omega))
theorem law_total_i (w : World) (news : List (Addr × Obj)) (ids nm sz : Addr) (ki kn ks : Nat) (ud us tq ts0 : Tok) (bd bs : Array UInt8) (pd ps : Nat) (q : Int) (hd1 : bd.size = pd) (hs1 : bs.size = ps) (h1 : pd ≤ 100) (h2 : ps ≤ 100) (hm0 : (ids, tupObj [Value.bytes bd ud, Value.bytes bs us] ki) ∈ news) (hm1 : (nm, PySem.W.listOf [Value.str (Str.ofString "initial") ts0].toArray kn) ∈ news) (hm2 : (sz, PySem.W.listOf [Value.int q tq].toArray ks) ∈ news) : CS w 229 news [.ref ids, .ref nm, .ref sz] 2 (IntIs (lsz 1 pd ps q)) := by
  unfold CS
  intro mean mg mb dp un gd cn cs a ccd cl outer A₀ base h₀ L m s Q E B F X N T hk hd hu hret
  have hl : ∀ q9 ∈ ([(ids, tupObj [Value.bytes bd ud, Value.bytes bs us] ki), (nm, PySem.W.listOf [Value.str (Str.ofString "initial") ts0].toArray kn), (sz, PySem.W.listOf [Value.int q tq].toArray ks)] : List (Addr × Obj)), q9 ∈ news := List.forall_mem_cons.mpr ⟨hm0, List.forall_mem_cons.mpr ⟨hm1, List.forall_mem_cons.mpr ⟨hm2, fun _ h => nomatch h⟩⟩⟩
  k_extra "cs_enter"
  change Fr g' L' h' (Mine.mapL [(Str.ofString "sizes", Value.ref sz), (Str.ofString "names", Value.ref nm), (Str.ofString "ids", Value.ref ids)]) at F'
  refine Mine.wpAny_fold ?_
  intro qf' hqf'
  k_extra "steps"
  all_goals exact intIs_of (by simp only [lsz]; generalize (if (3 : Int) > q then (3 : Int) else q) = m9 at *; first | omega | (split <;> omega) | (split <;> split <;> omega))
theorem law_total_ih (w : World) (news : List (Addr × Obj)) (ids nm sz : Addr) (ki kn ks : Nat) (ud us tq ts0 ts1 t1 : Tok) (bd bs : Array UInt8) (pd ps : Nat) (q : Int) (hd1 : bd.size = pd) (hs1 : bs.size = ps) (h1 : pd ≤ 100) (h2 : ps ≤ 100) (hm0 : (ids, tupObj [Value.bytes bd ud, Value.bytes bs us] ki) ∈ news) (hm1 : (nm, PySem.W.listOf [Value.str (Str.ofString "initial") ts0, Value.str (Str.ofString "handshake") ts1].toArray kn) ∈ news) (hm2 : (sz, PySem.W.listOf [Value.int 1 t1, Value.int q tq].toArray ks) ∈ news) : CS w 229 news [.ref ids, .ref nm, .ref sz] 2 (IntIs ((7 + pd + ps + 1 + 1 + 20) + lsz 2 pd ps q)) := by
  unfold CS
  intro mean mg mb dp un gd cn cs a ccd cl outer A₀ base h₀ L m s Q E B F X N T hk hd hu hret
  have hl : ∀ q9 ∈ ([(ids, tupObj [Value.bytes bd ud, Value.bytes bs us] ki), (nm, PySem.W.listOf [Value.str (Str.ofString "initial") ts0, Value.str (Str.ofString "handshake") ts1].toArray kn), (sz, PySem.W.listOf [Value.int 1 t1, Value.int q tq].toArray ks)] : List (Addr × Obj)), q9 ∈ news := List.forall_mem_cons.mpr ⟨hm0, List.forall_mem_cons.mpr ⟨hm1, List.forall_mem_cons.mpr ⟨hm2, fun _ h => nomatch h⟩⟩⟩
  k_extra "cs_enter"
  change Fr g' L' h' (Mine.mapL [(Str.ofString "sizes", Value.ref sz), (Str.ofString "names", Value.ref nm), (Str.ofString "ids", Value.ref ids)]) at F'
  refine Mine.wpAny_fold ?_
  intro qf' hqf'
  k_extra "steps"
  all_goals exact intIs_of (by simp only [lsz]; generalize (if (3 : Int) > q then (3 : Int) else q) = m9 at *; first | omega | (split <;> omega) | (split <;> split <;> omega))
theorem law_total_ia (w : World) (news : List (Addr × Obj)) (ids nm sz : Addr) (ki kn ks : Nat) (ud us tq ts0 ts1 t1 : Tok) (bd bs : Array UInt8) (pd ps : Nat) (q : Int) (hd1 : bd.size = pd) (hs1 : bs.size = ps) (h1 : pd ≤ 100) (h2 : ps ≤ 100) (hm0 : (ids, tupObj [Value.bytes bd ud, Value.bytes bs us] ki) ∈ news) (hm1 : (nm, PySem.W.listOf [Value.str (Str.ofString "initial") ts0, Value.str (Str.ofString "application") ts1].toArray kn) ∈ news) (hm2 : (sz, PySem.W.listOf [Value.int 1 t1, Value.int q tq].toArray ks) ∈ news) : CS w 229 news [.ref ids, .ref nm, .ref sz] 2 (IntIs ((7 + pd + ps + 1 + 1 + 20) + lsz 0 pd 0 q)) := by
  unfold CS
  intro mean mg mb dp un gd cn cs a ccd cl outer A₀ base h₀ L m s Q E B F X N T hk hd hu hret
  have hl : ∀ q9 ∈ ([(ids, tupObj [Value.bytes bd ud, Value.bytes bs us] ki), (nm, PySem.W.listOf [Value.str (Str.ofString "initial") ts0, Value.str (Str.ofString "application") ts1].toArray kn), (sz, PySem.W.listOf [Value.int 1 t1, Value.int q tq].toArray ks)] : List (Addr × Obj)), q9 ∈ news := List.forall_mem_cons.mpr ⟨hm0, List.forall_mem_cons.mpr ⟨hm1, List.forall_mem_cons.mpr ⟨hm2, fun _ h => nomatch h⟩⟩⟩
  k_extra "cs_enter"
  change Fr g' L' h' (Mine.mapL [(Str.ofString "sizes", Value.ref sz), (Str.ofString "names", Value.ref nm), (Str.ofString "ids", Value.ref ids)]) at F'
  refine Mine.wpAny_fold ?_
  intro qf' hqf'
  k_extra "steps"
  all_goals exact intIs_of (by simp only [lsz]; generalize (if (3 : Int) > q then (3 : Int) else q) = m9 at *; first | omega | (split <;> omega) | (split <;> split <;> omega))
local macro_rules | `(tactic| k_lt $h) => `(tactic| skip)
local macro_rules | `(tactic| k_ne) => `(tactic| first | exact Nat.ne_of_gt (lt_of_all (by with_reducible assumption) (by k_mem)) | exact Nat.ne_of_lt (lt_of_all (by with_reducible assumption) (by k_mem)) | with_reducible assumption | exact off1_mem (by with_reducible assumption) (by k_mem) | exact Ne.symm (off1_mem (by with_reducible assumption) (by k_mem)) | exact (LCg.Off3.mem (by with_reducible assumption) (_, _) (by k_mem)).1 | exact (LCg.Off3.mem (by with_reducible assumption) (_, _) (by k_mem)).2.1 | exact (LCg.Off3.mem (by with_reducible assumption) (_, _) (by k_mem)).2.2 | (refine Nat.ne_of_lt ?_; k_extra "ltS9") | (refine Nat.ne_of_gt ?_; k_extra "ltS9") | (refine neN ?_; (try dsimp only); omega))
local macro_rules | `(tactic| k_mem) => `(tactic| k_extra "mem9")
local macro_rules | `(tactic| news_mem) => `(tactic| k_mem)
local macro_rules | `(tactic| k_subL) => `(tactic| first | exact Mine.subL_of (by k_extra "tails9") | exact trivial | (refine And.intro (by k_mem) ?_; k_subL))
local macro_rules | `(tactic| k_all) => `(tactic| first | exact List.forall_mem_nil _ | exact Mine.all_ne (by with_reducible assumption) (by k_extra "tails9") | (refine' List.forall_mem_cons.mpr ⟨?a, ?b⟩; (case a => k_ne); (case b => k_all)))
local macro_rules | `(tactic| k_offL) => `(tactic| first | exact Mine.offI_of (by k_all) | exact trivial | (refine And.intro (by first | exact Or.inr (by k_cls) | exact Or.inl (by k_ne)) ?_; k_offL))
theorem lines_PW1_1 : True := by
  k_with "steps" => (repeat' (first
    | ((with_reducible show wpAny _ _ (eval (PySem.Expr.Name _ _) (PyProof.Rows.envOf _ _ _ _ _)) _ _ _); first | (refine' Mine.nameM ?Fzq ?vzq ?_ rfl ?bzq ?czq; (case bzq => with_reducible first | exact k42_n _ | exact k42_size _ | exact k42_found _ | exact k42_place _); (case Fzq => with_reducible assumption); (case vzq => first | (with_reducible exact Mine.lk0) | ((with_reducible refine' Mine.lk1 ?_) <;> decide +kernel) | ((with_reducible refine' Mine.lk2 ?_ ?_) <;> decide +kernel) | ((with_reducible refine' Mine.lk3 ?_ ?_ ?_) <;> decide +kernel) | ((with_reducible refine' Mine.lk4 ?_ ?_ ?_ ?_) <;> decide +kernel) | ((with_reducible refine' Mine.lk5 ?_ ?_ ?_ ?_ ?_) <;> decide +kernel) | ((with_reducible refine' Mine.lk6 ?_ ?_ ?_ ?_ ?_ ?_) <;> decide +kernel) | ((with_reducible refine' Mine.lk7 ?_ ?_ ?_ ?_ ?_ ?_ ?_) <;> decide +kernel) | ((with_reducible refine' Mine.lk8 ?_ ?_ ?_ ?_ ?_ ?_ ?_ ?_) <;> decide +kernel) | ((with_reducible refine' Mine.lk9 ?_ ?_ ?_ ?_ ?_ ?_ ?_ ?_ ?_) <;> decide +kernel)); (case czq => decide +kernel)) | ((first | have F' := Mine.fr_mapLX (by with_reducible assumption) | have F' := Mine.fr_mapL (m := fun _ => none) (by with_reducible assumption)); refine' Mine.nameM ?Fzq ?vzq ?_ rfl ?bzq ?czq; (case bzq => with_reducible first | exact k42_n _ | exact k42_size _ | exact k42_found _ | exact k42_place _); (case Fzq => with_reducible assumption); (case vzq => first | (with_reducible exact Mine.lk0) | ((with_reducible refine' Mine.lk1 ?_) <;> decide +kernel) | ((with_reducible refine' Mine.lk2 ?_ ?_) <;> decide +kernel) | ((with_reducible refine' Mine.lk3 ?_ ?_ ?_) <;> decide +kernel) | ((with_reducible refine' Mine.lk4 ?_ ?_ ?_ ?_) <;> decide +kernel) | ((with_reducible refine' Mine.lk5 ?_ ?_ ?_ ?_ ?_) <;> decide +kernel) | ((with_reducible refine' Mine.lk6 ?_ ?_ ?_ ?_ ?_ ?_) <;> decide +kernel) | ((with_reducible refine' Mine.lk7 ?_ ?_ ?_ ?_ ?_ ?_ ?_) <;> decide +kernel) | ((with_reducible refine' Mine.lk8 ?_ ?_ ?_ ?_ ?_ ?_ ?_ ?_) <;> decide +kernel) | ((with_reducible refine' Mine.lk9 ?_ ?_ ?_ ?_ ?_ ?_ ?_ ?_ ?_) <;> decide +kernel)); (case czq => decide +kernel)) | (refine' nameX_K ?Fzq ?Xzq ?Tzq ?ezq ?_ rfl ?bzq ?czq; (case bzq => with_reducible first | exact k42_bytearray _ | exact k42_range _ | exact k42_bytes _); (case Fzq => k_asm); (case Xzq => k_asm); (case ezq => k_is); (case Tzq => k_asm); (case czq => decide +kernel)) | (refine' nameX_B ?Fzq ?Xzq ?Tzq ?ezq ?vzq ?nzq ?_ rfl ?bzq ?czq; (case bzq => with_reducible first | exact k42_bytearray _ | exact k42_range _ | exact k42_bytes _); (case Fzq => k_asm); (case Xzq => k_asm); (case ezq => with_reducible first | exact b_bytearray _ | exact b_bytes _ | exact b_range _); (case Tzq => k_asm); (case vzq => with_reducible first | exact bt_bytearray | exact bt_bytes | exact bt_range); (case nzq => decide +kernel); (case czq => decide +kernel)) | (refine' nameX_L ?Fzq ?vzq ?_ rfl ?bzq ?czq; (case bzq => with_reducible first | exact k42_n _ | exact k42_size _ | exact k42_found _ | exact k42_place _); (case Fzq => k_asm); (case vzq => rfl); (case czq => decide +kernel)))
    | ((with_reducible show wpAny _ _ (storeName (PyProof.Rows.envOf _ _ _ _ _) _ _) _ _ _); first | (refine' Mine.storeM ?Fzq ?Nzq ?_ rfl ?bzq; (case bzq => with_reducible first | exact k42_n _ | exact k42_size _ | exact k42_found _ | exact k42_place _); (case Fzq => with_reducible assumption); (case Nzq => with_reducible assumption); intro h' k' F' N'; (try k_sweep)) | ((first | have F' := Mine.fr_mapLX (by with_reducible assumption) | have F' := Mine.fr_mapL (m := fun _ => none) (by with_reducible assumption)); refine' Mine.storeM ?Fzq ?Nzq ?_ rfl ?bzq; (case bzq => with_reducible first | exact k42_n _ | exact k42_size _ | exact k42_found _ | exact k42_place _); (case Fzq => with_reducible assumption); (case Nzq => with_reducible assumption); intro h' k' F' N'; (try k_sweep)) | (refine' Mine.storeG ?Fzq ?Nzq ?_ rfl ?bzq; (case bzq => with_reducible first | exact k42_n _ | exact k42_size _ | exact k42_found _ | exact k42_place _); (case Fzq => k_asm); (case Nzq => k_asm); intro h' k' F' N'; (try replace F' := Mine.fr_mapL F'); (try k_sweep)))
    | ((with_reducible show Mine.wpC _ _ (eval (PySem.Expr.Call (PySem.Expr.Name (PySem.Str.ofString "bytearray") _) _ _ _) _) _ _ _); refine' Mine.wpC_Call _ _ ?hezq ?_; (case hezq => rfl))
    | k_extra "core"
    | (k_unfold; (try dsimp only))
    | (k_end; wrow_close)
    | ((first | (with_reducible show wpAny _ _ (eval (PySem.Expr.Slice _ _ _ _) _) _ _ _) | (with_reducible show wpAny _ _ (evalPart _ _) _ _ _)); walk1)
    | (walk1; (try dsimp only))
    | (dsimp only; walk1)
    | (leave1; walk_say "STEP leave1"; try dsimp only)
    | fail "no step"))
  trivial
theorem put_whole_1 (w : World) (news : List (Addr × Obj)) (n : Int) (t t' : Tok) (h0 : 0 ≤ n) (h1 : n < 256) : CSC w 42 news [.int n t, .int 1 t'] 1 (BytesN 1) := by
  unfold CSC
  intro mean mg mb dp un gd cn cs a ccd cl outer A₀ base h₀ L m s Q E B F X N T hk hd hu hret
  have hl : ∀ q9 ∈ news, q9 ∈ news := fun _ h => h
  have hs : n.fdiv ((2 : Int) ^ (8 * 1 : Int).toNat) = 0 := by
    rw [show (2 : Int) ^ (8 * 1 : Int).toNat = 256 from rfl, Int.fdiv_eq_ediv_of_nonneg _ (by decide)]
    omega
  k_extra "csc_enter"
  change Fr g' L' h' (Mine.mapL [(Str.ofString "size", Value.int 1 t'), (Str.ofString "n", Value.int n t)]) at F'
  refine Mine.wpC_fold ?_
  intro qf' hqf'
  k_extra "steps"
  all_goals exact bytesN_of (by simp only [Array.size_setIfInBounds, Array.size_replicate]; rfl)
theorem put_whole_2 (w : World) (news : List (Addr × Obj)) (n : Int) (t t' : Tok) (h0 : 0 ≤ n) (h1 : n < 65536) : CSC w 42 news [.int n t, .int 2 t'] 1 (BytesN 2) := by
  unfold CSC
  intro mean mg mb dp un gd cn cs a ccd cl outer A₀ base h₀ L m s Q E B F X N T hk hd hu hret
  have hl : ∀ q9 ∈ news, q9 ∈ news := fun _ h => h
  have hs : n.fdiv ((2 : Int) ^ (8 * 2 : Int).toNat) = 0 := by
    rw [show (2 : Int) ^ (8 * 2 : Int).toNat = 65536 from rfl, Int.fdiv_eq_ediv_of_nonneg _ (by decide)]
    omega
  k_extra "csc_enter"
  change Fr g' L' h' (Mine.mapL [(Str.ofString "size", Value.int 2 t'), (Str.ofString "n", Value.int n t)]) at F'
  refine Mine.wpC_fold ?_
  intro qf' hqf'
  k_extra "steps"
  all_goals exact bytesN_of (by simp only [Array.size_setIfInBounds, Array.size_replicate]; rfl)
theorem put_whole_4 (w : World) (news : List (Addr × Obj)) (n : Int) (t t' : Tok) (h0 : 0 ≤ n) (h1 : n < 4294967296) : CSC w 42 news [.int n t, .int 4 t'] 1 (BytesN 4) := by
  unfold CSC
  intro mean mg mb dp un gd cn cs a ccd cl outer A₀ base h₀ L m s Q E B F X N T hk hd hu hret
  have hl : ∀ q9 ∈ news, q9 ∈ news := fun _ h => h
  have hs : n.fdiv ((2 : Int) ^ (8 * 4 : Int).toNat) = 0 := by
    rw [show (2 : Int) ^ (8 * 4 : Int).toNat = 4294967296 from rfl, Int.fdiv_eq_ediv_of_nonneg _ (by decide)]
    omega
  k_extra "csc_enter"
  change Fr g' L' h' (Mine.mapL [(Str.ofString "size", Value.int 4 t'), (Str.ofString "n", Value.int n t)]) at F'
  refine Mine.wpC_fold ?_
  intro qf' hqf'
  k_extra "steps"
  all_goals exact bytesN_of (by simp only [Array.size_setIfInBounds, Array.size_replicate]; rfl)
theorem lines_PV1_1 : True := by
  k_with "steps" => (repeat' (first
    | ((with_reducible show wpAny _ _ (eval (PySem.Expr.Name _ _) (PyProof.Rows.envOf _ _ _ _ _)) _ _ _); first | (refine' Mine.nameM ?Fzq ?vzq ?_ rfl ?bzq ?czq; (case bzq => with_reducible first | exact k49_n _ | exact k49_size _); (case Fzq => with_reducible assumption); (case vzq => first | (with_reducible exact Mine.lk0) | ((with_reducible refine' Mine.lk1 ?_) <;> decide +kernel) | ((with_reducible refine' Mine.lk2 ?_ ?_) <;> decide +kernel) | ((with_reducible refine' Mine.lk3 ?_ ?_ ?_) <;> decide +kernel) | ((with_reducible refine' Mine.lk4 ?_ ?_ ?_ ?_) <;> decide +kernel) | ((with_reducible refine' Mine.lk5 ?_ ?_ ?_ ?_ ?_) <;> decide +kernel) | ((with_reducible refine' Mine.lk6 ?_ ?_ ?_ ?_ ?_ ?_) <;> decide +kernel) | ((with_reducible refine' Mine.lk7 ?_ ?_ ?_ ?_ ?_ ?_ ?_) <;> decide +kernel) | ((with_reducible refine' Mine.lk8 ?_ ?_ ?_ ?_ ?_ ?_ ?_ ?_) <;> decide +kernel) | ((with_reducible refine' Mine.lk9 ?_ ?_ ?_ ?_ ?_ ?_ ?_ ?_ ?_) <;> decide +kernel)); (case czq => decide +kernel)) | ((first | have F' := Mine.fr_mapLX (by with_reducible assumption) | have F' := Mine.fr_mapL (m := fun _ => none) (by with_reducible assumption)); refine' Mine.nameM ?Fzq ?vzq ?_ rfl ?bzq ?czq; (case bzq => with_reducible first | exact k49_n _ | exact k49_size _); (case Fzq => with_reducible assumption); (case vzq => first | (with_reducible exact Mine.lk0) | ((with_reducible refine' Mine.lk1 ?_) <;> decide +kernel) | ((with_reducible refine' Mine.lk2 ?_ ?_) <;> decide +kernel) | ((with_reducible refine' Mine.lk3 ?_ ?_ ?_) <;> decide +kernel) | ((with_reducible refine' Mine.lk4 ?_ ?_ ?_ ?_) <;> decide +kernel) | ((with_reducible refine' Mine.lk5 ?_ ?_ ?_ ?_ ?_) <;> decide +kernel) | ((with_reducible refine' Mine.lk6 ?_ ?_ ?_ ?_ ?_ ?_) <;> decide +kernel) | ((with_reducible refine' Mine.lk7 ?_ ?_ ?_ ?_ ?_ ?_ ?_) <;> decide +kernel) | ((with_reducible refine' Mine.lk8 ?_ ?_ ?_ ?_ ?_ ?_ ?_ ?_) <;> decide +kernel) | ((with_reducible refine' Mine.lk9 ?_ ?_ ?_ ?_ ?_ ?_ ?_ ?_ ?_) <;> decide +kernel)); (case czq => decide +kernel)) | (refine' nameX_K ?Fzq ?Xzq ?Tzq ?ezq ?_ rfl ?bzq ?czq; (case bzq => with_reducible first | exact k49_VARINT_SIZES _); (case Fzq => k_asm); (case Xzq => k_asm); (case ezq => with_reducible first | exact g_VARINT_SIZES _); (case Tzq => k_asm); (case czq => decide +kernel)) | (refine' nameX_B ?Fzq ?Xzq ?Tzq ?ezq ?vzq ?nzq ?_ rfl ?bzq ?czq; (case bzq => with_reducible first | exact k49_VARINT_SIZES _); (case Fzq => k_asm); (case Xzq => k_asm); (case ezq => k_is); (case Tzq => k_asm); (case vzq => boot_fast); (case nzq => decide +kernel); (case czq => decide +kernel)) | (refine' nameX_L ?Fzq ?vzq ?_ rfl ?bzq ?czq; (case bzq => with_reducible first | exact k49_n _ | exact k49_size _); (case Fzq => k_asm); (case vzq => rfl); (case czq => decide +kernel)))
    | ((with_reducible show wpAny _ _ (storeName (PyProof.Rows.envOf _ _ _ _ _) _ _) _ _ _); first | (refine' Mine.storeM ?Fzq ?Nzq ?_ rfl ?bzq; (case bzq => with_reducible first | exact k49_n _ | exact k49_size _); (case Fzq => with_reducible assumption); (case Nzq => with_reducible assumption); intro h' k' F' N'; (try k_sweep)) | ((first | have F' := Mine.fr_mapLX (by with_reducible assumption) | have F' := Mine.fr_mapL (m := fun _ => none) (by with_reducible assumption)); refine' Mine.storeM ?Fzq ?Nzq ?_ rfl ?bzq; (case bzq => with_reducible first | exact k49_n _ | exact k49_size _); (case Fzq => with_reducible assumption); (case Nzq => with_reducible assumption); intro h' k' F' N'; (try k_sweep)) | (refine' Mine.storeG ?Fzq ?Nzq ?_ rfl ?bzq; (case bzq => with_reducible first | exact k49_n _ | exact k49_size _); (case Fzq => k_asm); (case Nzq => k_asm); intro h' k' F' N'; (try replace F' := Mine.fr_mapL F'); (try k_sweep)))
    | k_extra "core"
    | (k_unfold; (try dsimp only))
    | (k_end; wrow_close)
    | ((first | (with_reducible show wpAny _ _ (eval (PySem.Expr.Slice _ _ _ _) _) _ _ _) | (with_reducible show wpAny _ _ (evalPart _ _) _ _ _)); walk1)
    | (walk1; (try dsimp only))
    | (dsimp only; walk1)
    | (leave1; walk_say "STEP leave1"; try dsimp only)
    | fail "no step"))
  trivial
theorem varint_size_1 (w : World) (news : List (Addr × Obj)) (n : Int) (t : Tok) (h0 : 0 ≤ n) (h1 : n < 64) : CSC w 49 news [.int n t] 1 (IntIs 1) := by
  unfold CSC
  intro mean mg mb dp un gd cn cs a ccd cl outer A₀ base h₀ L m s Q E B F X N T hk hd hu hret
  have hl : ∀ q9 ∈ news, q9 ∈ news := fun _ h => h
  have hp1 : decide (n < (1 : Int) * (2 : Int) ^ ((8 : Int) * 1 - 2).toNat) = true := decide_eq_true h1
  k_extra "csc_enter"
  change Fr g' L' h' (Mine.mapL [(Str.ofString "n", Value.int n t)]) at F'
  refine Mine.wpC_fold ?_
  intro qf' hqf'
  refine wpC_execs_consF ?_
  intro qf' hqf'
  refine wpC_For ?_
  k_extra "steps"
  all_goals exact intIs_of rfl
theorem varint_size_2 (w : World) (news : List (Addr × Obj)) (n : Int) (t : Tok) (h0 : 64 ≤ n) (h1 : n < 16384) : CSC w 49 news [.int n t] 1 (IntIs 2) := by
  unfold CSC
  intro mean mg mb dp un gd cn cs a ccd cl outer A₀ base h₀ L m s Q E B F X N T hk hd hu hret
  have hl : ∀ q9 ∈ news, q9 ∈ news := fun _ h => h
  have hp1 : decide (n < (1 : Int) * (2 : Int) ^ ((8 : Int) * 1 - 2).toNat) = false := decide_eq_false (by show ¬ n < 64; omega)
  have hp2 : decide (n < (1 : Int) * (2 : Int) ^ ((8 : Int) * 2 - 2).toNat) = true := decide_eq_true h1
  k_extra "csc_enter"
  change Fr g' L' h' (Mine.mapL [(Str.ofString "n", Value.int n t)]) at F'
  refine Mine.wpC_fold ?_
  intro qf' hqf'
  refine wpC_execs_consF ?_
  intro qf' hqf'
  refine wpC_For ?_
  k_extra "steps"
  all_goals exact intIs_of rfl
theorem lines_PV2_1 : True := by
  k_with "steps" => (repeat' (first
    | ((with_reducible show wpAny _ _ (eval (PySem.Expr.Name _ _) (PyProof.Rows.envOf _ _ _ _ _)) _ _ _); first | (refine' Mine.nameM ?Fzq ?vzq ?_ rfl ?bzq ?czq; (case bzq => with_reducible first | exact k56_n _ | exact k56_size _ | exact k56_least _); (case Fzq => with_reducible assumption); (case vzq => first | (with_reducible exact Mine.lk0) | ((with_reducible refine' Mine.lk1 ?_) <;> decide +kernel) | ((with_reducible refine' Mine.lk2 ?_ ?_) <;> decide +kernel) | ((with_reducible refine' Mine.lk3 ?_ ?_ ?_) <;> decide +kernel) | ((with_reducible refine' Mine.lk4 ?_ ?_ ?_ ?_) <;> decide +kernel) | ((with_reducible refine' Mine.lk5 ?_ ?_ ?_ ?_ ?_) <;> decide +kernel) | ((with_reducible refine' Mine.lk6 ?_ ?_ ?_ ?_ ?_ ?_) <;> decide +kernel) | ((with_reducible refine' Mine.lk7 ?_ ?_ ?_ ?_ ?_ ?_ ?_) <;> decide +kernel) | ((with_reducible refine' Mine.lk8 ?_ ?_ ?_ ?_ ?_ ?_ ?_ ?_) <;> decide +kernel) | ((with_reducible refine' Mine.lk9 ?_ ?_ ?_ ?_ ?_ ?_ ?_ ?_ ?_) <;> decide +kernel)); (case czq => decide +kernel)) | ((first | have F' := Mine.fr_mapLX (by with_reducible assumption) | have F' := Mine.fr_mapL (m := fun _ => none) (by with_reducible assumption)); refine' Mine.nameM ?Fzq ?vzq ?_ rfl ?bzq ?czq; (case bzq => with_reducible first | exact k56_n _ | exact k56_size _ | exact k56_least _); (case Fzq => with_reducible assumption); (case vzq => first | (with_reducible exact Mine.lk0) | ((with_reducible refine' Mine.lk1 ?_) <;> decide +kernel) | ((with_reducible refine' Mine.lk2 ?_ ?_) <;> decide +kernel) | ((with_reducible refine' Mine.lk3 ?_ ?_ ?_) <;> decide +kernel) | ((with_reducible refine' Mine.lk4 ?_ ?_ ?_ ?_) <;> decide +kernel) | ((with_reducible refine' Mine.lk5 ?_ ?_ ?_ ?_ ?_) <;> decide +kernel) | ((with_reducible refine' Mine.lk6 ?_ ?_ ?_ ?_ ?_ ?_) <;> decide +kernel) | ((with_reducible refine' Mine.lk7 ?_ ?_ ?_ ?_ ?_ ?_ ?_) <;> decide +kernel) | ((with_reducible refine' Mine.lk8 ?_ ?_ ?_ ?_ ?_ ?_ ?_ ?_) <;> decide +kernel) | ((with_reducible refine' Mine.lk9 ?_ ?_ ?_ ?_ ?_ ?_ ?_ ?_ ?_) <;> decide +kernel)); (case czq => decide +kernel)) | (refine' nameX_K ?Fzq ?Xzq ?Tzq ?ezq ?_ rfl ?bzq ?czq; (case bzq => with_reducible first | exact k56_varint_size _ | exact k56_VARINT_SIZES _ | exact k56_put_whole _); (case Fzq => k_asm); (case Xzq => k_asm); (case ezq => with_reducible first | exact g_VARINT_SIZES _ | exact g_put_whole _ | exact g_varint_size _); (case Tzq => k_asm); (case czq => decide +kernel)) | (refine' nameX_B ?Fzq ?Xzq ?Tzq ?ezq ?vzq ?nzq ?_ rfl ?bzq ?czq; (case bzq => with_reducible first | exact k56_varint_size _ | exact k56_VARINT_SIZES _ | exact k56_put_whole _); (case Fzq => k_asm); (case Xzq => k_asm); (case ezq => k_is); (case Tzq => k_asm); (case vzq => boot_fast); (case nzq => decide +kernel); (case czq => decide +kernel)) | (refine' nameX_L ?Fzq ?vzq ?_ rfl ?bzq ?czq; (case bzq => with_reducible first | exact k56_n _ | exact k56_size _ | exact k56_least _); (case Fzq => k_asm); (case vzq => rfl); (case czq => decide +kernel)))
    | ((with_reducible show wpAny _ _ (storeName (PyProof.Rows.envOf _ _ _ _ _) _ _) _ _ _); first | (refine' Mine.storeM ?Fzq ?Nzq ?_ rfl ?bzq; (case bzq => with_reducible first | exact k56_n _ | exact k56_size _ | exact k56_least _); (case Fzq => with_reducible assumption); (case Nzq => with_reducible assumption); intro h' k' F' N'; (try k_sweep)) | ((first | have F' := Mine.fr_mapLX (by with_reducible assumption) | have F' := Mine.fr_mapL (m := fun _ => none) (by with_reducible assumption)); refine' Mine.storeM ?Fzq ?Nzq ?_ rfl ?bzq; (case bzq => with_reducible first | exact k56_n _ | exact k56_size _ | exact k56_least _); (case Fzq => with_reducible assumption); (case Nzq => with_reducible assumption); intro h' k' F' N'; (try k_sweep)) | (refine' Mine.storeG ?Fzq ?Nzq ?_ rfl ?bzq; (case bzq => with_reducible first | exact k56_n _ | exact k56_size _ | exact k56_least _); (case Fzq => k_asm); (case Nzq => k_asm); intro h' k' F' N'; (try replace F' := Mine.fr_mapL F'); (try k_sweep)))
    | ((with_reducible show Mine.wpC _ _ (eval (PySem.Expr.Call (PySem.Expr.Name (PySem.Str.ofString "varint_size") _) _ _ _) _) _ _ _); refine' Mine.wpC_Call _ _ ?hezq ?_; (case hezq => rfl))
    | ((with_reducible show Mine.wpC _ _ (eval (PySem.Expr.Call (PySem.Expr.Name (PySem.Str.ofString "put_whole") _) _ _ _) _) _ _ _); refine' Mine.wpC_Call _ _ ?hezq ?_; (case hezq => rfl))
    | k_extra "core"
    | (k_unfold; (try dsimp only))
    | (k_end; wrow_close)
    | ((first | (with_reducible show wpAny _ _ (eval (PySem.Expr.Slice _ _ _ _) _) _ _ _) | (with_reducible show wpAny _ _ (evalPart _ _) _ _ _)); walk1)
    | (walk1; (try dsimp only))
    | (dsimp only; walk1)
    | (leave1; walk_say "STEP leave1"; try dsimp only)
    | fail "no step"))
  trivial
theorem or_bound {x n : Int} (hx : 0 ≤ x) (h0 : 0 ≤ n) : 0 ≤ Builtin.bitOr x n ∧ Builtin.bitOr x n ≤ x + n := by
  have := bitAnd_range x h0
  rw [bitOr_and]
  omega
theorem or1 {n : Int} (h0 : 0 ≤ n) (h1 : n < 64) : 0 ≤ Builtin.bitOr (((0 : Nat) : Int) * (2 : Int) ^ ((8 : Int) * 1 - 2).toNat) n ∧ Builtin.bitOr (((0 : Nat) : Int) * (2 : Int) ^ ((8 : Int) * 1 - 2).toNat) n < 256 := by
  rw [show ((0 : Nat) : Int) * (2 : Int) ^ ((8 : Int) * 1 - 2).toNat = 0 from rfl]
  have := or_bound (Int.le_refl 0) h0
  omega
theorem or2 {n : Int} (h0 : 64 ≤ n) (h1 : n < 16384) : 0 ≤ Builtin.bitOr (((1 : Nat) : Int) * (2 : Int) ^ ((8 : Int) * 2 - 2).toNat) n ∧ Builtin.bitOr (((1 : Nat) : Int) * (2 : Int) ^ ((8 : Int) * 2 - 2).toNat) n < 65536 := by
  rw [show ((1 : Nat) : Int) * (2 : Int) ^ ((8 : Int) * 2 - 2).toNat = 16384 from rfl]
  have := or_bound (show (0 : Int) ≤ 16384 by decide) (Int.le_trans (by decide) h0)
  omega
theorem lines_PV2_2 : True := by
  k_with "steps" => (repeat' (first
    | ((with_reducible show wpAny _ _ (eval (PySem.Expr.Name _ _) (PyProof.Rows.envOf _ _ _ _ _)) _ _ _); first | (refine' Mine.nameM ?Fzq ?vzq ?_ rfl ?bzq ?czq; (case bzq => with_reducible first | exact k56_n _ | exact k56_size _ | exact k56_least _); (case Fzq => with_reducible assumption); (case vzq => first | (with_reducible exact Mine.lk0) | ((with_reducible refine' Mine.lk1 ?_) <;> decide +kernel) | ((with_reducible refine' Mine.lk2 ?_ ?_) <;> decide +kernel) | ((with_reducible refine' Mine.lk3 ?_ ?_ ?_) <;> decide +kernel) | ((with_reducible refine' Mine.lk4 ?_ ?_ ?_ ?_) <;> decide +kernel) | ((with_reducible refine' Mine.lk5 ?_ ?_ ?_ ?_ ?_) <;> decide +kernel) | ((with_reducible refine' Mine.lk6 ?_ ?_ ?_ ?_ ?_ ?_) <;> decide +kernel) | ((with_reducible refine' Mine.lk7 ?_ ?_ ?_ ?_ ?_ ?_ ?_) <;> decide +kernel) | ((with_reducible refine' Mine.lk8 ?_ ?_ ?_ ?_ ?_ ?_ ?_ ?_) <;> decide +kernel) | ((with_reducible refine' Mine.lk9 ?_ ?_ ?_ ?_ ?_ ?_ ?_ ?_ ?_) <;> decide +kernel)); (case czq => decide +kernel)) | ((first | have F' := Mine.fr_mapLX (by with_reducible assumption) | have F' := Mine.fr_mapL (m := fun _ => none) (by with_reducible assumption)); refine' Mine.nameM ?Fzq ?vzq ?_ rfl ?bzq ?czq; (case bzq => with_reducible first | exact k56_n _ | exact k56_size _ | exact k56_least _); (case Fzq => with_reducible assumption); (case vzq => first | (with_reducible exact Mine.lk0) | ((with_reducible refine' Mine.lk1 ?_) <;> decide +kernel) | ((with_reducible refine' Mine.lk2 ?_ ?_) <;> decide +kernel) | ((with_reducible refine' Mine.lk3 ?_ ?_ ?_) <;> decide +kernel) | ((with_reducible refine' Mine.lk4 ?_ ?_ ?_ ?_) <;> decide +kernel) | ((with_reducible refine' Mine.lk5 ?_ ?_ ?_ ?_ ?_) <;> decide +kernel) | ((with_reducible refine' Mine.lk6 ?_ ?_ ?_ ?_ ?_ ?_) <;> decide +kernel) | ((with_reducible refine' Mine.lk7 ?_ ?_ ?_ ?_ ?_ ?_ ?_) <;> decide +kernel) | ((with_reducible refine' Mine.lk8 ?_ ?_ ?_ ?_ ?_ ?_ ?_ ?_) <;> decide +kernel) | ((with_reducible refine' Mine.lk9 ?_ ?_ ?_ ?_ ?_ ?_ ?_ ?_ ?_) <;> decide +kernel)); (case czq => decide +kernel)) | (refine' nameX_K ?Fzq ?Xzq ?Tzq ?ezq ?_ rfl ?bzq ?czq; (case bzq => with_reducible first | exact k56_varint_size _ | exact k56_VARINT_SIZES _ | exact k56_put_whole _); (case Fzq => k_asm); (case Xzq => k_asm); (case ezq => with_reducible first | exact g_VARINT_SIZES _ | exact g_put_whole _ | exact g_varint_size _); (case Tzq => k_asm); (case czq => decide +kernel)) | (refine' nameX_B ?Fzq ?Xzq ?Tzq ?ezq ?vzq ?nzq ?_ rfl ?bzq ?czq; (case bzq => with_reducible first | exact k56_varint_size _ | exact k56_VARINT_SIZES _ | exact k56_put_whole _); (case Fzq => k_asm); (case Xzq => k_asm); (case ezq => k_is); (case Tzq => k_asm); (case vzq => boot_fast); (case nzq => decide +kernel); (case czq => decide +kernel)) | (refine' nameX_L ?Fzq ?vzq ?_ rfl ?bzq ?czq; (case bzq => with_reducible first | exact k56_n _ | exact k56_size _ | exact k56_least _); (case Fzq => k_asm); (case vzq => rfl); (case czq => decide +kernel)))
    | ((with_reducible show wpAny _ _ (storeName (PyProof.Rows.envOf _ _ _ _ _) _ _) _ _ _); first | (refine' Mine.storeM ?Fzq ?Nzq ?_ rfl ?bzq; (case bzq => with_reducible first | exact k56_n _ | exact k56_size _ | exact k56_least _); (case Fzq => with_reducible assumption); (case Nzq => with_reducible assumption); intro h' k' F' N'; (try k_sweep)) | ((first | have F' := Mine.fr_mapLX (by with_reducible assumption) | have F' := Mine.fr_mapL (m := fun _ => none) (by with_reducible assumption)); refine' Mine.storeM ?Fzq ?Nzq ?_ rfl ?bzq; (case bzq => with_reducible first | exact k56_n _ | exact k56_size _ | exact k56_least _); (case Fzq => with_reducible assumption); (case Nzq => with_reducible assumption); intro h' k' F' N'; (try k_sweep)) | (refine' Mine.storeG ?Fzq ?Nzq ?_ rfl ?bzq; (case bzq => with_reducible first | exact k56_n _ | exact k56_size _ | exact k56_least _); (case Fzq => k_asm); (case Nzq => k_asm); intro h' k' F' N'; (try replace F' := Mine.fr_mapL F'); (try k_sweep)))
    | ((with_reducible show Mine.wpC _ _ (eval (PySem.Expr.Call (PySem.Expr.Name (PySem.Str.ofString "varint_size") _) _ _ _) _) _ _ _); refine' Mine.wpC_Call _ _ ?hezq ?_; (case hezq => rfl))
    | ((with_reducible show Mine.wpC _ _ (eval (PySem.Expr.Call (PySem.Expr.Name (PySem.Str.ofString "put_whole") _) _ _ _) _) _ _ _); refine' Mine.wpC_Call _ _ ?hezq ?_; (case hezq => rfl))
    | ((with_reducible show Mine.wpC _ _ (call (Value.ref 42) _ _) _ _ _); k_dflt (first | (refine' Mine.csc_use_bytes (Mine.put_whole_1 _ _ _ _ _ ?p0zq ?p1zq) ?k1zq ?k2zq ?k3zq ?k4zq ?k5zq ?kKzq ?kdzq ?kuzq ?_; (case k4zq => with_reducible assumption); (case p0zq => first | omega | exact (Mine.or1 (by assumption) (by assumption)).1 | exact (Mine.or1 (by assumption) (by assumption)).2 | exact (Mine.or2 (by assumption) (by assumption)).1 | exact (Mine.or2 (by assumption) (by assumption)).2); (case p1zq => first | omega | exact (Mine.or1 (by assumption) (by assumption)).1 | exact (Mine.or1 (by assumption) (by assumption)).2 | exact (Mine.or2 (by assumption) (by assumption)).1 | exact (Mine.or2 (by assumption) (by assumption)).2); (case k1zq => with_reducible assumption); (case k2zq => with_reducible assumption); (case k3zq => with_reducible assumption); (case k5zq => with_reducible assumption); (case kKzq => first | exact rfl | assumption); (case kdzq => first | exact Mine.room_of (by assumption) (by decide) | ktr_room); (case kuzq => first | exact Mine.units_of (by assumption) (by decide) | ktr_units)) | (refine' Mine.csc_use_bytes (Mine.put_whole_2 _ _ _ _ _ ?p0zq ?p1zq) ?k1zq ?k2zq ?k3zq ?k4zq ?k5zq ?kKzq ?kdzq ?kuzq ?_; (case k4zq => with_reducible assumption); (case p0zq => first | omega | exact (Mine.or1 (by assumption) (by assumption)).1 | exact (Mine.or1 (by assumption) (by assumption)).2 | exact (Mine.or2 (by assumption) (by assumption)).1 | exact (Mine.or2 (by assumption) (by assumption)).2); (case p1zq => first | omega | exact (Mine.or1 (by assumption) (by assumption)).1 | exact (Mine.or1 (by assumption) (by assumption)).2 | exact (Mine.or2 (by assumption) (by assumption)).1 | exact (Mine.or2 (by assumption) (by assumption)).2); (case k1zq => with_reducible assumption); (case k2zq => with_reducible assumption); (case k3zq => with_reducible assumption); (case k5zq => with_reducible assumption); (case kKzq => first | exact rfl | assumption); (case kdzq => first | exact Mine.room_of (by assumption) (by decide) | ktr_room); (case kuzq => first | exact Mine.units_of (by assumption) (by decide) | ktr_units)) | (refine' Mine.csc_use_bytes (Mine.put_whole_4 _ _ _ _ _ ?p0zq ?p1zq) ?k1zq ?k2zq ?k3zq ?k4zq ?k5zq ?kKzq ?kdzq ?kuzq ?_; (case k4zq => with_reducible assumption); (case p0zq => first | omega | exact (Mine.or1 (by assumption) (by assumption)).1 | exact (Mine.or1 (by assumption) (by assumption)).2 | exact (Mine.or2 (by assumption) (by assumption)).1 | exact (Mine.or2 (by assumption) (by assumption)).2); (case p1zq => first | omega | exact (Mine.or1 (by assumption) (by assumption)).1 | exact (Mine.or1 (by assumption) (by assumption)).2 | exact (Mine.or2 (by assumption) (by assumption)).1 | exact (Mine.or2 (by assumption) (by assumption)).2); (case k1zq => with_reducible assumption); (case k2zq => with_reducible assumption); (case k3zq => with_reducible assumption); (case k5zq => with_reducible assumption); (case kKzq => first | exact rfl | assumption); (case kdzq => first | exact Mine.room_of (by assumption) (by decide) | ktr_room); (case kuzq => first | exact Mine.units_of (by assumption) (by decide) | ktr_units))); intro b9 u9 h9 tk9 hb9 F9 N9; (try dsimp only))
    | ((with_reducible show Mine.wpC _ _ (call (Value.ref 49) _ _) _ _ _); k_dflt (first | (refine' Mine.csc_use_int (Mine.varint_size_1 _ _ _ _ ?p0zq ?p1zq) ?k1zq ?k2zq ?k3zq ?k4zq ?k5zq ?kKzq ?kdzq ?kuzq ?_; (case k4zq => with_reducible assumption); (case p0zq => omega); (case p1zq => omega); (case k1zq => with_reducible assumption); (case k2zq => with_reducible assumption); (case k3zq => with_reducible assumption); (case k5zq => with_reducible assumption); (case kKzq => first | exact rfl | assumption); (case kdzq => first | exact Mine.room_of (by assumption) (by decide) | ktr_room); (case kuzq => first | exact Mine.units_of (by assumption) (by decide) | ktr_units)) | (refine' Mine.csc_use_int (Mine.varint_size_2 _ _ _ _ ?p0zq ?p1zq) ?k1zq ?k2zq ?k3zq ?k4zq ?k5zq ?kKzq ?kdzq ?kuzq ?_; (case k4zq => with_reducible assumption); (case p0zq => omega); (case p1zq => omega); (case k1zq => with_reducible assumption); (case k2zq => with_reducible assumption); (case k3zq => with_reducible assumption); (case k5zq => with_reducible assumption); (case kKzq => first | exact rfl | assumption); (case kdzq => first | exact Mine.room_of (by assumption) (by decide) | ktr_room); (case kuzq => first | exact Mine.units_of (by assumption) (by decide) | ktr_units))); intro u9 h9 tk9 F9 N9; (try dsimp only))
    | k_extra "core"
    | (k_unfold; (try dsimp only))
    | (k_end; wrow_close)
    | ((first | (with_reducible show wpAny _ _ (eval (PySem.Expr.Slice _ _ _ _) _) _ _ _) | (with_reducible show wpAny _ _ (evalPart _ _) _ _ _)); walk1)
    | (walk1; (try dsimp only))
    | (dsimp only; walk1)
    | (leave1; walk_say "STEP leave1"; try dsimp only)
    | fail "no step"))
  trivial
theorem put_varint_1 (w : World) (news : List (Addr × Obj)) (n : Int) (t : Tok) (h0 : 0 ≤ n) (h1 : n < 64) : CSC w 56 news [.int n t, .none] 2 (BytesN 1) := by
  unfold CSC
  intro mean mg mb dp un gd cn cs a ccd cl outer A₀ base h₀ L m s Q E B F X N T hk hd hu hret
  have hl : ∀ q9 ∈ news, q9 ∈ news := fun _ h => h
  k_extra "csc_enter"
  change Fr g' L' h' (Mine.mapL [(Str.ofString "size", Value.none), (Str.ofString "n", Value.int n t)]) at F'
  refine Mine.wpC_fold ?_
  intro qf' hqf'
  k_extra "steps"
  all_goals exact bytesN_of (by assumption)
theorem put_varint_2 (w : World) (news : List (Addr × Obj)) (n : Int) (t : Tok) (h0 : 64 ≤ n) (h1 : n < 16384) : CSC w 56 news [.int n t, .none] 2 (BytesN 2) := by
  unfold CSC
  intro mean mg mb dp un gd cn cs a ccd cl outer A₀ base h₀ L m s Q E B F X N T hk hd hu hret
  have hl : ∀ q9 ∈ news, q9 ∈ news := fun _ h => h
  k_extra "csc_enter"
  change Fr g' L' h' (Mine.mapL [(Str.ofString "size", Value.none), (Str.ofString "n", Value.int n t)]) at F'
  refine Mine.wpC_fold ?_
  intro qf' hqf'
  k_extra "steps"
  all_goals exact bytesN_of (by assumption)
def vz (n : Int) : Nat := if n < 64 then 1 else 2
theorem put_varint_g (w : World) (news : List (Addr × Obj)) (n : Int) (t : Tok) (h0 : 0 ≤ n) (h1 : n < 16384) : CSC w 56 news [.int n t, .none] 2 (BytesN (vz n)) := by
  unfold vz
  split
  · exact put_varint_1 w news n t h0 (by assumption)
  · exact put_varint_2 w news n t (by omega) h1
theorem vz_psz (q : Nat) : vz (((max q 3 : Nat) : Int) + 17) = if 17 + max q 3 < 64 then 1 else 2 := by
  unfold vz
  split <;> split <;> omega
theorem bytes_add_V {prog : Program} {w : World} {A : Around} {E : Value → Shared → Prop} {s : Shared} {b c : Array UInt8} {t u : Tok} {n1 : Nat} {n : Int} {Q : Value → Shared → Prop} (e1 : b.size = n1) (e2 : c.size = vz n) (hz : n1 ≤ 90000) (h : ∀ d t' k, d.size = n1 + vz n → Q (.bytes d t') { s with toks := k }) :
    wpAny (model prog w) A (binaryOp .Add (.bytes b t) (.bytes c u)) Q E s :=
  bytes_add_N e1 e2 (by have : vz n ≤ 2 := by unfold vz; split <;> omega
                        omega) h
theorem lines_PN_1 : True := by
  k_with "steps" => (repeat' (first
    | ((with_reducible show wpAny _ _ (eval (PySem.Expr.Name _ _) (PyProof.Rows.envOf _ _ _ _ _)) _ _ _); first | (refine' Mine.nameM ?Fzq ?vzq ?_ rfl ?bzq ?czq; (case bzq => with_reducible first | exact k62_numbers _); (case Fzq => with_reducible assumption); (case vzq => first | (with_reducible exact Mine.lk0) | ((with_reducible refine' Mine.lk1 ?_) <;> decide +kernel) | ((with_reducible refine' Mine.lk2 ?_ ?_) <;> decide +kernel) | ((with_reducible refine' Mine.lk3 ?_ ?_ ?_) <;> decide +kernel) | ((with_reducible refine' Mine.lk4 ?_ ?_ ?_ ?_) <;> decide +kernel) | ((with_reducible refine' Mine.lk5 ?_ ?_ ?_ ?_ ?_) <;> decide +kernel) | ((with_reducible refine' Mine.lk6 ?_ ?_ ?_ ?_ ?_ ?_) <;> decide +kernel) | ((with_reducible refine' Mine.lk7 ?_ ?_ ?_ ?_ ?_ ?_ ?_) <;> decide +kernel) | ((with_reducible refine' Mine.lk8 ?_ ?_ ?_ ?_ ?_ ?_ ?_ ?_) <;> decide +kernel) | ((with_reducible refine' Mine.lk9 ?_ ?_ ?_ ?_ ?_ ?_ ?_ ?_ ?_) <;> decide +kernel)); (case czq => decide +kernel)) | ((first | have F' := Mine.fr_mapLX (by with_reducible assumption) | have F' := Mine.fr_mapL (m := fun _ => none) (by with_reducible assumption)); refine' Mine.nameM ?Fzq ?vzq ?_ rfl ?bzq ?czq; (case bzq => with_reducible first | exact k62_numbers _); (case Fzq => with_reducible assumption); (case vzq => first | (with_reducible exact Mine.lk0) | ((with_reducible refine' Mine.lk1 ?_) <;> decide +kernel) | ((with_reducible refine' Mine.lk2 ?_ ?_) <;> decide +kernel) | ((with_reducible refine' Mine.lk3 ?_ ?_ ?_) <;> decide +kernel) | ((with_reducible refine' Mine.lk4 ?_ ?_ ?_ ?_) <;> decide +kernel) | ((with_reducible refine' Mine.lk5 ?_ ?_ ?_ ?_ ?_) <;> decide +kernel) | ((with_reducible refine' Mine.lk6 ?_ ?_ ?_ ?_ ?_ ?_) <;> decide +kernel) | ((with_reducible refine' Mine.lk7 ?_ ?_ ?_ ?_ ?_ ?_ ?_) <;> decide +kernel) | ((with_reducible refine' Mine.lk8 ?_ ?_ ?_ ?_ ?_ ?_ ?_ ?_) <;> decide +kernel) | ((with_reducible refine' Mine.lk9 ?_ ?_ ?_ ?_ ?_ ?_ ?_ ?_ ?_) <;> decide +kernel)); (case czq => decide +kernel)) | (refine' nameX_K ?Fzq ?Xzq ?Tzq ?ezq ?_ rfl ?bzq ?czq; (case bzq => rfl); (case Fzq => k_asm); (case Xzq => k_asm); (case ezq => k_is); (case Tzq => k_asm); (case czq => decide +kernel)) | (refine' nameX_B ?Fzq ?Xzq ?Tzq ?ezq ?vzq ?nzq ?_ rfl ?bzq ?czq; (case bzq => rfl); (case Fzq => k_asm); (case Xzq => k_asm); (case ezq => k_is); (case Tzq => k_asm); (case vzq => boot_fast); (case nzq => decide +kernel); (case czq => decide +kernel)) | (refine' nameX_L ?Fzq ?vzq ?_ rfl ?bzq ?czq; (case bzq => with_reducible first | exact k62_numbers _); (case Fzq => k_asm); (case vzq => rfl); (case czq => decide +kernel)))
    | ((with_reducible show wpAny _ _ (storeName (PyProof.Rows.envOf _ _ _ _ _) _ _) _ _ _); first | (refine' Mine.storeM ?Fzq ?Nzq ?_ rfl ?bzq; (case bzq => with_reducible first | exact k62_numbers _); (case Fzq => with_reducible assumption); (case Nzq => with_reducible assumption); intro h' k' F' N'; (try k_sweep)) | ((first | have F' := Mine.fr_mapLX (by with_reducible assumption) | have F' := Mine.fr_mapL (m := fun _ => none) (by with_reducible assumption)); refine' Mine.storeM ?Fzq ?Nzq ?_ rfl ?bzq; (case bzq => with_reducible first | exact k62_numbers _); (case Fzq => with_reducible assumption); (case Nzq => with_reducible assumption); intro h' k' F' N'; (try k_sweep)) | (refine' Mine.storeG ?Fzq ?Nzq ?_ rfl ?bzq; (case bzq => with_reducible first | exact k62_numbers _); (case Fzq => k_asm); (case Nzq => k_asm); intro h' k' F' N'; (try replace F' := Mine.fr_mapL F'); (try k_sweep)))
    | k_extra "core"
    | (k_unfold; (try dsimp only))
    | (k_end; wrow_close)
    | ((first | (with_reducible show wpAny _ _ (eval (PySem.Expr.Slice _ _ _ _) _) _ _ _) | (with_reducible show wpAny _ _ (evalPart _ _) _ _ _)); walk1)
    | (walk1; (try dsimp only))
    | (dsimp only; walk1)
    | (leave1; walk_say "STEP leave1"; try dsimp only)
    | fail "no step"))
  trivial
theorem lines_PN_2 : True := by
  k_with "steps" => (repeat' (first
    | ((with_reducible show wpAny _ _ (eval (PySem.Expr.Name _ _) (PyProof.Rows.envOf _ _ _ _ _)) _ _ _); first | (refine' Mine.nameM ?Fzq ?vzq ?_ rfl ?bzq ?czq; (case bzq => with_reducible first | exact k62_numbers _); (case Fzq => with_reducible assumption); (case vzq => first | (with_reducible exact Mine.lk0) | ((with_reducible refine' Mine.lk1 ?_) <;> decide +kernel) | ((with_reducible refine' Mine.lk2 ?_ ?_) <;> decide +kernel) | ((with_reducible refine' Mine.lk3 ?_ ?_ ?_) <;> decide +kernel) | ((with_reducible refine' Mine.lk4 ?_ ?_ ?_ ?_) <;> decide +kernel) | ((with_reducible refine' Mine.lk5 ?_ ?_ ?_ ?_ ?_) <;> decide +kernel) | ((with_reducible refine' Mine.lk6 ?_ ?_ ?_ ?_ ?_ ?_) <;> decide +kernel) | ((with_reducible refine' Mine.lk7 ?_ ?_ ?_ ?_ ?_ ?_ ?_) <;> decide +kernel) | ((with_reducible refine' Mine.lk8 ?_ ?_ ?_ ?_ ?_ ?_ ?_ ?_) <;> decide +kernel) | ((with_reducible refine' Mine.lk9 ?_ ?_ ?_ ?_ ?_ ?_ ?_ ?_ ?_) <;> decide +kernel)); (case czq => decide +kernel)) | ((first | have F' := Mine.fr_mapLX (by with_reducible assumption) | have F' := Mine.fr_mapL (m := fun _ => none) (by with_reducible assumption)); refine' Mine.nameM ?Fzq ?vzq ?_ rfl ?bzq ?czq; (case bzq => with_reducible first | exact k62_numbers _); (case Fzq => with_reducible assumption); (case vzq => first | (with_reducible exact Mine.lk0) | ((with_reducible refine' Mine.lk1 ?_) <;> decide +kernel) | ((with_reducible refine' Mine.lk2 ?_ ?_) <;> decide +kernel) | ((with_reducible refine' Mine.lk3 ?_ ?_ ?_) <;> decide +kernel) | ((with_reducible refine' Mine.lk4 ?_ ?_ ?_ ?_) <;> decide +kernel) | ((with_reducible refine' Mine.lk5 ?_ ?_ ?_ ?_ ?_) <;> decide +kernel) | ((with_reducible refine' Mine.lk6 ?_ ?_ ?_ ?_ ?_ ?_) <;> decide +kernel) | ((with_reducible refine' Mine.lk7 ?_ ?_ ?_ ?_ ?_ ?_ ?_) <;> decide +kernel) | ((with_reducible refine' Mine.lk8 ?_ ?_ ?_ ?_ ?_ ?_ ?_ ?_) <;> decide +kernel) | ((with_reducible refine' Mine.lk9 ?_ ?_ ?_ ?_ ?_ ?_ ?_ ?_ ?_) <;> decide +kernel)); (case czq => decide +kernel)) | (refine' nameX_K ?Fzq ?Xzq ?Tzq ?ezq ?_ rfl ?bzq ?czq; (case bzq => rfl); (case Fzq => k_asm); (case Xzq => k_asm); (case ezq => k_is); (case Tzq => k_asm); (case czq => decide +kernel)) | (refine' nameX_B ?Fzq ?Xzq ?Tzq ?ezq ?vzq ?nzq ?_ rfl ?bzq ?czq; (case bzq => rfl); (case Fzq => k_asm); (case Xzq => k_asm); (case ezq => k_is); (case Tzq => k_asm); (case vzq => boot_fast); (case nzq => decide +kernel); (case czq => decide +kernel)) | (refine' nameX_L ?Fzq ?vzq ?_ rfl ?bzq ?czq; (case bzq => with_reducible first | exact k62_numbers _); (case Fzq => k_asm); (case vzq => rfl); (case czq => decide +kernel)))
    | ((with_reducible show wpAny _ _ (storeName (PyProof.Rows.envOf _ _ _ _ _) _ _) _ _ _); first | (refine' Mine.storeM ?Fzq ?Nzq ?_ rfl ?bzq; (case bzq => with_reducible first | exact k62_numbers _); (case Fzq => with_reducible assumption); (case Nzq => with_reducible assumption); intro h' k' F' N'; (try k_sweep)) | ((first | have F' := Mine.fr_mapLX (by with_reducible assumption) | have F' := Mine.fr_mapL (m := fun _ => none) (by with_reducible assumption)); refine' Mine.storeM ?Fzq ?Nzq ?_ rfl ?bzq; (case bzq => with_reducible first | exact k62_numbers _); (case Fzq => with_reducible assumption); (case Nzq => with_reducible assumption); intro h' k' F' N'; (try k_sweep)) | (refine' Mine.storeG ?Fzq ?Nzq ?_ rfl ?bzq; (case bzq => with_reducible first | exact k62_numbers _); (case Fzq => k_asm); (case Nzq => k_asm); intro h' k' F' N'; (try replace F' := Mine.fr_mapL F'); (try k_sweep)))
    | ((with_reducible show Mine.wpC _ _ (call (Value.ref 56) _ _) _ _ _); k_dflt (first | (refine' Mine.csc_use_bytes (Mine.put_varint_1 _ _ _ _ ?p0zq ?p1zq) ?k1zq ?k2zq ?k3zq ?k4zq ?k5zq ?kKzq ?kdzq ?kuzq ?_; (case k4zq => with_reducible assumption); (case p0zq => omega); (case p1zq => omega); (case k1zq => with_reducible assumption); (case k2zq => with_reducible assumption); (case k3zq => with_reducible assumption); (case k5zq => with_reducible assumption); (case kKzq => first | exact rfl | assumption); (case kdzq => first | exact Mine.room_of (by assumption) (by decide) | ktr_room); (case kuzq => first | exact Mine.units_of (by assumption) (by decide) | ktr_units)) | (refine' Mine.csc_use_bytes (Mine.put_varint_2 _ _ _ _ ?p0zq ?p1zq) ?k1zq ?k2zq ?k3zq ?k4zq ?k5zq ?kKzq ?kdzq ?kuzq ?_; (case k4zq => with_reducible assumption); (case p0zq => omega); (case p1zq => omega); (case k1zq => with_reducible assumption); (case k2zq => with_reducible assumption); (case k3zq => with_reducible assumption); (case k5zq => with_reducible assumption); (case kKzq => first | exact rfl | assumption); (case kdzq => first | exact Mine.room_of (by assumption) (by decide) | ktr_room); (case kuzq => first | exact Mine.units_of (by assumption) (by decide) | ktr_units))); intro b9 u9 h9 tk9 hb9 F9 N9; (try dsimp only))
    | k_extra "core"
    | (k_unfold; (try dsimp only))
    | (k_end; wrow_close)
    | ((first | (with_reducible show wpAny _ _ (eval (PySem.Expr.Slice _ _ _ _) _) _ _ _) | (with_reducible show wpAny _ _ (evalPart _ _) _ _ _)); walk1)
    | (walk1; (try dsimp only))
    | (dsimp only; walk1)
    | (leave1; walk_say "STEP leave1"; try dsimp only)
    | fail "no step"))
  trivial
theorem put_numbers_1 (w : World) (news : List (Addr × Obj)) (l : Addr) (k : Nat) (n : Int) (t : Tok) (hm : (l, PySem.W.listOf [Value.int n t].toArray k) ∈ news) (h0 : 0 ≤ n) (h1 : n < 64) : CSC w 62 news [.ref l] 3 (BytesN 1) := by
  unfold CSC
  intro mean mg mb dp un gd cn cs a ccd cl outer A₀ base h₀ L m s Q E B F X N T hk hd hu hret
  have hl : ∀ q9 ∈ news, q9 ∈ news := fun _ h => h
  k_extra "csc_enter"
  change Fr g' L' h' (Mine.mapL [(Str.ofString "numbers", Value.ref l)]) at F'
  refine Mine.wpC_fold ?_
  intro qf' hqf'
  k_extra "steps"
  all_goals exact bytesN_of (by assumption)
theorem lines_PF_1 : True := by
  k_with "steps" => (repeat' (first
    | ((with_reducible show wpAny _ _ (eval (PySem.Expr.Name _ _) (PyProof.Rows.envOf _ _ _ _ _)) _ _ _); first | (refine' Mine.nameM ?Fzq ?vzq ?_ rfl ?bzq ?czq; (case bzq => with_reducible first | exact k118_f _ | exact k118_kind _ | exact k118_found _); (case Fzq => with_reducible assumption); (case vzq => first | (with_reducible exact Mine.lk0) | ((with_reducible refine' Mine.lk1 ?_) <;> decide +kernel) | ((with_reducible refine' Mine.lk2 ?_ ?_) <;> decide +kernel) | ((with_reducible refine' Mine.lk3 ?_ ?_ ?_) <;> decide +kernel) | ((with_reducible refine' Mine.lk4 ?_ ?_ ?_ ?_) <;> decide +kernel) | ((with_reducible refine' Mine.lk5 ?_ ?_ ?_ ?_ ?_) <;> decide +kernel) | ((with_reducible refine' Mine.lk6 ?_ ?_ ?_ ?_ ?_ ?_) <;> decide +kernel) | ((with_reducible refine' Mine.lk7 ?_ ?_ ?_ ?_ ?_ ?_ ?_) <;> decide +kernel) | ((with_reducible refine' Mine.lk8 ?_ ?_ ?_ ?_ ?_ ?_ ?_ ?_) <;> decide +kernel) | ((with_reducible refine' Mine.lk9 ?_ ?_ ?_ ?_ ?_ ?_ ?_ ?_ ?_) <;> decide +kernel)); (case czq => decide +kernel)) | ((first | have F' := Mine.fr_mapLX (by with_reducible assumption) | have F' := Mine.fr_mapL (m := fun _ => none) (by with_reducible assumption)); refine' Mine.nameM ?Fzq ?vzq ?_ rfl ?bzq ?czq; (case bzq => with_reducible first | exact k118_f _ | exact k118_kind _ | exact k118_found _); (case Fzq => with_reducible assumption); (case vzq => first | (with_reducible exact Mine.lk0) | ((with_reducible refine' Mine.lk1 ?_) <;> decide +kernel) | ((with_reducible refine' Mine.lk2 ?_ ?_) <;> decide +kernel) | ((with_reducible refine' Mine.lk3 ?_ ?_ ?_) <;> decide +kernel) | ((with_reducible refine' Mine.lk4 ?_ ?_ ?_ ?_) <;> decide +kernel) | ((with_reducible refine' Mine.lk5 ?_ ?_ ?_ ?_ ?_) <;> decide +kernel) | ((with_reducible refine' Mine.lk6 ?_ ?_ ?_ ?_ ?_ ?_) <;> decide +kernel) | ((with_reducible refine' Mine.lk7 ?_ ?_ ?_ ?_ ?_ ?_ ?_) <;> decide +kernel) | ((with_reducible refine' Mine.lk8 ?_ ?_ ?_ ?_ ?_ ?_ ?_ ?_) <;> decide +kernel) | ((with_reducible refine' Mine.lk9 ?_ ?_ ?_ ?_ ?_ ?_ ?_ ?_ ?_) <;> decide +kernel)); (case czq => decide +kernel)) | (refine' nameX_K ?Fzq ?Xzq ?Tzq ?ezq ?_ rfl ?bzq ?czq; (case bzq => with_reducible first | exact k118_bytes _ | exact k118_NUMBER_FRAMES _ | exact k118_put_numbers _ | exact k118_list _ | exact k118_put_ack _ | exact k118_put_stream _ | exact k118_put_new_cid _ | exact k118_put_close _ | exact k118_put_octets_frame _); (case Fzq => k_asm); (case Xzq => k_asm); (case ezq => with_reducible first | exact g_put_numbers _); (case Tzq => k_asm); (case czq => decide +kernel)) | (refine' nameX_B ?Fzq ?Xzq ?Tzq ?ezq ?vzq ?nzq ?_ rfl ?bzq ?czq; (case bzq => with_reducible first | exact k118_bytes _ | exact k118_NUMBER_FRAMES _ | exact k118_put_numbers _ | exact k118_list _ | exact k118_put_ack _ | exact k118_put_stream _ | exact k118_put_new_cid _ | exact k118_put_close _ | exact k118_put_octets_frame _); (case Fzq => k_asm); (case Xzq => k_asm); (case ezq => with_reducible first | exact b_bytes _ | exact b_list _); (case Tzq => k_asm); (case vzq => with_reducible first | exact bt_bytes | exact bt_list); (case nzq => decide +kernel); (case czq => decide +kernel)) | (refine' nameX_L ?Fzq ?vzq ?_ rfl ?bzq ?czq; (case bzq => with_reducible first | exact k118_f _ | exact k118_kind _ | exact k118_found _); (case Fzq => k_asm); (case vzq => rfl); (case czq => decide +kernel)))
    | ((with_reducible show wpAny _ _ (storeName (PyProof.Rows.envOf _ _ _ _ _) _ _) _ _ _); first | (refine' Mine.storeM ?Fzq ?Nzq ?_ rfl ?bzq; (case bzq => with_reducible first | exact k118_f _ | exact k118_kind _ | exact k118_found _); (case Fzq => with_reducible assumption); (case Nzq => with_reducible assumption); intro h' k' F' N'; (try k_sweep)) | ((first | have F' := Mine.fr_mapLX (by with_reducible assumption) | have F' := Mine.fr_mapL (m := fun _ => none) (by with_reducible assumption)); refine' Mine.storeM ?Fzq ?Nzq ?_ rfl ?bzq; (case bzq => with_reducible first | exact k118_f _ | exact k118_kind _ | exact k118_found _); (case Fzq => with_reducible assumption); (case Nzq => with_reducible assumption); intro h' k' F' N'; (try k_sweep)) | (refine' Mine.storeG ?Fzq ?Nzq ?_ rfl ?bzq; (case bzq => with_reducible first | exact k118_f _ | exact k118_kind _ | exact k118_found _); (case Fzq => k_asm); (case Nzq => k_asm); intro h' k' F' N'; (try replace F' := Mine.fr_mapL F'); (try k_sweep)))
    | ((with_reducible show Mine.wpC _ _ (eval (PySem.Expr.Call (PySem.Expr.Name (PySem.Str.ofString "put_numbers") _) _ _ _) _) _ _ _); refine' Mine.wpC_Call _ _ ?hezq ?_; (case hezq => rfl))
    | k_extra "core"
    | (k_unfold; (try dsimp only))
    | (k_end; wrow_close)
    | ((first | (with_reducible show wpAny _ _ (eval (PySem.Expr.Slice _ _ _ _) _) _ _ _) | (with_reducible show wpAny _ _ (evalPart _ _) _ _ _)); walk1)
    | (walk1; (try dsimp only))
    | (dsimp only; walk1)
    | (leave1; walk_say "STEP leave1"; try dsimp only)
    | fail "no step"))
  trivial
theorem lines_PF_2 : True := by
  k_with "steps" => (repeat' (first
    | ((with_reducible show wpAny _ _ (eval (PySem.Expr.Name _ _) (PyProof.Rows.envOf _ _ _ _ _)) _ _ _); first | (refine' Mine.nameM ?Fzq ?vzq ?_ rfl ?bzq ?czq; (case bzq => with_reducible first | exact k118_f _ | exact k118_kind _ | exact k118_found _); (case Fzq => with_reducible assumption); (case vzq => first | (with_reducible exact Mine.lk0) | ((with_reducible refine' Mine.lk1 ?_) <;> decide +kernel) | ((with_reducible refine' Mine.lk2 ?_ ?_) <;> decide +kernel) | ((with_reducible refine' Mine.lk3 ?_ ?_ ?_) <;> decide +kernel) | ((with_reducible refine' Mine.lk4 ?_ ?_ ?_ ?_) <;> decide +kernel) | ((with_reducible refine' Mine.lk5 ?_ ?_ ?_ ?_ ?_) <;> decide +kernel) | ((with_reducible refine' Mine.lk6 ?_ ?_ ?_ ?_ ?_ ?_) <;> decide +kernel) | ((with_reducible refine' Mine.lk7 ?_ ?_ ?_ ?_ ?_ ?_ ?_) <;> decide +kernel) | ((with_reducible refine' Mine.lk8 ?_ ?_ ?_ ?_ ?_ ?_ ?_ ?_) <;> decide +kernel) | ((with_reducible refine' Mine.lk9 ?_ ?_ ?_ ?_ ?_ ?_ ?_ ?_ ?_) <;> decide +kernel)); (case czq => decide +kernel)) | ((first | have F' := Mine.fr_mapLX (by with_reducible assumption) | have F' := Mine.fr_mapL (m := fun _ => none) (by with_reducible assumption)); refine' Mine.nameM ?Fzq ?vzq ?_ rfl ?bzq ?czq; (case bzq => with_reducible first | exact k118_f _ | exact k118_kind _ | exact k118_found _); (case Fzq => with_reducible assumption); (case vzq => first | (with_reducible exact Mine.lk0) | ((with_reducible refine' Mine.lk1 ?_) <;> decide +kernel) | ((with_reducible refine' Mine.lk2 ?_ ?_) <;> decide +kernel) | ((with_reducible refine' Mine.lk3 ?_ ?_ ?_) <;> decide +kernel) | ((with_reducible refine' Mine.lk4 ?_ ?_ ?_ ?_) <;> decide +kernel) | ((with_reducible refine' Mine.lk5 ?_ ?_ ?_ ?_ ?_) <;> decide +kernel) | ((with_reducible refine' Mine.lk6 ?_ ?_ ?_ ?_ ?_ ?_) <;> decide +kernel) | ((with_reducible refine' Mine.lk7 ?_ ?_ ?_ ?_ ?_ ?_ ?_) <;> decide +kernel) | ((with_reducible refine' Mine.lk8 ?_ ?_ ?_ ?_ ?_ ?_ ?_ ?_) <;> decide +kernel) | ((with_reducible refine' Mine.lk9 ?_ ?_ ?_ ?_ ?_ ?_ ?_ ?_ ?_) <;> decide +kernel)); (case czq => decide +kernel)) | (refine' nameX_K ?Fzq ?Xzq ?Tzq ?ezq ?_ rfl ?bzq ?czq; (case bzq => with_reducible first | exact k118_bytes _ | exact k118_NUMBER_FRAMES _ | exact k118_put_numbers _ | exact k118_list _ | exact k118_put_ack _ | exact k118_put_stream _ | exact k118_put_new_cid _ | exact k118_put_close _ | exact k118_put_octets_frame _); (case Fzq => k_asm); (case Xzq => k_asm); (case ezq => with_reducible first | exact g_put_numbers _); (case Tzq => k_asm); (case czq => decide +kernel)) | (refine' nameX_B ?Fzq ?Xzq ?Tzq ?ezq ?vzq ?nzq ?_ rfl ?bzq ?czq; (case bzq => with_reducible first | exact k118_bytes _ | exact k118_NUMBER_FRAMES _ | exact k118_put_numbers _ | exact k118_list _ | exact k118_put_ack _ | exact k118_put_stream _ | exact k118_put_new_cid _ | exact k118_put_close _ | exact k118_put_octets_frame _); (case Fzq => k_asm); (case Xzq => k_asm); (case ezq => with_reducible first | exact b_bytes _ | exact b_list _); (case Tzq => k_asm); (case vzq => with_reducible first | exact bt_bytes | exact bt_list); (case nzq => decide +kernel); (case czq => decide +kernel)) | (refine' nameX_L ?Fzq ?vzq ?_ rfl ?bzq ?czq; (case bzq => with_reducible first | exact k118_f _ | exact k118_kind _ | exact k118_found _); (case Fzq => k_asm); (case vzq => rfl); (case czq => decide +kernel)))
    | ((with_reducible show wpAny _ _ (storeName (PyProof.Rows.envOf _ _ _ _ _) _ _) _ _ _); first | (refine' Mine.storeM ?Fzq ?Nzq ?_ rfl ?bzq; (case bzq => with_reducible first | exact k118_f _ | exact k118_kind _ | exact k118_found _); (case Fzq => with_reducible assumption); (case Nzq => with_reducible assumption); intro h' k' F' N'; (try k_sweep)) | ((first | have F' := Mine.fr_mapLX (by with_reducible assumption) | have F' := Mine.fr_mapL (m := fun _ => none) (by with_reducible assumption)); refine' Mine.storeM ?Fzq ?Nzq ?_ rfl ?bzq; (case bzq => with_reducible first | exact k118_f _ | exact k118_kind _ | exact k118_found _); (case Fzq => with_reducible assumption); (case Nzq => with_reducible assumption); intro h' k' F' N'; (try k_sweep)) | (refine' Mine.storeG ?Fzq ?Nzq ?_ rfl ?bzq; (case bzq => with_reducible first | exact k118_f _ | exact k118_kind _ | exact k118_found _); (case Fzq => k_asm); (case Nzq => k_asm); intro h' k' F' N'; (try replace F' := Mine.fr_mapL F'); (try k_sweep)))
    | ((with_reducible show Mine.wpC _ _ (eval (PySem.Expr.Call (PySem.Expr.Name (PySem.Str.ofString "put_numbers") _) _ _ _) _) _ _ _); refine' Mine.wpC_Call _ _ ?hezq ?_; (case hezq => rfl))
    | ((with_reducible show Mine.wpC _ _ (call (Value.ref 62) _ _) _ _ _); k_dflt (first | (refine' Mine.csc_use_bytes (Mine.put_numbers_1 _ _ _ _ _ _ ?p0zq ?p1zq ?p2zq) ?k1zq ?k2zq ?k3zq ?k4zq ?k5zq ?kKzq ?kdzq ?kuzq ?_; (case k4zq => with_reducible assumption); (case p0zq => k_mem); (case p1zq => first | decide | omega); (case p2zq => first | decide | omega); (case k1zq => with_reducible assumption); (case k2zq => with_reducible assumption); (case k3zq => with_reducible assumption); (case k5zq => with_reducible assumption); (case kKzq => first | exact rfl | assumption); (case kdzq => first | exact Mine.room_of (by assumption) (by decide) | ktr_room); (case kuzq => first | exact Mine.units_of (by assumption) (by decide) | ktr_units))); intro b9 u9 h9 tk9 hb9 F9 N9; (try dsimp only))
    | k_extra "core"
    | (k_unfold; (try dsimp only))
    | (k_end; wrow_close)
    | ((first | (with_reducible show wpAny _ _ (eval (PySem.Expr.Slice _ _ _ _) _) _ _ _) | (with_reducible show wpAny _ _ (evalPart _ _) _ _ _)); walk1)
    | (walk1; (try dsimp only))
    | (dsimp only; walk1)
    | (leave1; walk_say "STEP leave1"; try dsimp only)
    | fail "no step"))
  trivial
theorem put_frame_ping (w : World) (news : List (Addr × Obj)) (f : Addr) (k : Nat) (t : Tok) (hm0 : (f, tupObj [Value.str (Str.ofString "ping") t] k) ∈ news) : CSC w 118 news [.ref f] 4 (BytesN 1) := by
  unfold CSC
  intro mean mg mb dp un gd cn cs a ccd cl outer A₀ base h₀ L m s Q E B F X N T hk hd hu hret
  have hl : ∀ q9 ∈ news, q9 ∈ news := fun _ h => h
  k_extra "csc_enter"
  change Fr g' L' h' (Mine.mapL [(Str.ofString "f", Value.ref f)]) at F'
  refine Mine.wpC_fold ?_
  intro qf' hqf'
  k_extra "steps"
  all_goals exact bytesN_of (by assumption)
theorem put_frame_pad (w : World) (news : List (Addr × Obj)) (f : Addr) (k : Nat) (n : Int) (t t' : Tok) (h0 : 0 ≤ n) (h1 : n ≤ 1000) (hm0 : (f, tupObj [Value.str (Str.ofString "padding") t, Value.int n t'] k) ∈ news) : CSC w 118 news [.ref f] 4 (BytesN n.toNat) := by
  unfold CSC
  intro mean mg mb dp un gd cn cs a ccd cl outer A₀ base h₀ L m s Q E B F X N T hk hd hu hret
  have hl : ∀ q9 ∈ news, q9 ∈ news := fun _ h => h
  k_extra "csc_enter"
  change Fr g' L' h' (Mine.mapL [(Str.ofString "f", Value.ref f)]) at F'
  refine Mine.wpC_fold ?_
  intro qf' hqf'
  k_extra "steps"
  all_goals exact bytesN_of (by assumption)
theorem lines_PG_1 : True := by
  k_with "steps" => (repeat' (first
    | ((with_reducible show wpAny _ _ (eval (PySem.Expr.Name _ _) (PyProof.Rows.envOf _ _ _ _ _)) _ _ _); first | (refine' Mine.nameM ?Fzq ?vzq ?_ rfl ?bzq ?czq; (case bzq => with_reducible first | exact k123_row _); (case Fzq => with_reducible assumption); (case vzq => first | (with_reducible exact Mine.lk0) | ((with_reducible refine' Mine.lk1 ?_) <;> decide +kernel) | ((with_reducible refine' Mine.lk2 ?_ ?_) <;> decide +kernel) | ((with_reducible refine' Mine.lk3 ?_ ?_ ?_) <;> decide +kernel) | ((with_reducible refine' Mine.lk4 ?_ ?_ ?_ ?_) <;> decide +kernel) | ((with_reducible refine' Mine.lk5 ?_ ?_ ?_ ?_ ?_) <;> decide +kernel) | ((with_reducible refine' Mine.lk6 ?_ ?_ ?_ ?_ ?_ ?_) <;> decide +kernel) | ((with_reducible refine' Mine.lk7 ?_ ?_ ?_ ?_ ?_ ?_ ?_) <;> decide +kernel) | ((with_reducible refine' Mine.lk8 ?_ ?_ ?_ ?_ ?_ ?_ ?_ ?_) <;> decide +kernel) | ((with_reducible refine' Mine.lk9 ?_ ?_ ?_ ?_ ?_ ?_ ?_ ?_ ?_) <;> decide +kernel)); (case czq => decide +kernel)) | ((first | have F' := Mine.fr_mapLX (by with_reducible assumption) | have F' := Mine.fr_mapL (m := fun _ => none) (by with_reducible assumption)); refine' Mine.nameM ?Fzq ?vzq ?_ rfl ?bzq ?czq; (case bzq => with_reducible first | exact k123_row _); (case Fzq => with_reducible assumption); (case vzq => first | (with_reducible exact Mine.lk0) | ((with_reducible refine' Mine.lk1 ?_) <;> decide +kernel) | ((with_reducible refine' Mine.lk2 ?_ ?_) <;> decide +kernel) | ((with_reducible refine' Mine.lk3 ?_ ?_ ?_) <;> decide +kernel) | ((with_reducible refine' Mine.lk4 ?_ ?_ ?_ ?_) <;> decide +kernel) | ((with_reducible refine' Mine.lk5 ?_ ?_ ?_ ?_ ?_) <;> decide +kernel) | ((with_reducible refine' Mine.lk6 ?_ ?_ ?_ ?_ ?_ ?_) <;> decide +kernel) | ((with_reducible refine' Mine.lk7 ?_ ?_ ?_ ?_ ?_ ?_ ?_) <;> decide +kernel) | ((with_reducible refine' Mine.lk8 ?_ ?_ ?_ ?_ ?_ ?_ ?_ ?_) <;> decide +kernel) | ((with_reducible refine' Mine.lk9 ?_ ?_ ?_ ?_ ?_ ?_ ?_ ?_ ?_) <;> decide +kernel)); (case czq => decide +kernel)) | (refine' nameX_K ?Fzq ?Xzq ?Tzq ?ezq ?_ rfl ?bzq ?czq; (case bzq => rfl); (case Fzq => k_asm); (case Xzq => k_asm); (case ezq => k_is); (case Tzq => k_asm); (case czq => decide +kernel)) | (refine' nameX_B ?Fzq ?Xzq ?Tzq ?ezq ?vzq ?nzq ?_ rfl ?bzq ?czq; (case bzq => rfl); (case Fzq => k_asm); (case Xzq => k_asm); (case ezq => k_is); (case Tzq => k_asm); (case vzq => boot_fast); (case nzq => decide +kernel); (case czq => decide +kernel)) | (refine' nameX_L ?Fzq ?vzq ?_ rfl ?bzq ?czq; (case bzq => with_reducible first | exact k123_row _); (case Fzq => k_asm); (case vzq => rfl); (case czq => decide +kernel)))
    | ((with_reducible show wpAny _ _ (storeName (PyProof.Rows.envOf _ _ _ _ _) _ _) _ _ _); first | (refine' Mine.storeM ?Fzq ?Nzq ?_ rfl ?bzq; (case bzq => with_reducible first | exact k123_row _); (case Fzq => with_reducible assumption); (case Nzq => with_reducible assumption); intro h' k' F' N'; (try k_sweep)) | ((first | have F' := Mine.fr_mapLX (by with_reducible assumption) | have F' := Mine.fr_mapL (m := fun _ => none) (by with_reducible assumption)); refine' Mine.storeM ?Fzq ?Nzq ?_ rfl ?bzq; (case bzq => with_reducible first | exact k123_row _); (case Fzq => with_reducible assumption); (case Nzq => with_reducible assumption); intro h' k' F' N'; (try k_sweep)) | (refine' Mine.storeG ?Fzq ?Nzq ?_ rfl ?bzq; (case bzq => with_reducible first | exact k123_row _); (case Fzq => k_asm); (case Nzq => k_asm); intro h' k' F' N'; (try replace F' := Mine.fr_mapL F'); (try k_sweep)))
    | k_extra "core"
    | (k_unfold; (try dsimp only))
    | (k_end; wrow_close)
    | ((first | (with_reducible show wpAny _ _ (eval (PySem.Expr.Slice _ _ _ _) _) _ _ _) | (with_reducible show wpAny _ _ (evalPart _ _) _ _ _)); walk1)
    | (walk1; (try dsimp only))
    | (dsimp only; walk1)
    | (leave1; walk_say "STEP leave1"; try dsimp only)
    | fail "no step"))
  trivial
theorem lines_PG_2 : True := by
  k_with "steps" => (repeat' (first
    | ((with_reducible show wpAny _ _ (eval (PySem.Expr.Name _ _) (PyProof.Rows.envOf _ _ _ _ _)) _ _ _); first | (refine' Mine.nameM ?Fzq ?vzq ?_ rfl ?bzq ?czq; (case bzq => with_reducible first | exact k123_row _); (case Fzq => with_reducible assumption); (case vzq => first | (with_reducible exact Mine.lk0) | ((with_reducible refine' Mine.lk1 ?_) <;> decide +kernel) | ((with_reducible refine' Mine.lk2 ?_ ?_) <;> decide +kernel) | ((with_reducible refine' Mine.lk3 ?_ ?_ ?_) <;> decide +kernel) | ((with_reducible refine' Mine.lk4 ?_ ?_ ?_ ?_) <;> decide +kernel) | ((with_reducible refine' Mine.lk5 ?_ ?_ ?_ ?_ ?_) <;> decide +kernel) | ((with_reducible refine' Mine.lk6 ?_ ?_ ?_ ?_ ?_ ?_) <;> decide +kernel) | ((with_reducible refine' Mine.lk7 ?_ ?_ ?_ ?_ ?_ ?_ ?_) <;> decide +kernel) | ((with_reducible refine' Mine.lk8 ?_ ?_ ?_ ?_ ?_ ?_ ?_ ?_) <;> decide +kernel) | ((with_reducible refine' Mine.lk9 ?_ ?_ ?_ ?_ ?_ ?_ ?_ ?_ ?_) <;> decide +kernel)); (case czq => decide +kernel)) | ((first | have F' := Mine.fr_mapLX (by with_reducible assumption) | have F' := Mine.fr_mapL (m := fun _ => none) (by with_reducible assumption)); refine' Mine.nameM ?Fzq ?vzq ?_ rfl ?bzq ?czq; (case bzq => with_reducible first | exact k123_row _); (case Fzq => with_reducible assumption); (case vzq => first | (with_reducible exact Mine.lk0) | ((with_reducible refine' Mine.lk1 ?_) <;> decide +kernel) | ((with_reducible refine' Mine.lk2 ?_ ?_) <;> decide +kernel) | ((with_reducible refine' Mine.lk3 ?_ ?_ ?_) <;> decide +kernel) | ((with_reducible refine' Mine.lk4 ?_ ?_ ?_ ?_) <;> decide +kernel) | ((with_reducible refine' Mine.lk5 ?_ ?_ ?_ ?_ ?_) <;> decide +kernel) | ((with_reducible refine' Mine.lk6 ?_ ?_ ?_ ?_ ?_ ?_) <;> decide +kernel) | ((with_reducible refine' Mine.lk7 ?_ ?_ ?_ ?_ ?_ ?_ ?_) <;> decide +kernel) | ((with_reducible refine' Mine.lk8 ?_ ?_ ?_ ?_ ?_ ?_ ?_ ?_) <;> decide +kernel) | ((with_reducible refine' Mine.lk9 ?_ ?_ ?_ ?_ ?_ ?_ ?_ ?_ ?_) <;> decide +kernel)); (case czq => decide +kernel)) | (refine' nameX_K ?Fzq ?Xzq ?Tzq ?ezq ?_ rfl ?bzq ?czq; (case bzq => rfl); (case Fzq => k_asm); (case Xzq => k_asm); (case ezq => k_is); (case Tzq => k_asm); (case czq => decide +kernel)) | (refine' nameX_B ?Fzq ?Xzq ?Tzq ?ezq ?vzq ?nzq ?_ rfl ?bzq ?czq; (case bzq => rfl); (case Fzq => k_asm); (case Xzq => k_asm); (case ezq => k_is); (case Tzq => k_asm); (case vzq => boot_fast); (case nzq => decide +kernel); (case czq => decide +kernel)) | (refine' nameX_L ?Fzq ?vzq ?_ rfl ?bzq ?czq; (case bzq => with_reducible first | exact k123_row _); (case Fzq => k_asm); (case vzq => rfl); (case czq => decide +kernel)))
    | ((with_reducible show wpAny _ _ (storeName (PyProof.Rows.envOf _ _ _ _ _) _ _) _ _ _); first | (refine' Mine.storeM ?Fzq ?Nzq ?_ rfl ?bzq; (case bzq => with_reducible first | exact k123_row _); (case Fzq => with_reducible assumption); (case Nzq => with_reducible assumption); intro h' k' F' N'; (try k_sweep)) | ((first | have F' := Mine.fr_mapLX (by with_reducible assumption) | have F' := Mine.fr_mapL (m := fun _ => none) (by with_reducible assumption)); refine' Mine.storeM ?Fzq ?Nzq ?_ rfl ?bzq; (case bzq => with_reducible first | exact k123_row _); (case Fzq => with_reducible assumption); (case Nzq => with_reducible assumption); intro h' k' F' N'; (try k_sweep)) | (refine' Mine.storeG ?Fzq ?Nzq ?_ rfl ?bzq; (case bzq => with_reducible first | exact k123_row _); (case Fzq => k_asm); (case Nzq => k_asm); intro h' k' F' N'; (try replace F' := Mine.fr_mapL F'); (try k_sweep)))
    | ((with_reducible show Mine.wpC _ _ (call (Value.ref 118) _ _) _ _ _); k_dflt (first | (refine' Mine.csc_use_bytes (Mine.put_frame_ping _ _ _ _ _ ?p0zq) ?k1zq ?k2zq ?k3zq ?k4zq ?k5zq ?kKzq ?kdzq ?kuzq ?_; (case k4zq => with_reducible assumption); (case p0zq => k_mem); (case k1zq => with_reducible assumption); (case k2zq => with_reducible assumption); (case k3zq => with_reducible assumption); (case k5zq => with_reducible assumption); (case kKzq => first | exact rfl | assumption); (case kdzq => first | exact Mine.room_of (by assumption) (by decide) | ktr_room); (case kuzq => first | exact Mine.units_of (by assumption) (by decide) | ktr_units)) | (refine' Mine.csc_use_bytes (Mine.put_frame_pad _ _ _ _ _ _ _ ?p0zq ?p1zq ?p2zq) ?k1zq ?k2zq ?k3zq ?k4zq ?k5zq ?kKzq ?kdzq ?kuzq ?_; (case k4zq => with_reducible assumption); (case p2zq => k_mem); (case p0zq => omega); (case p1zq => omega); (case k1zq => with_reducible assumption); (case k2zq => with_reducible assumption); (case k3zq => with_reducible assumption); (case k5zq => with_reducible assumption); (case kKzq => first | exact rfl | assumption); (case kdzq => first | exact Mine.room_of (by assumption) (by decide) | ktr_room); (case kuzq => first | exact Mine.units_of (by assumption) (by decide) | ktr_units))); intro b9 u9 h9 tk9 hb9 F9 N9; (try dsimp only))
    | k_extra "core"
    | (k_unfold; (try dsimp only))
    | (k_end; wrow_close)
    | ((first | (with_reducible show wpAny _ _ (eval (PySem.Expr.Slice _ _ _ _) _) _ _ _) | (with_reducible show wpAny _ _ (evalPart _ _) _ _ _)); walk1)
    | (walk1; (try dsimp only))
    | (dsimp only; walk1)
    | (leave1; walk_say "STEP leave1"; try dsimp only)
    | fail "no step"))
  trivial
theorem put_frames_0 (w : World) (news : List (Addr × Obj)) (r p0 : Addr) (kr k0 : Nat) (t0 : Tok) (hm0 : (r, PySem.W.listOf [.ref p0].toArray kr) ∈ news) (hm1 : (p0, tupObj [Value.str (Str.ofString "ping") t0] k0) ∈ news) : CSC w 123 news [.ref r] 5 (BytesN 1) := by
  unfold CSC
  intro mean mg mb dp un gd cn cs a ccd cl outer A₀ base h₀ L m s Q E B F X N T hk hd hu hret
  have hl : ∀ q9 ∈ news, q9 ∈ news := fun _ h => h
  k_extra "csc_enter"
  change Fr g' L' h' (Mine.mapL [(Str.ofString "row", Value.ref r)]) at F'
  refine Mine.wpC_fold ?_
  intro qf' hqf'
  k_extra "steps"
  all_goals exact bytesN_of (by assumption)
theorem put_frames_1 (w : World) (news : List (Addr × Obj)) (r p0 p1 : Addr) (kr k0 k1 : Nat) (t0 t1 u1 : Tok) (pa : Int) (ha : 0 ≤ pa) (ha1 : pa ≤ 1000) (hm0 : (r, PySem.W.listOf [.ref p0, .ref p1].toArray kr) ∈ news) (hm1 : (p0, tupObj [Value.str (Str.ofString "ping") t0] k0) ∈ news) (hm2 : (p1, tupObj [Value.str (Str.ofString "padding") t1, Value.int pa u1] k1) ∈ news) : CSC w 123 news [.ref r] 5 (BytesN (1 + pa.toNat)) := by
  unfold CSC
  intro mean mg mb dp un gd cn cs a ccd cl outer A₀ base h₀ L m s Q E B F X N T hk hd hu hret
  have hl : ∀ q9 ∈ news, q9 ∈ news := fun _ h => h
  k_extra "csc_enter"
  change Fr g' L' h' (Mine.mapL [(Str.ofString "row", Value.ref r)]) at F'
  refine Mine.wpC_fold ?_
  intro qf' hqf'
  k_extra "steps"
  all_goals exact bytesN_of (by assumption)
theorem put_frames_2 (w : World) (news : List (Addr × Obj)) (r p0 p1 p2 : Addr) (kr k0 k1 k2 : Nat) (t0 t1 u1 t2 u2 : Tok) (pa pb : Int) (ha : 0 ≤ pa) (ha1 : pa ≤ 1000) (hb : 0 ≤ pb) (hb1 : pb ≤ 1000) (hm0 : (r, PySem.W.listOf [.ref p0, .ref p1, .ref p2].toArray kr) ∈ news) (hm1 : (p0, tupObj [Value.str (Str.ofString "ping") t0] k0) ∈ news) (hm2 : (p1, tupObj [Value.str (Str.ofString "padding") t1, Value.int pa u1] k1) ∈ news) (hm3 : (p2, tupObj [Value.str (Str.ofString "padding") t2, Value.int pb u2] k2) ∈ news) : CSC w 123 news [.ref r] 5 (BytesN (1 + pa.toNat + pb.toNat)) := by
  unfold CSC
  intro mean mg mb dp un gd cn cs a ccd cl outer A₀ base h₀ L m s Q E B F X N T hk hd hu hret
  have hl : ∀ q9 ∈ news, q9 ∈ news := fun _ h => h
  k_extra "csc_enter"
  change Fr g' L' h' (Mine.mapL [(Str.ofString "row", Value.ref r)]) at F'
  refine Mine.wpC_fold ?_
  intro qf' hqf'
  k_extra "steps"
  all_goals exact bytesN_of (by assumption)
theorem lines_PA_1 : True := by
  k_with "steps" => (repeat' (first
    | ((with_reducible show wpAny _ _ (eval (PySem.Expr.Name _ _) (PyProof.Rows.envOf _ _ _ _ _)) _ _ _); first | (refine' Mine.nameM ?Fzq ?vzq ?_ rfl ?bzq ?czq; (case bzq => with_reducible first | exact k131_dcid _ | exact k131_scid _ | exact k138_kind _ | exact k138_low_bits _ | exact k166_payload _ | exact k166_number_size _ | exact k166_lacking _ | exact k173_spin _ | exact k173_key_phase _ | exact k173_dcid _ | exact k173_number_size _); (case Fzq => with_reducible assumption); (case vzq => first | (with_reducible exact Mine.lk0) | ((with_reducible refine' Mine.lk1 ?_) <;> decide +kernel) | ((with_reducible refine' Mine.lk2 ?_ ?_) <;> decide +kernel) | ((with_reducible refine' Mine.lk3 ?_ ?_ ?_) <;> decide +kernel) | ((with_reducible refine' Mine.lk4 ?_ ?_ ?_ ?_) <;> decide +kernel) | ((with_reducible refine' Mine.lk5 ?_ ?_ ?_ ?_ ?_) <;> decide +kernel) | ((with_reducible refine' Mine.lk6 ?_ ?_ ?_ ?_ ?_ ?_) <;> decide +kernel) | ((with_reducible refine' Mine.lk7 ?_ ?_ ?_ ?_ ?_ ?_ ?_) <;> decide +kernel) | ((with_reducible refine' Mine.lk8 ?_ ?_ ?_ ?_ ?_ ?_ ?_ ?_) <;> decide +kernel) | ((with_reducible refine' Mine.lk9 ?_ ?_ ?_ ?_ ?_ ?_ ?_ ?_ ?_) <;> decide +kernel)); (case czq => decide +kernel)) | ((first | have F' := Mine.fr_mapLX (by with_reducible assumption) | have F' := Mine.fr_mapL (m := fun _ => none) (by with_reducible assumption)); refine' Mine.nameM ?Fzq ?vzq ?_ rfl ?bzq ?czq; (case bzq => with_reducible first | exact k131_dcid _ | exact k131_scid _ | exact k138_kind _ | exact k138_low_bits _ | exact k166_payload _ | exact k166_number_size _ | exact k166_lacking _ | exact k173_spin _ | exact k173_key_phase _ | exact k173_dcid _ | exact k173_number_size _); (case Fzq => with_reducible assumption); (case vzq => first | (with_reducible exact Mine.lk0) | ((with_reducible refine' Mine.lk1 ?_) <;> decide +kernel) | ((with_reducible refine' Mine.lk2 ?_ ?_) <;> decide +kernel) | ((with_reducible refine' Mine.lk3 ?_ ?_ ?_) <;> decide +kernel) | ((with_reducible refine' Mine.lk4 ?_ ?_ ?_ ?_) <;> decide +kernel) | ((with_reducible refine' Mine.lk5 ?_ ?_ ?_ ?_ ?_) <;> decide +kernel) | ((with_reducible refine' Mine.lk6 ?_ ?_ ?_ ?_ ?_ ?_) <;> decide +kernel) | ((with_reducible refine' Mine.lk7 ?_ ?_ ?_ ?_ ?_ ?_ ?_) <;> decide +kernel) | ((with_reducible refine' Mine.lk8 ?_ ?_ ?_ ?_ ?_ ?_ ?_ ?_) <;> decide +kernel) | ((with_reducible refine' Mine.lk9 ?_ ?_ ?_ ?_ ?_ ?_ ?_ ?_ ?_) <;> decide +kernel)); (case czq => decide +kernel)) | (refine' nameX_K ?Fzq ?Xzq ?Tzq ?ezq ?_ rfl ?bzq ?czq; (case bzq => with_reducible first | exact k131_bytes _ | exact k131_len _ | exact k138_LONG_KINDS _ | exact k166_len _ | exact k166_bytes _ | exact k173_bytes _); (case Fzq => k_asm); (case Xzq => k_asm); (case ezq => with_reducible first | exact g_LONG_KINDS _); (case Tzq => k_asm); (case czq => decide +kernel)) | (refine' nameX_B ?Fzq ?Xzq ?Tzq ?ezq ?vzq ?nzq ?_ rfl ?bzq ?czq; (case bzq => with_reducible first | exact k131_bytes _ | exact k131_len _ | exact k138_LONG_KINDS _ | exact k166_len _ | exact k166_bytes _ | exact k173_bytes _); (case Fzq => k_asm); (case Xzq => k_asm); (case ezq => with_reducible first | exact b_bytes _ | exact b_len _); (case Tzq => k_asm); (case vzq => with_reducible first | exact bt_bytes | exact bt_len); (case nzq => decide +kernel); (case czq => decide +kernel)) | (refine' nameX_L ?Fzq ?vzq ?_ rfl ?bzq ?czq; (case bzq => with_reducible first | exact k131_dcid _ | exact k131_scid _ | exact k138_kind _ | exact k138_low_bits _ | exact k166_payload _ | exact k166_number_size _ | exact k166_lacking _ | exact k173_spin _ | exact k173_key_phase _ | exact k173_dcid _ | exact k173_number_size _); (case Fzq => k_asm); (case vzq => rfl); (case czq => decide +kernel)))
    | ((with_reducible show wpAny _ _ (storeName (PyProof.Rows.envOf _ _ _ _ _) _ _) _ _ _); first | (refine' Mine.storeM ?Fzq ?Nzq ?_ rfl ?bzq; (case bzq => with_reducible first | exact k131_dcid _ | exact k131_scid _ | exact k138_kind _ | exact k138_low_bits _ | exact k166_payload _ | exact k166_number_size _ | exact k166_lacking _ | exact k173_spin _ | exact k173_key_phase _ | exact k173_dcid _ | exact k173_number_size _); (case Fzq => with_reducible assumption); (case Nzq => with_reducible assumption); intro h' k' F' N'; (try k_sweep)) | ((first | have F' := Mine.fr_mapLX (by with_reducible assumption) | have F' := Mine.fr_mapL (m := fun _ => none) (by with_reducible assumption)); refine' Mine.storeM ?Fzq ?Nzq ?_ rfl ?bzq; (case bzq => with_reducible first | exact k131_dcid _ | exact k131_scid _ | exact k138_kind _ | exact k138_low_bits _ | exact k166_payload _ | exact k166_number_size _ | exact k166_lacking _ | exact k173_spin _ | exact k173_key_phase _ | exact k173_dcid _ | exact k173_number_size _); (case Fzq => with_reducible assumption); (case Nzq => with_reducible assumption); intro h' k' F' N'; (try k_sweep)) | (refine' Mine.storeG ?Fzq ?Nzq ?_ rfl ?bzq; (case bzq => with_reducible first | exact k131_dcid _ | exact k131_scid _ | exact k138_kind _ | exact k138_low_bits _ | exact k166_payload _ | exact k166_number_size _ | exact k166_lacking _ | exact k173_spin _ | exact k173_key_phase _ | exact k173_dcid _ | exact k173_number_size _); (case Fzq => k_asm); (case Nzq => k_asm); intro h' k' F' N'; (try replace F' := Mine.fr_mapL F'); (try k_sweep)))
    | k_extra "core"
    | (k_unfold; (try dsimp only))
    | (k_end; wrow_close)
    | ((first | (with_reducible show wpAny _ _ (eval (PySem.Expr.Slice _ _ _ _) _) _ _ _) | (with_reducible show wpAny _ _ (evalPart _ _) _ _ _)); walk1)
    | (walk1; (try dsimp only))
    | (dsimp only; walk1)
    | (leave1; walk_say "STEP leave1"; try dsimp only)
    | fail "no step"))
  trivial
theorem put_ids_ (w : World) (news : List (Addr × Obj)) (bd bs : Array UInt8) (ud us : Tok) (pd ps : Nat) (hd1 : bd.size = pd) (hs1 : bs.size = ps) (h1 : pd ≤ 100) (h2 : ps ≤ 100)  : CS w 131 news [.bytes bd ud, .bytes bs us] 1 (BytesN (2 + pd + ps)) := by
  unfold CS
  intro mean mg mb dp un gd cn cs a ccd cl outer A₀ base h₀ L m s Q E B F X N T hk hd hu hret
  have hl : ∀ q9 ∈ news, q9 ∈ news := fun _ h => h
  k_extra "cs_enter"
  change Fr g' L' h' (Mine.mapL [(Str.ofString "scid", Value.bytes bs us), (Str.ofString "dcid", Value.bytes bd ud)]) at F'
  refine Mine.wpAny_fold ?_
  intro qf' hqf'
  k_extra "steps"
  all_goals exact bytesN_of (by omega)
theorem long_first_initial (w : World) (news : List (Addr × Obj)) (t u : Tok) (ns : Int) (hns : ns = 0)  : CS w 138 news [Value.str (Str.ofString "initial") t, .int ns u] 1 (IntIs 192) := by
  unfold CS
  intro mean mg mb dp un gd cn cs a ccd cl outer A₀ base h₀ L m s Q E B F X N T hk hd hu hret
  have hl : ∀ q9 ∈ news, q9 ∈ news := fun _ h => h
  subst hns
  k_extra "cs_enter"
  change Fr g' L' h' (Mine.mapL [(Str.ofString "low_bits", Value.int 0 u), (Str.ofString "kind", Value.str (Str.ofString "initial") t)]) at F'
  refine Mine.wpAny_fold ?_
  intro qf' hqf'
  k_extra "steps"
  all_goals exact intIs_of rfl
theorem long_first_handshake (w : World) (news : List (Addr × Obj)) (t u : Tok) (ns : Int) (hns : ns = 0)  : CS w 138 news [Value.str (Str.ofString "handshake") t, .int ns u] 1 (IntIs 224) := by
  unfold CS
  intro mean mg mb dp un gd cn cs a ccd cl outer A₀ base h₀ L m s Q E B F X N T hk hd hu hret
  have hl : ∀ q9 ∈ news, q9 ∈ news := fun _ h => h
  subst hns
  k_extra "cs_enter"
  change Fr g' L' h' (Mine.mapL [(Str.ofString "low_bits", Value.int 0 u), (Str.ofString "kind", Value.str (Str.ofString "handshake") t)]) at F'
  refine Mine.wpAny_fold ?_
  intro qf' hqf'
  k_extra "steps"
  all_goals exact intIs_of rfl
theorem padded_payload_lo (w : World) (news : List (Addr × Obj)) (b : Array UInt8) (u t : Tok) (pp : Nat) (ns : Int) (hp : b.size = pp) (h1 : pp < 3) (hns : ns = 1)  : CS w 166 news [.bytes b u, .int ns t] 1 (BytesN 3) := by
  unfold CS
  intro mean mg mb dp un gd cn cs a ccd cl outer A₀ base h₀ L m s Q E B F X N T hk hd hu hret
  have hl : ∀ q9 ∈ news, q9 ∈ news := fun _ h => h
  subst hns
  k_extra "cs_enter"
  change Fr g' L' h' (Mine.mapL [(Str.ofString "number_size", Value.int 1 t), (Str.ofString "payload", Value.bytes b u)]) at F'
  refine Mine.wpAny_fold ?_
  intro qf' hqf'
  k_extra "steps"
  all_goals exact bytesN_of (by omega)
theorem padded_payload_hi (w : World) (news : List (Addr × Obj)) (b : Array UInt8) (u t : Tok) (pp : Nat) (ns : Int) (hp : b.size = pp) (h1 : 3 ≤ pp) (h2 : pp ≤ 3000) (hns : ns = 1)  : CS w 166 news [.bytes b u, .int ns t] 1 (BytesN pp) := by
  unfold CS
  intro mean mg mb dp un gd cn cs a ccd cl outer A₀ base h₀ L m s Q E B F X N T hk hd hu hret
  have hl : ∀ q9 ∈ news, q9 ∈ news := fun _ h => h
  subst hns
  k_extra "cs_enter"
  change Fr g' L' h' (Mine.mapL [(Str.ofString "number_size", Value.int 1 t), (Str.ofString "payload", Value.bytes b u)]) at F'
  refine Mine.wpAny_fold ?_
  intro qf' hqf'
  k_extra "steps"
  all_goals exact bytesN_of (by omega)
theorem short_head_ (w : World) (news : List (Addr × Obj)) (b : Array UInt8) (u t0 t1 t : Tok) (pd : Nat) (ns : Int) (hp : b.size = pd) (h1 : pd ≤ 100) (hns : ns = 1)  : CS w 173 news [.int 0 t0, .int 0 t1, .bytes b u, .int ns t] 1 (BytesN (1 + pd)) := by
  unfold CS
  intro mean mg mb dp un gd cn cs a ccd cl outer A₀ base h₀ L m s Q E B F X N T hk hd hu hret
  have hl : ∀ q9 ∈ news, q9 ∈ news := fun _ h => h
  subst hns
  k_extra "cs_enter"
  change Fr g' L' h' (Mine.mapL [(Str.ofString "number_size", Value.int 1 t), (Str.ofString "dcid", Value.bytes b u), (Str.ofString "key_phase", Value.int 0 t1), (Str.ofString "spin", Value.int 0 t0)]) at F'
  refine Mine.wpAny_fold ?_
  intro qf' hqf'
  k_extra "steps"
  all_goals exact bytesN_of (by omega)
theorem padded_payload_g (w : World) (news : List (Addr × Obj)) (b : Array UInt8) (u t : Tok) (pp : Nat) (ns : Int) (hp : b.size = pp) (h2 : pp ≤ 3000) (hns : ns = 1) : CS w 166 news [.bytes b u, .int ns t] 1 (BytesN (max pp 3)) := by
  rcases Nat.lt_or_ge pp 3 with g | g
  · rw [show max pp 3 = 3 by omega]
    exact padded_payload_lo w news b u t pp ns hp g hns
  · rw [show max pp 3 = pp by omega]
    exact padded_payload_hi w news b u t pp ns hp g h2 hns
theorem lines_PB_1 : True := by
  k_with "steps" => (repeat' (first
    | ((with_reducible show wpAny _ _ (eval (PySem.Expr.Name _ _) (PyProof.Rows.envOf _ _ _ _ _)) _ _ _); first | (refine' Mine.nameM ?Fzq ?vzq ?_ rfl ?bzq ?czq; (case bzq => with_reducible first | exact k152_full _ | exact k152_largest_acked _ | exact k152_apart _ | exact k152_size _ | exact k159_full _ | exact k159_largest_acked _ | exact k159_size _ | exact k187_packet _); (case Fzq => with_reducible assumption); (case vzq => first | (with_reducible exact Mine.lk0) | ((with_reducible refine' Mine.lk1 ?_) <;> decide +kernel) | ((with_reducible refine' Mine.lk2 ?_ ?_) <;> decide +kernel) | ((with_reducible refine' Mine.lk3 ?_ ?_ ?_) <;> decide +kernel) | ((with_reducible refine' Mine.lk4 ?_ ?_ ?_ ?_) <;> decide +kernel) | ((with_reducible refine' Mine.lk5 ?_ ?_ ?_ ?_ ?_) <;> decide +kernel) | ((with_reducible refine' Mine.lk6 ?_ ?_ ?_ ?_ ?_ ?_) <;> decide +kernel) | ((with_reducible refine' Mine.lk7 ?_ ?_ ?_ ?_ ?_ ?_ ?_) <;> decide +kernel) | ((with_reducible refine' Mine.lk8 ?_ ?_ ?_ ?_ ?_ ?_ ?_ ?_) <;> decide +kernel) | ((with_reducible refine' Mine.lk9 ?_ ?_ ?_ ?_ ?_ ?_ ?_ ?_ ?_) <;> decide +kernel)); (case czq => decide +kernel)) | ((first | have F' := Mine.fr_mapLX (by with_reducible assumption) | have F' := Mine.fr_mapL (m := fun _ => none) (by with_reducible assumption)); refine' Mine.nameM ?Fzq ?vzq ?_ rfl ?bzq ?czq; (case bzq => with_reducible first | exact k152_full _ | exact k152_largest_acked _ | exact k152_apart _ | exact k152_size _ | exact k159_full _ | exact k159_largest_acked _ | exact k159_size _ | exact k187_packet _); (case Fzq => with_reducible assumption); (case vzq => first | (with_reducible exact Mine.lk0) | ((with_reducible refine' Mine.lk1 ?_) <;> decide +kernel) | ((with_reducible refine' Mine.lk2 ?_ ?_) <;> decide +kernel) | ((with_reducible refine' Mine.lk3 ?_ ?_ ?_) <;> decide +kernel) | ((with_reducible refine' Mine.lk4 ?_ ?_ ?_ ?_) <;> decide +kernel) | ((with_reducible refine' Mine.lk5 ?_ ?_ ?_ ?_ ?_) <;> decide +kernel) | ((with_reducible refine' Mine.lk6 ?_ ?_ ?_ ?_ ?_ ?_) <;> decide +kernel) | ((with_reducible refine' Mine.lk7 ?_ ?_ ?_ ?_ ?_ ?_ ?_) <;> decide +kernel) | ((with_reducible refine' Mine.lk8 ?_ ?_ ?_ ?_ ?_ ?_ ?_ ?_) <;> decide +kernel) | ((with_reducible refine' Mine.lk9 ?_ ?_ ?_ ?_ ?_ ?_ ?_ ?_ ?_) <;> decide +kernel)); (case czq => decide +kernel)) | (refine' nameX_K ?Fzq ?Xzq ?Tzq ?ezq ?_ rfl ?bzq ?czq; (case bzq => with_reducible first | exact k152_range _ | exact k152_MOST_OCTETS _ | exact k159_number_size _ | exact k159_put_whole _ | exact k187_len _); (case Fzq => k_asm); (case Xzq => k_asm); (case ezq => with_reducible first | exact g_number_size _ | exact g_put_whole _); (case Tzq => k_asm); (case czq => decide +kernel)) | (refine' nameX_B ?Fzq ?Xzq ?Tzq ?ezq ?vzq ?nzq ?_ rfl ?bzq ?czq; (case bzq => with_reducible first | exact k152_range _ | exact k152_MOST_OCTETS _ | exact k159_number_size _ | exact k159_put_whole _ | exact k187_len _); (case Fzq => k_asm); (case Xzq => k_asm); (case ezq => with_reducible first | exact b_len _ | exact b_range _); (case Tzq => k_asm); (case vzq => with_reducible first | exact bt_len | exact bt_range); (case nzq => decide +kernel); (case czq => decide +kernel)) | (refine' nameX_L ?Fzq ?vzq ?_ rfl ?bzq ?czq; (case bzq => with_reducible first | exact k152_full _ | exact k152_largest_acked _ | exact k152_apart _ | exact k152_size _ | exact k159_full _ | exact k159_largest_acked _ | exact k159_size _ | exact k187_packet _); (case Fzq => k_asm); (case vzq => rfl); (case czq => decide +kernel)))
    | ((with_reducible show wpAny _ _ (storeName (PyProof.Rows.envOf _ _ _ _ _) _ _) _ _ _); first | (refine' Mine.storeM ?Fzq ?Nzq ?_ rfl ?bzq; (case bzq => with_reducible first | exact k152_full _ | exact k152_largest_acked _ | exact k152_apart _ | exact k152_size _ | exact k159_full _ | exact k159_largest_acked _ | exact k159_size _ | exact k187_packet _); (case Fzq => with_reducible assumption); (case Nzq => with_reducible assumption); intro h' k' F' N'; (try k_sweep)) | ((first | have F' := Mine.fr_mapLX (by with_reducible assumption) | have F' := Mine.fr_mapL (m := fun _ => none) (by with_reducible assumption)); refine' Mine.storeM ?Fzq ?Nzq ?_ rfl ?bzq; (case bzq => with_reducible first | exact k152_full _ | exact k152_largest_acked _ | exact k152_apart _ | exact k152_size _ | exact k159_full _ | exact k159_largest_acked _ | exact k159_size _ | exact k187_packet _); (case Fzq => with_reducible assumption); (case Nzq => with_reducible assumption); intro h' k' F' N'; (try k_sweep)) | (refine' Mine.storeG ?Fzq ?Nzq ?_ rfl ?bzq; (case bzq => with_reducible first | exact k152_full _ | exact k152_largest_acked _ | exact k152_apart _ | exact k152_size _ | exact k159_full _ | exact k159_largest_acked _ | exact k159_size _ | exact k187_packet _); (case Fzq => k_asm); (case Nzq => k_asm); intro h' k' F' N'; (try replace F' := Mine.fr_mapL F'); (try k_sweep)))
    | ((with_reducible show Mine.wpC _ _ (eval (PySem.Expr.Call (PySem.Expr.Name (PySem.Str.ofString "number_size") _) _ _ _) _) _ _ _); refine' Mine.wpC_Call _ _ ?hezq ?_; (case hezq => rfl))
    | ((with_reducible show Mine.wpC _ _ (eval (PySem.Expr.Call (PySem.Expr.Name (PySem.Str.ofString "put_whole") _) _ _ _) _) _ _ _); refine' Mine.wpC_Call _ _ ?hezq ?_; (case hezq => rfl))
    | k_extra "core"
    | (k_unfold; (try dsimp only))
    | (k_end; wrow_close)
    | ((first | (with_reducible show wpAny _ _ (eval (PySem.Expr.Slice _ _ _ _) _) _ _ _) | (with_reducible show wpAny _ _ (evalPart _ _) _ _ _)); walk1)
    | (walk1; (try dsimp only))
    | (dsimp only; walk1)
    | (leave1; walk_say "STEP leave1"; try dsimp only)
    | fail "no step"))
  trivial
theorem lines_PB_2 : True := by
  k_with "steps" => (repeat' (first
    | ((with_reducible show wpAny _ _ (eval (PySem.Expr.Name _ _) (PyProof.Rows.envOf _ _ _ _ _)) _ _ _); first | (refine' Mine.nameM ?Fzq ?vzq ?_ rfl ?bzq ?czq; (case bzq => with_reducible first | exact k152_full _ | exact k152_largest_acked _ | exact k152_apart _ | exact k152_size _ | exact k159_full _ | exact k159_largest_acked _ | exact k159_size _ | exact k187_packet _); (case Fzq => with_reducible assumption); (case vzq => first | (with_reducible exact Mine.lk0) | ((with_reducible refine' Mine.lk1 ?_) <;> decide +kernel) | ((with_reducible refine' Mine.lk2 ?_ ?_) <;> decide +kernel) | ((with_reducible refine' Mine.lk3 ?_ ?_ ?_) <;> decide +kernel) | ((with_reducible refine' Mine.lk4 ?_ ?_ ?_ ?_) <;> decide +kernel) | ((with_reducible refine' Mine.lk5 ?_ ?_ ?_ ?_ ?_) <;> decide +kernel) | ((with_reducible refine' Mine.lk6 ?_ ?_ ?_ ?_ ?_ ?_) <;> decide +kernel) | ((with_reducible refine' Mine.lk7 ?_ ?_ ?_ ?_ ?_ ?_ ?_) <;> decide +kernel) | ((with_reducible refine' Mine.lk8 ?_ ?_ ?_ ?_ ?_ ?_ ?_ ?_) <;> decide +kernel) | ((with_reducible refine' Mine.lk9 ?_ ?_ ?_ ?_ ?_ ?_ ?_ ?_ ?_) <;> decide +kernel)); (case czq => decide +kernel)) | ((first | have F' := Mine.fr_mapLX (by with_reducible assumption) | have F' := Mine.fr_mapL (m := fun _ => none) (by with_reducible assumption)); refine' Mine.nameM ?Fzq ?vzq ?_ rfl ?bzq ?czq; (case bzq => with_reducible first | exact k152_full _ | exact k152_largest_acked _ | exact k152_apart _ | exact k152_size _ | exact k159_full _ | exact k159_largest_acked _ | exact k159_size _ | exact k187_packet _); (case Fzq => with_reducible assumption); (case vzq => first | (with_reducible exact Mine.lk0) | ((with_reducible refine' Mine.lk1 ?_) <;> decide +kernel) | ((with_reducible refine' Mine.lk2 ?_ ?_) <;> decide +kernel) | ((with_reducible refine' Mine.lk3 ?_ ?_ ?_) <;> decide +kernel) | ((with_reducible refine' Mine.lk4 ?_ ?_ ?_ ?_) <;> decide +kernel) | ((with_reducible refine' Mine.lk5 ?_ ?_ ?_ ?_ ?_) <;> decide +kernel) | ((with_reducible refine' Mine.lk6 ?_ ?_ ?_ ?_ ?_ ?_) <;> decide +kernel) | ((with_reducible refine' Mine.lk7 ?_ ?_ ?_ ?_ ?_ ?_ ?_) <;> decide +kernel) | ((with_reducible refine' Mine.lk8 ?_ ?_ ?_ ?_ ?_ ?_ ?_ ?_) <;> decide +kernel) | ((with_reducible refine' Mine.lk9 ?_ ?_ ?_ ?_ ?_ ?_ ?_ ?_ ?_) <;> decide +kernel)); (case czq => decide +kernel)) | (refine' nameX_K ?Fzq ?Xzq ?Tzq ?ezq ?_ rfl ?bzq ?czq; (case bzq => with_reducible first | exact k152_range _ | exact k152_MOST_OCTETS _ | exact k159_number_size _ | exact k159_put_whole _ | exact k187_len _); (case Fzq => k_asm); (case Xzq => k_asm); (case ezq => with_reducible first | exact g_number_size _ | exact g_put_whole _); (case Tzq => k_asm); (case czq => decide +kernel)) | (refine' nameX_B ?Fzq ?Xzq ?Tzq ?ezq ?vzq ?nzq ?_ rfl ?bzq ?czq; (case bzq => with_reducible first | exact k152_range _ | exact k152_MOST_OCTETS _ | exact k159_number_size _ | exact k159_put_whole _ | exact k187_len _); (case Fzq => k_asm); (case Xzq => k_asm); (case ezq => with_reducible first | exact b_len _ | exact b_range _); (case Tzq => k_asm); (case vzq => with_reducible first | exact bt_len | exact bt_range); (case nzq => decide +kernel); (case czq => decide +kernel)) | (refine' nameX_L ?Fzq ?vzq ?_ rfl ?bzq ?czq; (case bzq => with_reducible first | exact k152_full _ | exact k152_largest_acked _ | exact k152_apart _ | exact k152_size _ | exact k159_full _ | exact k159_largest_acked _ | exact k159_size _ | exact k187_packet _); (case Fzq => k_asm); (case vzq => rfl); (case czq => decide +kernel)))
    | ((with_reducible show wpAny _ _ (storeName (PyProof.Rows.envOf _ _ _ _ _) _ _) _ _ _); first | (refine' Mine.storeM ?Fzq ?Nzq ?_ rfl ?bzq; (case bzq => with_reducible first | exact k152_full _ | exact k152_largest_acked _ | exact k152_apart _ | exact k152_size _ | exact k159_full _ | exact k159_largest_acked _ | exact k159_size _ | exact k187_packet _); (case Fzq => with_reducible assumption); (case Nzq => with_reducible assumption); intro h' k' F' N'; (try k_sweep)) | ((first | have F' := Mine.fr_mapLX (by with_reducible assumption) | have F' := Mine.fr_mapL (m := fun _ => none) (by with_reducible assumption)); refine' Mine.storeM ?Fzq ?Nzq ?_ rfl ?bzq; (case bzq => with_reducible first | exact k152_full _ | exact k152_largest_acked _ | exact k152_apart _ | exact k152_size _ | exact k159_full _ | exact k159_largest_acked _ | exact k159_size _ | exact k187_packet _); (case Fzq => with_reducible assumption); (case Nzq => with_reducible assumption); intro h' k' F' N'; (try k_sweep)) | (refine' Mine.storeG ?Fzq ?Nzq ?_ rfl ?bzq; (case bzq => with_reducible first | exact k152_full _ | exact k152_largest_acked _ | exact k152_apart _ | exact k152_size _ | exact k159_full _ | exact k159_largest_acked _ | exact k159_size _ | exact k187_packet _); (case Fzq => k_asm); (case Nzq => k_asm); intro h' k' F' N'; (try replace F' := Mine.fr_mapL F'); (try k_sweep)))
    | ((with_reducible show Mine.wpC _ _ (eval (PySem.Expr.Call (PySem.Expr.Name (PySem.Str.ofString "number_size") _) _ _ _) _) _ _ _); refine' Mine.wpC_Call _ _ ?hezq ?_; (case hezq => rfl))
    | ((with_reducible show Mine.wpC _ _ (eval (PySem.Expr.Call (PySem.Expr.Name (PySem.Str.ofString "put_whole") _) _ _ _) _) _ _ _); refine' Mine.wpC_Call _ _ ?hezq ?_; (case hezq => rfl))
    | ((with_reducible show wpAny _ _ (call (Value.type "range") [Value.int 1 _, Value.int (4 + 1) _]) _ _ _); (show wpAny _ _ (call (Value.type "range") [Value.int 1 _, Value.int 5 _]) _ _ _))
    | k_extra "core"
    | (k_unfold; (try dsimp only))
    | (k_end; wrow_close)
    | ((first | (with_reducible show wpAny _ _ (eval (PySem.Expr.Slice _ _ _ _) _) _ _ _) | (with_reducible show wpAny _ _ (evalPart _ _) _ _ _)); walk1)
    | (walk1; (try dsimp only))
    | (dsimp only; walk1)
    | (leave1; walk_say "STEP leave1"; try dsimp only)
    | fail "no step"))
  trivial
theorem number_size_0 (w : World) (news : List (Addr × Obj)) (t : Tok)  : CSC w 152 news [.int 0 t, .none] 1 (IntIs 1) := by
  unfold CSC
  intro mean mg mb dp un gd cn cs a ccd cl outer A₀ base h₀ L m s Q E B F X N T hk hd hu hret
  have hl : ∀ q9 ∈ news, q9 ∈ news := fun _ h => h
  k_extra "csc_enter"
  change Fr g' L' h' (Mine.mapL [(Str.ofString "largest_acked", Value.none), (Str.ofString "full", Value.int 0 t)]) at F'
  refine Mine.wpC_fold ?_
  intro qf' hqf'
  k_extra "steps"
  all_goals first | exact intIs_of rfl | (exfalso; omega)
theorem number_size_1 (w : World) (news : List (Addr × Obj)) (t : Tok)  : CSC w 152 news [.int 1 t, .none] 1 (IntIs 1) := by
  unfold CSC
  intro mean mg mb dp un gd cn cs a ccd cl outer A₀ base h₀ L m s Q E B F X N T hk hd hu hret
  have hl : ∀ q9 ∈ news, q9 ∈ news := fun _ h => h
  k_extra "csc_enter"
  change Fr g' L' h' (Mine.mapL [(Str.ofString "largest_acked", Value.none), (Str.ofString "full", Value.int 1 t)]) at F'
  refine Mine.wpC_fold ?_
  intro qf' hqf'
  k_extra "steps"
  all_goals first | exact intIs_of rfl | (exfalso; omega)
theorem number_size_2 (w : World) (news : List (Addr × Obj)) (t : Tok)  : CSC w 152 news [.int 2 t, .none] 1 (IntIs 1) := by
  unfold CSC
  intro mean mg mb dp un gd cn cs a ccd cl outer A₀ base h₀ L m s Q E B F X N T hk hd hu hret
  have hl : ∀ q9 ∈ news, q9 ∈ news := fun _ h => h
  k_extra "csc_enter"
  change Fr g' L' h' (Mine.mapL [(Str.ofString "largest_acked", Value.none), (Str.ofString "full", Value.int 2 t)]) at F'
  refine Mine.wpC_fold ?_
  intro qf' hqf'
  k_extra "steps"
  all_goals first | exact intIs_of rfl | (exfalso; omega)
theorem number_in_short (w : World) (news : List (Addr × Obj)) (k : Nat) (p : Addr) (tk ta tb tn ud up : Tok) (bd bp : Array UInt8) (hm0 : (p, tupObj [Value.str (Str.ofString "short") tk, Value.int 0 ta, Value.int 0 tb, Value.bytes bd ud, Value.int 2 tn, Value.bytes bp up] k) ∈ news) : CS w 187 news [.ref p] 1 (IntIs 2) := by
  unfold CS
  intro mean mg mb dp un gd cn cs a ccd cl outer A₀ base h₀ L m s Q E B F X N T hk hd hu hret
  have hl : ∀ q9 ∈ news, q9 ∈ news := fun _ h => h
  k_extra "cs_enter"
  change Fr g' L' h' (Mine.mapL [(Str.ofString "packet", Value.ref p)]) at F'
  refine Mine.wpAny_fold ?_
  intro qf' hqf'
  k_extra "steps"
  all_goals exact intIs_of rfl
theorem number_in_initial (w : World) (news : List (Addr × Obj)) (k : Nat) (p : Addr) (tk ta tn ud us ut up : Tok) (bd bs bt bp : Array UInt8) (hm0 : (p, tupObj [Value.str (Str.ofString "initial") tk, Value.int 1 ta, Value.bytes bd ud, Value.bytes bs us, Value.bytes bt ut, Value.int 0 tn, Value.bytes bp up] k) ∈ news) : CS w 187 news [.ref p] 1 (IntIs 0) := by
  unfold CS
  intro mean mg mb dp un gd cn cs a ccd cl outer A₀ base h₀ L m s Q E B F X N T hk hd hu hret
  have hl : ∀ q9 ∈ news, q9 ∈ news := fun _ h => h
  k_extra "cs_enter"
  change Fr g' L' h' (Mine.mapL [(Str.ofString "packet", Value.ref p)]) at F'
  refine Mine.wpAny_fold ?_
  intro qf' hqf'
  k_extra "steps"
  all_goals exact intIs_of rfl
theorem number_in_handshake (w : World) (news : List (Addr × Obj)) (k : Nat) (p : Addr) (tk ta tn ud us up : Tok) (bd bs bp : Array UInt8) (hm0 : (p, tupObj [Value.str (Str.ofString "handshake") tk, Value.int 1 ta, Value.bytes bd ud, Value.bytes bs us, Value.int 1 tn, Value.bytes bp up] k) ∈ news) : CS w 187 news [.ref p] 1 (IntIs 1) := by
  unfold CS
  intro mean mg mb dp un gd cn cs a ccd cl outer A₀ base h₀ L m s Q E B F X N T hk hd hu hret
  have hl : ∀ q9 ∈ news, q9 ∈ news := fun _ h => h
  k_extra "cs_enter"
  change Fr g' L' h' (Mine.mapL [(Str.ofString "packet", Value.ref p)]) at F'
  refine Mine.wpAny_fold ?_
  intro qf' hqf'
  k_extra "steps"
  all_goals exact intIs_of rfl
theorem lines_PB_3 : True := by
  k_with "steps" => (repeat' (first
    | ((with_reducible show wpAny _ _ (eval (PySem.Expr.Name _ _) (PyProof.Rows.envOf _ _ _ _ _)) _ _ _); first | (refine' Mine.nameM ?Fzq ?vzq ?_ rfl ?bzq ?czq; (case bzq => with_reducible first | exact k152_full _ | exact k152_largest_acked _ | exact k152_apart _ | exact k152_size _ | exact k159_full _ | exact k159_largest_acked _ | exact k159_size _ | exact k187_packet _); (case Fzq => with_reducible assumption); (case vzq => first | (with_reducible exact Mine.lk0) | ((with_reducible refine' Mine.lk1 ?_) <;> decide +kernel) | ((with_reducible refine' Mine.lk2 ?_ ?_) <;> decide +kernel) | ((with_reducible refine' Mine.lk3 ?_ ?_ ?_) <;> decide +kernel) | ((with_reducible refine' Mine.lk4 ?_ ?_ ?_ ?_) <;> decide +kernel) | ((with_reducible refine' Mine.lk5 ?_ ?_ ?_ ?_ ?_) <;> decide +kernel) | ((with_reducible refine' Mine.lk6 ?_ ?_ ?_ ?_ ?_ ?_) <;> decide +kernel) | ((with_reducible refine' Mine.lk7 ?_ ?_ ?_ ?_ ?_ ?_ ?_) <;> decide +kernel) | ((with_reducible refine' Mine.lk8 ?_ ?_ ?_ ?_ ?_ ?_ ?_ ?_) <;> decide +kernel) | ((with_reducible refine' Mine.lk9 ?_ ?_ ?_ ?_ ?_ ?_ ?_ ?_ ?_) <;> decide +kernel)); (case czq => decide +kernel)) | ((first | have F' := Mine.fr_mapLX (by with_reducible assumption) | have F' := Mine.fr_mapL (m := fun _ => none) (by with_reducible assumption)); refine' Mine.nameM ?Fzq ?vzq ?_ rfl ?bzq ?czq; (case bzq => with_reducible first | exact k152_full _ | exact k152_largest_acked _ | exact k152_apart _ | exact k152_size _ | exact k159_full _ | exact k159_largest_acked _ | exact k159_size _ | exact k187_packet _); (case Fzq => with_reducible assumption); (case vzq => first | (with_reducible exact Mine.lk0) | ((with_reducible refine' Mine.lk1 ?_) <;> decide +kernel) | ((with_reducible refine' Mine.lk2 ?_ ?_) <;> decide +kernel) | ((with_reducible refine' Mine.lk3 ?_ ?_ ?_) <;> decide +kernel) | ((with_reducible refine' Mine.lk4 ?_ ?_ ?_ ?_) <;> decide +kernel) | ((with_reducible refine' Mine.lk5 ?_ ?_ ?_ ?_ ?_) <;> decide +kernel) | ((with_reducible refine' Mine.lk6 ?_ ?_ ?_ ?_ ?_ ?_) <;> decide +kernel) | ((with_reducible refine' Mine.lk7 ?_ ?_ ?_ ?_ ?_ ?_ ?_) <;> decide +kernel) | ((with_reducible refine' Mine.lk8 ?_ ?_ ?_ ?_ ?_ ?_ ?_ ?_) <;> decide +kernel) | ((with_reducible refine' Mine.lk9 ?_ ?_ ?_ ?_ ?_ ?_ ?_ ?_ ?_) <;> decide +kernel)); (case czq => decide +kernel)) | (refine' nameX_K ?Fzq ?Xzq ?Tzq ?ezq ?_ rfl ?bzq ?czq; (case bzq => with_reducible first | exact k152_range _ | exact k152_MOST_OCTETS _ | exact k159_number_size _ | exact k159_put_whole _ | exact k187_len _); (case Fzq => k_asm); (case Xzq => k_asm); (case ezq => with_reducible first | exact g_number_size _ | exact g_put_whole _); (case Tzq => k_asm); (case czq => decide +kernel)) | (refine' nameX_B ?Fzq ?Xzq ?Tzq ?ezq ?vzq ?nzq ?_ rfl ?bzq ?czq; (case bzq => with_reducible first | exact k152_range _ | exact k152_MOST_OCTETS _ | exact k159_number_size _ | exact k159_put_whole _ | exact k187_len _); (case Fzq => k_asm); (case Xzq => k_asm); (case ezq => with_reducible first | exact b_len _ | exact b_range _); (case Tzq => k_asm); (case vzq => with_reducible first | exact bt_len | exact bt_range); (case nzq => decide +kernel); (case czq => decide +kernel)) | (refine' nameX_L ?Fzq ?vzq ?_ rfl ?bzq ?czq; (case bzq => with_reducible first | exact k152_full _ | exact k152_largest_acked _ | exact k152_apart _ | exact k152_size _ | exact k159_full _ | exact k159_largest_acked _ | exact k159_size _ | exact k187_packet _); (case Fzq => k_asm); (case vzq => rfl); (case czq => decide +kernel)))
    | ((with_reducible show wpAny _ _ (storeName (PyProof.Rows.envOf _ _ _ _ _) _ _) _ _ _); first | (refine' Mine.storeM ?Fzq ?Nzq ?_ rfl ?bzq; (case bzq => with_reducible first | exact k152_full _ | exact k152_largest_acked _ | exact k152_apart _ | exact k152_size _ | exact k159_full _ | exact k159_largest_acked _ | exact k159_size _ | exact k187_packet _); (case Fzq => with_reducible assumption); (case Nzq => with_reducible assumption); intro h' k' F' N'; (try k_sweep)) | ((first | have F' := Mine.fr_mapLX (by with_reducible assumption) | have F' := Mine.fr_mapL (m := fun _ => none) (by with_reducible assumption)); refine' Mine.storeM ?Fzq ?Nzq ?_ rfl ?bzq; (case bzq => with_reducible first | exact k152_full _ | exact k152_largest_acked _ | exact k152_apart _ | exact k152_size _ | exact k159_full _ | exact k159_largest_acked _ | exact k159_size _ | exact k187_packet _); (case Fzq => with_reducible assumption); (case Nzq => with_reducible assumption); intro h' k' F' N'; (try k_sweep)) | (refine' Mine.storeG ?Fzq ?Nzq ?_ rfl ?bzq; (case bzq => with_reducible first | exact k152_full _ | exact k152_largest_acked _ | exact k152_apart _ | exact k152_size _ | exact k159_full _ | exact k159_largest_acked _ | exact k159_size _ | exact k187_packet _); (case Fzq => k_asm); (case Nzq => k_asm); intro h' k' F' N'; (try replace F' := Mine.fr_mapL F'); (try k_sweep)))
    | ((with_reducible show Mine.wpC _ _ (eval (PySem.Expr.Call (PySem.Expr.Name (PySem.Str.ofString "number_size") _) _ _ _) _) _ _ _); refine' Mine.wpC_Call _ _ ?hezq ?_; (case hezq => rfl))
    | ((with_reducible show Mine.wpC _ _ (eval (PySem.Expr.Call (PySem.Expr.Name (PySem.Str.ofString "put_whole") _) _ _ _) _) _ _ _); refine' Mine.wpC_Call _ _ ?hezq ?_; (case hezq => rfl))
    | ((with_reducible show Mine.wpC _ _ (call (Value.ref 42) _ _) _ _ _); k_dflt (first | (refine' Mine.csc_use_bytes (Mine.put_whole_1 _ _ _ _ _ ?p0zq ?p1zq) ?k1zq ?k2zq ?k3zq ?k4zq ?k5zq ?kKzq ?kdzq ?kuzq ?_; (case k4zq => with_reducible assumption); (case p0zq => first | decide | omega); (case p1zq => first | decide | omega); (case k1zq => with_reducible assumption); (case k2zq => with_reducible assumption); (case k3zq => with_reducible assumption); (case k5zq => with_reducible assumption); (case kKzq => first | exact rfl | assumption); (case kdzq => first | exact Mine.room_of (by assumption) (by decide) | ktr_room); (case kuzq => first | exact Mine.units_of (by assumption) (by decide) | ktr_units)) | (refine' Mine.csc_use_bytes (Mine.put_whole_2 _ _ _ _ _ ?p0zq ?p1zq) ?k1zq ?k2zq ?k3zq ?k4zq ?k5zq ?kKzq ?kdzq ?kuzq ?_; (case k4zq => with_reducible assumption); (case p0zq => first | decide | omega); (case p1zq => first | decide | omega); (case k1zq => with_reducible assumption); (case k2zq => with_reducible assumption); (case k3zq => with_reducible assumption); (case k5zq => with_reducible assumption); (case kKzq => first | exact rfl | assumption); (case kdzq => first | exact Mine.room_of (by assumption) (by decide) | ktr_room); (case kuzq => first | exact Mine.units_of (by assumption) (by decide) | ktr_units)) | (refine' Mine.csc_use_bytes (Mine.put_whole_4 _ _ _ _ _ ?p0zq ?p1zq) ?k1zq ?k2zq ?k3zq ?k4zq ?k5zq ?kKzq ?kdzq ?kuzq ?_; (case k4zq => with_reducible assumption); (case p0zq => first | decide | omega); (case p1zq => first | decide | omega); (case k1zq => with_reducible assumption); (case k2zq => with_reducible assumption); (case k3zq => with_reducible assumption); (case k5zq => with_reducible assumption); (case kKzq => first | exact rfl | assumption); (case kdzq => first | exact Mine.room_of (by assumption) (by decide) | ktr_room); (case kuzq => first | exact Mine.units_of (by assumption) (by decide) | ktr_units))); intro b9 u9 h9 tk9 hb9 F9 N9; (try dsimp only))
    | ((with_reducible show Mine.wpC _ _ (call (Value.ref 152) _ _) _ _ _); k_dflt (first | (refine' Mine.csc_use_int (Mine.number_size_0 _ _ _ ) ?k1zq ?k2zq ?k3zq ?k4zq ?k5zq ?kKzq ?kdzq ?kuzq ?_; (case k4zq => with_reducible assumption); (case k1zq => with_reducible assumption); (case k2zq => with_reducible assumption); (case k3zq => with_reducible assumption); (case k5zq => with_reducible assumption); (case kKzq => first | exact rfl | assumption); (case kdzq => first | exact Mine.room_of (by assumption) (by decide) | ktr_room); (case kuzq => first | exact Mine.units_of (by assumption) (by decide) | ktr_units)) | (refine' Mine.csc_use_int (Mine.number_size_1 _ _ _ ) ?k1zq ?k2zq ?k3zq ?k4zq ?k5zq ?kKzq ?kdzq ?kuzq ?_; (case k4zq => with_reducible assumption); (case k1zq => with_reducible assumption); (case k2zq => with_reducible assumption); (case k3zq => with_reducible assumption); (case k5zq => with_reducible assumption); (case kKzq => first | exact rfl | assumption); (case kdzq => first | exact Mine.room_of (by assumption) (by decide) | ktr_room); (case kuzq => first | exact Mine.units_of (by assumption) (by decide) | ktr_units)) | (refine' Mine.csc_use_int (Mine.number_size_2 _ _ _ ) ?k1zq ?k2zq ?k3zq ?k4zq ?k5zq ?kKzq ?kdzq ?kuzq ?_; (case k4zq => with_reducible assumption); (case k1zq => with_reducible assumption); (case k2zq => with_reducible assumption); (case k3zq => with_reducible assumption); (case k5zq => with_reducible assumption); (case kKzq => first | exact rfl | assumption); (case kdzq => first | exact Mine.room_of (by assumption) (by decide) | ktr_room); (case kuzq => first | exact Mine.units_of (by assumption) (by decide) | ktr_units))); intro u9 h9 tk9 F9 N9; (try dsimp only))
    | ((with_reducible show wpAny _ _ (call (Value.type "range") [Value.int 1 _, Value.int (4 + 1) _]) _ _ _); (show wpAny _ _ (call (Value.type "range") [Value.int 1 _, Value.int 5 _]) _ _ _))
    | k_extra "core"
    | (k_unfold; (try dsimp only))
    | (k_end; wrow_close)
    | ((first | (with_reducible show wpAny _ _ (eval (PySem.Expr.Slice _ _ _ _) _) _ _ _) | (with_reducible show wpAny _ _ (evalPart _ _) _ _ _)); walk1)
    | (walk1; (try dsimp only))
    | (dsimp only; walk1)
    | (leave1; walk_say "STEP leave1"; try dsimp only)
    | fail "no step"))
  trivial
theorem cut_number_0 (w : World) (news : List (Addr × Obj)) (t : Tok)  : CSC w 159 news [.int 0 t, .none] 2 (BytesN 1) := by
  unfold CSC
  intro mean mg mb dp un gd cn cs a ccd cl outer A₀ base h₀ L m s Q E B F X N T hk hd hu hret
  have hl : ∀ q9 ∈ news, q9 ∈ news := fun _ h => h
  k_extra "csc_enter"
  change Fr g' L' h' (Mine.mapL [(Str.ofString "largest_acked", Value.none), (Str.ofString "full", Value.int 0 t)]) at F'
  refine Mine.wpC_fold ?_
  intro qf' hqf'
  k_extra "steps"
  all_goals exact bytesN_of (by assumption)
theorem cut_number_1 (w : World) (news : List (Addr × Obj)) (t : Tok)  : CSC w 159 news [.int 1 t, .none] 2 (BytesN 1) := by
  unfold CSC
  intro mean mg mb dp un gd cn cs a ccd cl outer A₀ base h₀ L m s Q E B F X N T hk hd hu hret
  have hl : ∀ q9 ∈ news, q9 ∈ news := fun _ h => h
  k_extra "csc_enter"
  change Fr g' L' h' (Mine.mapL [(Str.ofString "largest_acked", Value.none), (Str.ofString "full", Value.int 1 t)]) at F'
  refine Mine.wpC_fold ?_
  intro qf' hqf'
  k_extra "steps"
  all_goals exact bytesN_of (by assumption)
theorem cut_number_2 (w : World) (news : List (Addr × Obj)) (t : Tok)  : CSC w 159 news [.int 2 t, .none] 2 (BytesN 1) := by
  unfold CSC
  intro mean mg mb dp un gd cn cs a ccd cl outer A₀ base h₀ L m s Q E B F X N T hk hd hu hret
  have hl : ∀ q9 ∈ news, q9 ∈ news := fun _ h => h
  k_extra "csc_enter"
  change Fr g' L' h' (Mine.mapL [(Str.ofString "largest_acked", Value.none), (Str.ofString "full", Value.int 2 t)]) at F'
  refine Mine.wpC_fold ?_
  intro qf' hqf'
  k_extra "steps"
  all_goals exact bytesN_of (by assumption)
theorem lines_PC_1 : True := by
  k_with "steps" => (repeat' (first
    | ((with_reducible show wpAny _ _ (eval (PySem.Expr.Name _ _) (PyProof.Rows.envOf _ _ _ _ _)) _ _ _); first | (refine' Mine.nameM ?Fzq ?vzq ?_ rfl ?bzq ?czq; (case bzq => with_reducible first | exact k145_kind _ | exact k145_version _ | exact k145_dcid _ | exact k145_scid _ | exact k145_token _ | exact k145_rest_size _ | exact k145_number_size _ | exact k145_head _); (case Fzq => with_reducible assumption); (case vzq => first | (with_reducible exact Mine.lk0) | ((with_reducible refine' Mine.lk1 ?_) <;> decide +kernel) | ((with_reducible refine' Mine.lk2 ?_ ?_) <;> decide +kernel) | ((with_reducible refine' Mine.lk3 ?_ ?_ ?_) <;> decide +kernel) | ((with_reducible refine' Mine.lk4 ?_ ?_ ?_ ?_) <;> decide +kernel) | ((with_reducible refine' Mine.lk5 ?_ ?_ ?_ ?_ ?_) <;> decide +kernel) | ((with_reducible refine' Mine.lk6 ?_ ?_ ?_ ?_ ?_ ?_) <;> decide +kernel) | ((with_reducible refine' Mine.lk7 ?_ ?_ ?_ ?_ ?_ ?_ ?_) <;> decide +kernel) | ((with_reducible refine' Mine.lk8 ?_ ?_ ?_ ?_ ?_ ?_ ?_ ?_) <;> decide +kernel) | ((with_reducible refine' Mine.lk9 ?_ ?_ ?_ ?_ ?_ ?_ ?_ ?_ ?_) <;> decide +kernel)); (case czq => decide +kernel)) | ((first | have F' := Mine.fr_mapLX (by with_reducible assumption) | have F' := Mine.fr_mapL (m := fun _ => none) (by with_reducible assumption)); refine' Mine.nameM ?Fzq ?vzq ?_ rfl ?bzq ?czq; (case bzq => with_reducible first | exact k145_kind _ | exact k145_version _ | exact k145_dcid _ | exact k145_scid _ | exact k145_token _ | exact k145_rest_size _ | exact k145_number_size _ | exact k145_head _); (case Fzq => with_reducible assumption); (case vzq => first | (with_reducible exact Mine.lk0) | ((with_reducible refine' Mine.lk1 ?_) <;> decide +kernel) | ((with_reducible refine' Mine.lk2 ?_ ?_) <;> decide +kernel) | ((with_reducible refine' Mine.lk3 ?_ ?_ ?_) <;> decide +kernel) | ((with_reducible refine' Mine.lk4 ?_ ?_ ?_ ?_) <;> decide +kernel) | ((with_reducible refine' Mine.lk5 ?_ ?_ ?_ ?_ ?_) <;> decide +kernel) | ((with_reducible refine' Mine.lk6 ?_ ?_ ?_ ?_ ?_ ?_) <;> decide +kernel) | ((with_reducible refine' Mine.lk7 ?_ ?_ ?_ ?_ ?_ ?_ ?_) <;> decide +kernel) | ((with_reducible refine' Mine.lk8 ?_ ?_ ?_ ?_ ?_ ?_ ?_ ?_) <;> decide +kernel) | ((with_reducible refine' Mine.lk9 ?_ ?_ ?_ ?_ ?_ ?_ ?_ ?_ ?_) <;> decide +kernel)); (case czq => decide +kernel)) | (refine' nameX_K ?Fzq ?Xzq ?Tzq ?ezq ?_ rfl ?bzq ?czq; (case bzq => with_reducible first | exact k145_bytes _ | exact k145_long_first _ | exact k145_put_whole _ | exact k145_put_ids _ | exact k145_put_varint _ | exact k145_len _); (case Fzq => k_asm); (case Xzq => k_asm); (case ezq => with_reducible first | exact g_long_first _ | exact g_put_ids _ | exact g_put_varint _ | exact g_put_whole _); (case Tzq => k_asm); (case czq => decide +kernel)) | (refine' nameX_B ?Fzq ?Xzq ?Tzq ?ezq ?vzq ?nzq ?_ rfl ?bzq ?czq; (case bzq => with_reducible first | exact k145_bytes _ | exact k145_long_first _ | exact k145_put_whole _ | exact k145_put_ids _ | exact k145_put_varint _ | exact k145_len _); (case Fzq => k_asm); (case Xzq => k_asm); (case ezq => with_reducible first | exact b_bytes _ | exact b_len _); (case Tzq => k_asm); (case vzq => with_reducible first | exact bt_bytes | exact bt_len); (case nzq => decide +kernel); (case czq => decide +kernel)) | (refine' nameX_L ?Fzq ?vzq ?_ rfl ?bzq ?czq; (case bzq => with_reducible first | exact k145_kind _ | exact k145_version _ | exact k145_dcid _ | exact k145_scid _ | exact k145_token _ | exact k145_rest_size _ | exact k145_number_size _ | exact k145_head _); (case Fzq => k_asm); (case vzq => rfl); (case czq => decide +kernel)))
    | ((with_reducible show wpAny _ _ (storeName (PyProof.Rows.envOf _ _ _ _ _) _ _) _ _ _); first | (refine' Mine.storeM ?Fzq ?Nzq ?_ rfl ?bzq; (case bzq => with_reducible first | exact k145_kind _ | exact k145_version _ | exact k145_dcid _ | exact k145_scid _ | exact k145_token _ | exact k145_rest_size _ | exact k145_number_size _ | exact k145_head _); (case Fzq => with_reducible assumption); (case Nzq => with_reducible assumption); intro h' k' F' N'; (try k_sweep)) | ((first | have F' := Mine.fr_mapLX (by with_reducible assumption) | have F' := Mine.fr_mapL (m := fun _ => none) (by with_reducible assumption)); refine' Mine.storeM ?Fzq ?Nzq ?_ rfl ?bzq; (case bzq => with_reducible first | exact k145_kind _ | exact k145_version _ | exact k145_dcid _ | exact k145_scid _ | exact k145_token _ | exact k145_rest_size _ | exact k145_number_size _ | exact k145_head _); (case Fzq => with_reducible assumption); (case Nzq => with_reducible assumption); intro h' k' F' N'; (try k_sweep)) | (refine' Mine.storeG ?Fzq ?Nzq ?_ rfl ?bzq; (case bzq => with_reducible first | exact k145_kind _ | exact k145_version _ | exact k145_dcid _ | exact k145_scid _ | exact k145_token _ | exact k145_rest_size _ | exact k145_number_size _ | exact k145_head _); (case Fzq => k_asm); (case Nzq => k_asm); intro h' k' F' N'; (try replace F' := Mine.fr_mapL F'); (try k_sweep)))
    | ((with_reducible show Mine.wpC _ _ (eval (PySem.Expr.Call (PySem.Expr.Name (PySem.Str.ofString "put_whole") _) _ _ _) _) _ _ _); refine' Mine.wpC_Call _ _ ?hezq ?_; (case hezq => rfl))
    | ((with_reducible show Mine.wpC _ _ (eval (PySem.Expr.Call (PySem.Expr.Name (PySem.Str.ofString "put_varint") _) _ _ _) _) _ _ _); refine' Mine.wpC_Call _ _ ?hezq ?_; (case hezq => rfl))
    | k_extra "core"
    | (k_unfold; (try dsimp only))
    | (k_end; wrow_close)
    | ((first | (with_reducible show wpAny _ _ (eval (PySem.Expr.Slice _ _ _ _) _) _ _ _) | (with_reducible show wpAny _ _ (evalPart _ _) _ _ _)); walk1)
    | (walk1; (try dsimp only))
    | (dsimp only; walk1)
    | (leave1; walk_say "STEP leave1"; try dsimp only)
    | fail "no step"))
  trivial
theorem lines_PC_2 : True := by
  k_with "steps" => (repeat' (first
    | ((with_reducible show wpAny _ _ (eval (PySem.Expr.Name _ _) (PyProof.Rows.envOf _ _ _ _ _)) _ _ _); first | (refine' Mine.nameM ?Fzq ?vzq ?_ rfl ?bzq ?czq; (case bzq => with_reducible first | exact k145_kind _ | exact k145_version _ | exact k145_dcid _ | exact k145_scid _ | exact k145_token _ | exact k145_rest_size _ | exact k145_number_size _ | exact k145_head _); (case Fzq => with_reducible assumption); (case vzq => first | (with_reducible exact Mine.lk0) | ((with_reducible refine' Mine.lk1 ?_) <;> decide +kernel) | ((with_reducible refine' Mine.lk2 ?_ ?_) <;> decide +kernel) | ((with_reducible refine' Mine.lk3 ?_ ?_ ?_) <;> decide +kernel) | ((with_reducible refine' Mine.lk4 ?_ ?_ ?_ ?_) <;> decide +kernel) | ((with_reducible refine' Mine.lk5 ?_ ?_ ?_ ?_ ?_) <;> decide +kernel) | ((with_reducible refine' Mine.lk6 ?_ ?_ ?_ ?_ ?_ ?_) <;> decide +kernel) | ((with_reducible refine' Mine.lk7 ?_ ?_ ?_ ?_ ?_ ?_ ?_) <;> decide +kernel) | ((with_reducible refine' Mine.lk8 ?_ ?_ ?_ ?_ ?_ ?_ ?_ ?_) <;> decide +kernel) | ((with_reducible refine' Mine.lk9 ?_ ?_ ?_ ?_ ?_ ?_ ?_ ?_ ?_) <;> decide +kernel)); (case czq => decide +kernel)) | ((first | have F' := Mine.fr_mapLX (by with_reducible assumption) | have F' := Mine.fr_mapL (m := fun _ => none) (by with_reducible assumption)); refine' Mine.nameM ?Fzq ?vzq ?_ rfl ?bzq ?czq; (case bzq => with_reducible first | exact k145_kind _ | exact k145_version _ | exact k145_dcid _ | exact k145_scid _ | exact k145_token _ | exact k145_rest_size _ | exact k145_number_size _ | exact k145_head _); (case Fzq => with_reducible assumption); (case vzq => first | (with_reducible exact Mine.lk0) | ((with_reducible refine' Mine.lk1 ?_) <;> decide +kernel) | ((with_reducible refine' Mine.lk2 ?_ ?_) <;> decide +kernel) | ((with_reducible refine' Mine.lk3 ?_ ?_ ?_) <;> decide +kernel) | ((with_reducible refine' Mine.lk4 ?_ ?_ ?_ ?_) <;> decide +kernel) | ((with_reducible refine' Mine.lk5 ?_ ?_ ?_ ?_ ?_) <;> decide +kernel) | ((with_reducible refine' Mine.lk6 ?_ ?_ ?_ ?_ ?_ ?_) <;> decide +kernel) | ((with_reducible refine' Mine.lk7 ?_ ?_ ?_ ?_ ?_ ?_ ?_) <;> decide +kernel) | ((with_reducible refine' Mine.lk8 ?_ ?_ ?_ ?_ ?_ ?_ ?_ ?_) <;> decide +kernel) | ((with_reducible refine' Mine.lk9 ?_ ?_ ?_ ?_ ?_ ?_ ?_ ?_ ?_) <;> decide +kernel)); (case czq => decide +kernel)) | (refine' nameX_K ?Fzq ?Xzq ?Tzq ?ezq ?_ rfl ?bzq ?czq; (case bzq => with_reducible first | exact k145_bytes _ | exact k145_long_first _ | exact k145_put_whole _ | exact k145_put_ids _ | exact k145_put_varint _ | exact k145_len _); (case Fzq => k_asm); (case Xzq => k_asm); (case ezq => with_reducible first | exact g_long_first _ | exact g_put_ids _ | exact g_put_varint _ | exact g_put_whole _); (case Tzq => k_asm); (case czq => decide +kernel)) | (refine' nameX_B ?Fzq ?Xzq ?Tzq ?ezq ?vzq ?nzq ?_ rfl ?bzq ?czq; (case bzq => with_reducible first | exact k145_bytes _ | exact k145_long_first _ | exact k145_put_whole _ | exact k145_put_ids _ | exact k145_put_varint _ | exact k145_len _); (case Fzq => k_asm); (case Xzq => k_asm); (case ezq => with_reducible first | exact b_bytes _ | exact b_len _); (case Tzq => k_asm); (case vzq => with_reducible first | exact bt_bytes | exact bt_len); (case nzq => decide +kernel); (case czq => decide +kernel)) | (refine' nameX_L ?Fzq ?vzq ?_ rfl ?bzq ?czq; (case bzq => with_reducible first | exact k145_kind _ | exact k145_version _ | exact k145_dcid _ | exact k145_scid _ | exact k145_token _ | exact k145_rest_size _ | exact k145_number_size _ | exact k145_head _); (case Fzq => k_asm); (case vzq => rfl); (case czq => decide +kernel)))
    | ((with_reducible show wpAny _ _ (storeName (PyProof.Rows.envOf _ _ _ _ _) _ _) _ _ _); first | (refine' Mine.storeM ?Fzq ?Nzq ?_ rfl ?bzq; (case bzq => with_reducible first | exact k145_kind _ | exact k145_version _ | exact k145_dcid _ | exact k145_scid _ | exact k145_token _ | exact k145_rest_size _ | exact k145_number_size _ | exact k145_head _); (case Fzq => with_reducible assumption); (case Nzq => with_reducible assumption); intro h' k' F' N'; (try k_sweep)) | ((first | have F' := Mine.fr_mapLX (by with_reducible assumption) | have F' := Mine.fr_mapL (m := fun _ => none) (by with_reducible assumption)); refine' Mine.storeM ?Fzq ?Nzq ?_ rfl ?bzq; (case bzq => with_reducible first | exact k145_kind _ | exact k145_version _ | exact k145_dcid _ | exact k145_scid _ | exact k145_token _ | exact k145_rest_size _ | exact k145_number_size _ | exact k145_head _); (case Fzq => with_reducible assumption); (case Nzq => with_reducible assumption); intro h' k' F' N'; (try k_sweep)) | (refine' Mine.storeG ?Fzq ?Nzq ?_ rfl ?bzq; (case bzq => with_reducible first | exact k145_kind _ | exact k145_version _ | exact k145_dcid _ | exact k145_scid _ | exact k145_token _ | exact k145_rest_size _ | exact k145_number_size _ | exact k145_head _); (case Fzq => k_asm); (case Nzq => k_asm); intro h' k' F' N'; (try replace F' := Mine.fr_mapL F'); (try k_sweep)))
    | ((with_reducible show Mine.wpC _ _ (eval (PySem.Expr.Call (PySem.Expr.Name (PySem.Str.ofString "put_whole") _) _ _ _) _) _ _ _); refine' Mine.wpC_Call _ _ ?hezq ?_; (case hezq => rfl))
    | ((with_reducible show Mine.wpC _ _ (eval (PySem.Expr.Call (PySem.Expr.Name (PySem.Str.ofString "put_varint") _) _ _ _) _) _ _ _); refine' Mine.wpC_Call _ _ ?hezq ?_; (case hezq => rfl))
    | ((with_reducible show Mine.wpC _ _ (call (Value.ref 42) _ _) _ _ _); k_dflt (first | (refine' Mine.csc_use_bytes (Mine.put_whole_4 _ _ _ _ _ ?p0zq ?p1zq) ?k1zq ?k2zq ?k3zq ?k4zq ?k5zq ?kKzq ?kdzq ?kuzq ?_; (case k4zq => with_reducible assumption); (case p0zq => first | decide | omega); (case p1zq => first | decide | omega); (case k1zq => with_reducible assumption); (case k2zq => with_reducible assumption); (case k3zq => with_reducible assumption); (case k5zq => with_reducible assumption); (case kKzq => first | exact rfl | assumption); (case kdzq => first | exact Mine.room_of (by assumption) (by decide) | ktr_room); (case kuzq => first | exact Mine.units_of (by assumption) (by decide) | ktr_units))); intro b9 u9 h9 tk9 hb9 F9 N9; (try dsimp only))
    | ((with_reducible show Mine.wpC _ _ (call (Value.ref 56) _ _) _ _ _); k_dflt (first | (refine' Mine.csc_use_bytes (Mine.put_varint_1 _ _ _ _ ?p0zq ?p1zq) ?k1zq ?k2zq ?k3zq ?k4zq ?k5zq ?kKzq ?kdzq ?kuzq ?_; (case k4zq => with_reducible assumption); (case p0zq => omega); (case p1zq => omega); (case k1zq => with_reducible assumption); (case k2zq => with_reducible assumption); (case k3zq => with_reducible assumption); (case k5zq => with_reducible assumption); (case kKzq => first | exact rfl | assumption); (case kdzq => first | exact Mine.room_of (by assumption) (by decide) | ktr_room); (case kuzq => first | exact Mine.units_of (by assumption) (by decide) | ktr_units)) | (refine' Mine.csc_use_bytes (Mine.put_varint_g _ _ _ _ ?p0zq ?p1zq) ?k1zq ?k2zq ?k3zq ?k4zq ?k5zq ?kKzq ?kdzq ?kuzq ?_; (case k4zq => with_reducible assumption); (case p0zq => omega); (case p1zq => omega); (case k1zq => with_reducible assumption); (case k2zq => with_reducible assumption); (case k3zq => with_reducible assumption); (case k5zq => with_reducible assumption); (case kKzq => first | exact rfl | assumption); (case kdzq => first | exact Mine.room_of (by assumption) (by decide) | ktr_room); (case kuzq => first | exact Mine.units_of (by assumption) (by decide) | ktr_units))); intro b9 u9 h9 tk9 hb9 F9 N9; (try dsimp only))
    | ((with_reducible show wpAny _ _ (call (Value.ref 138) _) _ _ _); k_dflt (first | (refine' Mine.cs_use_int (Mine.long_first_initial _ _ _ _ _ ?p0zq) ?k1zq ?k2zq ?k3zq ?k4zq ?k5zq ?kKzq ?kdzq ?kuzq ?_; (case k4zq => with_reducible assumption); (case p0zq => omega); (case k1zq => with_reducible assumption); (case k2zq => with_reducible assumption); (case k3zq => with_reducible assumption); (case k5zq => with_reducible assumption); (case kKzq => first | exact rfl | assumption); (case kdzq => first | exact Mine.room_of (by assumption) (by decide) | ktr_room); (case kuzq => first | exact Mine.units_of (by assumption) (by decide) | ktr_units)) | (refine' Mine.cs_use_int (Mine.long_first_handshake _ _ _ _ _ ?p0zq) ?k1zq ?k2zq ?k3zq ?k4zq ?k5zq ?kKzq ?kdzq ?kuzq ?_; (case k4zq => with_reducible assumption); (case p0zq => omega); (case k1zq => with_reducible assumption); (case k2zq => with_reducible assumption); (case k3zq => with_reducible assumption); (case k5zq => with_reducible assumption); (case kKzq => first | exact rfl | assumption); (case kdzq => first | exact Mine.room_of (by assumption) (by decide) | ktr_room); (case kuzq => first | exact Mine.units_of (by assumption) (by decide) | ktr_units))); intro u9 h9 tk9 F9 N9; (try dsimp only))
    | ((with_reducible show wpAny _ _ (call (Value.ref 131) _) _ _ _); k_dflt (first | (refine' Mine.cs_use_bytes (Mine.put_ids_ _ _ _ _ _ _ _ _ ?p0zq ?p1zq ?p2zq ?p3zq) ?k1zq ?k2zq ?k3zq ?k4zq ?k5zq ?kKzq ?kdzq ?kuzq ?_; (case k4zq => with_reducible assumption); (case p0zq => assumption); (case p1zq => assumption); (case p2zq => omega); (case p3zq => omega); (case k1zq => with_reducible assumption); (case k2zq => with_reducible assumption); (case k3zq => with_reducible assumption); (case k5zq => with_reducible assumption); (case kKzq => first | exact rfl | assumption); (case kdzq => first | exact Mine.room_of (by assumption) (by decide) | ktr_room); (case kuzq => first | exact Mine.units_of (by assumption) (by decide) | ktr_units))); intro b9 u9 h9 tk9 hb9 F9 N9; (try dsimp only))
    | k_extra "core"
    | (k_unfold; (try dsimp only))
    | (k_end; wrow_close)
    | ((first | (with_reducible show wpAny _ _ (eval (PySem.Expr.Slice _ _ _ _) _) _ _ _) | (with_reducible show wpAny _ _ (evalPart _ _) _ _ _)); walk1)
    | (walk1; (try dsimp only))
    | (dsimp only; walk1)
    | (leave1; walk_say "STEP leave1"; try dsimp only)
    | fail "no step"))
  trivial
theorem long_head_initial (w : World) (news : List (Addr × Obj)) (t tv tr tn ud us ut : Tok) (bd bs bt : Array UInt8) (pd ps : Nat) (r ns : Int) (hd1 : bd.size = pd) (hs1 : bs.size = ps) (ht1 : bt.size = 0) (h1 : pd ≤ 100) (h2 : ps ≤ 100) (g0 : 0 ≤ r) (g1 : r < 16384) (hns : ns = 1)  : CSC w 145 news [Value.str (Str.ofString "initial") t, .int 1 tv, .bytes bd ud, .bytes bs us, .bytes bt ut, .int r tr, .int ns tn] 3 (BytesN (7 + pd + ps + 1 + vz r)) := by
  unfold CSC
  intro mean mg mb dp un gd cn cs a ccd cl outer A₀ base h₀ L m s Q E B F X N T hk hd hu hret
  have hl : ∀ q9 ∈ news, q9 ∈ news := fun _ h => h
  k_extra "csc_enter"
  change Fr g' L' h' (Mine.mapL [(Str.ofString "number_size", Value.int ns tn), (Str.ofString "rest_size", Value.int r tr), (Str.ofString "token", Value.bytes bt ut), (Str.ofString "scid", Value.bytes bs us), (Str.ofString "dcid", Value.bytes bd ud), (Str.ofString "version", Value.int 1 tv), (Str.ofString "kind", Value.str (Str.ofString "initial") t)]) at F'
  refine Mine.wpC_fold ?_
  intro qf' hqf'
  k_extra "steps"
  all_goals exact bytesN_of (by omega)
theorem long_head_handshake (w : World) (news : List (Addr × Obj)) (t tv tr tn ud us ut : Tok) (bd bs bt : Array UInt8) (pd ps : Nat) (r ns : Int) (hd1 : bd.size = pd) (hs1 : bs.size = ps) (ht1 : bt.size = 0) (h1 : pd ≤ 100) (h2 : ps ≤ 100) (g0 : 0 ≤ r) (g1 : r < 16384) (hns : ns = 1)  : CSC w 145 news [Value.str (Str.ofString "handshake") t, .int 1 tv, .bytes bd ud, .bytes bs us, .bytes bt ut, .int r tr, .int ns tn] 3 (BytesN (7 + pd + ps + 0 + vz r)) := by
  unfold CSC
  intro mean mg mb dp un gd cn cs a ccd cl outer A₀ base h₀ L m s Q E B F X N T hk hd hu hret
  have hl : ∀ q9 ∈ news, q9 ∈ news := fun _ h => h
  k_extra "csc_enter"
  change Fr g' L' h' (Mine.mapL [(Str.ofString "number_size", Value.int ns tn), (Str.ofString "rest_size", Value.int r tr), (Str.ofString "token", Value.bytes bt ut), (Str.ofString "scid", Value.bytes bs us), (Str.ofString "dcid", Value.bytes bd ud), (Str.ofString "version", Value.int 1 tv), (Str.ofString "kind", Value.str (Str.ofString "handshake") t)]) at F'
  refine Mine.wpC_fold ?_
  intro qf' hqf'
  k_extra "steps"
  all_goals exact bytesN_of (by omega)
theorem lines_PD_1 : True := by
  k_with "steps" => (repeat' (first
    | ((with_reducible show wpAny _ _ (eval (PySem.Expr.Name _ _) (PyProof.Rows.envOf _ _ _ _ _)) _ _ _); first | (refine' Mine.nameM ?Fzq ?vzq ?_ rfl ?bzq ?czq; (case bzq => with_reducible first | exact k180_packet _ | exact k180_number_size _ | exact k180_payload _ | exact k180_kind _ | exact k180_rest _ | exact k180_token _); (case Fzq => with_reducible assumption); (case vzq => first | (with_reducible exact Mine.lk0) | ((with_reducible refine' Mine.lk1 ?_) <;> decide +kernel) | ((with_reducible refine' Mine.lk2 ?_ ?_) <;> decide +kernel) | ((with_reducible refine' Mine.lk3 ?_ ?_ ?_) <;> decide +kernel) | ((with_reducible refine' Mine.lk4 ?_ ?_ ?_ ?_) <;> decide +kernel) | ((with_reducible refine' Mine.lk5 ?_ ?_ ?_ ?_ ?_) <;> decide +kernel) | ((with_reducible refine' Mine.lk6 ?_ ?_ ?_ ?_ ?_ ?_) <;> decide +kernel) | ((with_reducible refine' Mine.lk7 ?_ ?_ ?_ ?_ ?_ ?_ ?_) <;> decide +kernel) | ((with_reducible refine' Mine.lk8 ?_ ?_ ?_ ?_ ?_ ?_ ?_ ?_) <;> decide +kernel) | ((with_reducible refine' Mine.lk9 ?_ ?_ ?_ ?_ ?_ ?_ ?_ ?_ ?_) <;> decide +kernel)); (case czq => decide +kernel)) | ((first | have F' := Mine.fr_mapLX (by with_reducible assumption) | have F' := Mine.fr_mapL (m := fun _ => none) (by with_reducible assumption)); refine' Mine.nameM ?Fzq ?vzq ?_ rfl ?bzq ?czq; (case bzq => with_reducible first | exact k180_packet _ | exact k180_number_size _ | exact k180_payload _ | exact k180_kind _ | exact k180_rest _ | exact k180_token _); (case Fzq => with_reducible assumption); (case vzq => first | (with_reducible exact Mine.lk0) | ((with_reducible refine' Mine.lk1 ?_) <;> decide +kernel) | ((with_reducible refine' Mine.lk2 ?_ ?_) <;> decide +kernel) | ((with_reducible refine' Mine.lk3 ?_ ?_ ?_) <;> decide +kernel) | ((with_reducible refine' Mine.lk4 ?_ ?_ ?_ ?_) <;> decide +kernel) | ((with_reducible refine' Mine.lk5 ?_ ?_ ?_ ?_ ?_) <;> decide +kernel) | ((with_reducible refine' Mine.lk6 ?_ ?_ ?_ ?_ ?_ ?_) <;> decide +kernel) | ((with_reducible refine' Mine.lk7 ?_ ?_ ?_ ?_ ?_ ?_ ?_) <;> decide +kernel) | ((with_reducible refine' Mine.lk8 ?_ ?_ ?_ ?_ ?_ ?_ ?_ ?_) <;> decide +kernel) | ((with_reducible refine' Mine.lk9 ?_ ?_ ?_ ?_ ?_ ?_ ?_ ?_ ?_) <;> decide +kernel)); (case czq => decide +kernel)) | (refine' nameX_K ?Fzq ?Xzq ?Tzq ?ezq ?_ rfl ?bzq ?czq; (case bzq => with_reducible first | exact k180_len _ | exact k180_TAG_SIZE _ | exact k180_short_head _ | exact k180_long_head _); (case Fzq => k_asm); (case Xzq => k_asm); (case ezq => with_reducible first | exact g_long_head _ | exact g_short_head _); (case Tzq => k_asm); (case czq => decide +kernel)) | (refine' nameX_B ?Fzq ?Xzq ?Tzq ?ezq ?vzq ?nzq ?_ rfl ?bzq ?czq; (case bzq => with_reducible first | exact k180_len _ | exact k180_TAG_SIZE _ | exact k180_short_head _ | exact k180_long_head _); (case Fzq => k_asm); (case Xzq => k_asm); (case ezq => with_reducible first | exact b_len _); (case Tzq => k_asm); (case vzq => with_reducible first | exact bt_len); (case nzq => decide +kernel); (case czq => decide +kernel)) | (refine' nameX_L ?Fzq ?vzq ?_ rfl ?bzq ?czq; (case bzq => with_reducible first | exact k180_packet _ | exact k180_number_size _ | exact k180_payload _ | exact k180_kind _ | exact k180_rest _ | exact k180_token _); (case Fzq => k_asm); (case vzq => rfl); (case czq => decide +kernel)))
    | ((with_reducible show wpAny _ _ (storeName (PyProof.Rows.envOf _ _ _ _ _) _ _) _ _ _); first | (refine' Mine.storeM ?Fzq ?Nzq ?_ rfl ?bzq; (case bzq => with_reducible first | exact k180_packet _ | exact k180_number_size _ | exact k180_payload _ | exact k180_kind _ | exact k180_rest _ | exact k180_token _); (case Fzq => with_reducible assumption); (case Nzq => with_reducible assumption); intro h' k' F' N'; (try k_sweep)) | ((first | have F' := Mine.fr_mapLX (by with_reducible assumption) | have F' := Mine.fr_mapL (m := fun _ => none) (by with_reducible assumption)); refine' Mine.storeM ?Fzq ?Nzq ?_ rfl ?bzq; (case bzq => with_reducible first | exact k180_packet _ | exact k180_number_size _ | exact k180_payload _ | exact k180_kind _ | exact k180_rest _ | exact k180_token _); (case Fzq => with_reducible assumption); (case Nzq => with_reducible assumption); intro h' k' F' N'; (try k_sweep)) | (refine' Mine.storeG ?Fzq ?Nzq ?_ rfl ?bzq; (case bzq => with_reducible first | exact k180_packet _ | exact k180_number_size _ | exact k180_payload _ | exact k180_kind _ | exact k180_rest _ | exact k180_token _); (case Fzq => k_asm); (case Nzq => k_asm); intro h' k' F' N'; (try replace F' := Mine.fr_mapL F'); (try k_sweep)))
    | ((with_reducible show Mine.wpC _ _ (eval (PySem.Expr.Call (PySem.Expr.Name (PySem.Str.ofString "long_head") _) _ _ _) _) _ _ _); refine' Mine.wpC_Call _ _ ?hezq ?_; (case hezq => rfl))
    | k_extra "core"
    | (k_unfold; (try dsimp only))
    | (k_end; wrow_close)
    | ((first | (with_reducible show wpAny _ _ (eval (PySem.Expr.Slice _ _ _ _) _) _ _ _) | (with_reducible show wpAny _ _ (evalPart _ _) _ _ _)); walk1)
    | (walk1; (try dsimp only))
    | (dsimp only; walk1)
    | (leave1; walk_say "STEP leave1"; try dsimp only)
    | fail "no step"))
  trivial
theorem lines_PD_2 : True := by
  k_with "steps" => (repeat' (first
    | ((with_reducible show wpAny _ _ (eval (PySem.Expr.Name _ _) (PyProof.Rows.envOf _ _ _ _ _)) _ _ _); first | (refine' Mine.nameM ?Fzq ?vzq ?_ rfl ?bzq ?czq; (case bzq => with_reducible first | exact k180_packet _ | exact k180_number_size _ | exact k180_payload _ | exact k180_kind _ | exact k180_rest _ | exact k180_token _); (case Fzq => with_reducible assumption); (case vzq => first | (with_reducible exact Mine.lk0) | ((with_reducible refine' Mine.lk1 ?_) <;> decide +kernel) | ((with_reducible refine' Mine.lk2 ?_ ?_) <;> decide +kernel) | ((with_reducible refine' Mine.lk3 ?_ ?_ ?_) <;> decide +kernel) | ((with_reducible refine' Mine.lk4 ?_ ?_ ?_ ?_) <;> decide +kernel) | ((with_reducible refine' Mine.lk5 ?_ ?_ ?_ ?_ ?_) <;> decide +kernel) | ((with_reducible refine' Mine.lk6 ?_ ?_ ?_ ?_ ?_ ?_) <;> decide +kernel) | ((with_reducible refine' Mine.lk7 ?_ ?_ ?_ ?_ ?_ ?_ ?_) <;> decide +kernel) | ((with_reducible refine' Mine.lk8 ?_ ?_ ?_ ?_ ?_ ?_ ?_ ?_) <;> decide +kernel) | ((with_reducible refine' Mine.lk9 ?_ ?_ ?_ ?_ ?_ ?_ ?_ ?_ ?_) <;> decide +kernel)); (case czq => decide +kernel)) | ((first | have F' := Mine.fr_mapLX (by with_reducible assumption) | have F' := Mine.fr_mapL (m := fun _ => none) (by with_reducible assumption)); refine' Mine.nameM ?Fzq ?vzq ?_ rfl ?bzq ?czq; (case bzq => with_reducible first | exact k180_packet _ | exact k180_number_size _ | exact k180_payload _ | exact k180_kind _ | exact k180_rest _ | exact k180_token _); (case Fzq => with_reducible assumption); (case vzq => first | (with_reducible exact Mine.lk0) | ((with_reducible refine' Mine.lk1 ?_) <;> decide +kernel) | ((with_reducible refine' Mine.lk2 ?_ ?_) <;> decide +kernel) | ((with_reducible refine' Mine.lk3 ?_ ?_ ?_) <;> decide +kernel) | ((with_reducible refine' Mine.lk4 ?_ ?_ ?_ ?_) <;> decide +kernel) | ((with_reducible refine' Mine.lk5 ?_ ?_ ?_ ?_ ?_) <;> decide +kernel) | ((with_reducible refine' Mine.lk6 ?_ ?_ ?_ ?_ ?_ ?_) <;> decide +kernel) | ((with_reducible refine' Mine.lk7 ?_ ?_ ?_ ?_ ?_ ?_ ?_) <;> decide +kernel) | ((with_reducible refine' Mine.lk8 ?_ ?_ ?_ ?_ ?_ ?_ ?_ ?_) <;> decide +kernel) | ((with_reducible refine' Mine.lk9 ?_ ?_ ?_ ?_ ?_ ?_ ?_ ?_ ?_) <;> decide +kernel)); (case czq => decide +kernel)) | (refine' nameX_K ?Fzq ?Xzq ?Tzq ?ezq ?_ rfl ?bzq ?czq; (case bzq => with_reducible first | exact k180_len _ | exact k180_TAG_SIZE _ | exact k180_short_head _ | exact k180_long_head _); (case Fzq => k_asm); (case Xzq => k_asm); (case ezq => with_reducible first | exact g_long_head _ | exact g_short_head _); (case Tzq => k_asm); (case czq => decide +kernel)) | (refine' nameX_B ?Fzq ?Xzq ?Tzq ?ezq ?vzq ?nzq ?_ rfl ?bzq ?czq; (case bzq => with_reducible first | exact k180_len _ | exact k180_TAG_SIZE _ | exact k180_short_head _ | exact k180_long_head _); (case Fzq => k_asm); (case Xzq => k_asm); (case ezq => with_reducible first | exact b_len _); (case Tzq => k_asm); (case vzq => with_reducible first | exact bt_len); (case nzq => decide +kernel); (case czq => decide +kernel)) | (refine' nameX_L ?Fzq ?vzq ?_ rfl ?bzq ?czq; (case bzq => with_reducible first | exact k180_packet _ | exact k180_number_size _ | exact k180_payload _ | exact k180_kind _ | exact k180_rest _ | exact k180_token _); (case Fzq => k_asm); (case vzq => rfl); (case czq => decide +kernel)))
    | ((with_reducible show wpAny _ _ (storeName (PyProof.Rows.envOf _ _ _ _ _) _ _) _ _ _); first | (refine' Mine.storeM ?Fzq ?Nzq ?_ rfl ?bzq; (case bzq => with_reducible first | exact k180_packet _ | exact k180_number_size _ | exact k180_payload _ | exact k180_kind _ | exact k180_rest _ | exact k180_token _); (case Fzq => with_reducible assumption); (case Nzq => with_reducible assumption); intro h' k' F' N'; (try k_sweep)) | ((first | have F' := Mine.fr_mapLX (by with_reducible assumption) | have F' := Mine.fr_mapL (m := fun _ => none) (by with_reducible assumption)); refine' Mine.storeM ?Fzq ?Nzq ?_ rfl ?bzq; (case bzq => with_reducible first | exact k180_packet _ | exact k180_number_size _ | exact k180_payload _ | exact k180_kind _ | exact k180_rest _ | exact k180_token _); (case Fzq => with_reducible assumption); (case Nzq => with_reducible assumption); intro h' k' F' N'; (try k_sweep)) | (refine' Mine.storeG ?Fzq ?Nzq ?_ rfl ?bzq; (case bzq => with_reducible first | exact k180_packet _ | exact k180_number_size _ | exact k180_payload _ | exact k180_kind _ | exact k180_rest _ | exact k180_token _); (case Fzq => k_asm); (case Nzq => k_asm); intro h' k' F' N'; (try replace F' := Mine.fr_mapL F'); (try k_sweep)))
    | ((with_reducible show Mine.wpC _ _ (eval (PySem.Expr.Call (PySem.Expr.Name (PySem.Str.ofString "long_head") _) _ _ _) _) _ _ _); refine' Mine.wpC_Call _ _ ?hezq ?_; (case hezq => rfl))
    | ((with_reducible show Mine.wpC _ _ (call (Value.ref 145) _ _) _ _ _); k_dflt (first | (refine' Mine.csc_use_bytes (Mine.long_head_initial _ _ _ _ _ _ _ _ _ _ _ _ _ _ _ _ ?p0zq ?p1zq ?p2zq ?p3zq ?p4zq ?p5zq ?p6zq ?p7zq) ?k1zq ?k2zq ?k3zq ?k4zq ?k5zq ?kKzq ?kdzq ?kuzq ?_; (case k4zq => with_reducible assumption); (case p0zq => first | assumption | exact rfl); (case p1zq => first | assumption | exact rfl); (case p2zq => first | assumption | exact rfl); (case p3zq => first | assumption | omega); (case p4zq => first | assumption | omega); (case p5zq => first | assumption | omega); (case p6zq => first | assumption | omega); (case p7zq => first | assumption | omega); (case k1zq => with_reducible assumption); (case k2zq => with_reducible assumption); (case k3zq => with_reducible assumption); (case k5zq => with_reducible assumption); (case kKzq => first | exact rfl | assumption); (case kdzq => first | exact Mine.room_of (by assumption) (by decide) | ktr_room); (case kuzq => first | exact Mine.units_of (by assumption) (by decide) | ktr_units)) | (refine' Mine.csc_use_bytes (Mine.long_head_handshake _ _ _ _ _ _ _ _ _ _ _ _ _ _ _ _ ?p0zq ?p1zq ?p2zq ?p3zq ?p4zq ?p5zq ?p6zq ?p7zq) ?k1zq ?k2zq ?k3zq ?k4zq ?k5zq ?kKzq ?kdzq ?kuzq ?_; (case k4zq => with_reducible assumption); (case p0zq => first | assumption | exact rfl); (case p1zq => first | assumption | exact rfl); (case p2zq => first | assumption | exact rfl); (case p3zq => first | assumption | omega); (case p4zq => first | assumption | omega); (case p5zq => first | assumption | omega); (case p6zq => first | assumption | omega); (case p7zq => first | assumption | omega); (case k1zq => with_reducible assumption); (case k2zq => with_reducible assumption); (case k3zq => with_reducible assumption); (case k5zq => with_reducible assumption); (case kKzq => first | exact rfl | assumption); (case kdzq => first | exact Mine.room_of (by assumption) (by decide) | ktr_room); (case kuzq => first | exact Mine.units_of (by assumption) (by decide) | ktr_units))); intro b9 u9 h9 tk9 hb9 F9 N9; (try dsimp only))
    | ((with_reducible show wpAny _ _ (call (Value.ref 173) _) _ _ _); k_dflt (first | (refine' Mine.cs_use_bytes (Mine.short_head_ _ _ _ _ _ _ _ _ _ ?p0zq ?p1zq ?p2zq) ?k1zq ?k2zq ?k3zq ?k4zq ?k5zq ?kKzq ?kdzq ?kuzq ?_; (case k4zq => with_reducible assumption); (case p0zq => first | assumption | exact rfl); (case p1zq => first | assumption | omega); (case p2zq => first | assumption | omega); (case k1zq => with_reducible assumption); (case k2zq => with_reducible assumption); (case k3zq => with_reducible assumption); (case k5zq => with_reducible assumption); (case kKzq => first | exact rfl | assumption); (case kdzq => first | exact Mine.room_of (by assumption) (by decide) | ktr_room); (case kuzq => first | exact Mine.units_of (by assumption) (by decide) | ktr_units))); intro b9 u9 h9 tk9 hb9 F9 N9; (try dsimp only))
    | k_extra "core"
    | (k_unfold; (try dsimp only))
    | (k_end; wrow_close)
    | ((first | (with_reducible show wpAny _ _ (eval (PySem.Expr.Slice _ _ _ _) _) _ _ _) | (with_reducible show wpAny _ _ (evalPart _ _) _ _ _)); walk1)
    | (walk1; (try dsimp only))
    | (dsimp only; walk1)
    | (leave1; walk_say "STEP leave1"; try dsimp only)
    | fail "no step"))
  trivial
theorem head_of_short (w : World) (news : List (Addr × Obj)) (k : Nat) (p : Addr) (tk ta tb tn ud up : Tok) (bd bp : Array UInt8) (pd q : Nat) (tq tz : Tok) (bq : Array UInt8) (ns : Int) (hd1 : bd.size = pd) (h1 : pd ≤ 100) (hq : bq.size = q) (hns : ns = 1) (g1 : q ≤ 3000) (hm0 : (p, tupObj [Value.str (Str.ofString "short") tk, Value.int 0 ta, Value.int 0 tb, Value.bytes bd ud, Value.int 2 tn, Value.bytes bp up] k) ∈ news) : CSC w 180 news [.ref p, .int ns tz, .bytes bq tq] 4 (BytesN (1 + pd)) := by
  unfold CSC
  intro mean mg mb dp un gd cn cs a ccd cl outer A₀ base h₀ L m s Q E B F X N T hk hd hu hret
  have hl : ∀ q9 ∈ news, q9 ∈ news := fun _ h => h
  k_extra "csc_enter"
  change Fr g' L' h' (Mine.mapL [(Str.ofString "payload", Value.bytes bq tq), (Str.ofString "number_size", Value.int ns tz), (Str.ofString "packet", Value.ref p)]) at F'
  refine Mine.wpC_fold ?_
  intro qf' hqf'
  k_extra "steps"
  all_goals first | exact bytesN_of (by omega) | exact bytesN_of (hb9.trans (congrArg (fun z => 7 + pd + ps + 1 + vz z) (by omega))) | exact bytesN_of (hb9.trans (congrArg (fun z => 7 + pd + ps + 0 + vz z) (by omega)))
theorem head_of_initial (w : World) (news : List (Addr × Obj)) (k : Nat) (p : Addr) (tk ta tn ud us ut up : Tok) (bd bs bt bp : Array UInt8) (pd ps q : Nat) (tq tz : Tok) (bq : Array UInt8) (ns : Int) (hd1 : bd.size = pd) (hs1 : bs.size = ps) (ht1 : bt.size = 0) (h1 : pd ≤ 100) (h2 : ps ≤ 100) (hq : bq.size = q) (hns : ns = 1) (g1 : q ≤ 3000) (hm0 : (p, tupObj [Value.str (Str.ofString "initial") tk, Value.int 1 ta, Value.bytes bd ud, Value.bytes bs us, Value.bytes bt ut, Value.int 0 tn, Value.bytes bp up] k) ∈ news) : CSC w 180 news [.ref p, .int ns tz, .bytes bq tq] 4 (BytesN (7 + pd + ps + 1 + vz ((q : Int) + 17))) := by
  unfold CSC
  intro mean mg mb dp un gd cn cs a ccd cl outer A₀ base h₀ L m s Q E B F X N T hk hd hu hret
  have hl : ∀ q9 ∈ news, q9 ∈ news := fun _ h => h
  k_extra "csc_enter"
  change Fr g' L' h' (Mine.mapL [(Str.ofString "payload", Value.bytes bq tq), (Str.ofString "number_size", Value.int ns tz), (Str.ofString "packet", Value.ref p)]) at F'
  refine Mine.wpC_fold ?_
  intro qf' hqf'
  k_extra "steps"
  all_goals first | exact bytesN_of (by omega) | exact bytesN_of (hb9.trans (congrArg (fun z => 7 + pd + ps + 1 + vz z) (by omega))) | exact bytesN_of (hb9.trans (congrArg (fun z => 7 + pd + ps + 0 + vz z) (by omega)))
theorem head_of_handshake (w : World) (news : List (Addr × Obj)) (k : Nat) (p : Addr) (tk ta tn ud us up : Tok) (bd bs bp : Array UInt8) (pd ps q : Nat) (tq tz : Tok) (bq : Array UInt8) (ns : Int) (hd1 : bd.size = pd) (hs1 : bs.size = ps) (h1 : pd ≤ 100) (h2 : ps ≤ 100) (hq : bq.size = q) (hns : ns = 1) (g1 : q ≤ 3000) (hm0 : (p, tupObj [Value.str (Str.ofString "handshake") tk, Value.int 1 ta, Value.bytes bd ud, Value.bytes bs us, Value.int 1 tn, Value.bytes bp up] k) ∈ news) : CSC w 180 news [.ref p, .int ns tz, .bytes bq tq] 4 (BytesN (7 + pd + ps + 0 + vz ((q : Int) + 17))) := by
  unfold CSC
  intro mean mg mb dp un gd cn cs a ccd cl outer A₀ base h₀ L m s Q E B F X N T hk hd hu hret
  have hl : ∀ q9 ∈ news, q9 ∈ news := fun _ h => h
  k_extra "csc_enter"
  change Fr g' L' h' (Mine.mapL [(Str.ofString "payload", Value.bytes bq tq), (Str.ofString "number_size", Value.int ns tz), (Str.ofString "packet", Value.ref p)]) at F'
  refine Mine.wpC_fold ?_
  intro qf' hqf'
  k_extra "steps"
  all_goals first | exact bytesN_of (by omega) | exact bytesN_of (hb9.trans (congrArg (fun z => 7 + pd + ps + 1 + vz z) (by omega))) | exact bytesN_of (hb9.trans (congrArg (fun z => 7 + pd + ps + 0 + vz z) (by omega)))
theorem lines_PE_1 : True := by
  k_with "steps" => (repeat' (first
    | ((with_reducible show wpAny _ _ (eval (PySem.Expr.Name _ _) (PyProof.Rows.envOf _ _ _ _ _)) _ _ _); first | (refine' Mine.nameM ?Fzq ?vzq ?_ rfl ?bzq ?czq; (case bzq => with_reducible first | exact k194_packet _ | exact k194_largest_acked _ | exact k194_cut _ | exact k194_payload _); (case Fzq => with_reducible assumption); (case vzq => first | (with_reducible exact Mine.lk0) | ((with_reducible refine' Mine.lk1 ?_) <;> decide +kernel) | ((with_reducible refine' Mine.lk2 ?_ ?_) <;> decide +kernel) | ((with_reducible refine' Mine.lk3 ?_ ?_ ?_) <;> decide +kernel) | ((with_reducible refine' Mine.lk4 ?_ ?_ ?_ ?_) <;> decide +kernel) | ((with_reducible refine' Mine.lk5 ?_ ?_ ?_ ?_ ?_) <;> decide +kernel) | ((with_reducible refine' Mine.lk6 ?_ ?_ ?_ ?_ ?_ ?_) <;> decide +kernel) | ((with_reducible refine' Mine.lk7 ?_ ?_ ?_ ?_ ?_ ?_ ?_) <;> decide +kernel) | ((with_reducible refine' Mine.lk8 ?_ ?_ ?_ ?_ ?_ ?_ ?_ ?_) <;> decide +kernel) | ((with_reducible refine' Mine.lk9 ?_ ?_ ?_ ?_ ?_ ?_ ?_ ?_ ?_) <;> decide +kernel)); (case czq => decide +kernel)) | ((first | have F' := Mine.fr_mapLX (by with_reducible assumption) | have F' := Mine.fr_mapL (m := fun _ => none) (by with_reducible assumption)); refine' Mine.nameM ?Fzq ?vzq ?_ rfl ?bzq ?czq; (case bzq => with_reducible first | exact k194_packet _ | exact k194_largest_acked _ | exact k194_cut _ | exact k194_payload _); (case Fzq => with_reducible assumption); (case vzq => first | (with_reducible exact Mine.lk0) | ((with_reducible refine' Mine.lk1 ?_) <;> decide +kernel) | ((with_reducible refine' Mine.lk2 ?_ ?_) <;> decide +kernel) | ((with_reducible refine' Mine.lk3 ?_ ?_ ?_) <;> decide +kernel) | ((with_reducible refine' Mine.lk4 ?_ ?_ ?_ ?_) <;> decide +kernel) | ((with_reducible refine' Mine.lk5 ?_ ?_ ?_ ?_ ?_) <;> decide +kernel) | ((with_reducible refine' Mine.lk6 ?_ ?_ ?_ ?_ ?_ ?_) <;> decide +kernel) | ((with_reducible refine' Mine.lk7 ?_ ?_ ?_ ?_ ?_ ?_ ?_) <;> decide +kernel) | ((with_reducible refine' Mine.lk8 ?_ ?_ ?_ ?_ ?_ ?_ ?_ ?_) <;> decide +kernel) | ((with_reducible refine' Mine.lk9 ?_ ?_ ?_ ?_ ?_ ?_ ?_ ?_ ?_) <;> decide +kernel)); (case czq => decide +kernel)) | (refine' nameX_K ?Fzq ?Xzq ?Tzq ?ezq ?_ rfl ?bzq ?czq; (case bzq => with_reducible first | exact k194_cut_number _ | exact k194_number_in _ | exact k194_padded_payload _ | exact k194_len _ | exact k194_head_of _ | exact k194_TAG_SIZE _); (case Fzq => k_asm); (case Xzq => k_asm); (case ezq => with_reducible first | exact g_cut_number _ | exact g_head_of _ | exact g_number_in _ | exact g_padded_payload _); (case Tzq => k_asm); (case czq => decide +kernel)) | (refine' nameX_B ?Fzq ?Xzq ?Tzq ?ezq ?vzq ?nzq ?_ rfl ?bzq ?czq; (case bzq => with_reducible first | exact k194_cut_number _ | exact k194_number_in _ | exact k194_padded_payload _ | exact k194_len _ | exact k194_head_of _ | exact k194_TAG_SIZE _); (case Fzq => k_asm); (case Xzq => k_asm); (case ezq => with_reducible first | exact b_len _); (case Tzq => k_asm); (case vzq => with_reducible first | exact bt_len); (case nzq => decide +kernel); (case czq => decide +kernel)) | (refine' nameX_L ?Fzq ?vzq ?_ rfl ?bzq ?czq; (case bzq => with_reducible first | exact k194_packet _ | exact k194_largest_acked _ | exact k194_cut _ | exact k194_payload _); (case Fzq => k_asm); (case vzq => rfl); (case czq => decide +kernel)))
    | ((with_reducible show wpAny _ _ (storeName (PyProof.Rows.envOf _ _ _ _ _) _ _) _ _ _); first | (refine' Mine.storeM ?Fzq ?Nzq ?_ rfl ?bzq; (case bzq => with_reducible first | exact k194_packet _ | exact k194_largest_acked _ | exact k194_cut _ | exact k194_payload _); (case Fzq => with_reducible assumption); (case Nzq => with_reducible assumption); intro h' k' F' N'; (try k_sweep)) | ((first | have F' := Mine.fr_mapLX (by with_reducible assumption) | have F' := Mine.fr_mapL (m := fun _ => none) (by with_reducible assumption)); refine' Mine.storeM ?Fzq ?Nzq ?_ rfl ?bzq; (case bzq => with_reducible first | exact k194_packet _ | exact k194_largest_acked _ | exact k194_cut _ | exact k194_payload _); (case Fzq => with_reducible assumption); (case Nzq => with_reducible assumption); intro h' k' F' N'; (try k_sweep)) | (refine' Mine.storeG ?Fzq ?Nzq ?_ rfl ?bzq; (case bzq => with_reducible first | exact k194_packet _ | exact k194_largest_acked _ | exact k194_cut _ | exact k194_payload _); (case Fzq => k_asm); (case Nzq => k_asm); intro h' k' F' N'; (try replace F' := Mine.fr_mapL F'); (try k_sweep)))
    | ((with_reducible show Mine.wpC _ _ (eval (PySem.Expr.Call (PySem.Expr.Name (PySem.Str.ofString "cut_number") _) _ _ _) _) _ _ _); refine' Mine.wpC_Call _ _ ?hezq ?_; (case hezq => rfl))
    | ((with_reducible show Mine.wpC _ _ (eval (PySem.Expr.Call (PySem.Expr.Name (PySem.Str.ofString "head_of") _) _ _ _) _) _ _ _); refine' Mine.wpC_Call _ _ ?hezq ?_; (case hezq => rfl))
    | k_extra "core"
    | (k_unfold; (try dsimp only))
    | (k_end; wrow_close)
    | ((first | (with_reducible show wpAny _ _ (eval (PySem.Expr.Slice _ _ _ _) _) _ _ _) | (with_reducible show wpAny _ _ (evalPart _ _) _ _ _)); walk1)
    | (walk1; (try dsimp only))
    | (dsimp only; walk1)
    | (leave1; walk_say "STEP leave1"; try dsimp only)
    | fail "no step"))
  trivial
def psz (kind d s q : Nat) : Nat :=
  match kind with
  | 0 => 1 + d + (17 + max q 3)
  | 1 => 7 + d + s + 1 + (if 17 + max q 3 < 64 then 1 else 2) + (17 + max q 3)
  | _ => 7 + d + s + (if 17 + max q 3 < 64 then 1 else 2) + (17 + max q 3)
theorem lines_PE_2 : True := by
  k_with "steps" => (repeat' (first
    | ((with_reducible show wpAny _ _ (eval (PySem.Expr.Name _ _) (PyProof.Rows.envOf _ _ _ _ _)) _ _ _); first | (refine' Mine.nameM ?Fzq ?vzq ?_ rfl ?bzq ?czq; (case bzq => with_reducible first | exact k194_packet _ | exact k194_largest_acked _ | exact k194_cut _ | exact k194_payload _); (case Fzq => with_reducible assumption); (case vzq => first | (with_reducible exact Mine.lk0) | ((with_reducible refine' Mine.lk1 ?_) <;> decide +kernel) | ((with_reducible refine' Mine.lk2 ?_ ?_) <;> decide +kernel) | ((with_reducible refine' Mine.lk3 ?_ ?_ ?_) <;> decide +kernel) | ((with_reducible refine' Mine.lk4 ?_ ?_ ?_ ?_) <;> decide +kernel) | ((with_reducible refine' Mine.lk5 ?_ ?_ ?_ ?_ ?_) <;> decide +kernel) | ((with_reducible refine' Mine.lk6 ?_ ?_ ?_ ?_ ?_ ?_) <;> decide +kernel) | ((with_reducible refine' Mine.lk7 ?_ ?_ ?_ ?_ ?_ ?_ ?_) <;> decide +kernel) | ((with_reducible refine' Mine.lk8 ?_ ?_ ?_ ?_ ?_ ?_ ?_ ?_) <;> decide +kernel) | ((with_reducible refine' Mine.lk9 ?_ ?_ ?_ ?_ ?_ ?_ ?_ ?_ ?_) <;> decide +kernel)); (case czq => decide +kernel)) | ((first | have F' := Mine.fr_mapLX (by with_reducible assumption) | have F' := Mine.fr_mapL (m := fun _ => none) (by with_reducible assumption)); refine' Mine.nameM ?Fzq ?vzq ?_ rfl ?bzq ?czq; (case bzq => with_reducible first | exact k194_packet _ | exact k194_largest_acked _ | exact k194_cut _ | exact k194_payload _); (case Fzq => with_reducible assumption); (case vzq => first | (with_reducible exact Mine.lk0) | ((with_reducible refine' Mine.lk1 ?_) <;> decide +kernel) | ((with_reducible refine' Mine.lk2 ?_ ?_) <;> decide +kernel) | ((with_reducible refine' Mine.lk3 ?_ ?_ ?_) <;> decide +kernel) | ((with_reducible refine' Mine.lk4 ?_ ?_ ?_ ?_) <;> decide +kernel) | ((with_reducible refine' Mine.lk5 ?_ ?_ ?_ ?_ ?_) <;> decide +kernel) | ((with_reducible refine' Mine.lk6 ?_ ?_ ?_ ?_ ?_ ?_) <;> decide +kernel) | ((with_reducible refine' Mine.lk7 ?_ ?_ ?_ ?_ ?_ ?_ ?_) <;> decide +kernel) | ((with_reducible refine' Mine.lk8 ?_ ?_ ?_ ?_ ?_ ?_ ?_ ?_) <;> decide +kernel) | ((with_reducible refine' Mine.lk9 ?_ ?_ ?_ ?_ ?_ ?_ ?_ ?_ ?_) <;> decide +kernel)); (case czq => decide +kernel)) | (refine' nameX_K ?Fzq ?Xzq ?Tzq ?ezq ?_ rfl ?bzq ?czq; (case bzq => with_reducible first | exact k194_cut_number _ | exact k194_number_in _ | exact k194_padded_payload _ | exact k194_len _ | exact k194_head_of _ | exact k194_TAG_SIZE _); (case Fzq => k_asm); (case Xzq => k_asm); (case ezq => with_reducible first | exact g_cut_number _ | exact g_head_of _ | exact g_number_in _ | exact g_padded_payload _); (case Tzq => k_asm); (case czq => decide +kernel)) | (refine' nameX_B ?Fzq ?Xzq ?Tzq ?ezq ?vzq ?nzq ?_ rfl ?bzq ?czq; (case bzq => with_reducible first | exact k194_cut_number _ | exact k194_number_in _ | exact k194_padded_payload _ | exact k194_len _ | exact k194_head_of _ | exact k194_TAG_SIZE _); (case Fzq => k_asm); (case Xzq => k_asm); (case ezq => with_reducible first | exact b_len _); (case Tzq => k_asm); (case vzq => with_reducible first | exact bt_len); (case nzq => decide +kernel); (case czq => decide +kernel)) | (refine' nameX_L ?Fzq ?vzq ?_ rfl ?bzq ?czq; (case bzq => with_reducible first | exact k194_packet _ | exact k194_largest_acked _ | exact k194_cut _ | exact k194_payload _); (case Fzq => k_asm); (case vzq => rfl); (case czq => decide +kernel)))
    | ((with_reducible show wpAny _ _ (storeName (PyProof.Rows.envOf _ _ _ _ _) _ _) _ _ _); first | (refine' Mine.storeM ?Fzq ?Nzq ?_ rfl ?bzq; (case bzq => with_reducible first | exact k194_packet _ | exact k194_largest_acked _ | exact k194_cut _ | exact k194_payload _); (case Fzq => with_reducible assumption); (case Nzq => with_reducible assumption); intro h' k' F' N'; (try k_sweep)) | ((first | have F' := Mine.fr_mapLX (by with_reducible assumption) | have F' := Mine.fr_mapL (m := fun _ => none) (by with_reducible assumption)); refine' Mine.storeM ?Fzq ?Nzq ?_ rfl ?bzq; (case bzq => with_reducible first | exact k194_packet _ | exact k194_largest_acked _ | exact k194_cut _ | exact k194_payload _); (case Fzq => with_reducible assumption); (case Nzq => with_reducible assumption); intro h' k' F' N'; (try k_sweep)) | (refine' Mine.storeG ?Fzq ?Nzq ?_ rfl ?bzq; (case bzq => with_reducible first | exact k194_packet _ | exact k194_largest_acked _ | exact k194_cut _ | exact k194_payload _); (case Fzq => k_asm); (case Nzq => k_asm); intro h' k' F' N'; (try replace F' := Mine.fr_mapL F'); (try k_sweep)))
    | ((with_reducible show Mine.wpC _ _ (eval (PySem.Expr.Call (PySem.Expr.Name (PySem.Str.ofString "cut_number") _) _ _ _) _) _ _ _); refine' Mine.wpC_Call _ _ ?hezq ?_; (case hezq => rfl))
    | ((with_reducible show Mine.wpC _ _ (eval (PySem.Expr.Call (PySem.Expr.Name (PySem.Str.ofString "head_of") _) _ _ _) _) _ _ _); refine' Mine.wpC_Call _ _ ?hezq ?_; (case hezq => rfl))
    | ((with_reducible show wpAny _ _ (call (Value.ref 187) _) _ _ _); k_dflt (first | (refine' Mine.cs_use_int (Mine.number_in_short _ _ _ _ _ _ _ _ _ _ _ _ ?p0zq) ?k1zq ?k2zq ?k3zq ?k4zq ?k5zq ?kKzq ?kdzq ?kuzq ?_; (case k4zq => with_reducible assumption); (case p0zq => k_mem); (case k1zq => with_reducible assumption); (case k2zq => with_reducible assumption); (case k3zq => with_reducible assumption); (case k5zq => with_reducible assumption); (case kKzq => first | exact rfl | assumption); (case kdzq => first | exact Mine.room_of (by assumption) (by decide) | ktr_room); (case kuzq => first | exact Mine.units_of (by assumption) (by decide) | ktr_units)) | (refine' Mine.cs_use_int (Mine.number_in_initial _ _ _ _ _ _ _ _ _ _ _ _ _ _ _ ?p0zq) ?k1zq ?k2zq ?k3zq ?k4zq ?k5zq ?kKzq ?kdzq ?kuzq ?_; (case k4zq => with_reducible assumption); (case p0zq => k_mem); (case k1zq => with_reducible assumption); (case k2zq => with_reducible assumption); (case k3zq => with_reducible assumption); (case k5zq => with_reducible assumption); (case kKzq => first | exact rfl | assumption); (case kdzq => first | exact Mine.room_of (by assumption) (by decide) | ktr_room); (case kuzq => first | exact Mine.units_of (by assumption) (by decide) | ktr_units)) | (refine' Mine.cs_use_int (Mine.number_in_handshake _ _ _ _ _ _ _ _ _ _ _ _ _ ?p0zq) ?k1zq ?k2zq ?k3zq ?k4zq ?k5zq ?kKzq ?kdzq ?kuzq ?_; (case k4zq => with_reducible assumption); (case p0zq => k_mem); (case k1zq => with_reducible assumption); (case k2zq => with_reducible assumption); (case k3zq => with_reducible assumption); (case k5zq => with_reducible assumption); (case kKzq => first | exact rfl | assumption); (case kdzq => first | exact Mine.room_of (by assumption) (by decide) | ktr_room); (case kuzq => first | exact Mine.units_of (by assumption) (by decide) | ktr_units))); intro u9 h9 tk9 F9 N9; (try dsimp only))
    | ((with_reducible show wpAny _ _ (call (Value.ref 166) _) _ _ _); k_dflt (first | (refine' Mine.cs_use_bytes (Mine.padded_payload_g _ _ _ _ _ _ _ ?p0zq ?p1zq ?p2zq) ?k1zq ?k2zq ?k3zq ?k4zq ?k5zq ?kKzq ?kdzq ?kuzq ?_; (case k4zq => with_reducible assumption); (case p0zq => first | assumption | exact rfl); (case p1zq => first | assumption | omega); (case p2zq => first | assumption | omega); (case k1zq => with_reducible assumption); (case k2zq => with_reducible assumption); (case k3zq => with_reducible assumption); (case k5zq => with_reducible assumption); (case kKzq => first | exact rfl | assumption); (case kdzq => first | exact Mine.room_of (by assumption) (by decide) | ktr_room); (case kuzq => first | exact Mine.units_of (by assumption) (by decide) | ktr_units))); intro b9 u9 h9 tk9 hb9 F9 N9; (try dsimp only))
    | ((with_reducible show Mine.wpC _ _ (call (Value.ref 159) _ _) _ _ _); k_dflt (first | (refine' Mine.csc_use_bytes (Mine.cut_number_0 _ _ _ ) ?k1zq ?k2zq ?k3zq ?k4zq ?k5zq ?kKzq ?kdzq ?kuzq ?_; (case k4zq => with_reducible assumption); (case k1zq => with_reducible assumption); (case k2zq => with_reducible assumption); (case k3zq => with_reducible assumption); (case k5zq => with_reducible assumption); (case kKzq => first | exact rfl | assumption); (case kdzq => first | exact Mine.room_of (by assumption) (by decide) | ktr_room); (case kuzq => first | exact Mine.units_of (by assumption) (by decide) | ktr_units)) | (refine' Mine.csc_use_bytes (Mine.cut_number_1 _ _ _ ) ?k1zq ?k2zq ?k3zq ?k4zq ?k5zq ?kKzq ?kdzq ?kuzq ?_; (case k4zq => with_reducible assumption); (case k1zq => with_reducible assumption); (case k2zq => with_reducible assumption); (case k3zq => with_reducible assumption); (case k5zq => with_reducible assumption); (case kKzq => first | exact rfl | assumption); (case kdzq => first | exact Mine.room_of (by assumption) (by decide) | ktr_room); (case kuzq => first | exact Mine.units_of (by assumption) (by decide) | ktr_units)) | (refine' Mine.csc_use_bytes (Mine.cut_number_2 _ _ _ ) ?k1zq ?k2zq ?k3zq ?k4zq ?k5zq ?kKzq ?kdzq ?kuzq ?_; (case k4zq => with_reducible assumption); (case k1zq => with_reducible assumption); (case k2zq => with_reducible assumption); (case k3zq => with_reducible assumption); (case k5zq => with_reducible assumption); (case kKzq => first | exact rfl | assumption); (case kdzq => first | exact Mine.room_of (by assumption) (by decide) | ktr_room); (case kuzq => first | exact Mine.units_of (by assumption) (by decide) | ktr_units))); intro b9 u9 h9 tk9 hb9 F9 N9; (try dsimp only))
    | ((with_reducible show Mine.wpC _ _ (call (Value.ref 180) _ _) _ _ _); k_dflt (first | (refine' Mine.csc_use_bytes (Mine.head_of_short _ _ _ _ _ _ _ _ _ _ _ _ _ _ _ _ _ _ ?p0zq ?p1zq ?p2zq ?p3zq ?p4zq ?p5zq) ?k1zq ?k2zq ?k3zq ?k4zq ?k5zq ?kKzq ?kdzq ?kuzq ?_; (case k4zq => with_reducible assumption); (case p5zq => k_mem); (case p0zq => first | assumption | exact rfl); (case p1zq => first | assumption | omega); (case p2zq => first | assumption | exact rfl); (case p3zq => first | assumption | omega); (case p4zq => first | assumption | omega); (case k1zq => with_reducible assumption); (case k2zq => with_reducible assumption); (case k3zq => with_reducible assumption); (case k5zq => with_reducible assumption); (case kKzq => first | exact rfl | assumption); (case kdzq => first | exact Mine.room_of (by assumption) (by decide) | ktr_room); (case kuzq => first | exact Mine.units_of (by assumption) (by decide) | ktr_units)) | (refine' Mine.csc_use_bytes (Mine.head_of_initial _ _ _ _ _ _ _ _ _ _ _ _ _ _ _ _ _ _ _ _ _ _ ?p0zq ?p1zq ?p2zq ?p3zq ?p4zq ?p5zq ?p6zq ?p7zq ?p8zq) ?k1zq ?k2zq ?k3zq ?k4zq ?k5zq ?kKzq ?kdzq ?kuzq ?_; (case k4zq => with_reducible assumption); (case p8zq => k_mem); (case p0zq => first | assumption | exact rfl); (case p1zq => first | assumption | exact rfl); (case p2zq => first | assumption | exact rfl); (case p3zq => first | assumption | omega); (case p4zq => first | assumption | omega); (case p5zq => first | assumption | exact rfl); (case p6zq => first | assumption | omega); (case p7zq => first | assumption | omega); (case k1zq => with_reducible assumption); (case k2zq => with_reducible assumption); (case k3zq => with_reducible assumption); (case k5zq => with_reducible assumption); (case kKzq => first | exact rfl | assumption); (case kdzq => first | exact Mine.room_of (by assumption) (by decide) | ktr_room); (case kuzq => first | exact Mine.units_of (by assumption) (by decide) | ktr_units)) | (refine' Mine.csc_use_bytes (Mine.head_of_handshake _ _ _ _ _ _ _ _ _ _ _ _ _ _ _ _ _ _ _ _ ?p0zq ?p1zq ?p2zq ?p3zq ?p4zq ?p5zq ?p6zq ?p7zq) ?k1zq ?k2zq ?k3zq ?k4zq ?k5zq ?kKzq ?kdzq ?kuzq ?_; (case k4zq => with_reducible assumption); (case p7zq => k_mem); (case p0zq => first | assumption | exact rfl); (case p1zq => first | assumption | exact rfl); (case p2zq => first | assumption | omega); (case p3zq => first | assumption | omega); (case p4zq => first | assumption | exact rfl); (case p5zq => first | assumption | omega); (case p6zq => first | assumption | omega); (case k1zq => with_reducible assumption); (case k2zq => with_reducible assumption); (case k3zq => with_reducible assumption); (case k5zq => with_reducible assumption); (case kKzq => first | exact rfl | assumption); (case kdzq => first | exact Mine.room_of (by assumption) (by decide) | ktr_room); (case kuzq => first | exact Mine.units_of (by assumption) (by decide) | ktr_units))); intro b9 u9 h9 tk9 hb9 F9 N9; (try dsimp only))
    | k_extra "core"
    | (k_unfold; (try dsimp only))
    | (k_end; wrow_close)
    | ((first | (with_reducible show wpAny _ _ (eval (PySem.Expr.Slice _ _ _ _) _) _ _ _) | (with_reducible show wpAny _ _ (evalPart _ _) _ _ _)); walk1)
    | (walk1; (try dsimp only))
    | (dsimp only; walk1)
    | (leave1; walk_say "STEP leave1"; try dsimp only)
    | fail "no step"))
  trivial
theorem packet_size_short (w : World) (news : List (Addr × Obj)) (k : Nat) (p : Addr) (tk ta tb tn ud up : Tok) (bd bp : Array UInt8) (pd q : Nat) (hd1 : bd.size = pd) (h1 : pd ≤ 100) (hq : bp.size = q) (hq3 : q ≤ 3000) (hm0 : (p, tupObj [Value.str (Str.ofString "short") tk, Value.int 0 ta, Value.int 0 tb, Value.bytes bd ud, Value.int 2 tn, Value.bytes bp up] k) ∈ news) : CSC w 194 news [.ref p, .none] 5 (IntIs (psz 0 pd 0 q : Nat)) := by
  unfold CSC
  intro mean mg mb dp un gd cn cs a ccd cl outer A₀ base h₀ L m s Q E B F X N T hk hd hu hret
  have hl : ∀ q9 ∈ news, q9 ∈ news := fun _ h => h
  k_extra "csc_enter"
  change Fr g' L' h' (Mine.mapL [(Str.ofString "largest_acked", Value.none), (Str.ofString "packet", Value.ref p)]) at F'
  refine Mine.wpC_fold ?_
  intro qf' hqf'
  have hz9 : vz (((max q 3 : Nat) : Int) + 17) ≤ 2 := by unfold vz; split <;> omega
  k_extra "steps"
  all_goals exact intIs_of (by have e9 := Mine.vz_psz q; simp only [psz, ← e9]; omega)
theorem packet_size_initial (w : World) (news : List (Addr × Obj)) (k : Nat) (p : Addr) (tk ta tn ud us ut up : Tok) (bd bs bt bp : Array UInt8) (pd ps q : Nat) (hd1 : bd.size = pd) (hs1 : bs.size = ps) (ht1 : bt.size = 0) (h1 : pd ≤ 100) (h2 : ps ≤ 100) (hq : bp.size = q) (hq3 : q ≤ 3000) (hm0 : (p, tupObj [Value.str (Str.ofString "initial") tk, Value.int 1 ta, Value.bytes bd ud, Value.bytes bs us, Value.bytes bt ut, Value.int 0 tn, Value.bytes bp up] k) ∈ news) : CSC w 194 news [.ref p, .none] 5 (IntIs (psz 1 pd ps q : Nat)) := by
  unfold CSC
  intro mean mg mb dp un gd cn cs a ccd cl outer A₀ base h₀ L m s Q E B F X N T hk hd hu hret
  have hl : ∀ q9 ∈ news, q9 ∈ news := fun _ h => h
  k_extra "csc_enter"
  change Fr g' L' h' (Mine.mapL [(Str.ofString "largest_acked", Value.none), (Str.ofString "packet", Value.ref p)]) at F'
  refine Mine.wpC_fold ?_
  intro qf' hqf'
  have hz9 : vz (((max q 3 : Nat) : Int) + 17) ≤ 2 := by unfold vz; split <;> omega
  k_extra "steps"
  all_goals exact intIs_of (by have e9 := Mine.vz_psz q; simp only [psz, ← e9]; omega)
theorem packet_size_handshake (w : World) (news : List (Addr × Obj)) (k : Nat) (p : Addr) (tk ta tn ud us up : Tok) (bd bs bp : Array UInt8) (pd ps q : Nat) (hd1 : bd.size = pd) (hs1 : bs.size = ps) (h1 : pd ≤ 100) (h2 : ps ≤ 100) (hq : bp.size = q) (hq3 : q ≤ 3000) (hm0 : (p, tupObj [Value.str (Str.ofString "handshake") tk, Value.int 1 ta, Value.bytes bd ud, Value.bytes bs us, Value.int 1 tn, Value.bytes bp up] k) ∈ news) : CSC w 194 news [.ref p, .none] 5 (IntIs (psz 2 pd ps q : Nat)) := by
  unfold CSC
  intro mean mg mb dp un gd cn cs a ccd cl outer A₀ base h₀ L m s Q E B F X N T hk hd hu hret
  have hl : ∀ q9 ∈ news, q9 ∈ news := fun _ h => h
  k_extra "csc_enter"
  change Fr g' L' h' (Mine.mapL [(Str.ofString "largest_acked", Value.none), (Str.ofString "packet", Value.ref p)]) at F'
  refine Mine.wpC_fold ?_
  intro qf' hqf'
  have hz9 : vz (((max q 3 : Nat) : Int) + 17) ≤ 2 := by unfold vz; split <;> omega
  k_extra "steps"
  all_goals exact intIs_of (by have e9 := Mine.vz_psz q; simp only [psz, ← e9]; omega)
theorem lines_PH_1 : True := by
  k_with "steps" => (repeat' (first
    | ((with_reducible show wpAny _ _ (eval (PySem.Expr.Name _ _) (PyProof.Rows.envOf _ _ _ _ _)) _ _ _); first | (refine' Mine.nameM ?Fzq ?vzq ?_ rfl ?bzq ?czq; (case bzq => with_reducible first | exact k201_ids _ | exact k201_space _ | exact k201_number _ | exact k201_payload _ | exact k201_dcid _ | exact k201_scid _); (case Fzq => with_reducible assumption); (case vzq => first | (with_reducible exact Mine.lk0) | ((with_reducible refine' Mine.lk1 ?_) <;> decide +kernel) | ((with_reducible refine' Mine.lk2 ?_ ?_) <;> decide +kernel) | ((with_reducible refine' Mine.lk3 ?_ ?_ ?_) <;> decide +kernel) | ((with_reducible refine' Mine.lk4 ?_ ?_ ?_ ?_) <;> decide +kernel) | ((with_reducible refine' Mine.lk5 ?_ ?_ ?_ ?_ ?_) <;> decide +kernel) | ((with_reducible refine' Mine.lk6 ?_ ?_ ?_ ?_ ?_ ?_) <;> decide +kernel) | ((with_reducible refine' Mine.lk7 ?_ ?_ ?_ ?_ ?_ ?_ ?_) <;> decide +kernel) | ((with_reducible refine' Mine.lk8 ?_ ?_ ?_ ?_ ?_ ?_ ?_ ?_) <;> decide +kernel) | ((with_reducible refine' Mine.lk9 ?_ ?_ ?_ ?_ ?_ ?_ ?_ ?_ ?_) <;> decide +kernel)); (case czq => decide +kernel)) | ((first | have F' := Mine.fr_mapLX (by with_reducible assumption) | have F' := Mine.fr_mapL (m := fun _ => none) (by with_reducible assumption)); refine' Mine.nameM ?Fzq ?vzq ?_ rfl ?bzq ?czq; (case bzq => with_reducible first | exact k201_ids _ | exact k201_space _ | exact k201_number _ | exact k201_payload _ | exact k201_dcid _ | exact k201_scid _); (case Fzq => with_reducible assumption); (case vzq => first | (with_reducible exact Mine.lk0) | ((with_reducible refine' Mine.lk1 ?_) <;> decide +kernel) | ((with_reducible refine' Mine.lk2 ?_ ?_) <;> decide +kernel) | ((with_reducible refine' Mine.lk3 ?_ ?_ ?_) <;> decide +kernel) | ((with_reducible refine' Mine.lk4 ?_ ?_ ?_ ?_) <;> decide +kernel) | ((with_reducible refine' Mine.lk5 ?_ ?_ ?_ ?_ ?_) <;> decide +kernel) | ((with_reducible refine' Mine.lk6 ?_ ?_ ?_ ?_ ?_ ?_) <;> decide +kernel) | ((with_reducible refine' Mine.lk7 ?_ ?_ ?_ ?_ ?_ ?_ ?_) <;> decide +kernel) | ((with_reducible refine' Mine.lk8 ?_ ?_ ?_ ?_ ?_ ?_ ?_ ?_) <;> decide +kernel) | ((with_reducible refine' Mine.lk9 ?_ ?_ ?_ ?_ ?_ ?_ ?_ ?_ ?_) <;> decide +kernel)); (case czq => decide +kernel)) | (refine' nameX_K ?Fzq ?Xzq ?Tzq ?ezq ?_ rfl ?bzq ?czq; (case bzq => rfl); (case Fzq => k_asm); (case Xzq => k_asm); (case ezq => k_is); (case Tzq => k_asm); (case czq => decide +kernel)) | (refine' nameX_B ?Fzq ?Xzq ?Tzq ?ezq ?vzq ?nzq ?_ rfl ?bzq ?czq; (case bzq => rfl); (case Fzq => k_asm); (case Xzq => k_asm); (case ezq => k_is); (case Tzq => k_asm); (case vzq => boot_fast); (case nzq => decide +kernel); (case czq => decide +kernel)) | (refine' nameX_L ?Fzq ?vzq ?_ rfl ?bzq ?czq; (case bzq => with_reducible first | exact k201_ids _ | exact k201_space _ | exact k201_number _ | exact k201_payload _ | exact k201_dcid _ | exact k201_scid _); (case Fzq => k_asm); (case vzq => rfl); (case czq => decide +kernel)))
    | ((with_reducible show wpAny _ _ (storeName (PyProof.Rows.envOf _ _ _ _ _) _ _) _ _ _); first | (refine' Mine.storeM ?Fzq ?Nzq ?_ rfl ?bzq; (case bzq => with_reducible first | exact k201_ids _ | exact k201_space _ | exact k201_number _ | exact k201_payload _ | exact k201_dcid _ | exact k201_scid _); (case Fzq => with_reducible assumption); (case Nzq => with_reducible assumption); intro h' k' F' N'; (try k_sweep)) | ((first | have F' := Mine.fr_mapLX (by with_reducible assumption) | have F' := Mine.fr_mapL (m := fun _ => none) (by with_reducible assumption)); refine' Mine.storeM ?Fzq ?Nzq ?_ rfl ?bzq; (case bzq => with_reducible first | exact k201_ids _ | exact k201_space _ | exact k201_number _ | exact k201_payload _ | exact k201_dcid _ | exact k201_scid _); (case Fzq => with_reducible assumption); (case Nzq => with_reducible assumption); intro h' k' F' N'; (try k_sweep)) | (refine' Mine.storeG ?Fzq ?Nzq ?_ rfl ?bzq; (case bzq => with_reducible first | exact k201_ids _ | exact k201_space _ | exact k201_number _ | exact k201_payload _ | exact k201_dcid _ | exact k201_scid _); (case Fzq => k_asm); (case Nzq => k_asm); intro h' k' F' N'; (try replace F' := Mine.fr_mapL F'); (try k_sweep)))
    | k_extra "core"
    | (k_unfold; (try dsimp only))
    | (k_end; wrow_close)
    | ((first | (with_reducible show wpAny _ _ (eval (PySem.Expr.Slice _ _ _ _) _) _ _ _) | (with_reducible show wpAny _ _ (evalPart _ _) _ _ _)); walk1)
    | (walk1; (try dsimp only))
    | (dsimp only; walk1)
    | (leave1; walk_say "STEP leave1"; try dsimp only)
    | fail "no step"))
  trivial
def ShortPk (bd : Array UInt8) (ud : Tok) (n : Int) (tn : Tok) (bp : Array UInt8) (up : Tok) (v : Value) (new : List (Addr × Obj)) : Prop :=
  ∃ a k tk ta tb, v = .ref a ∧ new = [(a, tupObj [Value.str (Str.ofString "short") tk, Value.int 0 ta, Value.int 0 tb, Value.bytes bd ud, Value.int n tn, Value.bytes bp up] k)]
def InitPk (bd : Array UInt8) (ud : Tok) (bs : Array UInt8) (us : Tok) (n : Int) (tn : Tok) (bp : Array UInt8) (up : Tok) (v : Value) (new : List (Addr × Obj)) : Prop :=
  ∃ a k tk ta bt ut, v = .ref a ∧ new = [(a, tupObj [Value.str (Str.ofString "initial") tk, Value.int 1 ta, Value.bytes bd ud, Value.bytes bs us, Value.bytes bt ut, Value.int n tn, Value.bytes bp up] k)] ∧ Array.size bt = 0
def HandPk (bd : Array UInt8) (ud : Tok) (bs : Array UInt8) (us : Tok) (n : Int) (tn : Tok) (bp : Array UInt8) (up : Tok) (v : Value) (new : List (Addr × Obj)) : Prop :=
  ∃ a k tk ta, v = .ref a ∧ new = [(a, tupObj [Value.str (Str.ofString "handshake") tk, Value.int 1 ta, Value.bytes bd ud, Value.bytes bs us, Value.int n tn, Value.bytes bp up] k)]
theorem lines_PH_2 : True := by
  k_with "steps" => (repeat' (first
    | ((with_reducible show wpAny _ _ (eval (PySem.Expr.Name _ _) (PyProof.Rows.envOf _ _ _ _ _)) _ _ _); first | (refine' Mine.nameM ?Fzq ?vzq ?_ rfl ?bzq ?czq; (case bzq => with_reducible first | exact k201_ids _ | exact k201_space _ | exact k201_number _ | exact k201_payload _ | exact k201_dcid _ | exact k201_scid _); (case Fzq => with_reducible assumption); (case vzq => first | (with_reducible exact Mine.lk0) | ((with_reducible refine' Mine.lk1 ?_) <;> decide +kernel) | ((with_reducible refine' Mine.lk2 ?_ ?_) <;> decide +kernel) | ((with_reducible refine' Mine.lk3 ?_ ?_ ?_) <;> decide +kernel) | ((with_reducible refine' Mine.lk4 ?_ ?_ ?_ ?_) <;> decide +kernel) | ((with_reducible refine' Mine.lk5 ?_ ?_ ?_ ?_ ?_) <;> decide +kernel) | ((with_reducible refine' Mine.lk6 ?_ ?_ ?_ ?_ ?_ ?_) <;> decide +kernel) | ((with_reducible refine' Mine.lk7 ?_ ?_ ?_ ?_ ?_ ?_ ?_) <;> decide +kernel) | ((with_reducible refine' Mine.lk8 ?_ ?_ ?_ ?_ ?_ ?_ ?_ ?_) <;> decide +kernel) | ((with_reducible refine' Mine.lk9 ?_ ?_ ?_ ?_ ?_ ?_ ?_ ?_ ?_) <;> decide +kernel)); (case czq => decide +kernel)) | ((first | have F' := Mine.fr_mapLX (by with_reducible assumption) | have F' := Mine.fr_mapL (m := fun _ => none) (by with_reducible assumption)); refine' Mine.nameM ?Fzq ?vzq ?_ rfl ?bzq ?czq; (case bzq => with_reducible first | exact k201_ids _ | exact k201_space _ | exact k201_number _ | exact k201_payload _ | exact k201_dcid _ | exact k201_scid _); (case Fzq => with_reducible assumption); (case vzq => first | (with_reducible exact Mine.lk0) | ((with_reducible refine' Mine.lk1 ?_) <;> decide +kernel) | ((with_reducible refine' Mine.lk2 ?_ ?_) <;> decide +kernel) | ((with_reducible refine' Mine.lk3 ?_ ?_ ?_) <;> decide +kernel) | ((with_reducible refine' Mine.lk4 ?_ ?_ ?_ ?_) <;> decide +kernel) | ((with_reducible refine' Mine.lk5 ?_ ?_ ?_ ?_ ?_) <;> decide +kernel) | ((with_reducible refine' Mine.lk6 ?_ ?_ ?_ ?_ ?_ ?_) <;> decide +kernel) | ((with_reducible refine' Mine.lk7 ?_ ?_ ?_ ?_ ?_ ?_ ?_) <;> decide +kernel) | ((with_reducible refine' Mine.lk8 ?_ ?_ ?_ ?_ ?_ ?_ ?_ ?_) <;> decide +kernel) | ((with_reducible refine' Mine.lk9 ?_ ?_ ?_ ?_ ?_ ?_ ?_ ?_ ?_) <;> decide +kernel)); (case czq => decide +kernel)) | (refine' nameX_K ?Fzq ?Xzq ?Tzq ?ezq ?_ rfl ?bzq ?czq; (case bzq => rfl); (case Fzq => k_asm); (case Xzq => k_asm); (case ezq => k_is); (case Tzq => k_asm); (case czq => decide +kernel)) | (refine' nameX_B ?Fzq ?Xzq ?Tzq ?ezq ?vzq ?nzq ?_ rfl ?bzq ?czq; (case bzq => rfl); (case Fzq => k_asm); (case Xzq => k_asm); (case ezq => k_is); (case Tzq => k_asm); (case vzq => boot_fast); (case nzq => decide +kernel); (case czq => decide +kernel)) | (refine' nameX_L ?Fzq ?vzq ?_ rfl ?bzq ?czq; (case bzq => with_reducible first | exact k201_ids _ | exact k201_space _ | exact k201_number _ | exact k201_payload _ | exact k201_dcid _ | exact k201_scid _); (case Fzq => k_asm); (case vzq => rfl); (case czq => decide +kernel)))
    | ((with_reducible show wpAny _ _ (storeName (PyProof.Rows.envOf _ _ _ _ _) _ _) _ _ _); first | (refine' Mine.storeM ?Fzq ?Nzq ?_ rfl ?bzq; (case bzq => with_reducible first | exact k201_ids _ | exact k201_space _ | exact k201_number _ | exact k201_payload _ | exact k201_dcid _ | exact k201_scid _); (case Fzq => with_reducible assumption); (case Nzq => with_reducible assumption); intro h' k' F' N'; (try k_sweep)) | ((first | have F' := Mine.fr_mapLX (by with_reducible assumption) | have F' := Mine.fr_mapL (m := fun _ => none) (by with_reducible assumption)); refine' Mine.storeM ?Fzq ?Nzq ?_ rfl ?bzq; (case bzq => with_reducible first | exact k201_ids _ | exact k201_space _ | exact k201_number _ | exact k201_payload _ | exact k201_dcid _ | exact k201_scid _); (case Fzq => with_reducible assumption); (case Nzq => with_reducible assumption); intro h' k' F' N'; (try k_sweep)) | (refine' Mine.storeG ?Fzq ?Nzq ?_ rfl ?bzq; (case bzq => with_reducible first | exact k201_ids _ | exact k201_space _ | exact k201_number _ | exact k201_payload _ | exact k201_dcid _ | exact k201_scid _); (case Fzq => k_asm); (case Nzq => k_asm); intro h' k' F' N'; (try replace F' := Mine.fr_mapL F'); (try k_sweep)))
    | ((with_reducible show Mine.Back _ _ _ _ _ _); (refine' Mine.cs_retN (new := [_]) ?rzq ?Fzq ?Nzq ?nzq ?hszq ?_; (case rzq => assumption); (case Fzq => k_asm); (case Nzq => k_asm); (case nzq => exact ⟨by k_mem, trivial⟩); (case hszq => k_subL)))
    | k_extra "core"
    | (k_unfold; (try dsimp only))
    | (k_end; wrow_close)
    | ((first | (with_reducible show wpAny _ _ (eval (PySem.Expr.Slice _ _ _ _) _) _ _ _) | (with_reducible show wpAny _ _ (evalPart _ _) _ _ _)); walk1)
    | (walk1; (try dsimp only))
    | (dsimp only; walk1)
    | (leave1; walk_say "STEP leave1"; try dsimp only)
    | fail "no step"))
  trivial
theorem packet_with_short (w : World) (news : List (Addr × Obj)) (ids : Addr) (ki : Nat) (ud us ts tn up : Tok) (bd bs bp : Array UInt8) (n : Int) (hm0 : (ids, tupObj [Value.bytes bd ud, Value.bytes bs us] ki) ∈ news) : CS w 201 news [.ref ids, Value.str (Str.ofString "application") ts, .int n tn, .bytes bp up] 1 (ShortPk bd ud n tn bp up) := by
  unfold CS
  intro mean mg mb dp un gd cn cs a ccd cl outer A₀ base h₀ L m s Q E B F X N T hk hd hu hret
  have hl : ∀ q9 ∈ news, q9 ∈ news := fun _ h => h
  k_extra "cs_enter"
  change Fr g' L' h' (Mine.mapL [(Str.ofString "payload", Value.bytes bp up), (Str.ofString "number", Value.int n tn), (Str.ofString "space", Value.str (Str.ofString "application") ts), (Str.ofString "ids", Value.ref ids)]) at F'
  refine Mine.wpAny_fold ?_
  intro qf' hqf'
  k_extra "steps"
  all_goals exact ⟨_, _, _, _, _, rfl, rfl⟩
theorem packet_with_initial (w : World) (news : List (Addr × Obj)) (ids : Addr) (ki : Nat) (ud us ts tn up : Tok) (bd bs bp : Array UInt8) (n : Int) (hm0 : (ids, tupObj [Value.bytes bd ud, Value.bytes bs us] ki) ∈ news) : CS w 201 news [.ref ids, Value.str (Str.ofString "initial") ts, .int n tn, .bytes bp up] 1 (InitPk bd ud bs us n tn bp up) := by
  unfold CS
  intro mean mg mb dp un gd cn cs a ccd cl outer A₀ base h₀ L m s Q E B F X N T hk hd hu hret
  have hl : ∀ q9 ∈ news, q9 ∈ news := fun _ h => h
  k_extra "cs_enter"
  change Fr g' L' h' (Mine.mapL [(Str.ofString "payload", Value.bytes bp up), (Str.ofString "number", Value.int n tn), (Str.ofString "space", Value.str (Str.ofString "initial") ts), (Str.ofString "ids", Value.ref ids)]) at F'
  refine Mine.wpAny_fold ?_
  intro qf' hqf'
  k_extra "steps"
  all_goals exact ⟨_, _, _, _, _, _, rfl, rfl, rfl⟩
theorem packet_with_handshake (w : World) (news : List (Addr × Obj)) (ids : Addr) (ki : Nat) (ud us ts tn up : Tok) (bd bs bp : Array UInt8) (n : Int) (hm0 : (ids, tupObj [Value.bytes bd ud, Value.bytes bs us] ki) ∈ news) : CS w 201 news [.ref ids, Value.str (Str.ofString "handshake") ts, .int n tn, .bytes bp up] 1 (HandPk bd ud bs us n tn bp up) := by
  unfold CS
  intro mean mg mb dp un gd cn cs a ccd cl outer A₀ base h₀ L m s Q E B F X N T hk hd hu hret
  have hl : ∀ q9 ∈ news, q9 ∈ news := fun _ h => h
  k_extra "cs_enter"
  change Fr g' L' h' (Mine.mapL [(Str.ofString "payload", Value.bytes bp up), (Str.ofString "number", Value.int n tn), (Str.ofString "space", Value.str (Str.ofString "handshake") ts), (Str.ofString "ids", Value.ref ids)]) at F'
  refine Mine.wpAny_fold ?_
  intro qf' hqf'
  k_extra "steps"
  all_goals exact ⟨_, _, _, _, rfl, rfl⟩
theorem lines_PI_1 : True := by
  k_with "steps" => (repeat' (first
    | k_extra "core"
    | (k_unfold; (try dsimp only))
    | (k_end; wrow_close)
    | ((first | (with_reducible show wpAny _ _ (eval (PySem.Expr.Slice _ _ _ _) _) _ _ _) | (with_reducible show wpAny _ _ (evalPart _ _) _ _ _)); walk1)
    | (walk1; (try dsimp only))
    | (dsimp only; walk1)
    | (leave1; walk_say "STEP leave1"; try dsimp only)
    | fail "no step"))
  trivial
def FramesOK (w : World) (f : Addr) (o : Obj) (p0 : Addr) (o0 : Obj) (p1 : Addr) (o1 : Obj) (p2 : Addr) (o2 : Obj) (q : Nat) : Prop :=
  ∀ news : List (Addr × Obj), (f, o) ∈ news → (p0, o0) ∈ news → (p1, o1) ∈ news → (p2, o2) ∈ news → CSC w 123 news [.ref f] 5 (BytesN q)
theorem framesOK_use {w : World} {f : Addr} {o : Obj} {p0 : Addr} {o0 : Obj} {p1 : Addr} {o1 : Obj} {p2 : Addr} {o2 : Obj} {q : Nat} {news : List (Addr × Obj)} (h : FramesOK w f o p0 o0 p1 o1 p2 o2 q)
    (m : (f, o) ∈ news) (m0 : (p0, o0) ∈ news) (m1 : (p1, o1) ∈ news) (m2 : (p2, o2) ∈ news) : CSC w 123 news [.ref f] 5 (BytesN q) := h news m m0 m1 m2
theorem lines_PJ_1 : True := by
  k_with "steps" => (repeat' (first
    | ((with_reducible show wpAny _ _ (eval (PySem.Expr.Name _ _) (PyProof.Rows.envOf _ _ _ _ _)) _ _ _); first | (refine' Mine.nameM ?Fzq ?vzq ?_ rfl ?bzq ?czq; (case bzq => with_reducible first | exact k208_ids _ | exact k208_places _ | exact k208_rows _ | exact k208_total _ | exact k208_space _ | exact k208_frames _ | exact k208_number _ | exact k208_acked _); (case Fzq => with_reducible assumption); (case vzq => first | (with_reducible exact Mine.lk0) | ((with_reducible refine' Mine.lk1 ?_) <;> decide +kernel) | ((with_reducible refine' Mine.lk2 ?_ ?_) <;> decide +kernel) | ((with_reducible refine' Mine.lk3 ?_ ?_ ?_) <;> decide +kernel) | ((with_reducible refine' Mine.lk4 ?_ ?_ ?_ ?_) <;> decide +kernel) | ((with_reducible refine' Mine.lk5 ?_ ?_ ?_ ?_ ?_) <;> decide +kernel) | ((with_reducible refine' Mine.lk6 ?_ ?_ ?_ ?_ ?_ ?_) <;> decide +kernel) | ((with_reducible refine' Mine.lk7 ?_ ?_ ?_ ?_ ?_ ?_ ?_) <;> decide +kernel) | ((with_reducible refine' Mine.lk8 ?_ ?_ ?_ ?_ ?_ ?_ ?_ ?_) <;> decide +kernel) | ((with_reducible refine' Mine.lk9 ?_ ?_ ?_ ?_ ?_ ?_ ?_ ?_ ?_) <;> decide +kernel)); (case czq => decide +kernel)) | ((first | have F' := Mine.fr_mapLX (by with_reducible assumption) | have F' := Mine.fr_mapL (m := fun _ => none) (by with_reducible assumption)); refine' Mine.nameM ?Fzq ?vzq ?_ rfl ?bzq ?czq; (case bzq => with_reducible first | exact k208_ids _ | exact k208_places _ | exact k208_rows _ | exact k208_total _ | exact k208_space _ | exact k208_frames _ | exact k208_number _ | exact k208_acked _); (case Fzq => with_reducible assumption); (case vzq => first | (with_reducible exact Mine.lk0) | ((with_reducible refine' Mine.lk1 ?_) <;> decide +kernel) | ((with_reducible refine' Mine.lk2 ?_ ?_) <;> decide +kernel) | ((with_reducible refine' Mine.lk3 ?_ ?_ ?_) <;> decide +kernel) | ((with_reducible refine' Mine.lk4 ?_ ?_ ?_ ?_) <;> decide +kernel) | ((with_reducible refine' Mine.lk5 ?_ ?_ ?_ ?_ ?_) <;> decide +kernel) | ((with_reducible refine' Mine.lk6 ?_ ?_ ?_ ?_ ?_ ?_) <;> decide +kernel) | ((with_reducible refine' Mine.lk7 ?_ ?_ ?_ ?_ ?_ ?_ ?_) <;> decide +kernel) | ((with_reducible refine' Mine.lk8 ?_ ?_ ?_ ?_ ?_ ?_ ?_ ?_) <;> decide +kernel) | ((with_reducible refine' Mine.lk9 ?_ ?_ ?_ ?_ ?_ ?_ ?_ ?_ ?_) <;> decide +kernel)); (case czq => decide +kernel)) | (refine' nameX_K ?Fzq ?Xzq ?Tzq ?ezq ?_ rfl ?bzq ?czq; (case bzq => with_reducible first | exact k208_packet_size _ | exact k208_packet_with _ | exact k208_put_frames _); (case Fzq => k_asm); (case Xzq => k_asm); (case ezq => with_reducible first | exact g_packet_size _ | exact g_packet_with _ | exact g_put_frames _); (case Tzq => k_asm); (case czq => decide +kernel)) | (refine' nameX_B ?Fzq ?Xzq ?Tzq ?ezq ?vzq ?nzq ?_ rfl ?bzq ?czq; (case bzq => with_reducible first | exact k208_packet_size _ | exact k208_packet_with _ | exact k208_put_frames _); (case Fzq => k_asm); (case Xzq => k_asm); (case ezq => k_is); (case Tzq => k_asm); (case vzq => boot_fast); (case nzq => decide +kernel); (case czq => decide +kernel)) | (refine' nameX_L ?Fzq ?vzq ?_ rfl ?bzq ?czq; (case bzq => with_reducible first | exact k208_ids _ | exact k208_places _ | exact k208_rows _ | exact k208_total _ | exact k208_space _ | exact k208_frames _ | exact k208_number _ | exact k208_acked _); (case Fzq => k_asm); (case vzq => rfl); (case czq => decide +kernel)))
    | ((with_reducible show wpAny _ _ (storeName (PyProof.Rows.envOf _ _ _ _ _) _ _) _ _ _); first | (refine' Mine.storeM ?Fzq ?Nzq ?_ rfl ?bzq; (case bzq => with_reducible first | exact k208_ids _ | exact k208_places _ | exact k208_rows _ | exact k208_total _ | exact k208_space _ | exact k208_frames _ | exact k208_number _ | exact k208_acked _); (case Fzq => with_reducible assumption); (case Nzq => with_reducible assumption); intro h' k' F' N'; (try k_sweep)) | ((first | have F' := Mine.fr_mapLX (by with_reducible assumption) | have F' := Mine.fr_mapL (m := fun _ => none) (by with_reducible assumption)); refine' Mine.storeM ?Fzq ?Nzq ?_ rfl ?bzq; (case bzq => with_reducible first | exact k208_ids _ | exact k208_places _ | exact k208_rows _ | exact k208_total _ | exact k208_space _ | exact k208_frames _ | exact k208_number _ | exact k208_acked _); (case Fzq => with_reducible assumption); (case Nzq => with_reducible assumption); intro h' k' F' N'; (try k_sweep)) | (refine' Mine.storeG ?Fzq ?Nzq ?_ rfl ?bzq; (case bzq => with_reducible first | exact k208_ids _ | exact k208_places _ | exact k208_rows _ | exact k208_total _ | exact k208_space _ | exact k208_frames _ | exact k208_number _ | exact k208_acked _); (case Fzq => k_asm); (case Nzq => k_asm); intro h' k' F' N'; (try replace F' := Mine.fr_mapL F'); (try k_sweep)))
    | ((with_reducible show Mine.wpC _ _ (eval (PySem.Expr.Call (PySem.Expr.Name (PySem.Str.ofString "put_frames") _) _ _ _) _) _ _ _); refine' Mine.wpC_Call _ _ ?hezq ?_; (case hezq => rfl))
    | ((with_reducible show Mine.wpC _ _ (eval (PySem.Expr.Call (PySem.Expr.Name (PySem.Str.ofString "packet_size") _) _ _ _) _) _ _ _); refine' Mine.wpC_Call _ _ ?hezq ?_; (case hezq => rfl))
    | k_extra "core"
    | (k_unfold; (try dsimp only))
    | (k_end; wrow_close)
    | ((first | (with_reducible show wpAny _ _ (eval (PySem.Expr.Slice _ _ _ _) _) _ _ _) | (with_reducible show wpAny _ _ (evalPart _ _) _ _ _)); walk1)
    | (walk1; (try dsimp only))
    | (dsimp only; walk1)
    | (leave1; walk_say "STEP leave1"; try dsimp only)
    | fail "no step"))
  trivial
theorem lines_PJ_2 : True := by
  k_with "steps" => (repeat' (first
    | ((with_reducible show wpAny _ _ (eval (PySem.Expr.Name _ _) (PyProof.Rows.envOf _ _ _ _ _)) _ _ _); first | (refine' Mine.nameM ?Fzq ?vzq ?_ rfl ?bzq ?czq; (case bzq => with_reducible first | exact k208_ids _ | exact k208_places _ | exact k208_rows _ | exact k208_total _ | exact k208_space _ | exact k208_frames _ | exact k208_number _ | exact k208_acked _); (case Fzq => with_reducible assumption); (case vzq => first | (with_reducible exact Mine.lk0) | ((with_reducible refine' Mine.lk1 ?_) <;> decide +kernel) | ((with_reducible refine' Mine.lk2 ?_ ?_) <;> decide +kernel) | ((with_reducible refine' Mine.lk3 ?_ ?_ ?_) <;> decide +kernel) | ((with_reducible refine' Mine.lk4 ?_ ?_ ?_ ?_) <;> decide +kernel) | ((with_reducible refine' Mine.lk5 ?_ ?_ ?_ ?_ ?_) <;> decide +kernel) | ((with_reducible refine' Mine.lk6 ?_ ?_ ?_ ?_ ?_ ?_) <;> decide +kernel) | ((with_reducible refine' Mine.lk7 ?_ ?_ ?_ ?_ ?_ ?_ ?_) <;> decide +kernel) | ((with_reducible refine' Mine.lk8 ?_ ?_ ?_ ?_ ?_ ?_ ?_ ?_) <;> decide +kernel) | ((with_reducible refine' Mine.lk9 ?_ ?_ ?_ ?_ ?_ ?_ ?_ ?_ ?_) <;> decide +kernel)); (case czq => decide +kernel)) | ((first | have F' := Mine.fr_mapLX (by with_reducible assumption) | have F' := Mine.fr_mapL (m := fun _ => none) (by with_reducible assumption)); refine' Mine.nameM ?Fzq ?vzq ?_ rfl ?bzq ?czq; (case bzq => with_reducible first | exact k208_ids _ | exact k208_places _ | exact k208_rows _ | exact k208_total _ | exact k208_space _ | exact k208_frames _ | exact k208_number _ | exact k208_acked _); (case Fzq => with_reducible assumption); (case vzq => first | (with_reducible exact Mine.lk0) | ((with_reducible refine' Mine.lk1 ?_) <;> decide +kernel) | ((with_reducible refine' Mine.lk2 ?_ ?_) <;> decide +kernel) | ((with_reducible refine' Mine.lk3 ?_ ?_ ?_) <;> decide +kernel) | ((with_reducible refine' Mine.lk4 ?_ ?_ ?_ ?_) <;> decide +kernel) | ((with_reducible refine' Mine.lk5 ?_ ?_ ?_ ?_ ?_) <;> decide +kernel) | ((with_reducible refine' Mine.lk6 ?_ ?_ ?_ ?_ ?_ ?_) <;> decide +kernel) | ((with_reducible refine' Mine.lk7 ?_ ?_ ?_ ?_ ?_ ?_ ?_) <;> decide +kernel) | ((with_reducible refine' Mine.lk8 ?_ ?_ ?_ ?_ ?_ ?_ ?_ ?_) <;> decide +kernel) | ((with_reducible refine' Mine.lk9 ?_ ?_ ?_ ?_ ?_ ?_ ?_ ?_ ?_) <;> decide +kernel)); (case czq => decide +kernel)) | (refine' nameX_K ?Fzq ?Xzq ?Tzq ?ezq ?_ rfl ?bzq ?czq; (case bzq => with_reducible first | exact k208_packet_size _ | exact k208_packet_with _ | exact k208_put_frames _); (case Fzq => k_asm); (case Xzq => k_asm); (case ezq => with_reducible first | exact g_packet_size _ | exact g_packet_with _ | exact g_put_frames _); (case Tzq => k_asm); (case czq => decide +kernel)) | (refine' nameX_B ?Fzq ?Xzq ?Tzq ?ezq ?vzq ?nzq ?_ rfl ?bzq ?czq; (case bzq => with_reducible first | exact k208_packet_size _ | exact k208_packet_with _ | exact k208_put_frames _); (case Fzq => k_asm); (case Xzq => k_asm); (case ezq => k_is); (case Tzq => k_asm); (case vzq => boot_fast); (case nzq => decide +kernel); (case czq => decide +kernel)) | (refine' nameX_L ?Fzq ?vzq ?_ rfl ?bzq ?czq; (case bzq => with_reducible first | exact k208_ids _ | exact k208_places _ | exact k208_rows _ | exact k208_total _ | exact k208_space _ | exact k208_frames _ | exact k208_number _ | exact k208_acked _); (case Fzq => k_asm); (case vzq => rfl); (case czq => decide +kernel)))
    | ((with_reducible show wpAny _ _ (storeName (PyProof.Rows.envOf _ _ _ _ _) _ _) _ _ _); first | (refine' Mine.storeM ?Fzq ?Nzq ?_ rfl ?bzq; (case bzq => with_reducible first | exact k208_ids _ | exact k208_places _ | exact k208_rows _ | exact k208_total _ | exact k208_space _ | exact k208_frames _ | exact k208_number _ | exact k208_acked _); (case Fzq => with_reducible assumption); (case Nzq => with_reducible assumption); intro h' k' F' N'; (try k_sweep)) | ((first | have F' := Mine.fr_mapLX (by with_reducible assumption) | have F' := Mine.fr_mapL (m := fun _ => none) (by with_reducible assumption)); refine' Mine.storeM ?Fzq ?Nzq ?_ rfl ?bzq; (case bzq => with_reducible first | exact k208_ids _ | exact k208_places _ | exact k208_rows _ | exact k208_total _ | exact k208_space _ | exact k208_frames _ | exact k208_number _ | exact k208_acked _); (case Fzq => with_reducible assumption); (case Nzq => with_reducible assumption); intro h' k' F' N'; (try k_sweep)) | (refine' Mine.storeG ?Fzq ?Nzq ?_ rfl ?bzq; (case bzq => with_reducible first | exact k208_ids _ | exact k208_places _ | exact k208_rows _ | exact k208_total _ | exact k208_space _ | exact k208_frames _ | exact k208_number _ | exact k208_acked _); (case Fzq => k_asm); (case Nzq => k_asm); intro h' k' F' N'; (try replace F' := Mine.fr_mapL F'); (try k_sweep)))
    | ((with_reducible show Mine.wpC _ _ (eval (PySem.Expr.Call (PySem.Expr.Name (PySem.Str.ofString "put_frames") _) _ _ _) _) _ _ _); refine' Mine.wpC_Call _ _ ?hezq ?_; (case hezq => rfl))
    | ((with_reducible show Mine.wpC _ _ (eval (PySem.Expr.Call (PySem.Expr.Name (PySem.Str.ofString "packet_size") _) _ _ _) _) _ _ _); refine' Mine.wpC_Call _ _ ?hezq ?_; (case hezq => rfl))
    | ((with_reducible show Mine.wpC _ _ (call (Value.ref 123) _ _) _ _ _); k_dflt (refine' Mine.csc_use_bytes (Mine.framesOK_use ?hfzq ?p0zq ?p1zq ?p2zq ?p3zq) ?k1zq ?k2zq ?k3zq ?k4zq ?k5zq ?kKzq ?kdzq ?kuzq ?_; (case k4zq => with_reducible assumption); (case hfzq => assumption); (case p0zq => k_mem); (case p1zq => k_mem); (case p2zq => k_mem); (case p3zq => k_mem); (case k1zq => with_reducible assumption); (case k2zq => with_reducible assumption); (case k3zq => with_reducible assumption); (case k5zq => with_reducible assumption); (case kKzq => first | exact rfl | assumption); (case kdzq => first | exact Mine.room_of (by assumption) (by decide) | ktr_room); (case kuzq => first | exact Mine.units_of (by assumption) (by decide) | ktr_units)); intro b9 u9 h9 tk9 hb9 F9 N9; (try dsimp only))
    | ((with_reducible show Mine.wpC _ _ (call (Value.ref 123) _ _) _ _ _); k_dflt (first | (refine' Mine.csc_use_bytes (Mine.put_frames_0 _ _ _ _ _ _ _ ?p0zq ?p1zq) ?k1zq ?k2zq ?k3zq ?k4zq ?k5zq ?kKzq ?kdzq ?kuzq ?_; (case k4zq => with_reducible assumption); (case p0zq => k_mem); (case p1zq => k_mem); (case k1zq => with_reducible assumption); (case k2zq => with_reducible assumption); (case k3zq => with_reducible assumption); (case k5zq => with_reducible assumption); (case kKzq => first | exact rfl | assumption); (case kdzq => first | exact Mine.room_of (by assumption) (by decide) | ktr_room); (case kuzq => first | exact Mine.units_of (by assumption) (by decide) | ktr_units))); intro b9 u9 h9 tk9 hb9 F9 N9; (try dsimp only))
    | ((with_reducible show Mine.wpC _ _ (call (Value.ref 194) _ _) _ _ _); k_dflt (first | (refine' Mine.csc_use_int (Mine.packet_size_short _ _ _ _ _ _ _ _ _ _ _ _ _ _ ?p0zq ?p1zq ?p2zq ?p3zq ?p4zq) ?k1zq ?k2zq ?k3zq ?k4zq ?k5zq ?kKzq ?kdzq ?kuzq ?_; (case k4zq => with_reducible assumption); (case p4zq => k_mem); (case p0zq => first | assumption | exact rfl); (case p1zq => first | assumption | omega); (case p2zq => first | assumption | exact rfl); (case p3zq => first | assumption | omega); (case k1zq => with_reducible assumption); (case k2zq => with_reducible assumption); (case k3zq => with_reducible assumption); (case k5zq => with_reducible assumption); (case kKzq => first | exact rfl | assumption); (case kdzq => first | exact Mine.room_of (by assumption) (by decide) | ktr_room); (case kuzq => first | exact Mine.units_of (by assumption) (by decide) | ktr_units)) | (refine' Mine.csc_use_int (Mine.packet_size_initial _ _ _ _ _ _ _ _ _ _ _ _ _ _ _ _ _ _ ?p0zq ?p1zq ?p2zq ?p3zq ?p4zq ?p5zq ?p6zq ?p7zq) ?k1zq ?k2zq ?k3zq ?k4zq ?k5zq ?kKzq ?kdzq ?kuzq ?_; (case k4zq => with_reducible assumption); (case p7zq => k_mem); (case p0zq => first | assumption | exact rfl); (case p1zq => first | assumption | exact rfl); (case p2zq => first | assumption | exact rfl); (case p3zq => first | assumption | omega); (case p4zq => first | assumption | omega); (case p5zq => first | assumption | exact rfl); (case p6zq => first | assumption | omega); (case k1zq => with_reducible assumption); (case k2zq => with_reducible assumption); (case k3zq => with_reducible assumption); (case k5zq => with_reducible assumption); (case kKzq => first | exact rfl | assumption); (case kdzq => first | exact Mine.room_of (by assumption) (by decide) | ktr_room); (case kuzq => first | exact Mine.units_of (by assumption) (by decide) | ktr_units)) | (refine' Mine.csc_use_int (Mine.packet_size_handshake _ _ _ _ _ _ _ _ _ _ _ _ _ _ _ _ ?p0zq ?p1zq ?p2zq ?p3zq ?p4zq ?p5zq ?p6zq) ?k1zq ?k2zq ?k3zq ?k4zq ?k5zq ?kKzq ?kdzq ?kuzq ?_; (case k4zq => with_reducible assumption); (case p6zq => k_mem); (case p0zq => first | assumption | exact rfl); (case p1zq => first | assumption | exact rfl); (case p2zq => first | assumption | omega); (case p3zq => first | assumption | omega); (case p4zq => first | assumption | exact rfl); (case p5zq => first | assumption | omega); (case k1zq => with_reducible assumption); (case k2zq => with_reducible assumption); (case k3zq => with_reducible assumption); (case k5zq => with_reducible assumption); (case kKzq => first | exact rfl | assumption); (case kdzq => first | exact Mine.room_of (by assumption) (by decide) | ktr_room); (case kuzq => first | exact Mine.units_of (by assumption) (by decide) | ktr_units))); intro u9 h9 tk9 F9 N9; (try dsimp only))
    | ((with_reducible show wpAny _ _ (call (Value.ref 201) _) _ _ _); k_dflt (first | (refine' Mine.cs_use (Mine.packet_with_handshake _ _ _ _ _ _ _ _ _ _ _ _ _ ?p0zq) ?k1zq ?k2zq ?k3zq ?k4zq ?k5zq ?kKzq ?kdzq ?kuzq ?_; (case k4zq => with_reducible assumption); (case p0zq => k_mem); (case k1zq => with_reducible assumption); (case k2zq => with_reducible assumption); (case k3zq => with_reducible assumption); (case k5zq => with_reducible assumption); (case kKzq => first | exact rfl | assumption); (case kdzq => first | exact Mine.room_of (by assumption) (by decide) | ktr_room); (case kuzq => first | exact Mine.units_of (by assumption) (by decide) | ktr_units))); intro r9 n9 h9 tk9 hp9 F9 N9; obtain ⟨a9, k9, x9, y9, e9, f9⟩ := hp9; subst e9; subst f9; (try simp only [List.nil_append, List.cons_append] at N9); (try dsimp only))
    | ((with_reducible show wpAny _ _ (call (Value.ref 201) _) _ _ _); k_dflt (first | (refine' Mine.cs_use (Mine.packet_with_initial _ _ _ _ _ _ _ _ _ _ _ _ _ ?p0zq) ?k1zq ?k2zq ?k3zq ?k4zq ?k5zq ?kKzq ?kdzq ?kuzq ?_; (case k4zq => with_reducible assumption); (case p0zq => k_mem); (case k1zq => with_reducible assumption); (case k2zq => with_reducible assumption); (case k3zq => with_reducible assumption); (case k5zq => with_reducible assumption); (case kKzq => first | exact rfl | assumption); (case kdzq => first | exact Mine.room_of (by assumption) (by decide) | ktr_room); (case kuzq => first | exact Mine.units_of (by assumption) (by decide) | ktr_units))); intro r9 n9 h9 tk9 hp9 F9 N9; obtain ⟨a9, k9, x9, y9, b9, z9, e9, f9, hb9⟩ := hp9; subst e9; subst f9; (try simp only [List.nil_append, List.cons_append] at N9); (try dsimp only))
    | ((with_reducible show wpAny _ _ (call (Value.ref 201) _) _ _ _); k_dflt (first | (refine' Mine.cs_use (Mine.packet_with_short _ _ _ _ _ _ _ _ _ _ _ _ _ ?p0zq) ?k1zq ?k2zq ?k3zq ?k4zq ?k5zq ?kKzq ?kdzq ?kuzq ?_; (case k4zq => with_reducible assumption); (case p0zq => k_mem); (case k1zq => with_reducible assumption); (case k2zq => with_reducible assumption); (case k3zq => with_reducible assumption); (case k5zq => with_reducible assumption); (case kKzq => first | exact rfl | assumption); (case kdzq => first | exact Mine.room_of (by assumption) (by decide) | ktr_room); (case kuzq => first | exact Mine.units_of (by assumption) (by decide) | ktr_units))); intro r9 n9 h9 tk9 hp9 F9 N9; obtain ⟨a9, k9, x9, y9, z9, e9, f9⟩ := hp9; subst e9; subst f9; (try simp only [List.nil_append, List.cons_append] at N9); (try dsimp only))
    | ((with_reducible show Mine.wpC _ _ (call (Value.ref 201) _ _) _ _ _); refine Mine.wpC_call_any ?_)
    | ((with_reducible show Mine.wpC _ _ (exec (Stmt.For _ _ _ _ _) _) _ _ _); refine Mine.wpC_For ?_)
    | k_extra "core"
    | (k_unfold; (try dsimp only))
    | (k_end; wrow_close)
    | ((first | (with_reducible show wpAny _ _ (eval (PySem.Expr.Slice _ _ _ _) _) _ _ _) | (with_reducible show wpAny _ _ (evalPart _ _) _ _ _)); walk1)
    | (walk1; (try dsimp only))
    | (dsimp only; walk1)
    | (leave1; walk_say "STEP leave1"; try dsimp only)
    | fail "no step"))
  trivial
theorem rows_size_h (w : World) (news : List (Addr × Obj)) (ids pl q0 q1 q2 R rb f p0 p1 p2 : Addr) (od of0 o0 o1 o2 : Obj) (ki kR krb : Nat) (ud us tsb : Tok) (bd bs : Array UInt8) (pd ps q : Nat) (tn1 : Tok) (kn1 : Nat) (hd1 : bd.size = pd) (hs1 : bs.size = ps) (h1 : pd ≤ 100) (h2 : ps ≤ 100) (hq3 : q ≤ 3000) (hlo : (pl == sysModules) = false) (hdict : od.IsDictOf (PySem.strKind PySem.Challenge.rw_pf0266_01.row.prog w) [(Str.ofString "initial", .ref q0), (Str.ofString "handshake", .ref q1), (Str.ofString "application", .ref q2)]) (hfr : FramesOK w f of0 p0 o0 p1 o1 p2 o2 q) (hm0 : (ids, tupObj [Value.bytes bd ud, Value.bytes bs us] ki) ∈ news) (hm1 : (pl, od) ∈ news) (hm2 : (q1, tupObj [Value.int 1 tn1, Value.none] kn1) ∈ news) (hm3 : (R, PySem.W.listOf [.ref rb].toArray kR) ∈ news) (hm4 : (rb, tupObj [Value.str (Str.ofString "handshake") tsb, .ref f] krb) ∈ news) (hm5 : (f, of0) ∈ news) (hm6 : (p0, o0) ∈ news) (hm7 : (p1, o1) ∈ news) (hm8 : (p2, o2) ∈ news) : CSC w 208 news [.ref ids, .ref pl, .ref R] 6 (IntIs ((((psz 2 pd ps q : Nat) : Nat) : Int))) := by
  unfold CSC
  intro mean mg mb dp un gd cn cs a ccd cl outer A₀ base h₀ L m s Q E B F X N T hk hd hu hret
  have hl : ∀ q9 ∈ news, q9 ∈ news := fun _ h => h
  k_extra "csc_enter"
  change Fr g' L' h' (Mine.mapL [(Str.ofString "rows", Value.ref R), (Str.ofString "places", Value.ref pl), (Str.ofString "ids", Value.ref ids)]) at F'
  refine Mine.wpC_fold ?_
  intro qf' hqf'
  k_extra "steps"
  all_goals exact intIs_of (by omega)
theorem rows_size_i (w : World) (news : List (Addr × Obj)) (ids pl q0 q1 q2 R rb f p0 p1 p2 : Addr) (od of0 o0 o1 o2 : Obj) (ki kR krb : Nat) (ud us tsb : Tok) (bd bs : Array UInt8) (pd ps q : Nat) (tn0 : Tok) (kn0 : Nat) (hd1 : bd.size = pd) (hs1 : bs.size = ps) (h1 : pd ≤ 100) (h2 : ps ≤ 100) (hq3 : q ≤ 3000) (hlo : (pl == sysModules) = false) (hdict : od.IsDictOf (PySem.strKind PySem.Challenge.rw_pf0266_01.row.prog w) [(Str.ofString "initial", .ref q0), (Str.ofString "handshake", .ref q1), (Str.ofString "application", .ref q2)]) (hfr : FramesOK w f of0 p0 o0 p1 o1 p2 o2 q) (hm0 : (ids, tupObj [Value.bytes bd ud, Value.bytes bs us] ki) ∈ news) (hm1 : (pl, od) ∈ news) (hm2 : (q0, tupObj [Value.int 0 tn0, Value.none] kn0) ∈ news) (hm3 : (R, PySem.W.listOf [.ref rb].toArray kR) ∈ news) (hm4 : (rb, tupObj [Value.str (Str.ofString "initial") tsb, .ref f] krb) ∈ news) (hm5 : (f, of0) ∈ news) (hm6 : (p0, o0) ∈ news) (hm7 : (p1, o1) ∈ news) (hm8 : (p2, o2) ∈ news) : CSC w 208 news [.ref ids, .ref pl, .ref R] 6 (IntIs ((((psz 1 pd ps q : Nat) : Nat) : Int))) := by
  unfold CSC
  intro mean mg mb dp un gd cn cs a ccd cl outer A₀ base h₀ L m s Q E B F X N T hk hd hu hret
  have hl : ∀ q9 ∈ news, q9 ∈ news := fun _ h => h
  k_extra "csc_enter"
  change Fr g' L' h' (Mine.mapL [(Str.ofString "rows", Value.ref R), (Str.ofString "places", Value.ref pl), (Str.ofString "ids", Value.ref ids)]) at F'
  refine Mine.wpC_fold ?_
  intro qf' hqf'
  k_extra "steps"
  all_goals exact intIs_of (by omega)
theorem rows_size_ih (w : World) (news : List (Addr × Obj)) (ids pl q0 q1 q2 R rb f p0 p1 p2 : Addr) (od of0 o0 o1 o2 : Obj) (ki kR krb : Nat) (ud us tsb : Tok) (bd bs : Array UInt8) (pd ps q : Nat) (tn0 : Tok) (kn0 : Nat) (tn1 : Tok) (kn1 : Nat) (ra fa pa : Addr) (tsa tpa : Tok) (kra kfa kpa : Nat) (hd1 : bd.size = pd) (hs1 : bs.size = ps) (h1 : pd ≤ 100) (h2 : ps ≤ 100) (hq3 : q ≤ 3000) (hlo : (pl == sysModules) = false) (hdict : od.IsDictOf (PySem.strKind PySem.Challenge.rw_pf0266_01.row.prog w) [(Str.ofString "initial", .ref q0), (Str.ofString "handshake", .ref q1), (Str.ofString "application", .ref q2)]) (hfr : FramesOK w f of0 p0 o0 p1 o1 p2 o2 q) (hm0 : (ids, tupObj [Value.bytes bd ud, Value.bytes bs us] ki) ∈ news) (hm1 : (pl, od) ∈ news) (hm2 : (q0, tupObj [Value.int 0 tn0, Value.none] kn0) ∈ news) (hm3 : (q1, tupObj [Value.int 1 tn1, Value.none] kn1) ∈ news) (hm4 : (R, PySem.W.listOf [.ref ra, .ref rb].toArray kR) ∈ news) (hm5 : (ra, tupObj [Value.str (Str.ofString "initial") tsa, .ref fa] kra) ∈ news) (hm6 : (fa, PySem.W.listOf [.ref pa].toArray kfa) ∈ news) (hm7 : (pa, tupObj [Value.str (Str.ofString "ping") tpa] kpa) ∈ news) (hm8 : (rb, tupObj [Value.str (Str.ofString "handshake") tsb, .ref f] krb) ∈ news) (hm9 : (f, of0) ∈ news) (hm10 : (p0, o0) ∈ news) (hm11 : (p1, o1) ∈ news) (hm12 : (p2, o2) ∈ news) : CSC w 208 news [.ref ids, .ref pl, .ref R] 6 (IntIs (((psz 1 pd ps 1 : Nat) : Int) + ((psz 2 pd ps q : Nat) : Int))) := by
  unfold CSC
  intro mean mg mb dp un gd cn cs a ccd cl outer A₀ base h₀ L m s Q E B F X N T hk hd hu hret
  have hl : ∀ q9 ∈ news, q9 ∈ news := fun _ h => h
  k_extra "csc_enter"
  change Fr g' L' h' (Mine.mapL [(Str.ofString "rows", Value.ref R), (Str.ofString "places", Value.ref pl), (Str.ofString "ids", Value.ref ids)]) at F'
  refine Mine.wpC_fold ?_
  intro qf' hqf'
  k_extra "steps"
  all_goals exact intIs_of (by omega)
theorem rows_size_ia (w : World) (news : List (Addr × Obj)) (ids pl q0 q1 q2 R rb f p0 p1 p2 : Addr) (od of0 o0 o1 o2 : Obj) (ki kR krb : Nat) (ud us tsb : Tok) (bd bs : Array UInt8) (pd ps q : Nat) (tn0 : Tok) (kn0 : Nat) (tn2 : Tok) (kn2 : Nat) (ra fa pa : Addr) (tsa tpa : Tok) (kra kfa kpa : Nat) (hd1 : bd.size = pd) (hs1 : bs.size = ps) (h1 : pd ≤ 100) (h2 : ps ≤ 100) (hq3 : q ≤ 3000) (hlo : (pl == sysModules) = false) (hdict : od.IsDictOf (PySem.strKind PySem.Challenge.rw_pf0266_01.row.prog w) [(Str.ofString "initial", .ref q0), (Str.ofString "handshake", .ref q1), (Str.ofString "application", .ref q2)]) (hfr : FramesOK w f of0 p0 o0 p1 o1 p2 o2 q) (hm0 : (ids, tupObj [Value.bytes bd ud, Value.bytes bs us] ki) ∈ news) (hm1 : (pl, od) ∈ news) (hm2 : (q0, tupObj [Value.int 0 tn0, Value.none] kn0) ∈ news) (hm3 : (q2, tupObj [Value.int 2 tn2, Value.none] kn2) ∈ news) (hm4 : (R, PySem.W.listOf [.ref ra, .ref rb].toArray kR) ∈ news) (hm5 : (ra, tupObj [Value.str (Str.ofString "initial") tsa, .ref fa] kra) ∈ news) (hm6 : (fa, PySem.W.listOf [.ref pa].toArray kfa) ∈ news) (hm7 : (pa, tupObj [Value.str (Str.ofString "ping") tpa] kpa) ∈ news) (hm8 : (rb, tupObj [Value.str (Str.ofString "application") tsb, .ref f] krb) ∈ news) (hm9 : (f, of0) ∈ news) (hm10 : (p0, o0) ∈ news) (hm11 : (p1, o1) ∈ news) (hm12 : (p2, o2) ∈ news) : CSC w 208 news [.ref ids, .ref pl, .ref R] 6 (IntIs (((psz 1 pd ps 1 : Nat) : Int) + ((psz 0 pd 0 q : Nat) : Int))) := by
  unfold CSC
  intro mean mg mb dp un gd cn cs a ccd cl outer A₀ base h₀ L m s Q E B F X N T hk hd hu hret
  have hl : ∀ q9 ∈ news, q9 ∈ news := fun _ h => h
  k_extra "csc_enter"
  change Fr g' L' h' (Mine.mapL [(Str.ofString "rows", Value.ref R), (Str.ofString "places", Value.ref pl), (Str.ofString "ids", Value.ref ids)]) at F'
  refine Mine.wpC_fold ?_
  intro qf' hqf'
  k_extra "steps"
  all_goals exact intIs_of (by omega)
theorem lines_PK_1 : True := by
  k_with "steps" => (repeat' (first
    | ((with_reducible show wpAny _ _ (eval (PySem.Expr.Name _ _) (PyProof.Rows.envOf _ _ _ _ _)) _ _ _); first | (refine' Mine.nameM ?Fzq ?vzq ?_ rfl ?bzq ?czq; (case bzq => with_reducible first | exact k215_rows _ | exact k215_lack _ | exact k215_space _ | exact k215_frames _); (case Fzq => with_reducible assumption); (case vzq => first | (with_reducible exact Mine.lk0) | ((with_reducible refine' Mine.lk1 ?_) <;> decide +kernel) | ((with_reducible refine' Mine.lk2 ?_ ?_) <;> decide +kernel) | ((with_reducible refine' Mine.lk3 ?_ ?_ ?_) <;> decide +kernel) | ((with_reducible refine' Mine.lk4 ?_ ?_ ?_ ?_) <;> decide +kernel) | ((with_reducible refine' Mine.lk5 ?_ ?_ ?_ ?_ ?_) <;> decide +kernel) | ((with_reducible refine' Mine.lk6 ?_ ?_ ?_ ?_ ?_ ?_) <;> decide +kernel) | ((with_reducible refine' Mine.lk7 ?_ ?_ ?_ ?_ ?_ ?_ ?_) <;> decide +kernel) | ((with_reducible refine' Mine.lk8 ?_ ?_ ?_ ?_ ?_ ?_ ?_ ?_) <;> decide +kernel) | ((with_reducible refine' Mine.lk9 ?_ ?_ ?_ ?_ ?_ ?_ ?_ ?_ ?_) <;> decide +kernel)); (case czq => decide +kernel)) | ((first | have F' := Mine.fr_mapLX (by with_reducible assumption) | have F' := Mine.fr_mapL (m := fun _ => none) (by with_reducible assumption)); refine' Mine.nameM ?Fzq ?vzq ?_ rfl ?bzq ?czq; (case bzq => with_reducible first | exact k215_rows _ | exact k215_lack _ | exact k215_space _ | exact k215_frames _); (case Fzq => with_reducible assumption); (case vzq => first | (with_reducible exact Mine.lk0) | ((with_reducible refine' Mine.lk1 ?_) <;> decide +kernel) | ((with_reducible refine' Mine.lk2 ?_ ?_) <;> decide +kernel) | ((with_reducible refine' Mine.lk3 ?_ ?_ ?_) <;> decide +kernel) | ((with_reducible refine' Mine.lk4 ?_ ?_ ?_ ?_) <;> decide +kernel) | ((with_reducible refine' Mine.lk5 ?_ ?_ ?_ ?_ ?_) <;> decide +kernel) | ((with_reducible refine' Mine.lk6 ?_ ?_ ?_ ?_ ?_ ?_) <;> decide +kernel) | ((with_reducible refine' Mine.lk7 ?_ ?_ ?_ ?_ ?_ ?_ ?_) <;> decide +kernel) | ((with_reducible refine' Mine.lk8 ?_ ?_ ?_ ?_ ?_ ?_ ?_ ?_) <;> decide +kernel) | ((with_reducible refine' Mine.lk9 ?_ ?_ ?_ ?_ ?_ ?_ ?_ ?_ ?_) <;> decide +kernel)); (case czq => decide +kernel)) | (refine' nameX_K ?Fzq ?Xzq ?Tzq ?ezq ?_ rfl ?bzq ?czq; (case bzq => rfl); (case Fzq => k_asm); (case Xzq => k_asm); (case ezq => k_is); (case Tzq => k_asm); (case czq => decide +kernel)) | (refine' nameX_B ?Fzq ?Xzq ?Tzq ?ezq ?vzq ?nzq ?_ rfl ?bzq ?czq; (case bzq => rfl); (case Fzq => k_asm); (case Xzq => k_asm); (case ezq => k_is); (case Tzq => k_asm); (case vzq => boot_fast); (case nzq => decide +kernel); (case czq => decide +kernel)) | (refine' nameX_L ?Fzq ?vzq ?_ rfl ?bzq ?czq; (case bzq => with_reducible first | exact k215_rows _ | exact k215_lack _ | exact k215_space _ | exact k215_frames _); (case Fzq => k_asm); (case vzq => rfl); (case czq => decide +kernel)))
    | ((with_reducible show wpAny _ _ (storeName (PyProof.Rows.envOf _ _ _ _ _) _ _) _ _ _); first | (refine' Mine.storeM ?Fzq ?Nzq ?_ rfl ?bzq; (case bzq => with_reducible first | exact k215_rows _ | exact k215_lack _ | exact k215_space _ | exact k215_frames _); (case Fzq => with_reducible assumption); (case Nzq => with_reducible assumption); intro h' k' F' N'; (try k_sweep)) | ((first | have F' := Mine.fr_mapLX (by with_reducible assumption) | have F' := Mine.fr_mapL (m := fun _ => none) (by with_reducible assumption)); refine' Mine.storeM ?Fzq ?Nzq ?_ rfl ?bzq; (case bzq => with_reducible first | exact k215_rows _ | exact k215_lack _ | exact k215_space _ | exact k215_frames _); (case Fzq => with_reducible assumption); (case Nzq => with_reducible assumption); intro h' k' F' N'; (try k_sweep)) | (refine' Mine.storeG ?Fzq ?Nzq ?_ rfl ?bzq; (case bzq => with_reducible first | exact k215_rows _ | exact k215_lack _ | exact k215_space _ | exact k215_frames _); (case Fzq => k_asm); (case Nzq => k_asm); intro h' k' F' N'; (try replace F' := Mine.fr_mapL F'); (try k_sweep)))
    | k_extra "core"
    | (k_unfold; (try dsimp only))
    | (k_end; wrow_close)
    | ((first | (with_reducible show wpAny _ _ (eval (PySem.Expr.Slice _ _ _ _) _) _ _ _) | (with_reducible show wpAny _ _ (evalPart _ _) _ _ _)); walk1)
    | (walk1; (try dsimp only))
    | (dsimp only; walk1)
    | (leave1; walk_say "STEP leave1"; try dsimp only)
    | fail "no step"))
  trivial
def PadPost_one_0 (sp : Str) (tsb : Tok) (p0 : Addr) (n : Int) (u : Tok) (v : Value) (new : List (Addr × Obj)) : Prop :=
  ∃ f' r' fr' pp k1 k2 k3 k4 tp, v = .ref f' ∧ new = [(f', PySem.W.listOf [Value.ref r'].toArray k1), (r', tupObj [Value.str sp tsb, Value.ref fr'] k2), (fr', PySem.W.listOf [Value.ref p0, Value.ref pp].toArray k3), (pp, tupObj [Value.str (Str.ofString "padding") tp, Value.int n u] k4)]
theorem cs_ret_pad_one_0 {sp : Str} {tsb : Tok} {p0 : Addr} {n : Int} {u : Tok} {s : Shared} {Q : Value → Shared → Prop} {h₀ h' : Heap} {L f' r' fr' pp : Addr} {mm : Str → Option Value} {k1 k2 k3 k4 tk' : Nat} {tp : Tok} {news' led news : List (Addr × Obj)}
    (ret : ∀ v new h' tk', PadPost_one_0 sp tsb p0 n u v new → Fr h₀ L h' mm → News h₀ L h' (new ++ news) → Q v { s with heap := h', toks := tk' }) (F : Fr h₀ L h' mm) (N : News h₀ L h' news')
    (m1 : (f', PySem.W.listOf [Value.ref r'].toArray k1) ∈ news') (m2 : (r', tupObj [Value.str sp tsb, Value.ref fr'] k2) ∈ news') (m3 : (fr', PySem.W.listOf [Value.ref p0, Value.ref pp].toArray k3) ∈ news') (m4 : (pp, tupObj [Value.str (Str.ofString "padding") tp, Value.int n u] k4) ∈ news') (hs : SubL led news') : Back h₀ L led news (Q (.ref f') { s with heap := h', toks := tk' }) h' :=
  cs_retN (new := [_, _, _, _]) ret F N ⟨m1, m2, m3, m4, trivial⟩ hs ⟨_, _, _, _, _, _, _, _, _, rfl, rfl⟩
theorem lines_PK_2 : True := by
  k_with "steps" => (repeat' (first
    | ((with_reducible show wpAny _ _ (eval (PySem.Expr.Name _ _) (PyProof.Rows.envOf _ _ _ _ _)) _ _ _); first | (refine' Mine.nameM ?Fzq ?vzq ?_ rfl ?bzq ?czq; (case bzq => with_reducible first | exact k215_rows _ | exact k215_lack _ | exact k215_space _ | exact k215_frames _); (case Fzq => with_reducible assumption); (case vzq => first | (with_reducible exact Mine.lk0) | ((with_reducible refine' Mine.lk1 ?_) <;> decide +kernel) | ((with_reducible refine' Mine.lk2 ?_ ?_) <;> decide +kernel) | ((with_reducible refine' Mine.lk3 ?_ ?_ ?_) <;> decide +kernel) | ((with_reducible refine' Mine.lk4 ?_ ?_ ?_ ?_) <;> decide +kernel) | ((with_reducible refine' Mine.lk5 ?_ ?_ ?_ ?_ ?_) <;> decide +kernel) | ((with_reducible refine' Mine.lk6 ?_ ?_ ?_ ?_ ?_ ?_) <;> decide +kernel) | ((with_reducible refine' Mine.lk7 ?_ ?_ ?_ ?_ ?_ ?_ ?_) <;> decide +kernel) | ((with_reducible refine' Mine.lk8 ?_ ?_ ?_ ?_ ?_ ?_ ?_ ?_) <;> decide +kernel) | ((with_reducible refine' Mine.lk9 ?_ ?_ ?_ ?_ ?_ ?_ ?_ ?_ ?_) <;> decide +kernel)); (case czq => decide +kernel)) | ((first | have F' := Mine.fr_mapLX (by with_reducible assumption) | have F' := Mine.fr_mapL (m := fun _ => none) (by with_reducible assumption)); refine' Mine.nameM ?Fzq ?vzq ?_ rfl ?bzq ?czq; (case bzq => with_reducible first | exact k215_rows _ | exact k215_lack _ | exact k215_space _ | exact k215_frames _); (case Fzq => with_reducible assumption); (case vzq => first | (with_reducible exact Mine.lk0) | ((with_reducible refine' Mine.lk1 ?_) <;> decide +kernel) | ((with_reducible refine' Mine.lk2 ?_ ?_) <;> decide +kernel) | ((with_reducible refine' Mine.lk3 ?_ ?_ ?_) <;> decide +kernel) | ((with_reducible refine' Mine.lk4 ?_ ?_ ?_ ?_) <;> decide +kernel) | ((with_reducible refine' Mine.lk5 ?_ ?_ ?_ ?_ ?_) <;> decide +kernel) | ((with_reducible refine' Mine.lk6 ?_ ?_ ?_ ?_ ?_ ?_) <;> decide +kernel) | ((with_reducible refine' Mine.lk7 ?_ ?_ ?_ ?_ ?_ ?_ ?_) <;> decide +kernel) | ((with_reducible refine' Mine.lk8 ?_ ?_ ?_ ?_ ?_ ?_ ?_ ?_) <;> decide +kernel) | ((with_reducible refine' Mine.lk9 ?_ ?_ ?_ ?_ ?_ ?_ ?_ ?_ ?_) <;> decide +kernel)); (case czq => decide +kernel)) | (refine' nameX_K ?Fzq ?Xzq ?Tzq ?ezq ?_ rfl ?bzq ?czq; (case bzq => rfl); (case Fzq => k_asm); (case Xzq => k_asm); (case ezq => k_is); (case Tzq => k_asm); (case czq => decide +kernel)) | (refine' nameX_B ?Fzq ?Xzq ?Tzq ?ezq ?vzq ?nzq ?_ rfl ?bzq ?czq; (case bzq => rfl); (case Fzq => k_asm); (case Xzq => k_asm); (case ezq => k_is); (case Tzq => k_asm); (case vzq => boot_fast); (case nzq => decide +kernel); (case czq => decide +kernel)) | (refine' nameX_L ?Fzq ?vzq ?_ rfl ?bzq ?czq; (case bzq => with_reducible first | exact k215_rows _ | exact k215_lack _ | exact k215_space _ | exact k215_frames _); (case Fzq => k_asm); (case vzq => rfl); (case czq => decide +kernel)))
    | ((with_reducible show wpAny _ _ (storeName (PyProof.Rows.envOf _ _ _ _ _) _ _) _ _ _); first | (refine' Mine.storeM ?Fzq ?Nzq ?_ rfl ?bzq; (case bzq => with_reducible first | exact k215_rows _ | exact k215_lack _ | exact k215_space _ | exact k215_frames _); (case Fzq => with_reducible assumption); (case Nzq => with_reducible assumption); intro h' k' F' N'; (try k_sweep)) | ((first | have F' := Mine.fr_mapLX (by with_reducible assumption) | have F' := Mine.fr_mapL (m := fun _ => none) (by with_reducible assumption)); refine' Mine.storeM ?Fzq ?Nzq ?_ rfl ?bzq; (case bzq => with_reducible first | exact k215_rows _ | exact k215_lack _ | exact k215_space _ | exact k215_frames _); (case Fzq => with_reducible assumption); (case Nzq => with_reducible assumption); intro h' k' F' N'; (try k_sweep)) | (refine' Mine.storeG ?Fzq ?Nzq ?_ rfl ?bzq; (case bzq => with_reducible first | exact k215_rows _ | exact k215_lack _ | exact k215_space _ | exact k215_frames _); (case Fzq => k_asm); (case Nzq => k_asm); intro h' k' F' N'; (try replace F' := Mine.fr_mapL F'); (try k_sweep)))
    | ((with_reducible show Mine.Back _ _ _ _ _ _); (refine' Mine.cs_ret_pad_one_0 ?rzq ?Fzq ?Nzq ?m1zq ?m2zq ?m3zq ?m4zq ?hszq; (case rzq => assumption); (case Fzq => k_asm); (case Nzq => k_asm); (case m1zq => k_mem); (case m2zq => k_mem); (case m3zq => k_mem); (case m4zq => k_mem); (case hszq => k_subL)))
    | k_extra "core"
    | (k_unfold; (try dsimp only))
    | (k_end; wrow_close)
    | ((first | (with_reducible show wpAny _ _ (eval (PySem.Expr.Slice _ _ _ _) _) _ _ _) | (with_reducible show wpAny _ _ (evalPart _ _) _ _ _)); walk1)
    | (walk1; (try dsimp only))
    | (dsimp only; walk1)
    | (leave1; walk_say "STEP leave1"; try dsimp only)
    | fail "no step"))
  trivial
theorem padded_rows_one_0 (w : World) (news : List (Addr × Obj)) (R rb f p0 : Addr) (sp : Str) (tsb u : Tok) (kR krb kf : Nat) (n : Int) (hm0 : (R, PySem.W.listOf [.ref rb].toArray kR) ∈ news) (hm1 : (rb, tupObj [Value.str sp tsb, .ref f] krb) ∈ news) (hm2 : (f, PySem.W.listOf [.ref p0].toArray kf) ∈ news) : CS w 215 news [.ref R, .int n u] 1 (PadPost_one_0 sp tsb p0 n u) := by
  unfold CS
  intro mean mg mb dp un gd cn cs a ccd cl outer A₀ base h₀ L m s Q E B F X N T hk hd hu hret
  have hl : ∀ q9 ∈ news, q9 ∈ news := fun _ h => h
  k_extra "cs_enter"
  change Fr g' L' h' (Mine.mapL [(Str.ofString "lack", Value.int n u), (Str.ofString "rows", Value.ref R)]) at F'
  refine Mine.wpAny_fold ?_
  intro qf' hqf'
  k_extra "steps"
  done
def PadPost_one_1 (sp : Str) (tsb : Tok) (p0 : Addr) (p1 : Addr) (n : Int) (u : Tok) (v : Value) (new : List (Addr × Obj)) : Prop :=
  ∃ f' r' fr' pp k1 k2 k3 k4 tp, v = .ref f' ∧ new = [(f', PySem.W.listOf [Value.ref r'].toArray k1), (r', tupObj [Value.str sp tsb, Value.ref fr'] k2), (fr', PySem.W.listOf [Value.ref p0, Value.ref p1, Value.ref pp].toArray k3), (pp, tupObj [Value.str (Str.ofString "padding") tp, Value.int n u] k4)]
theorem cs_ret_pad_one_1 {sp : Str} {tsb : Tok} {p0 : Addr} {p1 : Addr} {n : Int} {u : Tok} {s : Shared} {Q : Value → Shared → Prop} {h₀ h' : Heap} {L f' r' fr' pp : Addr} {mm : Str → Option Value} {k1 k2 k3 k4 tk' : Nat} {tp : Tok} {news' led news : List (Addr × Obj)}
    (ret : ∀ v new h' tk', PadPost_one_1 sp tsb p0 p1 n u v new → Fr h₀ L h' mm → News h₀ L h' (new ++ news) → Q v { s with heap := h', toks := tk' }) (F : Fr h₀ L h' mm) (N : News h₀ L h' news')
    (m1 : (f', PySem.W.listOf [Value.ref r'].toArray k1) ∈ news') (m2 : (r', tupObj [Value.str sp tsb, Value.ref fr'] k2) ∈ news') (m3 : (fr', PySem.W.listOf [Value.ref p0, Value.ref p1, Value.ref pp].toArray k3) ∈ news') (m4 : (pp, tupObj [Value.str (Str.ofString "padding") tp, Value.int n u] k4) ∈ news') (hs : SubL led news') : Back h₀ L led news (Q (.ref f') { s with heap := h', toks := tk' }) h' :=
  cs_retN (new := [_, _, _, _]) ret F N ⟨m1, m2, m3, m4, trivial⟩ hs ⟨_, _, _, _, _, _, _, _, _, rfl, rfl⟩
theorem lines_PK_3 : True := by
  k_with "steps" => (repeat' (first
    | ((with_reducible show wpAny _ _ (eval (PySem.Expr.Name _ _) (PyProof.Rows.envOf _ _ _ _ _)) _ _ _); first | (refine' Mine.nameM ?Fzq ?vzq ?_ rfl ?bzq ?czq; (case bzq => with_reducible first | exact k215_rows _ | exact k215_lack _ | exact k215_space _ | exact k215_frames _); (case Fzq => with_reducible assumption); (case vzq => first | (with_reducible exact Mine.lk0) | ((with_reducible refine' Mine.lk1 ?_) <;> decide +kernel) | ((with_reducible refine' Mine.lk2 ?_ ?_) <;> decide +kernel) | ((with_reducible refine' Mine.lk3 ?_ ?_ ?_) <;> decide +kernel) | ((with_reducible refine' Mine.lk4 ?_ ?_ ?_ ?_) <;> decide +kernel) | ((with_reducible refine' Mine.lk5 ?_ ?_ ?_ ?_ ?_) <;> decide +kernel) | ((with_reducible refine' Mine.lk6 ?_ ?_ ?_ ?_ ?_ ?_) <;> decide +kernel) | ((with_reducible refine' Mine.lk7 ?_ ?_ ?_ ?_ ?_ ?_ ?_) <;> decide +kernel) | ((with_reducible refine' Mine.lk8 ?_ ?_ ?_ ?_ ?_ ?_ ?_ ?_) <;> decide +kernel) | ((with_reducible refine' Mine.lk9 ?_ ?_ ?_ ?_ ?_ ?_ ?_ ?_ ?_) <;> decide +kernel)); (case czq => decide +kernel)) | ((first | have F' := Mine.fr_mapLX (by with_reducible assumption) | have F' := Mine.fr_mapL (m := fun _ => none) (by with_reducible assumption)); refine' Mine.nameM ?Fzq ?vzq ?_ rfl ?bzq ?czq; (case bzq => with_reducible first | exact k215_rows _ | exact k215_lack _ | exact k215_space _ | exact k215_frames _); (case Fzq => with_reducible assumption); (case vzq => first | (with_reducible exact Mine.lk0) | ((with_reducible refine' Mine.lk1 ?_) <;> decide +kernel) | ((with_reducible refine' Mine.lk2 ?_ ?_) <;> decide +kernel) | ((with_reducible refine' Mine.lk3 ?_ ?_ ?_) <;> decide +kernel) | ((with_reducible refine' Mine.lk4 ?_ ?_ ?_ ?_) <;> decide +kernel) | ((with_reducible refine' Mine.lk5 ?_ ?_ ?_ ?_ ?_) <;> decide +kernel) | ((with_reducible refine' Mine.lk6 ?_ ?_ ?_ ?_ ?_ ?_) <;> decide +kernel) | ((with_reducible refine' Mine.lk7 ?_ ?_ ?_ ?_ ?_ ?_ ?_) <;> decide +kernel) | ((with_reducible refine' Mine.lk8 ?_ ?_ ?_ ?_ ?_ ?_ ?_ ?_) <;> decide +kernel) | ((with_reducible refine' Mine.lk9 ?_ ?_ ?_ ?_ ?_ ?_ ?_ ?_ ?_) <;> decide +kernel)); (case czq => decide +kernel)) | (refine' nameX_K ?Fzq ?Xzq ?Tzq ?ezq ?_ rfl ?bzq ?czq; (case bzq => rfl); (case Fzq => k_asm); (case Xzq => k_asm); (case ezq => k_is); (case Tzq => k_asm); (case czq => decide +kernel)) | (refine' nameX_B ?Fzq ?Xzq ?Tzq ?ezq ?vzq ?nzq ?_ rfl ?bzq ?czq; (case bzq => rfl); (case Fzq => k_asm); (case Xzq => k_asm); (case ezq => k_is); (case Tzq => k_asm); (case vzq => boot_fast); (case nzq => decide +kernel); (case czq => decide +kernel)) | (refine' nameX_L ?Fzq ?vzq ?_ rfl ?bzq ?czq; (case bzq => with_reducible first | exact k215_rows _ | exact k215_lack _ | exact k215_space _ | exact k215_frames _); (case Fzq => k_asm); (case vzq => rfl); (case czq => decide +kernel)))
    | ((with_reducible show wpAny _ _ (storeName (PyProof.Rows.envOf _ _ _ _ _) _ _) _ _ _); first | (refine' Mine.storeM ?Fzq ?Nzq ?_ rfl ?bzq; (case bzq => with_reducible first | exact k215_rows _ | exact k215_lack _ | exact k215_space _ | exact k215_frames _); (case Fzq => with_reducible assumption); (case Nzq => with_reducible assumption); intro h' k' F' N'; (try k_sweep)) | ((first | have F' := Mine.fr_mapLX (by with_reducible assumption) | have F' := Mine.fr_mapL (m := fun _ => none) (by with_reducible assumption)); refine' Mine.storeM ?Fzq ?Nzq ?_ rfl ?bzq; (case bzq => with_reducible first | exact k215_rows _ | exact k215_lack _ | exact k215_space _ | exact k215_frames _); (case Fzq => with_reducible assumption); (case Nzq => with_reducible assumption); intro h' k' F' N'; (try k_sweep)) | (refine' Mine.storeG ?Fzq ?Nzq ?_ rfl ?bzq; (case bzq => with_reducible first | exact k215_rows _ | exact k215_lack _ | exact k215_space _ | exact k215_frames _); (case Fzq => k_asm); (case Nzq => k_asm); intro h' k' F' N'; (try replace F' := Mine.fr_mapL F'); (try k_sweep)))
    | ((with_reducible show Mine.Back _ _ _ _ _ _); (refine' Mine.cs_ret_pad_one_1 ?rzq ?Fzq ?Nzq ?m1zq ?m2zq ?m3zq ?m4zq ?hszq; (case rzq => assumption); (case Fzq => k_asm); (case Nzq => k_asm); (case m1zq => k_mem); (case m2zq => k_mem); (case m3zq => k_mem); (case m4zq => k_mem); (case hszq => k_subL)))
    | ((with_reducible show Mine.Back _ _ _ _ _ _); (refine' Mine.cs_ret_pad_one_0 ?rzq ?Fzq ?Nzq ?m1zq ?m2zq ?m3zq ?m4zq ?hszq; (case rzq => assumption); (case Fzq => k_asm); (case Nzq => k_asm); (case m1zq => k_mem); (case m2zq => k_mem); (case m3zq => k_mem); (case m4zq => k_mem); (case hszq => k_subL)))
    | k_extra "core"
    | (k_unfold; (try dsimp only))
    | (k_end; wrow_close)
    | ((first | (with_reducible show wpAny _ _ (eval (PySem.Expr.Slice _ _ _ _) _) _ _ _) | (with_reducible show wpAny _ _ (evalPart _ _) _ _ _)); walk1)
    | (walk1; (try dsimp only))
    | (dsimp only; walk1)
    | (leave1; walk_say "STEP leave1"; try dsimp only)
    | fail "no step"))
  trivial
theorem padded_rows_one_1 (w : World) (news : List (Addr × Obj)) (R rb f p0 : Addr) (p1 : Addr) (sp : Str) (tsb u : Tok) (kR krb kf : Nat) (n : Int) (hm0 : (R, PySem.W.listOf [.ref rb].toArray kR) ∈ news) (hm1 : (rb, tupObj [Value.str sp tsb, .ref f] krb) ∈ news) (hm2 : (f, PySem.W.listOf [.ref p0, .ref p1].toArray kf) ∈ news) : CS w 215 news [.ref R, .int n u] 1 (PadPost_one_1 sp tsb p0 p1 n u) := by
  unfold CS
  intro mean mg mb dp un gd cn cs a ccd cl outer A₀ base h₀ L m s Q E B F X N T hk hd hu hret
  have hl : ∀ q9 ∈ news, q9 ∈ news := fun _ h => h
  k_extra "cs_enter"
  change Fr g' L' h' (Mine.mapL [(Str.ofString "lack", Value.int n u), (Str.ofString "rows", Value.ref R)]) at F'
  refine Mine.wpAny_fold ?_
  intro qf' hqf'
  k_extra "steps"
  done
def PadPost_two_0 (ra : Addr) (sp : Str) (tsb : Tok) (p0 : Addr) (n : Int) (u : Tok) (v : Value) (new : List (Addr × Obj)) : Prop :=
  ∃ f' r' fr' pp k1 k2 k3 k4 tp, v = .ref f' ∧ new = [(f', PySem.W.listOf [Value.ref ra, Value.ref r'].toArray k1), (r', tupObj [Value.str sp tsb, Value.ref fr'] k2), (fr', PySem.W.listOf [Value.ref p0, Value.ref pp].toArray k3), (pp, tupObj [Value.str (Str.ofString "padding") tp, Value.int n u] k4)]
theorem cs_ret_pad_two_0 {ra : Addr} {sp : Str} {tsb : Tok} {p0 : Addr} {n : Int} {u : Tok} {s : Shared} {Q : Value → Shared → Prop} {h₀ h' : Heap} {L f' r' fr' pp : Addr} {mm : Str → Option Value} {k1 k2 k3 k4 tk' : Nat} {tp : Tok} {news' led news : List (Addr × Obj)}
    (ret : ∀ v new h' tk', PadPost_two_0 ra sp tsb p0 n u v new → Fr h₀ L h' mm → News h₀ L h' (new ++ news) → Q v { s with heap := h', toks := tk' }) (F : Fr h₀ L h' mm) (N : News h₀ L h' news')
    (m1 : (f', PySem.W.listOf [Value.ref ra, Value.ref r'].toArray k1) ∈ news') (m2 : (r', tupObj [Value.str sp tsb, Value.ref fr'] k2) ∈ news') (m3 : (fr', PySem.W.listOf [Value.ref p0, Value.ref pp].toArray k3) ∈ news') (m4 : (pp, tupObj [Value.str (Str.ofString "padding") tp, Value.int n u] k4) ∈ news') (hs : SubL led news') : Back h₀ L led news (Q (.ref f') { s with heap := h', toks := tk' }) h' :=
  cs_retN (new := [_, _, _, _]) ret F N ⟨m1, m2, m3, m4, trivial⟩ hs ⟨_, _, _, _, _, _, _, _, _, rfl, rfl⟩
theorem lines_PK_4 : True := by
  k_with "steps" => (repeat' (first
    | ((with_reducible show wpAny _ _ (eval (PySem.Expr.Name _ _) (PyProof.Rows.envOf _ _ _ _ _)) _ _ _); first | (refine' Mine.nameM ?Fzq ?vzq ?_ rfl ?bzq ?czq; (case bzq => with_reducible first | exact k215_rows _ | exact k215_lack _ | exact k215_space _ | exact k215_frames _); (case Fzq => with_reducible assumption); (case vzq => first | (with_reducible exact Mine.lk0) | ((with_reducible refine' Mine.lk1 ?_) <;> decide +kernel) | ((with_reducible refine' Mine.lk2 ?_ ?_) <;> decide +kernel) | ((with_reducible refine' Mine.lk3 ?_ ?_ ?_) <;> decide +kernel) | ((with_reducible refine' Mine.lk4 ?_ ?_ ?_ ?_) <;> decide +kernel) | ((with_reducible refine' Mine.lk5 ?_ ?_ ?_ ?_ ?_) <;> decide +kernel) | ((with_reducible refine' Mine.lk6 ?_ ?_ ?_ ?_ ?_ ?_) <;> decide +kernel) | ((with_reducible refine' Mine.lk7 ?_ ?_ ?_ ?_ ?_ ?_ ?_) <;> decide +kernel) | ((with_reducible refine' Mine.lk8 ?_ ?_ ?_ ?_ ?_ ?_ ?_ ?_) <;> decide +kernel) | ((with_reducible refine' Mine.lk9 ?_ ?_ ?_ ?_ ?_ ?_ ?_ ?_ ?_) <;> decide +kernel)); (case czq => decide +kernel)) | ((first | have F' := Mine.fr_mapLX (by with_reducible assumption) | have F' := Mine.fr_mapL (m := fun _ => none) (by with_reducible assumption)); refine' Mine.nameM ?Fzq ?vzq ?_ rfl ?bzq ?czq; (case bzq => with_reducible first | exact k215_rows _ | exact k215_lack _ | exact k215_space _ | exact k215_frames _); (case Fzq => with_reducible assumption); (case vzq => first | (with_reducible exact Mine.lk0) | ((with_reducible refine' Mine.lk1 ?_) <;> decide +kernel) | ((with_reducible refine' Mine.lk2 ?_ ?_) <;> decide +kernel) | ((with_reducible refine' Mine.lk3 ?_ ?_ ?_) <;> decide +kernel) | ((with_reducible refine' Mine.lk4 ?_ ?_ ?_ ?_) <;> decide +kernel) | ((with_reducible refine' Mine.lk5 ?_ ?_ ?_ ?_ ?_) <;> decide +kernel) | ((with_reducible refine' Mine.lk6 ?_ ?_ ?_ ?_ ?_ ?_) <;> decide +kernel) | ((with_reducible refine' Mine.lk7 ?_ ?_ ?_ ?_ ?_ ?_ ?_) <;> decide +kernel) | ((with_reducible refine' Mine.lk8 ?_ ?_ ?_ ?_ ?_ ?_ ?_ ?_) <;> decide +kernel) | ((with_reducible refine' Mine.lk9 ?_ ?_ ?_ ?_ ?_ ?_ ?_ ?_ ?_) <;> decide +kernel)); (case czq => decide +kernel)) | (refine' nameX_K ?Fzq ?Xzq ?Tzq ?ezq ?_ rfl ?bzq ?czq; (case bzq => rfl); (case Fzq => k_asm); (case Xzq => k_asm); (case ezq => k_is); (case Tzq => k_asm); (case czq => decide +kernel)) | (refine' nameX_B ?Fzq ?Xzq ?Tzq ?ezq ?vzq ?nzq ?_ rfl ?bzq ?czq; (case bzq => rfl); (case Fzq => k_asm); (case Xzq => k_asm); (case ezq => k_is); (case Tzq => k_asm); (case vzq => boot_fast); (case nzq => decide +kernel); (case czq => decide +kernel)) | (refine' nameX_L ?Fzq ?vzq ?_ rfl ?bzq ?czq; (case bzq => with_reducible first | exact k215_rows _ | exact k215_lack _ | exact k215_space _ | exact k215_frames _); (case Fzq => k_asm); (case vzq => rfl); (case czq => decide +kernel)))
    | ((with_reducible show wpAny _ _ (storeName (PyProof.Rows.envOf _ _ _ _ _) _ _) _ _ _); first | (refine' Mine.storeM ?Fzq ?Nzq ?_ rfl ?bzq; (case bzq => with_reducible first | exact k215_rows _ | exact k215_lack _ | exact k215_space _ | exact k215_frames _); (case Fzq => with_reducible assumption); (case Nzq => with_reducible assumption); intro h' k' F' N'; (try k_sweep)) | ((first | have F' := Mine.fr_mapLX (by with_reducible assumption) | have F' := Mine.fr_mapL (m := fun _ => none) (by with_reducible assumption)); refine' Mine.storeM ?Fzq ?Nzq ?_ rfl ?bzq; (case bzq => with_reducible first | exact k215_rows _ | exact k215_lack _ | exact k215_space _ | exact k215_frames _); (case Fzq => with_reducible assumption); (case Nzq => with_reducible assumption); intro h' k' F' N'; (try k_sweep)) | (refine' Mine.storeG ?Fzq ?Nzq ?_ rfl ?bzq; (case bzq => with_reducible first | exact k215_rows _ | exact k215_lack _ | exact k215_space _ | exact k215_frames _); (case Fzq => k_asm); (case Nzq => k_asm); intro h' k' F' N'; (try replace F' := Mine.fr_mapL F'); (try k_sweep)))
    | ((with_reducible show Mine.Back _ _ _ _ _ _); (refine' Mine.cs_ret_pad_two_0 ?rzq ?Fzq ?Nzq ?m1zq ?m2zq ?m3zq ?m4zq ?hszq; (case rzq => assumption); (case Fzq => k_asm); (case Nzq => k_asm); (case m1zq => k_mem); (case m2zq => k_mem); (case m3zq => k_mem); (case m4zq => k_mem); (case hszq => k_subL)))
    | ((with_reducible show Mine.Back _ _ _ _ _ _); (refine' Mine.cs_ret_pad_one_1 ?rzq ?Fzq ?Nzq ?m1zq ?m2zq ?m3zq ?m4zq ?hszq; (case rzq => assumption); (case Fzq => k_asm); (case Nzq => k_asm); (case m1zq => k_mem); (case m2zq => k_mem); (case m3zq => k_mem); (case m4zq => k_mem); (case hszq => k_subL)))
    | ((with_reducible show Mine.Back _ _ _ _ _ _); (refine' Mine.cs_ret_pad_one_0 ?rzq ?Fzq ?Nzq ?m1zq ?m2zq ?m3zq ?m4zq ?hszq; (case rzq => assumption); (case Fzq => k_asm); (case Nzq => k_asm); (case m1zq => k_mem); (case m2zq => k_mem); (case m3zq => k_mem); (case m4zq => k_mem); (case hszq => k_subL)))
    | k_extra "core"
    | (k_unfold; (try dsimp only))
    | (k_end; wrow_close)
    | ((first | (with_reducible show wpAny _ _ (eval (PySem.Expr.Slice _ _ _ _) _) _ _ _) | (with_reducible show wpAny _ _ (evalPart _ _) _ _ _)); walk1)
    | (walk1; (try dsimp only))
    | (dsimp only; walk1)
    | (leave1; walk_say "STEP leave1"; try dsimp only)
    | fail "no step"))
  trivial
theorem padded_rows_two_0 (w : World) (news : List (Addr × Obj)) (R rb f p0 : Addr) (ra : Addr) (sp : Str) (tsb u : Tok) (kR krb kf : Nat) (n : Int) (hm0 : (R, PySem.W.listOf [.ref ra, .ref rb].toArray kR) ∈ news) (hm1 : (rb, tupObj [Value.str sp tsb, .ref f] krb) ∈ news) (hm2 : (f, PySem.W.listOf [.ref p0].toArray kf) ∈ news) : CS w 215 news [.ref R, .int n u] 1 (PadPost_two_0 ra sp tsb p0 n u) := by
  unfold CS
  intro mean mg mb dp un gd cn cs a ccd cl outer A₀ base h₀ L m s Q E B F X N T hk hd hu hret
  have hl : ∀ q9 ∈ news, q9 ∈ news := fun _ h => h
  k_extra "cs_enter"
  change Fr g' L' h' (Mine.mapL [(Str.ofString "lack", Value.int n u), (Str.ofString "rows", Value.ref R)]) at F'
  refine Mine.wpAny_fold ?_
  intro qf' hqf'
  k_extra "steps"
  done
def PadPost_two_1 (ra : Addr) (sp : Str) (tsb : Tok) (p0 : Addr) (p1 : Addr) (n : Int) (u : Tok) (v : Value) (new : List (Addr × Obj)) : Prop :=
  ∃ f' r' fr' pp k1 k2 k3 k4 tp, v = .ref f' ∧ new = [(f', PySem.W.listOf [Value.ref ra, Value.ref r'].toArray k1), (r', tupObj [Value.str sp tsb, Value.ref fr'] k2), (fr', PySem.W.listOf [Value.ref p0, Value.ref p1, Value.ref pp].toArray k3), (pp, tupObj [Value.str (Str.ofString "padding") tp, Value.int n u] k4)]
theorem cs_ret_pad_two_1 {ra : Addr} {sp : Str} {tsb : Tok} {p0 : Addr} {p1 : Addr} {n : Int} {u : Tok} {s : Shared} {Q : Value → Shared → Prop} {h₀ h' : Heap} {L f' r' fr' pp : Addr} {mm : Str → Option Value} {k1 k2 k3 k4 tk' : Nat} {tp : Tok} {news' led news : List (Addr × Obj)}
    (ret : ∀ v new h' tk', PadPost_two_1 ra sp tsb p0 p1 n u v new → Fr h₀ L h' mm → News h₀ L h' (new ++ news) → Q v { s with heap := h', toks := tk' }) (F : Fr h₀ L h' mm) (N : News h₀ L h' news')
    (m1 : (f', PySem.W.listOf [Value.ref ra, Value.ref r'].toArray k1) ∈ news') (m2 : (r', tupObj [Value.str sp tsb, Value.ref fr'] k2) ∈ news') (m3 : (fr', PySem.W.listOf [Value.ref p0, Value.ref p1, Value.ref pp].toArray k3) ∈ news') (m4 : (pp, tupObj [Value.str (Str.ofString "padding") tp, Value.int n u] k4) ∈ news') (hs : SubL led news') : Back h₀ L led news (Q (.ref f') { s with heap := h', toks := tk' }) h' :=
  cs_retN (new := [_, _, _, _]) ret F N ⟨m1, m2, m3, m4, trivial⟩ hs ⟨_, _, _, _, _, _, _, _, _, rfl, rfl⟩
theorem lines_PK_5 : True := by
  k_with "steps" => (repeat' (first
    | ((with_reducible show wpAny _ _ (eval (PySem.Expr.Name _ _) (PyProof.Rows.envOf _ _ _ _ _)) _ _ _); first | (refine' Mine.nameM ?Fzq ?vzq ?_ rfl ?bzq ?czq; (case bzq => with_reducible first | exact k215_rows _ | exact k215_lack _ | exact k215_space _ | exact k215_frames _); (case Fzq => with_reducible assumption); (case vzq => first | (with_reducible exact Mine.lk0) | ((with_reducible refine' Mine.lk1 ?_) <;> decide +kernel) | ((with_reducible refine' Mine.lk2 ?_ ?_) <;> decide +kernel) | ((with_reducible refine' Mine.lk3 ?_ ?_ ?_) <;> decide +kernel) | ((with_reducible refine' Mine.lk4 ?_ ?_ ?_ ?_) <;> decide +kernel) | ((with_reducible refine' Mine.lk5 ?_ ?_ ?_ ?_ ?_) <;> decide +kernel) | ((with_reducible refine' Mine.lk6 ?_ ?_ ?_ ?_ ?_ ?_) <;> decide +kernel) | ((with_reducible refine' Mine.lk7 ?_ ?_ ?_ ?_ ?_ ?_ ?_) <;> decide +kernel) | ((with_reducible refine' Mine.lk8 ?_ ?_ ?_ ?_ ?_ ?_ ?_ ?_) <;> decide +kernel) | ((with_reducible refine' Mine.lk9 ?_ ?_ ?_ ?_ ?_ ?_ ?_ ?_ ?_) <;> decide +kernel)); (case czq => decide +kernel)) | ((first | have F' := Mine.fr_mapLX (by with_reducible assumption) | have F' := Mine.fr_mapL (m := fun _ => none) (by with_reducible assumption)); refine' Mine.nameM ?Fzq ?vzq ?_ rfl ?bzq ?czq; (case bzq => with_reducible first | exact k215_rows _ | exact k215_lack _ | exact k215_space _ | exact k215_frames _); (case Fzq => with_reducible assumption); (case vzq => first | (with_reducible exact Mine.lk0) | ((with_reducible refine' Mine.lk1 ?_) <;> decide +kernel) | ((with_reducible refine' Mine.lk2 ?_ ?_) <;> decide +kernel) | ((with_reducible refine' Mine.lk3 ?_ ?_ ?_) <;> decide +kernel) | ((with_reducible refine' Mine.lk4 ?_ ?_ ?_ ?_) <;> decide +kernel) | ((with_reducible refine' Mine.lk5 ?_ ?_ ?_ ?_ ?_) <;> decide +kernel) | ((with_reducible refine' Mine.lk6 ?_ ?_ ?_ ?_ ?_ ?_) <;> decide +kernel) | ((with_reducible refine' Mine.lk7 ?_ ?_ ?_ ?_ ?_ ?_ ?_) <;> decide +kernel) | ((with_reducible refine' Mine.lk8 ?_ ?_ ?_ ?_ ?_ ?_ ?_ ?_) <;> decide +kernel) | ((with_reducible refine' Mine.lk9 ?_ ?_ ?_ ?_ ?_ ?_ ?_ ?_ ?_) <;> decide +kernel)); (case czq => decide +kernel)) | (refine' nameX_K ?Fzq ?Xzq ?Tzq ?ezq ?_ rfl ?bzq ?czq; (case bzq => rfl); (case Fzq => k_asm); (case Xzq => k_asm); (case ezq => k_is); (case Tzq => k_asm); (case czq => decide +kernel)) | (refine' nameX_B ?Fzq ?Xzq ?Tzq ?ezq ?vzq ?nzq ?_ rfl ?bzq ?czq; (case bzq => rfl); (case Fzq => k_asm); (case Xzq => k_asm); (case ezq => k_is); (case Tzq => k_asm); (case vzq => boot_fast); (case nzq => decide +kernel); (case czq => decide +kernel)) | (refine' nameX_L ?Fzq ?vzq ?_ rfl ?bzq ?czq; (case bzq => with_reducible first | exact k215_rows _ | exact k215_lack _ | exact k215_space _ | exact k215_frames _); (case Fzq => k_asm); (case vzq => rfl); (case czq => decide +kernel)))
    | ((with_reducible show wpAny _ _ (storeName (PyProof.Rows.envOf _ _ _ _ _) _ _) _ _ _); first | (refine' Mine.storeM ?Fzq ?Nzq ?_ rfl ?bzq; (case bzq => with_reducible first | exact k215_rows _ | exact k215_lack _ | exact k215_space _ | exact k215_frames _); (case Fzq => with_reducible assumption); (case Nzq => with_reducible assumption); intro h' k' F' N'; (try k_sweep)) | ((first | have F' := Mine.fr_mapLX (by with_reducible assumption) | have F' := Mine.fr_mapL (m := fun _ => none) (by with_reducible assumption)); refine' Mine.storeM ?Fzq ?Nzq ?_ rfl ?bzq; (case bzq => with_reducible first | exact k215_rows _ | exact k215_lack _ | exact k215_space _ | exact k215_frames _); (case Fzq => with_reducible assumption); (case Nzq => with_reducible assumption); intro h' k' F' N'; (try k_sweep)) | (refine' Mine.storeG ?Fzq ?Nzq ?_ rfl ?bzq; (case bzq => with_reducible first | exact k215_rows _ | exact k215_lack _ | exact k215_space _ | exact k215_frames _); (case Fzq => k_asm); (case Nzq => k_asm); intro h' k' F' N'; (try replace F' := Mine.fr_mapL F'); (try k_sweep)))
    | ((with_reducible show Mine.Back _ _ _ _ _ _); (refine' Mine.cs_ret_pad_two_1 ?rzq ?Fzq ?Nzq ?m1zq ?m2zq ?m3zq ?m4zq ?hszq; (case rzq => assumption); (case Fzq => k_asm); (case Nzq => k_asm); (case m1zq => k_mem); (case m2zq => k_mem); (case m3zq => k_mem); (case m4zq => k_mem); (case hszq => k_subL)))
    | ((with_reducible show Mine.Back _ _ _ _ _ _); (refine' Mine.cs_ret_pad_two_0 ?rzq ?Fzq ?Nzq ?m1zq ?m2zq ?m3zq ?m4zq ?hszq; (case rzq => assumption); (case Fzq => k_asm); (case Nzq => k_asm); (case m1zq => k_mem); (case m2zq => k_mem); (case m3zq => k_mem); (case m4zq => k_mem); (case hszq => k_subL)))
    | ((with_reducible show Mine.Back _ _ _ _ _ _); (refine' Mine.cs_ret_pad_one_1 ?rzq ?Fzq ?Nzq ?m1zq ?m2zq ?m3zq ?m4zq ?hszq; (case rzq => assumption); (case Fzq => k_asm); (case Nzq => k_asm); (case m1zq => k_mem); (case m2zq => k_mem); (case m3zq => k_mem); (case m4zq => k_mem); (case hszq => k_subL)))
    | ((with_reducible show Mine.Back _ _ _ _ _ _); (refine' Mine.cs_ret_pad_one_0 ?rzq ?Fzq ?Nzq ?m1zq ?m2zq ?m3zq ?m4zq ?hszq; (case rzq => assumption); (case Fzq => k_asm); (case Nzq => k_asm); (case m1zq => k_mem); (case m2zq => k_mem); (case m3zq => k_mem); (case m4zq => k_mem); (case hszq => k_subL)))
    | k_extra "core"
    | (k_unfold; (try dsimp only))
    | (k_end; wrow_close)
    | ((first | (with_reducible show wpAny _ _ (eval (PySem.Expr.Slice _ _ _ _) _) _ _ _) | (with_reducible show wpAny _ _ (evalPart _ _) _ _ _)); walk1)
    | (walk1; (try dsimp only))
    | (dsimp only; walk1)
    | (leave1; walk_say "STEP leave1"; try dsimp only)
    | fail "no step"))
  trivial
theorem padded_rows_two_1 (w : World) (news : List (Addr × Obj)) (R rb f p0 : Addr) (p1 : Addr) (ra : Addr) (sp : Str) (tsb u : Tok) (kR krb kf : Nat) (n : Int) (hm0 : (R, PySem.W.listOf [.ref ra, .ref rb].toArray kR) ∈ news) (hm1 : (rb, tupObj [Value.str sp tsb, .ref f] krb) ∈ news) (hm2 : (f, PySem.W.listOf [.ref p0, .ref p1].toArray kf) ∈ news) : CS w 215 news [.ref R, .int n u] 1 (PadPost_two_1 ra sp tsb p0 p1 n u) := by
  unfold CS
  intro mean mg mb dp un gd cn cs a ccd cl outer A₀ base h₀ L m s Q E B F X N T hk hd hu hret
  have hl : ∀ q9 ∈ news, q9 ∈ news := fun _ h => h
  k_extra "cs_enter"
  change Fr g' L' h' (Mine.mapL [(Str.ofString "lack", Value.int n u), (Str.ofString "rows", Value.ref R)]) at F'
  refine Mine.wpAny_fold ?_
  intro qf' hqf'
  k_extra "steps"
  done
theorem lines_PL_1 : True := by
  k_with "steps" => (repeat' (first
    | ((with_reducible show wpAny _ _ (eval (PySem.Expr.Name _ _) (PyProof.Rows.envOf _ _ _ _ _)) _ _ _); first | (refine' Mine.nameM ?Fzq ?vzq ?_ rfl ?bzq ?czq; (case bzq => with_reducible first | exact k222_ids _ | exact k222_places _ | exact k222_rows _ | exact k222_goal _ | exact k222_size _ | exact k222_found _ | exact k222_lack _ | exact k222_gap _); (case Fzq => with_reducible assumption); (case vzq => first | (with_reducible exact Mine.lk0) | ((with_reducible refine' Mine.lk1 ?_) <;> decide +kernel) | ((with_reducible refine' Mine.lk2 ?_ ?_) <;> decide +kernel) | ((with_reducible refine' Mine.lk3 ?_ ?_ ?_) <;> decide +kernel) | ((with_reducible refine' Mine.lk4 ?_ ?_ ?_ ?_) <;> decide +kernel) | ((with_reducible refine' Mine.lk5 ?_ ?_ ?_ ?_ ?_) <;> decide +kernel) | ((with_reducible refine' Mine.lk6 ?_ ?_ ?_ ?_ ?_ ?_) <;> decide +kernel) | ((with_reducible refine' Mine.lk7 ?_ ?_ ?_ ?_ ?_ ?_ ?_) <;> decide +kernel) | ((with_reducible refine' Mine.lk8 ?_ ?_ ?_ ?_ ?_ ?_ ?_ ?_) <;> decide +kernel) | ((with_reducible refine' Mine.lk9 ?_ ?_ ?_ ?_ ?_ ?_ ?_ ?_ ?_) <;> decide +kernel)); (case czq => decide +kernel)) | ((first | have F' := Mine.fr_mapLX (by with_reducible assumption) | have F' := Mine.fr_mapL (m := fun _ => none) (by with_reducible assumption)); refine' Mine.nameM ?Fzq ?vzq ?_ rfl ?bzq ?czq; (case bzq => with_reducible first | exact k222_ids _ | exact k222_places _ | exact k222_rows _ | exact k222_goal _ | exact k222_size _ | exact k222_found _ | exact k222_lack _ | exact k222_gap _); (case Fzq => with_reducible assumption); (case vzq => first | (with_reducible exact Mine.lk0) | ((with_reducible refine' Mine.lk1 ?_) <;> decide +kernel) | ((with_reducible refine' Mine.lk2 ?_ ?_) <;> decide +kernel) | ((with_reducible refine' Mine.lk3 ?_ ?_ ?_) <;> decide +kernel) | ((with_reducible refine' Mine.lk4 ?_ ?_ ?_ ?_) <;> decide +kernel) | ((with_reducible refine' Mine.lk5 ?_ ?_ ?_ ?_ ?_) <;> decide +kernel) | ((with_reducible refine' Mine.lk6 ?_ ?_ ?_ ?_ ?_ ?_) <;> decide +kernel) | ((with_reducible refine' Mine.lk7 ?_ ?_ ?_ ?_ ?_ ?_ ?_) <;> decide +kernel) | ((with_reducible refine' Mine.lk8 ?_ ?_ ?_ ?_ ?_ ?_ ?_ ?_) <;> decide +kernel) | ((with_reducible refine' Mine.lk9 ?_ ?_ ?_ ?_ ?_ ?_ ?_ ?_ ?_) <;> decide +kernel)); (case czq => decide +kernel)) | (refine' nameX_K ?Fzq ?Xzq ?Tzq ?ezq ?_ rfl ?bzq ?czq; (case bzq => with_reducible first | exact k222_rows_size _ | exact k222_padded_rows _); (case Fzq => k_asm); (case Xzq => k_asm); (case ezq => with_reducible first | exact g_padded_rows _ | exact g_rows_size _); (case Tzq => k_asm); (case czq => decide +kernel)) | (refine' nameX_B ?Fzq ?Xzq ?Tzq ?ezq ?vzq ?nzq ?_ rfl ?bzq ?czq; (case bzq => with_reducible first | exact k222_rows_size _ | exact k222_padded_rows _); (case Fzq => k_asm); (case Xzq => k_asm); (case ezq => k_is); (case Tzq => k_asm); (case vzq => boot_fast); (case nzq => decide +kernel); (case czq => decide +kernel)) | (refine' nameX_L ?Fzq ?vzq ?_ rfl ?bzq ?czq; (case bzq => with_reducible first | exact k222_ids _ | exact k222_places _ | exact k222_rows _ | exact k222_goal _ | exact k222_size _ | exact k222_found _ | exact k222_lack _ | exact k222_gap _); (case Fzq => k_asm); (case vzq => rfl); (case czq => decide +kernel)))
    | ((with_reducible show wpAny _ _ (storeName (PyProof.Rows.envOf _ _ _ _ _) _ _) _ _ _); first | (refine' Mine.storeM ?Fzq ?Nzq ?_ rfl ?bzq; (case bzq => with_reducible first | exact k222_ids _ | exact k222_places _ | exact k222_rows _ | exact k222_goal _ | exact k222_size _ | exact k222_found _ | exact k222_lack _ | exact k222_gap _); (case Fzq => with_reducible assumption); (case Nzq => with_reducible assumption); intro h' k' F' N'; (try k_sweep)) | ((first | have F' := Mine.fr_mapLX (by with_reducible assumption) | have F' := Mine.fr_mapL (m := fun _ => none) (by with_reducible assumption)); refine' Mine.storeM ?Fzq ?Nzq ?_ rfl ?bzq; (case bzq => with_reducible first | exact k222_ids _ | exact k222_places _ | exact k222_rows _ | exact k222_goal _ | exact k222_size _ | exact k222_found _ | exact k222_lack _ | exact k222_gap _); (case Fzq => with_reducible assumption); (case Nzq => with_reducible assumption); intro h' k' F' N'; (try k_sweep)) | (refine' Mine.storeG ?Fzq ?Nzq ?_ rfl ?bzq; (case bzq => with_reducible first | exact k222_ids _ | exact k222_places _ | exact k222_rows _ | exact k222_goal _ | exact k222_size _ | exact k222_found _ | exact k222_lack _ | exact k222_gap _); (case Fzq => k_asm); (case Nzq => k_asm); intro h' k' F' N'; (try replace F' := Mine.fr_mapL F'); (try k_sweep)))
    | ((with_reducible show Mine.wpC _ _ (eval (PySem.Expr.Call (PySem.Expr.Name (PySem.Str.ofString "rows_size") _) _ _ _) _) _ _ _); refine' Mine.wpC_Call _ _ ?hezq ?_; (case hezq => rfl))
    | k_extra "core"
    | (k_unfold; (try dsimp only))
    | (k_end; wrow_close)
    | ((first | (with_reducible show wpAny _ _ (eval (PySem.Expr.Slice _ _ _ _) _) _ _ _) | (with_reducible show wpAny _ _ (evalPart _ _) _ _ _)); walk1)
    | (walk1; (try dsimp only))
    | (dsimp only; walk1)
    | (leave1; walk_say "STEP leave1"; try dsimp only)
    | fail "no step"))
  trivial
theorem lines_PL_2 : True := by
  k_with "sub9" => (first | exact fun _ h => h | exact fun _ h => .tail _ h | exact fun _ h => .tail _ (.tail _ h) | exact fun _ h => List.mem_append_right _ h | exact fun p hp => (List.mem_append.mp hp).elim (fun h => List.mem_append_left _ h) (fun h => List.mem_append_right _ (List.mem_append_right _ h)))
  k_with "ldm9" => (first | assumption | exact if_pos rfl | (refine (if_neg (by decide)).trans ?_; k_extra "ldm9"))
  k_with "steps" => (repeat' (first
    | ((with_reducible show wpAny _ _ (eval (PySem.Expr.Name _ _) (PyProof.Rows.envOf _ _ _ _ _)) _ _ _); first | (refine' Mine.nameM ?Fzq ?vzq ?_ rfl ?bzq ?czq; (case bzq => with_reducible first | exact k222_ids _ | exact k222_places _ | exact k222_rows _ | exact k222_goal _ | exact k222_size _ | exact k222_found _ | exact k222_lack _ | exact k222_gap _); (case Fzq => with_reducible assumption); (case vzq => first | (with_reducible exact Mine.lk0) | ((with_reducible refine' Mine.lk1 ?_) <;> decide +kernel) | ((with_reducible refine' Mine.lk2 ?_ ?_) <;> decide +kernel) | ((with_reducible refine' Mine.lk3 ?_ ?_ ?_) <;> decide +kernel) | ((with_reducible refine' Mine.lk4 ?_ ?_ ?_ ?_) <;> decide +kernel) | ((with_reducible refine' Mine.lk5 ?_ ?_ ?_ ?_ ?_) <;> decide +kernel) | ((with_reducible refine' Mine.lk6 ?_ ?_ ?_ ?_ ?_ ?_) <;> decide +kernel) | ((with_reducible refine' Mine.lk7 ?_ ?_ ?_ ?_ ?_ ?_ ?_) <;> decide +kernel) | ((with_reducible refine' Mine.lk8 ?_ ?_ ?_ ?_ ?_ ?_ ?_ ?_) <;> decide +kernel) | ((with_reducible refine' Mine.lk9 ?_ ?_ ?_ ?_ ?_ ?_ ?_ ?_ ?_) <;> decide +kernel)); (case czq => decide +kernel)) | ((first | have F' := Mine.fr_mapLX (by with_reducible assumption) | have F' := Mine.fr_mapL (m := fun _ => none) (by with_reducible assumption)); refine' Mine.nameM ?Fzq ?vzq ?_ rfl ?bzq ?czq; (case bzq => with_reducible first | exact k222_ids _ | exact k222_places _ | exact k222_rows _ | exact k222_goal _ | exact k222_size _ | exact k222_found _ | exact k222_lack _ | exact k222_gap _); (case Fzq => with_reducible assumption); (case vzq => first | (with_reducible exact Mine.lk0) | ((with_reducible refine' Mine.lk1 ?_) <;> decide +kernel) | ((with_reducible refine' Mine.lk2 ?_ ?_) <;> decide +kernel) | ((with_reducible refine' Mine.lk3 ?_ ?_ ?_) <;> decide +kernel) | ((with_reducible refine' Mine.lk4 ?_ ?_ ?_ ?_) <;> decide +kernel) | ((with_reducible refine' Mine.lk5 ?_ ?_ ?_ ?_ ?_) <;> decide +kernel) | ((with_reducible refine' Mine.lk6 ?_ ?_ ?_ ?_ ?_ ?_) <;> decide +kernel) | ((with_reducible refine' Mine.lk7 ?_ ?_ ?_ ?_ ?_ ?_ ?_) <;> decide +kernel) | ((with_reducible refine' Mine.lk8 ?_ ?_ ?_ ?_ ?_ ?_ ?_ ?_) <;> decide +kernel) | ((with_reducible refine' Mine.lk9 ?_ ?_ ?_ ?_ ?_ ?_ ?_ ?_ ?_) <;> decide +kernel)); (case czq => decide +kernel)) | (refine' nameX_K ?Fzq ?Xzq ?Tzq ?ezq ?_ rfl ?bzq ?czq; (case bzq => with_reducible first | exact k222_rows_size _ | exact k222_padded_rows _); (case Fzq => k_asm); (case Xzq => k_asm); (case ezq => with_reducible first | exact g_padded_rows _ | exact g_rows_size _); (case Tzq => k_asm); (case czq => decide +kernel)) | (refine' nameX_B ?Fzq ?Xzq ?Tzq ?ezq ?vzq ?nzq ?_ rfl ?bzq ?czq; (case bzq => with_reducible first | exact k222_rows_size _ | exact k222_padded_rows _); (case Fzq => k_asm); (case Xzq => k_asm); (case ezq => k_is); (case Tzq => k_asm); (case vzq => boot_fast); (case nzq => decide +kernel); (case czq => decide +kernel)) | (refine' nameX_L ?Fzq ?vzq ?_ rfl ?bzq ?czq; (case bzq => with_reducible first | exact k222_ids _ | exact k222_places _ | exact k222_rows _ | exact k222_goal _ | exact k222_size _ | exact k222_found _ | exact k222_lack _ | exact k222_gap _); (case Fzq => k_asm); (case vzq => rfl); (case czq => decide +kernel)))
    | ((with_reducible show wpAny _ _ (storeName (PyProof.Rows.envOf _ _ _ _ _) _ _) _ _ _); first | (refine' Mine.storeM ?Fzq ?Nzq ?_ rfl ?bzq; (case bzq => with_reducible first | exact k222_ids _ | exact k222_places _ | exact k222_rows _ | exact k222_goal _ | exact k222_size _ | exact k222_found _ | exact k222_lack _ | exact k222_gap _); (case Fzq => with_reducible assumption); (case Nzq => with_reducible assumption); intro h' k' F' N'; (try k_sweep)) | ((first | have F' := Mine.fr_mapLX (by with_reducible assumption) | have F' := Mine.fr_mapL (m := fun _ => none) (by with_reducible assumption)); refine' Mine.storeM ?Fzq ?Nzq ?_ rfl ?bzq; (case bzq => with_reducible first | exact k222_ids _ | exact k222_places _ | exact k222_rows _ | exact k222_goal _ | exact k222_size _ | exact k222_found _ | exact k222_lack _ | exact k222_gap _); (case Fzq => with_reducible assumption); (case Nzq => with_reducible assumption); intro h' k' F' N'; (try k_sweep)) | (refine' Mine.storeG ?Fzq ?Nzq ?_ rfl ?bzq; (case bzq => with_reducible first | exact k222_ids _ | exact k222_places _ | exact k222_rows _ | exact k222_goal _ | exact k222_size _ | exact k222_found _ | exact k222_lack _ | exact k222_gap _); (case Fzq => k_asm); (case Nzq => k_asm); intro h' k' F' N'; (try replace F' := Mine.fr_mapL F'); (try k_sweep)))
    | ((with_reducible show Mine.wpC _ _ (eval (PySem.Expr.Call (PySem.Expr.Name (PySem.Str.ofString "rows_size") _) _ _ _) _) _ _ _); refine' Mine.wpC_Call _ _ ?hezq ?_; (case hezq => rfl))
    | ((with_reducible show wpAny _ _ (loadName _ _) _ _ _); k_dflt (refine' Mine.ld_name ?fzq ?lzq ?xzq ?_ ?azq ?bzq; (case fzq => k_asm); (case lzq => rfl); (case xzq => k_extra "ldm9"); (case azq => rfl); (case bzq => rfl)))
    | ((with_reducible show wpAny _ _ (eval (Expr.Name _ _) _) _ _ _); k_dflt (refine' Mine.ld_frame ?fzq ?lzq ?xzq ?_ ?azq ?bzq ?czq; (case fzq => k_asm); (case lzq => rfl); (case xzq => k_extra "ldm9"); (case azq => rfl); (case bzq => rfl); (case czq => decide)))
    | ((with_reducible show wpAny _ _ (call (Value.ref 215) _) _ _ _); k_dflt (refine' Mine.cs_use (Mine.padOK_use ?hfzq ?p0zq ?p1zq ?p2zq) ?k1zq ?k2zq ?k3zq ?k4zq ?k5zq ?kKzq ?kdzq ?kuzq ?_; (case k4zq => with_reducible assumption); (case hfzq => assumption); (case p0zq => k_extra "sub9"); (case p1zq => omega); (case p2zq => omega); (case k1zq => with_reducible assumption); (case k2zq => with_reducible assumption); (case k3zq => with_reducible assumption); (case k5zq => with_reducible assumption); (case kKzq => first | exact rfl | assumption); (case kdzq => first | exact Mine.room_of (by assumption) (by decide) | ktr_room); (case kuzq => first | exact Mine.units_of (by assumption) (by decide) | ktr_units)); intro r9 n9 h9 tk9 hp9 F9 N9; obtain ⟨f9, e9, g9, i9⟩ := hp9; subst e9; (try simp only [List.nil_append, List.cons_append] at N9); (try dsimp only))
    | ((with_reducible show Mine.wpC _ _ (call (Value.ref 208) _ _) _ _ _); k_dflt (refine' Mine.csc_use_int (Mine.rowsOK_use ?hfzq ?p0zq) ?k1zq ?k2zq ?k3zq ?k4zq ?k5zq ?kKzq ?kdzq ?kuzq ?_; (case k4zq => with_reducible assumption); (case hfzq => assumption); (case p0zq => k_extra "sub9"); (case k1zq => with_reducible assumption); (case k2zq => with_reducible assumption); (case k3zq => with_reducible assumption); (case k5zq => with_reducible assumption); (case kKzq => first | exact rfl | assumption); (case kdzq => first | exact Mine.room_of (by assumption) (by decide) | ktr_room); (case kuzq => first | exact Mine.units_of (by assumption) (by decide) | ktr_units)); intro u9 h9 tk9 F9 N9; (try dsimp only))
    | ((with_reducible show Mine.wpC _ _ (eval (Expr.Tuple _ _ _) _) _ _ _); k_dflt (refine Mine.wpC_Tuple ?_))
    | ((with_reducible show Mine.wpC _ _ (exec (Stmt.Assign [Expr.Tuple _ _ _] _ _) _) _ _ _); k_dflt (first | refine Mine.wpC_Assign_Tuple rfl rfl ?_ | refine Mine.wpC_Assign_Tuple_swapped rfl rfl ?_))
    | ((with_reducible show Mine.wpC _ _ (exec (Stmt.While _ _ _ _) _) _ _ _); refine Mine.wpC_While ?_)
    | k_extra "core"
    | (k_unfold; (try dsimp only))
    | (k_end; wrow_close)
    | ((first | (with_reducible show wpAny _ _ (eval (PySem.Expr.Slice _ _ _ _) _) _ _ _) | (with_reducible show wpAny _ _ (evalPart _ _) _ _ _)); walk1)
    | (walk1; (try dsimp only))
    | (dsimp only; walk1)
    | (leave1; walk_say "STEP leave1"; try dsimp only)
    | fail "no step"))
  trivial
theorem full_rows_A (w : World) (news base : List (Addr × Obj)) (ids pl R : Addr) (T : Int → Int) (Fd : Int → Addr → List (Addr × Obj) → Prop) (goal size : Int) (tg ts : Tok) (n0 : Nat) (res : Int)
    (hR : RowsOK w ids pl R base (T 0)) (hP : PadOK w ids pl R base T Fd) (hl : ∀ q9 ∈ base, q9 ∈ news) (hgo : goT T goal n0 0 = some res) (hres : res ≤ 1000) :
    CSC w 222 news [.ref ids, .ref pl, .ref R, .int goal tg, .int size ts] 7 (FullPost R Fd (fullLack T size res)) := by
  unfold CSC
  intro mean mg mb dp un gd cn cs a ccd cl outer A₀ base' h₀ L m s Q E B F X N T' hk hd hu hret
  k_extra "csc_enter"
  k_extra "steps"
  refine' Mine.while_full (w := w) (ids := ids) (pl := pl) (R := R) (base := base) (T := T) (Fd := Fd) (goal := goal) (fx := [(Str.ofString "rows", .ref R), (Str.ofString "ids", .ref ids), (Str.ofString "places", .ref pl), (Str.ofString "goal", .int goal tg), (Str.ofString "size", .int size ts)]) (res := res) ?turn n0 R [] 0 _ _ _ ?init
  case init =>
    refine fullAt_init (by assumption) (by assumption) (fun p hp => .tail _ hp) (by k_extra "ldm9") (by k_extra "ldm9") (by k_extra "ldm9") ?_ hR hgo
    intro x hx
    simp only [List.mem_cons, List.not_mem_nil, or_false] at hx
    rcases hx with rfl | rfl | rfl | rfl | rfl <;> rfl
  case turn =>
    intro n fd es k h t m7 H
    obtain ⟨F7, N7, hf7, ⟨tl, hlk⟩, ⟨tgp, hgp⟩, hfx, hisF, hpos, hgo'⟩ := H
    obtain ⟨hst, hrk⟩ := hisF
    have a1 : m7 (Str.ofString "rows") = some (.ref R) := hfx (Str.ofString "rows", .ref R) (by simp)
    have a2 : m7 (Str.ofString "ids") = some (.ref ids) := hfx (Str.ofString "ids", .ref ids) (by simp)
    have a3 : m7 (Str.ofString "places") = some (.ref pl) := hfx (Str.ofString "places", .ref pl) (by simp)
    have a4 : m7 (Str.ofString "goal") = some (.int goal tg) := hfx (Str.ofString "goal", .int goal tg) (by simp)
    have a5 : m7 (Str.ofString "size") = some (.int size ts) := hfx (Str.ofString "size", .int size ts) (by simp)
    have hkr := goT_ge hgo'
    have hle : goal - T k > 0 → k + (goal - T k) ≤ res := fun hc => by
      obtain ⟨n', _, hn⟩ := goT_on hgo' hc
      exact goT_ge hn
    have hst' : ¬ goal - T k > 0 → res = k := goT_stop hgo'
    k_extra "steps"
    · show LoopOn w ids pl R base T Fd goal _ _ _ n res _ _
      refine' loopOn_intro hgo' ?yc hpos ?yF ?yN ?ys ?y1 ?y2 ?y3 ?yx ?yh ?yr
      case yF => k_asm
      case yN => k_asm
      case yh => assumption
      case yr => assumption
      case yc => assumption
      case ys => k_extra "sub9"
      case y1 => k_extra "ldm9"
      case y2 => k_extra "ldm9"
      case y3 => k_extra "ldm9"
      case yx =>
        intro x hx
        simp only [List.mem_cons, List.not_mem_nil, or_false] at hx
        rcases hx with rfl | rfl | rfl | rfl | rfl <;> k_extra "ldm9"
    · refine' cs_retN hret ?yF ?yN ?yn ?ys ?yp
      case yF => k_asm
      case yN => k_asm
      case yp => exact fullPost_found hst (hst' (by assumption)) (by assumption)
      case yn => exact subL_of fun p hp => List.mem_append_left _ hp
      case ys => exact subL_of fun p hp => List.mem_append_right _ hp
    · refine' cs_retN hret ?zF ?zN ?zn ?zs ?zp
      case zF => k_asm
      case zN => k_asm
      case zp => exact fullPost_less (hst' (by assumption)) (by assumption) (by assumption) (by assumption)
      case zn => exact subL_of fun p hp => List.mem_append_left _ hp
      case zs => exact subL_of fun p hp => List.mem_append_right _ (List.mem_append_right _ hp)
    · refine' cs_retN hret ?wF ?wN ?wn ?ws ?wp
      case wF => k_asm
      case wN => k_asm
      case wp => exact fullPost_rows (hst' (by assumption)) (by assumption) (by assumption)
      case wn => exact trivial
      case ws => exact subL_of fun p hp => List.mem_append_right _ hp
end Mine
namespace Mine
open PySem.Calls
theorem psz_lsz (kind d s q : Nat) : ((psz kind d s q : Nat) : Int) = lsz kind d s q := by
  have e : (if (3 : Int) > (q : Int) then (3 : Int) else (q : Int)) = ((max q 3 : Nat) : Int) := by
    split <;> omega
  unfold psz lsz
  rw [e]
  generalize max q 3 = m
  have e2 : (if (17 : Int) + (m : Int) < 64 then (1 : Int) else 2) = (((if 17 + m < 64 then 1 else 2 : Nat)) : Int) := by
    split <;> split <;> omega
  rw [e2]
  generalize (if 17 + m < 64 then 1 else 2 : Nat) = c
  match kind with
  | 0 => show ((1 + d + (17 + m) : Nat) : Int) = 1 + (d : Int) + (17 + (m : Int)); omega
  | 1 => show ((7 + d + s + 1 + c + (17 + m) : Nat) : Int) = 7 + (d : Int) + (s : Int) + 1 + (c : Int) + (17 + (m : Int)); omega
  | kind + 2 => show ((7 + d + s + c + (17 + m) : Nat) : Int) = 7 + (d : Int) + (s : Int) + (c : Int) + (17 + (m : Int)); omega
def Places (w : World) (base : List (Addr × Obj)) (pl : Addr) : Prop :=
  ∃ (od : Obj) (q0 q1 q2 : Addr) (tn0 tn1 tn2 : Tok) (kn0 kn1 kn2 : Nat), (pl == sysModules) = false ∧ od.IsDictOf (PySem.strKind PySem.Challenge.rw_pf0266_01.row.prog w) [(Str.ofString "initial", .ref q0), (Str.ofString "handshake", .ref q1), (Str.ofString "application", .ref q2)] ∧
    (pl, od) ∈ base ∧ (q0, tupObj [Value.int 0 tn0, Value.none] kn0) ∈ base ∧ (q1, tupObj [Value.int 1 tn1, Value.none] kn1) ∈ base ∧ (q2, tupObj [Value.int 2 tn2, Value.none] kn2) ∈ base
theorem Places.up {w : World} {base all : List (Addr × Obj)} {pl : Addr} (h : Places w base pl) (hs : ∀ p ∈ base, p ∈ all) : Places w all pl := by
  obtain ⟨od, q0, q1, q2, tn0, tn1, tn2, kn0, kn1, kn2, a, b, c, d, e, f⟩ := h
  exact ⟨od, q0, q1, q2, tn0, tn1, tn2, kn0, kn1, kn2, a, b, hs _ c, hs _ d, hs _ e, hs _ f⟩
def KindOK (w : World) (ids : Addr) (oi : Obj) (pre : List Value) (sp : Str) (extra : List (Addr × Obj)) (LT : Int → Int) : Prop :=
  ∀ (base : List (Addr × Obj)) (pl R rb f p0 p1 p2 : Addr) (of0 o0 o1 o2 : Obj) (qn kR krb : Nat) (tsb : Tok), Places w base pl → (ids, oi) ∈ base → (R, PySem.W.listOf (pre ++ [Value.ref rb]).toArray kR) ∈ base → (rb, tupObj [Value.str sp tsb, .ref f] krb) ∈ base →
    (f, of0) ∈ base → (p0, o0) ∈ base → (p1, o1) ∈ base → (p2, o2) ∈ base → (∀ p ∈ extra, p ∈ base) → FramesOK w f of0 p0 o0 p1 o1 p2 o2 qn → qn ≤ 3000 → RowsOK w ids pl R base (LT (qn : Int))
def twoMore (ra fa pa : Addr) (tsa tpa : Tok) (kra kfa kpa : Nat) : List (Addr × Obj) := [(ra, tupObj [Value.str (Str.ofString "initial") tsa, .ref fa] kra), (fa, PySem.W.listOf [Value.ref pa].toArray kfa), (pa, tupObj [Value.str (Str.ofString "ping") tpa] kpa)]
section
variable {w : World} {ids : Addr} {ki : Nat} {ud us : Tok} {bd bs : Array UInt8}
theorem kind_h (hb : bd.size ≤ 100) (hs : bs.size ≤ 100) : KindOK w ids (tupObj [Value.bytes bd ud, Value.bytes bs us] ki) [] (Str.ofString "handshake") [] (fun x => lsz 2 bd.size bs.size x) := by
  intro base pl R rb f p0 p1 p2 of0 o0 o1 o2 qn kR krb tsb P mi mR mb mf m0 m1 m2 ex hfr hq news hsub
  obtain ⟨od, q0, q1, q2, tn0, tn1, tn2, kn0, kn1, kn2, hlo, hdict, ed, e0, e1, e2⟩ := P
  have h := rows_size_h w news ids pl q0 q1 q2 R rb f p0 p1 p2 od of0 o0 o1 o2 _ _ _ _ _ _ bd bs _ _ qn _ _ rfl rfl hb hs hq hlo hdict hfr (hsub _ mi) (hsub _ ed) (hsub _ e1) (hsub _ mR) (hsub _ mb) (hsub _ mf) (hsub _ m0) (hsub _ m1) (hsub _ m2)
  rw [psz_lsz] at h
  exact h
theorem kind_i (hb : bd.size ≤ 100) (hs : bs.size ≤ 100) : KindOK w ids (tupObj [Value.bytes bd ud, Value.bytes bs us] ki) [] (Str.ofString "initial") [] (fun x => lsz 1 bd.size bs.size x) := by
  intro base pl R rb f p0 p1 p2 of0 o0 o1 o2 qn kR krb tsb P mi mR mb mf m0 m1 m2 ex hfr hq news hsub
  obtain ⟨od, q0, q1, q2, tn0, tn1, tn2, kn0, kn1, kn2, hlo, hdict, ed, e0, e1, e2⟩ := P
  have h := rows_size_i w news ids pl q0 q1 q2 R rb f p0 p1 p2 od of0 o0 o1 o2 _ _ _ _ _ _ bd bs _ _ qn _ _ rfl rfl hb hs hq hlo hdict hfr (hsub _ mi) (hsub _ ed) (hsub _ e0) (hsub _ mR) (hsub _ mb) (hsub _ mf) (hsub _ m0) (hsub _ m1) (hsub _ m2)
  rw [psz_lsz] at h
  exact h
theorem kind_ih {ra fa pa : Addr} {tsa tpa : Tok} {kra kfa kpa : Nat} (hb : bd.size ≤ 100) (hs : bs.size ≤ 100) : KindOK w ids (tupObj [Value.bytes bd ud, Value.bytes bs us] ki) [Value.ref ra] (Str.ofString "handshake") (twoMore ra fa pa tsa tpa kra kfa kpa) (fun x => (7 + (bd.size : Int) + (bs.size : Int) + 1 + 1 + 20) + lsz 2 bd.size bs.size x) := by
  intro base pl R rb f p0 p1 p2 of0 o0 o1 o2 qn kR krb tsb P mi mR mb mf m0 m1 m2 ex hfr hq news hsub
  obtain ⟨od, q0, q1, q2, tn0, tn1, tn2, kn0, kn1, kn2, hlo, hdict, ed, e0, e1, e2⟩ := P
  have h := rows_size_ih w news ids pl q0 q1 q2 R rb f p0 p1 p2 od of0 o0 o1 o2 _ _ _ _ _ _ bd bs _ _ qn _ _ _ _ ra fa pa _ _ _ _ _ rfl rfl hb hs hq hlo hdict hfr (hsub _ mi) (hsub _ ed) (hsub _ e0) (hsub _ e1) (hsub _ mR) (hsub _ (ex _ (.head _))) (hsub _ (ex _ (.tail _ (.head _)))) (hsub _ (ex _ (.tail _ (.tail _ (.head _))))) (hsub _ mb) (hsub _ mf) (hsub _ m0) (hsub _ m1) (hsub _ m2)
  rw [psz_lsz, psz_lsz, show lsz 1 bd.size bs.size ((1 : Nat) : Int) = 7 + (bd.size : Int) + (bs.size : Int) + 1 + 1 + 20 from by simp only [lsz]; omega] at h
  exact h
theorem kind_ia {ra fa pa : Addr} {tsa tpa : Tok} {kra kfa kpa : Nat} (hb : bd.size ≤ 100) (hs : bs.size ≤ 100) : KindOK w ids (tupObj [Value.bytes bd ud, Value.bytes bs us] ki) [Value.ref ra] (Str.ofString "application") (twoMore ra fa pa tsa tpa kra kfa kpa) (fun x => (7 + (bd.size : Int) + (bs.size : Int) + 1 + 1 + 20) + lsz 0 bd.size 0 x) := by
  intro base pl R rb f p0 p1 p2 of0 o0 o1 o2 qn kR krb tsb P mi mR mb mf m0 m1 m2 ex hfr hq news hsub
  obtain ⟨od, q0, q1, q2, tn0, tn1, tn2, kn0, kn1, kn2, hlo, hdict, ed, e0, e1, e2⟩ := P
  have h := rows_size_ia w news ids pl q0 q1 q2 R rb f p0 p1 p2 od of0 o0 o1 o2 _ _ _ _ _ _ bd bs _ _ qn _ _ _ _ ra fa pa _ _ _ _ _ rfl rfl hb hs hq hlo hdict hfr (hsub _ mi) (hsub _ ed) (hsub _ e0) (hsub _ e2) (hsub _ mR) (hsub _ (ex _ (.head _))) (hsub _ (ex _ (.tail _ (.head _)))) (hsub _ (ex _ (.tail _ (.tail _ (.head _))))) (hsub _ mb) (hsub _ mf) (hsub _ m0) (hsub _ m1) (hsub _ m2)
  rw [psz_lsz, psz_lsz, show lsz 1 bd.size bs.size ((1 : Nat) : Int) = 7 + (bd.size : Int) + (bs.size : Int) + 1 + 1 + 20 from by simp only [lsz]; omega] at h
  exact h
end
section
variable {w : World} {ids pl R rb f p0 p1 p2 : Addr} {oi : Obj} {pre : List Value} {sp : Str} {extra base : List (Addr × Obj)} {LT : Int → Int} {kR krb kf k0 k1 k2 : Nat} {tsb t0 t1 t2 u1 u2 : Tok} {q b : Int}
theorem rows_0 (K : KindOK w ids oi pre sp extra LT) (P : Places w base pl) (mi : (ids, oi) ∈ base) (mR : (R, PySem.W.listOf (pre ++ [Value.ref rb]).toArray kR) ∈ base) (mb : (rb, tupObj [Value.str sp tsb, .ref f] krb) ∈ base)
    (mf : (f, PySem.W.listOf [Value.ref p0].toArray kf) ∈ base) (m0 : (p0, tupObj [Value.str (Str.ofString "ping") t0] k0) ∈ base) (ex : ∀ p ∈ extra, p ∈ base) : RowsOK w ids pl R base (LT 1) :=
  K base pl R rb f p0 p0 p0 _ _ _ _ 1 kR krb tsb P mi mR mb mf m0 m0 m0 ex (fun news m m0 _ _ => put_frames_0 w news f p0 kf k0 t0 m m0) (by decide)
theorem rows_1 (K : KindOK w ids oi pre sp extra LT) (P : Places w base pl) (mi : (ids, oi) ∈ base) (mR : (R, PySem.W.listOf (pre ++ [Value.ref rb]).toArray kR) ∈ base) (mb : (rb, tupObj [Value.str sp tsb, .ref f] krb) ∈ base)
    (mf : (f, PySem.W.listOf [Value.ref p0, Value.ref p1].toArray kf) ∈ base) (m0 : (p0, tupObj [Value.str (Str.ofString "ping") t0] k0) ∈ base) (m1 : (p1, tupObj [Value.str (Str.ofString "padding") t1, Value.int q u1] k1) ∈ base) (ex : ∀ p ∈ extra, p ∈ base)
    (h0 : 0 ≤ q) (h1 : q ≤ 1000) : RowsOK w ids pl R base (LT (1 + q)) := by
  have h := K base pl R rb f p0 p1 p1 _ _ _ _ (1 + q.toNat) kR krb tsb P mi mR mb mf m0 m1 m1 ex (fun news m m0 m1 _ => put_frames_1 w news f p0 p1 kf k0 k1 t0 t1 u1 q h0 h1 m m0 m1) (by omega)
  rwa [show ((1 + q.toNat : Nat) : Int) = 1 + q from by omega] at h
theorem rows_2 (K : KindOK w ids oi pre sp extra LT) (P : Places w base pl) (mi : (ids, oi) ∈ base) (mR : (R, PySem.W.listOf (pre ++ [Value.ref rb]).toArray kR) ∈ base) (mb : (rb, tupObj [Value.str sp tsb, .ref f] krb) ∈ base)
    (mf : (f, PySem.W.listOf [Value.ref p0, Value.ref p1, Value.ref p2].toArray kf) ∈ base) (m0 : (p0, tupObj [Value.str (Str.ofString "ping") t0] k0) ∈ base) (m1 : (p1, tupObj [Value.str (Str.ofString "padding") t1, Value.int q u1] k1) ∈ base) (m2 : (p2, tupObj [Value.str (Str.ofString "padding") t2, Value.int b u2] k2) ∈ base) (ex : ∀ p ∈ extra, p ∈ base)
    (h0 : 0 ≤ q) (h1 : q ≤ 1000) (g0 : 0 ≤ b) (g1 : b ≤ 1000) : RowsOK w ids pl R base (LT (1 + q + b)) := by
  have h := K base pl R rb f p0 p1 p2 _ _ _ _ (1 + q.toNat + b.toNat) kR krb tsb P mi mR mb mf m0 m1 m2 ex (fun news m m0 m1 m2 => put_frames_2 w news f p0 p1 p2 kf k0 k1 k2 t0 t1 u1 t2 u2 q b h0 h1 g0 g1 m m0 m1 m2) (by omega)
  rwa [show ((1 + q.toNat + b.toNat : Nat) : Int) = 1 + q + b from by omega] at h
theorem cs_mono {w : World} {f : Addr} {news : List (Addr × Obj)} {vs : List Value} {room : Nat} {Post Post' : Value → List (Addr × Obj) → Prop} (C : CS w f news vs room Post) (hp : ∀ v new, Post v new → Post' v new) : CS w f news vs room Post' := by
  intro mean mg mb dp un gd cn cs a ccd cl outer A₀ base h₀ L m s Q E B F X N T hk hd hu ret
  exact C _ _ _ _ _ _ _ _ _ _ _ _ _ _ _ _ _ _ _ _ B F X N T hk hd hu fun v new h' tk' q => ret v new h' tk' (hp v new q)
theorem pads_one_0 (K : KindOK w ids oi [] sp extra LT) (P : Places w base pl) (mi : (ids, oi) ∈ base) (mR : (R, PySem.W.listOf ([] ++ [Value.ref rb]).toArray kR) ∈ base) (mb : (rb, tupObj [Value.str sp tsb, .ref f] krb) ∈ base)
    (mf : (f, PySem.W.listOf [Value.ref p0].toArray kf) ∈ base) (m0 : (p0, tupObj [Value.str (Str.ofString "ping") t0] k0) ∈ base) (ex : ∀ p ∈ extra, p ∈ base) :
    PadOK w ids pl R base (fun k => LT (1 + k)) (fun k f9 new => ∃ u, PadPost_one_0 sp tsb p0 k u (.ref f9) new) := by
  intro news k u hs hk0 hk1
  have h := padded_rows_one_0 w news R rb f p0 sp tsb u kR krb kf k (hs _ mR) (hs _ mb) (hs _ mf)
  have up : ∀ {new : List (Addr × Obj)}, ∀ p ∈ base, p ∈ new ++ base := fun p hp => List.mem_append_right _ hp
  refine cs_mono h (fun v new hp => ?_)
  have hp' := hp
  obtain ⟨f9, r9, fr9, pp9, c1, c2, c3, c4, tp9, rfl, rfl⟩ := hp'
  refine ⟨f9, rfl, ⟨u, hp⟩, ?_⟩
  · have up : ∀ p ∈ base, p ∈ _ ++ base := fun p hp => List.mem_append_right [(f9, PySem.W.listOf ([] ++ [Value.ref r9]).toArray c1), (r9, tupObj [Value.str sp tsb, Value.ref fr9] c2), (fr9, PySem.W.listOf ([Value.ref p0] ++ [Value.ref pp9]).toArray c3), (pp9, tupObj [Value.str (Str.ofString "padding") tp9, Value.int k u] c4)] hp
    have hn : ∀ p ∈ [(f9, PySem.W.listOf ([] ++ [Value.ref r9]).toArray c1), (r9, tupObj [Value.str sp tsb, Value.ref fr9] c2), (fr9, PySem.W.listOf ([Value.ref p0] ++ [Value.ref pp9]).toArray c3), (pp9, tupObj [Value.str (Str.ofString "padding") tp9, Value.int k u] c4)], p ∈ _ ++ base := fun p hp => List.mem_append_left _ hp
    have hr := rows_1 K (P.up up) (up _ mi) (hn _ (.head _)) (hn _ (.tail _ (.head _))) (hn _ (.tail _ (.tail _ (.head _)))) (up _ m0) (hn _ (.tail _ (.tail _ (.tail _ (.head _))))) (fun p hp => up _ (ex p hp)) (by omega) hk1
    exact hr
theorem pads_one_1 (K : KindOK w ids oi [] sp extra LT) (P : Places w base pl) (mi : (ids, oi) ∈ base) (mR : (R, PySem.W.listOf ([] ++ [Value.ref rb]).toArray kR) ∈ base) (mb : (rb, tupObj [Value.str sp tsb, .ref f] krb) ∈ base)
    (mf : (f, PySem.W.listOf [Value.ref p0, Value.ref p1].toArray kf) ∈ base) (m0 : (p0, tupObj [Value.str (Str.ofString "ping") t0] k0) ∈ base) (m1 : (p1, tupObj [Value.str (Str.ofString "padding") t1, Value.int (q - 1) u1] k1) ∈ base) (ex : ∀ p ∈ extra, p ∈ base) (h0 : 1 ≤ q) (h1 : q ≤ 1000) :
    PadOK w ids pl R base (fun k => LT (q + k)) (fun k f9 new => ∃ u, PadPost_one_1 sp tsb p0 p1 k u (.ref f9) new) := by
  intro news k u hs hk0 hk1
  have h := padded_rows_one_1 w news R rb f p0 p1 sp tsb u kR krb kf k (hs _ mR) (hs _ mb) (hs _ mf)
  have up : ∀ {new : List (Addr × Obj)}, ∀ p ∈ base, p ∈ new ++ base := fun p hp => List.mem_append_right _ hp
  refine cs_mono h (fun v new hp => ?_)
  have hp' := hp
  obtain ⟨f9, r9, fr9, pp9, c1, c2, c3, c4, tp9, rfl, rfl⟩ := hp'
  refine ⟨f9, rfl, ⟨u, hp⟩, ?_⟩
  · have up : ∀ p ∈ base, p ∈ _ ++ base := fun p hp => List.mem_append_right [(f9, PySem.W.listOf ([] ++ [Value.ref r9]).toArray c1), (r9, tupObj [Value.str sp tsb, Value.ref fr9] c2), (fr9, PySem.W.listOf ([Value.ref p0, Value.ref p1] ++ [Value.ref pp9]).toArray c3), (pp9, tupObj [Value.str (Str.ofString "padding") tp9, Value.int k u] c4)] hp
    have hn : ∀ p ∈ [(f9, PySem.W.listOf ([] ++ [Value.ref r9]).toArray c1), (r9, tupObj [Value.str sp tsb, Value.ref fr9] c2), (fr9, PySem.W.listOf ([Value.ref p0, Value.ref p1] ++ [Value.ref pp9]).toArray c3), (pp9, tupObj [Value.str (Str.ofString "padding") tp9, Value.int k u] c4)], p ∈ _ ++ base := fun p hp => List.mem_append_left _ hp
    have hr := rows_2 K (P.up up) (up _ mi) (hn _ (.head _)) (hn _ (.tail _ (.head _))) (hn _ (.tail _ (.tail _ (.head _)))) (up _ m0) (up _ m1) (hn _ (.tail _ (.tail _ (.tail _ (.head _))))) (fun p hp => up _ (ex p hp)) (by omega) (by omega) (by omega) hk1
    rw [show 1 + (q - 1) + k = q + k from by omega] at hr
    exact hr
theorem pads_two_0 {ra : Addr} (K : KindOK w ids oi [Value.ref ra] sp extra LT) (P : Places w base pl) (mi : (ids, oi) ∈ base) (mR : (R, PySem.W.listOf ([Value.ref ra] ++ [Value.ref rb]).toArray kR) ∈ base) (mb : (rb, tupObj [Value.str sp tsb, .ref f] krb) ∈ base)
    (mf : (f, PySem.W.listOf [Value.ref p0].toArray kf) ∈ base) (m0 : (p0, tupObj [Value.str (Str.ofString "ping") t0] k0) ∈ base) (ex : ∀ p ∈ extra, p ∈ base) :
    PadOK w ids pl R base (fun k => LT (1 + k)) (fun k f9 new => ∃ u, PadPost_two_0 ra sp tsb p0 k u (.ref f9) new) := by
  intro news k u hs hk0 hk1
  have h := padded_rows_two_0 w news R rb f p0 ra sp tsb u kR krb kf k (hs _ mR) (hs _ mb) (hs _ mf)
  have up : ∀ {new : List (Addr × Obj)}, ∀ p ∈ base, p ∈ new ++ base := fun p hp => List.mem_append_right _ hp
  refine cs_mono h (fun v new hp => ?_)
  have hp' := hp
  obtain ⟨f9, r9, fr9, pp9, c1, c2, c3, c4, tp9, rfl, rfl⟩ := hp'
  refine ⟨f9, rfl, ⟨u, hp⟩, ?_⟩
  · have up : ∀ p ∈ base, p ∈ _ ++ base := fun p hp => List.mem_append_right [(f9, PySem.W.listOf ([Value.ref ra] ++ [Value.ref r9]).toArray c1), (r9, tupObj [Value.str sp tsb, Value.ref fr9] c2), (fr9, PySem.W.listOf ([Value.ref p0] ++ [Value.ref pp9]).toArray c3), (pp9, tupObj [Value.str (Str.ofString "padding") tp9, Value.int k u] c4)] hp
    have hn : ∀ p ∈ [(f9, PySem.W.listOf ([Value.ref ra] ++ [Value.ref r9]).toArray c1), (r9, tupObj [Value.str sp tsb, Value.ref fr9] c2), (fr9, PySem.W.listOf ([Value.ref p0] ++ [Value.ref pp9]).toArray c3), (pp9, tupObj [Value.str (Str.ofString "padding") tp9, Value.int k u] c4)], p ∈ _ ++ base := fun p hp => List.mem_append_left _ hp
    have hr := rows_1 K (P.up up) (up _ mi) (hn _ (.head _)) (hn _ (.tail _ (.head _))) (hn _ (.tail _ (.tail _ (.head _)))) (up _ m0) (hn _ (.tail _ (.tail _ (.tail _ (.head _))))) (fun p hp => up _ (ex p hp)) (by omega) hk1
    exact hr
theorem pads_two_1 {ra : Addr} (K : KindOK w ids oi [Value.ref ra] sp extra LT) (P : Places w base pl) (mi : (ids, oi) ∈ base) (mR : (R, PySem.W.listOf ([Value.ref ra] ++ [Value.ref rb]).toArray kR) ∈ base) (mb : (rb, tupObj [Value.str sp tsb, .ref f] krb) ∈ base)
    (mf : (f, PySem.W.listOf [Value.ref p0, Value.ref p1].toArray kf) ∈ base) (m0 : (p0, tupObj [Value.str (Str.ofString "ping") t0] k0) ∈ base) (m1 : (p1, tupObj [Value.str (Str.ofString "padding") t1, Value.int (q - 1) u1] k1) ∈ base) (ex : ∀ p ∈ extra, p ∈ base) (h0 : 1 ≤ q) (h1 : q ≤ 1000) :
    PadOK w ids pl R base (fun k => LT (q + k)) (fun k f9 new => ∃ u, PadPost_two_1 ra sp tsb p0 p1 k u (.ref f9) new) := by
  intro news k u hs hk0 hk1
  have h := padded_rows_two_1 w news R rb f p0 p1 ra sp tsb u kR krb kf k (hs _ mR) (hs _ mb) (hs _ mf)
  have up : ∀ {new : List (Addr × Obj)}, ∀ p ∈ base, p ∈ new ++ base := fun p hp => List.mem_append_right _ hp
  refine cs_mono h (fun v new hp => ?_)
  have hp' := hp
  obtain ⟨f9, r9, fr9, pp9, c1, c2, c3, c4, tp9, rfl, rfl⟩ := hp'
  refine ⟨f9, rfl, ⟨u, hp⟩, ?_⟩
  · have up : ∀ p ∈ base, p ∈ _ ++ base := fun p hp => List.mem_append_right [(f9, PySem.W.listOf ([Value.ref ra] ++ [Value.ref r9]).toArray c1), (r9, tupObj [Value.str sp tsb, Value.ref fr9] c2), (fr9, PySem.W.listOf ([Value.ref p0, Value.ref p1] ++ [Value.ref pp9]).toArray c3), (pp9, tupObj [Value.str (Str.ofString "padding") tp9, Value.int k u] c4)] hp
    have hn : ∀ p ∈ [(f9, PySem.W.listOf ([Value.ref ra] ++ [Value.ref r9]).toArray c1), (r9, tupObj [Value.str sp tsb, Value.ref fr9] c2), (fr9, PySem.W.listOf ([Value.ref p0, Value.ref p1] ++ [Value.ref pp9]).toArray c3), (pp9, tupObj [Value.str (Str.ofString "padding") tp9, Value.int k u] c4)], p ∈ _ ++ base := fun p hp => List.mem_append_left _ hp
    have hr := rows_2 K (P.up up) (up _ mi) (hn _ (.head _)) (hn _ (.tail _ (.head _))) (hn _ (.tail _ (.tail _ (.head _)))) (up _ m0) (up _ m1) (hn _ (.tail _ (.tail _ (.tail _ (.head _))))) (fun p hp => up _ (ex p hp)) (by omega) (by omega) (by omega) hk1
    rw [show 1 + (q - 1) + k = q + k from by omega] at hr
    exact hr
end
end Mine
namespace Mine
open PySem.Calls
end Mine
namespace Mine
open PySem.Calls
/-- the loop ends, and what it finds is right -/
def NumEx (LT : Int → Int) (q g sl : Int) : Prop := ∃ res, goT (fun k => LT (q + k)) (LT q + g) 6 0 = some res ∧ res ≤ 1000 ∧ NumR LT q g sl (fullLack (fun k => LT (q + k)) (LT q + g + sl) res)
/-- the state behind the first seven statements -/
structure Mid7 (w : World) (pre prer nmv frm : List Value) (frs extra : List (Addr × Obj)) (sp : Str) (g' : Heap) (L' : Addr) (ids nm sz R0 rb f : Addr) (oi o1 o2 o3 o4 o5 o6 o7 : Obj) (kn ks kR krb kf : Nat) (tsb tq tq2 tg ts tgo : Tok) (LT : Int → Int) (q g sl : Int) (h : Heap) (m : Str → Option Value) : Prop where
  F : Fr g' L' h m
  N : News g' L' h ((L' + 1 + 1 + 1 + 1 + 1 + 1 + 1, o1) :: (L' + 1 + 1 + 1 + 1 + 1 + 1, o2) :: (L' + 1 + 1 + 1 + 1 + 1, o3) :: (L' + 1 + 1 + 1 + 1, o4) :: (L' + 1 + 1 + 1, o5) :: (L' + 1 + 1, o6) :: (L' + 1, o7) ::
    (ids, oi) :: (nm, PySem.W.listOf nmv.toArray kn) :: (sz, PySem.W.listOf (pre ++ [Value.int q tq2]).toArray ks) :: (R0, PySem.W.listOf (prer ++ [Value.ref rb]).toArray kR) :: (rb, tupObj [Value.str sp tsb, .ref f] krb) :: (f, PySem.W.listOf frm.toArray kf) :: (frs ++ extra))
  lt1 : @_root_.LT.lt Nat _ (L' + 1 + 1 + 1 + 1 + 1 + 1 + 1) ids
  lt2 : @_root_.LT.lt Nat _ (L' + 1 + 1 + 1 + 1 + 1 + 1 + 1) nm
  lt3 : @_root_.LT.lt Nat _ (L' + 1 + 1 + 1 + 1 + 1 + 1 + 1) sz
  d7 : o7.data = .cell (some (.int q tq))
  d6 : o6.data = .cell (some (.int sl ts))
  d5 : o5.data = .cell (some (.ref nm))
  d4 : o4.data = .cell (some (.ref ids))
  d3 : o3.data = .cell (some (.ref sz))
  d2 : o2.data = .cell (some (.int (LT q + g) tgo))
  d1 : o1.data = .cell none
  tot : TotOK w ids nm oi (PySem.W.listOf nmv.toArray kn) pre LT
  kind : KindOK w ids oi prer sp extra LT
  num : NumEx LT q g sl
  hsp : PySem.PyData.strOk sp = true
  q0 : 1 ≤ q
  q1 : q ≤ 50
  s0 : 0 ≤ sl
  s1 : sl < 2
  g0 : 0 ≤ g
  g1 : g ≤ 5
  m5 : m (Str.ofString "gap") = some (.int g tg)
  m9 : m (Str.ofString "rows") = some (.ref R0)
def Mid7One0 (w : World) (g' : Heap) (L' : Addr) (h : Heap) : Prop := ∃ sp t0 p0 k0 tp0 ids nm sz R0 rb f oi o1 o2 o3 o4 o5 o6 o7 kn ks kR krb kf tsb tq tq2 tg ts tgo LT q g sl m, q = 1 ∧
  Mid7 w [] [] [.str sp t0] [.ref p0] [(p0, tupObj [Value.str (Str.ofString "ping") tp0] k0)] [] sp g' L' ids nm sz R0 rb f oi o1 o2 o3 o4 o5 o6 o7 kn ks kR krb kf tsb tq tq2 tg ts tgo LT q g sl h m
def Mid7One1 (w : World) (g' : Heap) (L' : Addr) (h : Heap) : Prop := ∃ sp t0 p0 p1 k0 k1 tp0 tp1 u1 ids nm sz R0 rb f oi o1 o2 o3 o4 o5 o6 o7 kn ks kR krb kf tsb tq tq2 tg ts tgo LT q g sl m,
  Mid7 w [] [] [.str sp t0] [.ref p0, .ref p1] [(p0, tupObj [Value.str (Str.ofString "ping") tp0] k0), (p1, tupObj [Value.str (Str.ofString "padding") tp1, Value.int (q - 1) u1] k1)] [] sp g' L' ids nm sz R0 rb f oi o1 o2 o3 o4 o5 o6 o7 kn ks kR krb kf tsb tq tq2 tg ts tgo LT q g sl h m
def Mid7Two0 (w : World) (g' : Heap) (L' : Addr) (h : Heap) : Prop := ∃ sp t0 t1 t2 p0 k0 tp0 ra fa pa tsa tpa kra kfa kpa ids nm sz R0 rb f oi o1 o2 o3 o4 o5 o6 o7 kn ks kR krb kf tsb tq tq2 tg ts tgo LT q g sl m, q = 1 ∧
  Mid7 w [.int 1 t2] [.ref ra] [.str (Str.ofString "initial") t0, .str sp t1] [.ref p0] [(p0, tupObj [Value.str (Str.ofString "ping") tp0] k0)] (twoMore ra fa pa tsa tpa kra kfa kpa) sp g' L' ids nm sz R0 rb f oi o1 o2 o3 o4 o5 o6 o7 kn ks kR krb kf tsb tq tq2 tg ts tgo LT q g sl h m
def Mid7Two1 (w : World) (g' : Heap) (L' : Addr) (h : Heap) : Prop := ∃ sp t0 t1 t2 p0 p1 k0 k1 tp0 tp1 u1 ra fa pa tsa tpa kra kfa kpa ids nm sz R0 rb f oi o1 o2 o3 o4 o5 o6 o7 kn ks kR krb kf tsb tq tq2 tg ts tgo LT q g sl m,
  Mid7 w [.int 1 t2] [.ref ra] [.str (Str.ofString "initial") t0, .str sp t1] [.ref p0, .ref p1] [(p0, tupObj [Value.str (Str.ofString "ping") tp0] k0), (p1, tupObj [Value.str (Str.ofString "padding") tp1, Value.int (q - 1) u1] k1)] (twoMore ra fa pa tsa tpa kra kfa kpa) sp g' L' ids nm sz R0 rb f oi o1 o2 o3 o4 o5 o6 o7 kn ks kR krb kf tsb tq tq2 tg ts tgo LT q g sl h m
def Mid7Any (w : World) (g' : Heap) (L' : Addr) (h : Heap) : Prop := Mid7One0 w g' L' h ∨ Mid7One1 w g' L' h ∨ Mid7Two0 w g' L' h ∨ Mid7Two1 w g' L' h
theorem mid7One0_elim {w : World} {g' : Heap} {L' : Addr} {h : Heap} {P : Prop} (H : Mid7One0 w g' L' h) (k : ∀ sp t0 p0 k0 tp0 ids nm sz R0 rb f oi o1 o2 o3 o4 o5 o6 o7 kn ks kR krb kf tsb tq tq2 tg ts tgo LT q g sl m, q = 1 → Mid7 w [] [] [.str sp t0] [.ref p0] [(p0, tupObj [Value.str (Str.ofString "ping") tp0] k0)] [] sp g' L' ids nm sz R0 rb f oi o1 o2 o3 o4 o5 o6 o7 kn ks kR krb kf tsb tq tq2 tg ts tgo LT q g sl h m → P) : P := by
  exact Exists.elim H fun sp H => Exists.elim H fun t0 H => Exists.elim H fun p0 H => Exists.elim H fun k0 H => Exists.elim H fun tp0 H => Exists.elim H fun ids H => Exists.elim H fun nm H => Exists.elim H fun sz H => Exists.elim H fun R0 H => Exists.elim H fun rb H => Exists.elim H fun f H => Exists.elim H fun oi H => Exists.elim H fun o1 H => Exists.elim H fun o2 H => Exists.elim H fun o3 H => Exists.elim H fun o4 H => Exists.elim H fun o5 H => Exists.elim H fun o6 H => Exists.elim H fun o7 H => Exists.elim H fun kn H => Exists.elim H fun ks H => Exists.elim H fun kR H => Exists.elim H fun krb H => Exists.elim H fun kf H => Exists.elim H fun tsb H => Exists.elim H fun tq H => Exists.elim H fun tq2 H => Exists.elim H fun tg H => Exists.elim H fun ts H => Exists.elim H fun tgo H => Exists.elim H fun LT H => Exists.elim H fun q H => Exists.elim H fun g H => Exists.elim H fun sl H => Exists.elim H fun m H => k sp t0 p0 k0 tp0 ids nm sz R0 rb f oi o1 o2 o3 o4 o5 o6 o7 kn ks kR krb kf tsb tq tq2 tg ts tgo LT q g sl m H.1 H.2
theorem mid7One1_elim {w : World} {g' : Heap} {L' : Addr} {h : Heap} {P : Prop} (H : Mid7One1 w g' L' h) (k : ∀ sp t0 p0 p1 k0 k1 tp0 tp1 u1 ids nm sz R0 rb f oi o1 o2 o3 o4 o5 o6 o7 kn ks kR krb kf tsb tq tq2 tg ts tgo LT q g sl m, Mid7 w [] [] [.str sp t0] [.ref p0, .ref p1] [(p0, tupObj [Value.str (Str.ofString "ping") tp0] k0), (p1, tupObj [Value.str (Str.ofString "padding") tp1, Value.int (q - 1) u1] k1)] [] sp g' L' ids nm sz R0 rb f oi o1 o2 o3 o4 o5 o6 o7 kn ks kR krb kf tsb tq tq2 tg ts tgo LT q g sl h m → P) : P := by
  exact Exists.elim H fun sp H => Exists.elim H fun t0 H => Exists.elim H fun p0 H => Exists.elim H fun p1 H => Exists.elim H fun k0 H => Exists.elim H fun k1 H => Exists.elim H fun tp0 H => Exists.elim H fun tp1 H => Exists.elim H fun u1 H => Exists.elim H fun ids H => Exists.elim H fun nm H => Exists.elim H fun sz H => Exists.elim H fun R0 H => Exists.elim H fun rb H => Exists.elim H fun f H => Exists.elim H fun oi H => Exists.elim H fun o1 H => Exists.elim H fun o2 H => Exists.elim H fun o3 H => Exists.elim H fun o4 H => Exists.elim H fun o5 H => Exists.elim H fun o6 H => Exists.elim H fun o7 H => Exists.elim H fun kn H => Exists.elim H fun ks H => Exists.elim H fun kR H => Exists.elim H fun krb H => Exists.elim H fun kf H => Exists.elim H fun tsb H => Exists.elim H fun tq H => Exists.elim H fun tq2 H => Exists.elim H fun tg H => Exists.elim H fun ts H => Exists.elim H fun tgo H => Exists.elim H fun LT H => Exists.elim H fun q H => Exists.elim H fun g H => Exists.elim H fun sl H => Exists.elim H fun m H => k sp t0 p0 p1 k0 k1 tp0 tp1 u1 ids nm sz R0 rb f oi o1 o2 o3 o4 o5 o6 o7 kn ks kR krb kf tsb tq tq2 tg ts tgo LT q g sl m H
theorem mid7Two0_elim {w : World} {g' : Heap} {L' : Addr} {h : Heap} {P : Prop} (H : Mid7Two0 w g' L' h) (k : ∀ sp t0 t1 t2 p0 k0 tp0 ra fa pa tsa tpa kra kfa kpa ids nm sz R0 rb f oi o1 o2 o3 o4 o5 o6 o7 kn ks kR krb kf tsb tq tq2 tg ts tgo LT q g sl m, q = 1 → Mid7 w [.int 1 t2] [.ref ra] [.str (Str.ofString "initial") t0, .str sp t1] [.ref p0] [(p0, tupObj [Value.str (Str.ofString "ping") tp0] k0)] (twoMore ra fa pa tsa tpa kra kfa kpa) sp g' L' ids nm sz R0 rb f oi o1 o2 o3 o4 o5 o6 o7 kn ks kR krb kf tsb tq tq2 tg ts tgo LT q g sl h m → P) : P := by
  exact Exists.elim H fun sp H => Exists.elim H fun t0 H => Exists.elim H fun t1 H => Exists.elim H fun t2 H => Exists.elim H fun p0 H => Exists.elim H fun k0 H => Exists.elim H fun tp0 H => Exists.elim H fun ra H => Exists.elim H fun fa H => Exists.elim H fun pa H => Exists.elim H fun tsa H => Exists.elim H fun tpa H => Exists.elim H fun kra H => Exists.elim H fun kfa H => Exists.elim H fun kpa H => Exists.elim H fun ids H => Exists.elim H fun nm H => Exists.elim H fun sz H => Exists.elim H fun R0 H => Exists.elim H fun rb H => Exists.elim H fun f H => Exists.elim H fun oi H => Exists.elim H fun o1 H => Exists.elim H fun o2 H => Exists.elim H fun o3 H => Exists.elim H fun o4 H => Exists.elim H fun o5 H => Exists.elim H fun o6 H => Exists.elim H fun o7 H => Exists.elim H fun kn H => Exists.elim H fun ks H => Exists.elim H fun kR H => Exists.elim H fun krb H => Exists.elim H fun kf H => Exists.elim H fun tsb H => Exists.elim H fun tq H => Exists.elim H fun tq2 H => Exists.elim H fun tg H => Exists.elim H fun ts H => Exists.elim H fun tgo H => Exists.elim H fun LT H => Exists.elim H fun q H => Exists.elim H fun g H => Exists.elim H fun sl H => Exists.elim H fun m H => k sp t0 t1 t2 p0 k0 tp0 ra fa pa tsa tpa kra kfa kpa ids nm sz R0 rb f oi o1 o2 o3 o4 o5 o6 o7 kn ks kR krb kf tsb tq tq2 tg ts tgo LT q g sl m H.1 H.2
theorem mid7Two1_elim {w : World} {g' : Heap} {L' : Addr} {h : Heap} {P : Prop} (H : Mid7Two1 w g' L' h) (k : ∀ sp t0 t1 t2 p0 p1 k0 k1 tp0 tp1 u1 ra fa pa tsa tpa kra kfa kpa ids nm sz R0 rb f oi o1 o2 o3 o4 o5 o6 o7 kn ks kR krb kf tsb tq tq2 tg ts tgo LT q g sl m, Mid7 w [.int 1 t2] [.ref ra] [.str (Str.ofString "initial") t0, .str sp t1] [.ref p0, .ref p1] [(p0, tupObj [Value.str (Str.ofString "ping") tp0] k0), (p1, tupObj [Value.str (Str.ofString "padding") tp1, Value.int (q - 1) u1] k1)] (twoMore ra fa pa tsa tpa kra kfa kpa) sp g' L' ids nm sz R0 rb f oi o1 o2 o3 o4 o5 o6 o7 kn ks kR krb kf tsb tq tq2 tg ts tgo LT q g sl h m → P) : P := by
  exact Exists.elim H fun sp H => Exists.elim H fun t0 H => Exists.elim H fun t1 H => Exists.elim H fun t2 H => Exists.elim H fun p0 H => Exists.elim H fun p1 H => Exists.elim H fun k0 H => Exists.elim H fun k1 H => Exists.elim H fun tp0 H => Exists.elim H fun tp1 H => Exists.elim H fun u1 H => Exists.elim H fun ra H => Exists.elim H fun fa H => Exists.elim H fun pa H => Exists.elim H fun tsa H => Exists.elim H fun tpa H => Exists.elim H fun kra H => Exists.elim H fun kfa H => Exists.elim H fun kpa H => Exists.elim H fun ids H => Exists.elim H fun nm H => Exists.elim H fun sz H => Exists.elim H fun R0 H => Exists.elim H fun rb H => Exists.elim H fun f H => Exists.elim H fun oi H => Exists.elim H fun o1 H => Exists.elim H fun o2 H => Exists.elim H fun o3 H => Exists.elim H fun o4 H => Exists.elim H fun o5 H => Exists.elim H fun o6 H => Exists.elim H fun o7 H => Exists.elim H fun kn H => Exists.elim H fun ks H => Exists.elim H fun kR H => Exists.elim H fun krb H => Exists.elim H fun kf H => Exists.elim H fun tsb H => Exists.elim H fun tq H => Exists.elim H fun tq2 H => Exists.elim H fun tg H => Exists.elim H fun ts H => Exists.elim H fun tgo H => Exists.elim H fun LT H => Exists.elim H fun q H => Exists.elim H fun g H => Exists.elim H fun sl H => Exists.elim H fun m H => k sp t0 t1 t2 p0 p1 k0 k1 tp0 tp1 u1 ra fa pa tsa tpa kra kfa kpa ids nm sz R0 rb f oi o1 o2 o3 o4 o5 o6 o7 kn ks kR krb kf tsb tq tq2 tg ts tgo LT q g sl m H
theorem mid7One0_of {w : World} {g' : Heap} {L' : Addr} {h : Heap} {sp : Str} {t0 : Tok} {p0 : Addr} {k0 : Nat} {tp0 : Tok} {ids : Addr} {nm : Addr} {sz : Addr} {R0 : Addr} {rb : Addr} {f : Addr} {oi : Obj} {o1 : Obj} {o2 : Obj} {o3 : Obj} {o4 : Obj} {o5 : Obj} {o6 : Obj} {o7 : Obj} {kn : Nat} {ks : Nat} {kR : Nat} {krb : Nat} {kf : Nat} {tsb : Tok} {tq : Tok} {tq2 : Tok} {tg : Tok} {ts : Tok} {tgo : Tok} {LT : Int → Int} {q : Int} {g : Int} {sl : Int} {m : Str → Option Value} (H : Mid7 w [] [] [.str sp t0] [.ref p0] [(p0, tupObj [Value.str (Str.ofString "ping") tp0] k0)] [] sp g' L' ids nm sz R0 rb f oi o1 o2 o3 o4 o5 o6 o7 kn ks kR krb kf tsb tq tq2 tg ts tgo LT q g sl h m) (hq : q = 1) : Mid7One0 w g' L' h :=
  ⟨_, _, _, _, _, _, _, _, _, _, _, _, _, _, _, _, _, _, _, _, _, _, _, _, _, _, _, _, _, _, _, _, _, _, _, hq, H⟩
theorem mid7One1_of {w : World} {g' : Heap} {L' : Addr} {h : Heap} {sp : Str} {t0 : Tok} {p0 : Addr} {p1 : Addr} {k0 : Nat} {k1 : Nat} {tp0 : Tok} {tp1 : Tok} {u1 : Tok} {ids : Addr} {nm : Addr} {sz : Addr} {R0 : Addr} {rb : Addr} {f : Addr} {oi : Obj} {o1 : Obj} {o2 : Obj} {o3 : Obj} {o4 : Obj} {o5 : Obj} {o6 : Obj} {o7 : Obj} {kn : Nat} {ks : Nat} {kR : Nat} {krb : Nat} {kf : Nat} {tsb : Tok} {tq : Tok} {tq2 : Tok} {tg : Tok} {ts : Tok} {tgo : Tok} {LT : Int → Int} {q : Int} {g : Int} {sl : Int} {m : Str → Option Value} (H : Mid7 w [] [] [.str sp t0] [.ref p0, .ref p1] [(p0, tupObj [Value.str (Str.ofString "ping") tp0] k0), (p1, tupObj [Value.str (Str.ofString "padding") tp1, Value.int (q - 1) u1] k1)] [] sp g' L' ids nm sz R0 rb f oi o1 o2 o3 o4 o5 o6 o7 kn ks kR krb kf tsb tq tq2 tg ts tgo LT q g sl h m) : Mid7One1 w g' L' h :=
  ⟨_, _, _, _, _, _, _, _, _, _, _, _, _, _, _, _, _, _, _, _, _, _, _, _, _, _, _, _, _, _, _, _, _, _, _, _, _, _, _, H⟩
theorem mid7Two0_of {w : World} {g' : Heap} {L' : Addr} {h : Heap} {sp : Str} {t0 : Tok} {t1 : Tok} {t2 : Tok} {p0 : Addr} {k0 : Nat} {tp0 : Tok} {ra : Addr} {fa : Addr} {pa : Addr} {tsa : Tok} {tpa : Tok} {kra : Nat} {kfa : Nat} {kpa : Nat} {ids : Addr} {nm : Addr} {sz : Addr} {R0 : Addr} {rb : Addr} {f : Addr} {oi : Obj} {o1 : Obj} {o2 : Obj} {o3 : Obj} {o4 : Obj} {o5 : Obj} {o6 : Obj} {o7 : Obj} {kn : Nat} {ks : Nat} {kR : Nat} {krb : Nat} {kf : Nat} {tsb : Tok} {tq : Tok} {tq2 : Tok} {tg : Tok} {ts : Tok} {tgo : Tok} {LT : Int → Int} {q : Int} {g : Int} {sl : Int} {m : Str → Option Value} (H : Mid7 w [.int 1 t2] [.ref ra] [.str (Str.ofString "initial") t0, .str sp t1] [.ref p0] [(p0, tupObj [Value.str (Str.ofString "ping") tp0] k0)] (twoMore ra fa pa tsa tpa kra kfa kpa) sp g' L' ids nm sz R0 rb f oi o1 o2 o3 o4 o5 o6 o7 kn ks kR krb kf tsb tq tq2 tg ts tgo LT q g sl h m) (hq : q = 1) : Mid7Two0 w g' L' h :=
  ⟨_, _, _, _, _, _, _, _, _, _, _, _, _, _, _, _, _, _, _, _, _, _, _, _, _, _, _, _, _, _, _, _, _, _, _, _, _, _, _, _, _, _, _, _, _, hq, H⟩
theorem mid7Two1_of {w : World} {g' : Heap} {L' : Addr} {h : Heap} {sp : Str} {t0 : Tok} {t1 : Tok} {t2 : Tok} {p0 : Addr} {p1 : Addr} {k0 : Nat} {k1 : Nat} {tp0 : Tok} {tp1 : Tok} {u1 : Tok} {ra : Addr} {fa : Addr} {pa : Addr} {tsa : Tok} {tpa : Tok} {kra : Nat} {kfa : Nat} {kpa : Nat} {ids : Addr} {nm : Addr} {sz : Addr} {R0 : Addr} {rb : Addr} {f : Addr} {oi : Obj} {o1 : Obj} {o2 : Obj} {o3 : Obj} {o4 : Obj} {o5 : Obj} {o6 : Obj} {o7 : Obj} {kn : Nat} {ks : Nat} {kR : Nat} {krb : Nat} {kf : Nat} {tsb : Tok} {tq : Tok} {tq2 : Tok} {tg : Tok} {ts : Tok} {tgo : Tok} {LT : Int → Int} {q : Int} {g : Int} {sl : Int} {m : Str → Option Value} (H : Mid7 w [.int 1 t2] [.ref ra] [.str (Str.ofString "initial") t0, .str sp t1] [.ref p0, .ref p1] [(p0, tupObj [Value.str (Str.ofString "ping") tp0] k0), (p1, tupObj [Value.str (Str.ofString "padding") tp1, Value.int (q - 1) u1] k1)] (twoMore ra fa pa tsa tpa kra kfa kpa) sp g' L' ids nm sz R0 rb f oi o1 o2 o3 o4 o5 o6 o7 kn ks kR krb kf tsb tq tq2 tg ts tgo LT q g sl h m) : Mid7Two1 w g' L' h :=
  ⟨_, _, _, _, _, _, _, _, _, _, _, _, _, _, _, _, _, _, _, _, _, _, _, _, _, _, _, _, _, _, _, _, _, _, _, _, _, _, _, _, _, _, _, _, _, _, _, _, _, H⟩
section
variable {w : World} {pre prer nmv frm : List Value} {frs extra : List (Addr × Obj)} {sp : Str} {g' : Heap} {L' : Addr} {ids nm sz R0 rb f : Addr} {oi o1 o2 o3 o4 o5 o6 o7 : Obj} {kn ks kR krb kf : Nat} {tsb tq tq2 tg ts tgo : Tok} {LT : Int → Int} {q g sl : Int} {h : Heap} {m : Str → Option Value} {all : List (Addr × Obj)}
theorem mid7_intro (F : Fr g' L' h m) (N : News g' L' h all) (n1 : (L' + 1 + 1 + 1 + 1 + 1 + 1 + 1, o1) ∈ all) (n2 : (L' + 1 + 1 + 1 + 1 + 1 + 1, o2) ∈ all) (n3 : (L' + 1 + 1 + 1 + 1 + 1, o3) ∈ all) (n4 : (L' + 1 + 1 + 1 + 1, o4) ∈ all)
    (n5 : (L' + 1 + 1 + 1, o5) ∈ all) (n6 : (L' + 1 + 1, o6) ∈ all) (n7 : (L' + 1, o7) ∈ all) (m9 : m (Str.ofString "rows") = some (.ref R0))
    (d7 : o7.data = .cell (some (.int q tq))) (d6 : o6.data = .cell (some (.int sl ts))) (d5 : o5.data = .cell (some (.ref nm))) (d4 : o4.data = .cell (some (.ref ids))) (d3 : o3.data = .cell (some (.ref sz))) (d2 : o2.data = .cell (some (.int (LT q + g) tgo))) (d1 : o1.data = .cell none)
    (n8 : (ids, oi) ∈ all) (n9 : (nm, PySem.W.listOf nmv.toArray kn) ∈ all) (n10 : (sz, PySem.W.listOf (pre ++ [Value.int q tq2]).toArray ks) ∈ all) (n11 : (R0, PySem.W.listOf (prer ++ [Value.ref rb]).toArray kR) ∈ all) (n12 : (rb, tupObj [Value.str sp tsb, .ref f] krb) ∈ all)
    (n13 : (f, PySem.W.listOf frm.toArray kf) ∈ all) (n14 : SubL frs all) (n15 : SubL extra all)
    (lt1 : @_root_.LT.lt Nat _ (L' + 1 + 1 + 1 + 1 + 1 + 1 + 1) ids) (lt2 : @_root_.LT.lt Nat _ (L' + 1 + 1 + 1 + 1 + 1 + 1 + 1) nm) (lt3 : @_root_.LT.lt Nat _ (L' + 1 + 1 + 1 + 1 + 1 + 1 + 1) sz)
    (m5 : m (Str.ofString "gap") = some (.int g tg)) (tot : TotOK w ids nm oi (PySem.W.listOf nmv.toArray kn) pre LT) (kind : KindOK w ids oi prer sp extra LT) (num : NumEx LT q g sl) (hsp : PySem.PyData.strOk sp = true)
    (hq : q = 46 ∨ q = 45 ∨ q = 1 ∨ q = 47 ∨ q = 44 ∨ q = 2) (hg : g = 1 ∨ g = 2 ∨ g = 3 ∨ g = 0 ∨ g = 5) (s0 : 0 ≤ sl) (s1 : sl < 2) :
    Mid7 w pre prer nmv frm frs extra sp g' L' ids nm sz R0 rb f oi o1 o2 o3 o4 o5 o6 o7 kn ks kR krb kf tsb tq tq2 tg ts tgo LT q g sl h m :=
  ⟨F, fun p hp => by
    refine N p ?_
    simp only [List.mem_cons, List.mem_append] at hp
    rcases hp with rfl | rfl | rfl | rfl | rfl | rfl | rfl | rfl | rfl | rfl | rfl | rfl | rfl | hp | hp
    all_goals first | assumption | exact n14.mem _ hp | exact n15.mem _ hp, lt1, lt2, lt3, d7, d6, d5, d4, d3, d2, d1, tot, kind, num, hsp, by omega, by omega, s0, s1, by omega, by omega, m5, m9⟩
end
theorem q_one {q : Int} (hq : q = 46 ∨ q = 45 ∨ q = 1 ∨ q = 47 ∨ q = 44 ∨ q = 2) (h : ¬ 1 < q) : q = 1 := by omega
theorem totOK_2a {w : World} {ids nm sz : Addr} {oi on : Obj} {LT : Int → Int} {news : List (Addr × Obj)} {ks : Nat} {q : Int} {tq tx : Tok} (h : ∀ t9, TotOK w ids nm oi on [Value.int 1 t9] LT) (m1 : (ids, oi) ∈ news) (m2 : (nm, on) ∈ news) (m3 : (sz, PySem.W.listOf [Value.int 1 tx, Value.int q tq].toArray ks) ∈ news) :
    CS w 229 news [.ref ids, .ref nm, .ref sz] 2 (IntIs (LT q)) := h tx news sz ks q tq m1 m2 m3
/-- the first cut by its shape: one name or two, and what is known of the numbers -/
def Mid3One (w : World) (g' : Heap) (L' : Addr) (h : Heap) : Prop :=
  ∃ (sp : Str) (ids nm : Addr) (o1 o2 o3 o4 o5 o6 o7 : Obj) (ki kn : Nat) (ud us : Tok) (bd bs : Array UInt8) (t0 tq tg ts : Tok) (q g sl : Int) (m : Str → Option Value) (LT : Int → Int), Mid3 g' L' ids nm o1 o2 o3 o4 o5 o6 o7 ki kn ud us bd bs [.str sp t0] tq tg ts q g sl h m ∧
    TotOK w ids nm (tupObj [Value.bytes bd ud, Value.bytes bs us] ki) (PySem.W.listOf ([.str sp t0] : List Value).toArray kn) [] LT ∧ KindOK w ids (tupObj [Value.bytes bd ud, Value.bytes bs us] ki) [] sp [] LT ∧ NumEx LT q g sl ∧ PySem.PyData.strOk sp = true
def Mid3Two (w : World) (g' : Heap) (L' : Addr) (h : Heap) : Prop :=
  ∃ (sp : Str) (ids nm : Addr) (o1 o2 o3 o4 o5 o6 o7 : Obj) (ki kn : Nat) (ud us : Tok) (bd bs : Array UInt8) (t0 t1 tq tg ts : Tok) (q g sl : Int) (m : Str → Option Value) (LT : Int → Int), Mid3 g' L' ids nm o1 o2 o3 o4 o5 o6 o7 ki kn ud us bd bs [.str (Str.ofString "initial") t0, .str sp t1] tq tg ts q g sl h m ∧
    (∀ t9, TotOK w ids nm (tupObj [Value.bytes bd ud, Value.bytes bs us] ki) (PySem.W.listOf ([.str (Str.ofString "initial") t0, .str sp t1] : List Value).toArray kn) [Value.int 1 t9] LT) ∧ (∀ ra fa pa tsa tpa kra kfa kpa, KindOK w ids (tupObj [Value.bytes bd ud, Value.bytes bs us] ki) [Value.ref ra] sp (twoMore ra fa pa tsa tpa kra kfa kpa) LT) ∧ NumEx LT q g sl ∧ PySem.PyData.strOk sp = true
theorem mid3_shape {w : World} {g' : Heap} {L' : Addr} {h : Heap} (H : Mid3Any g' L' h) : Mid3One w g' L' h ∨ Mid3Two w g' L' h := by
  rcases H with H | H | H | H
  · obtain ⟨ids, nm, o1, o2, o3, o4, o5, o6, o7, ki, kn, ud, us, bd, bs, t0, t1, tq, tg, ts, q, g, sl, m3, H⟩ := H
    exact .inl ⟨Str.ofString "handshake", ids, nm, o1, o2, o3, o4, o5, o6, o7, ki, kn, ud, us, bd, bs, t0, tq, tg, ts, q, g, sl, m3, fun x => lsz 2 bd.size bs.size x, H, fun news sz ks q tq m1 m2 m3 => law_total_h w news ids nm sz ki kn ks ud us tq t0 bd bs _ _ q rfl rfl H.hb H.hs m1 m2 m3, kind_h H.hb H.hs, pick_num (LT := fun x => lsz 2 bd.size bs.size x) (C := ((bd.size : Int) + bs.size)) (kind := 2) (fun x => lsz_2 _ _ x) (by decide) H.hq H.hg H.s0 H.s1, by decide +kernel⟩
  · obtain ⟨ids, nm, o1, o2, o3, o4, o5, o6, o7, ki, kn, ud, us, bd, bs, t0, t1, tq, tg, ts, q, g, sl, m3, H⟩ := H
    exact .inl ⟨Str.ofString "initial", ids, nm, o1, o2, o3, o4, o5, o6, o7, ki, kn, ud, us, bd, bs, t0, tq, tg, ts, q, g, sl, m3, fun x => lsz 1 bd.size bs.size x, H, fun news sz ks q tq m1 m2 m3 => law_total_i w news ids nm sz ki kn ks ud us tq t0 bd bs _ _ q rfl rfl H.hb H.hs m1 m2 m3, kind_i H.hb H.hs, pick_num (LT := fun x => lsz 1 bd.size bs.size x) (C := ((bd.size : Int) + bs.size)) (kind := 1) (fun x => lsz_1 _ _ x) (by decide) H.hq H.hg H.s0 H.s1, by decide +kernel⟩
  · obtain ⟨ids, nm, o1, o2, o3, o4, o5, o6, o7, ki, kn, ud, us, bd, bs, t0, t1, tq, tg, ts, q, g, sl, m3, H⟩ := H
    exact .inr ⟨Str.ofString "handshake", ids, nm, o1, o2, o3, o4, o5, o6, o7, ki, kn, ud, us, bd, bs, t0, t1, tq, tg, ts, q, g, sl, m3, fun x => (7 + (bd.size : Int) + (bs.size : Int) + 1 + 1 + 20) + lsz 2 bd.size bs.size x, H, fun t9 news sz ks q tq m1 m2 m3 => law_total_ih w news ids nm sz ki kn ks ud us tq t0 t1 t9 bd bs _ _ q rfl rfl H.hb H.hs m1 m2 m3, fun _ _ _ _ _ _ _ _ => kind_ih H.hb H.hs, pick_num (LT := fun x => (7 + (bd.size : Int) + (bs.size : Int) + 1 + 1 + 20) + lsz 2 bd.size bs.size x) (C := ((7 + (bd.size : Int) + (bs.size : Int) + 1 + 1 + 20) + ((bd.size : Int) + bs.size))) (kind := 2) (fun x => by show (7 + (bd.size : Int) + (bs.size : Int) + 1 + 1 + 20) + lsz 2 bd.size bs.size x = _; rw [lsz_2]; omega) (by decide) H.hq H.hg H.s0 H.s1, by decide +kernel⟩
  · obtain ⟨ids, nm, o1, o2, o3, o4, o5, o6, o7, ki, kn, ud, us, bd, bs, t0, t1, tq, tg, ts, q, g, sl, m3, H⟩ := H
    exact .inr ⟨Str.ofString "application", ids, nm, o1, o2, o3, o4, o5, o6, o7, ki, kn, ud, us, bd, bs, t0, t1, tq, tg, ts, q, g, sl, m3, fun x => (7 + (bd.size : Int) + (bs.size : Int) + 1 + 1 + 20) + lsz 0 bd.size 0 x, H, fun t9 news sz ks q tq m1 m2 m3 => law_total_ia w news ids nm sz ki kn ks ud us tq t0 t1 t9 bd bs _ _ q rfl rfl H.hb H.hs m1 m2 m3, fun _ _ _ _ _ _ _ _ => kind_ia H.hb H.hs, pick_num (LT := fun x => (7 + (bd.size : Int) + (bs.size : Int) + 1 + 1 + 20) + lsz 0 bd.size 0 x) (C := ((7 + (bd.size : Int) + (bs.size : Int) + 1 + 1 + 20) + (bd.size : Int))) (kind := 0) (fun x => by show (7 + (bd.size : Int) + (bs.size : Int) + 1 + 1 + 20) + lsz 0 bd.size 0 x = _; rw [lsz_0]; omega) (by decide) H.hq H.hg H.s0 H.s1, by decide +kernel⟩
end Mine
namespace Mine
open PySem.Calls
end Mine
namespace Mine
open PySem.Calls
theorem csc_mono {w : World} {f : Addr} {news : List (Addr × Obj)} {vs : List Value} {room : Nat} {Post Post' : Value → List (Addr × Obj) → Prop} (C : CSC w f news vs room Post) (hp : ∀ v new, Post v new → Post' v new) : CSC w f news vs room Post' := by
  intro mean mg mb dp un gd cn cs a ccd cl outer A₀ base h₀ L m s Q E B F X N T hk hd hu ret
  exact C _ _ _ _ _ _ _ _ _ _ _ _ _ _ _ _ _ _ _ _ B F X N T hk hd hu fun v new h' tk' q => ret v new h' tk' (hp v new q)
theorem places_of {w : World} {news : List (Addr × Obj)} {pl q0 q1 q2 : Addr} {od : Obj} {tn0 tn1 tn2 : Tok} {kn0 kn1 kn2 : Nat} (hlo : (pl == sysModules) = false) (hd : od.IsDictOf (PySem.strKind PySem.Challenge.rw_pf0266_01.row.prog w) [(Str.ofString "initial", .ref q0), (Str.ofString "handshake", .ref q1), (Str.ofString "application", .ref q2)])
    (md : (pl, od) ∈ news) (m0 : (q0, tupObj [Value.int 0 tn0, Value.none] kn0) ∈ news) (m1 : (q1, tupObj [Value.int 1 tn1, Value.none] kn1) ∈ news) (m2 : (q2, tupObj [Value.int 2 tn2, Value.none] kn2) ∈ news) : Places w news pl :=
  ⟨od, q0, q1, q2, tn0, tn1, tn2, kn0, kn1, kn2, hlo, hd, md, m0, m1, m2⟩
def FullLaw (R : Addr) (Fd : Int → Addr → List (Addr × Obj) → Prop) (LT : Int → Int) (q g sl : Int) (v : Value) (new : List (Addr × Obj)) : Prop := ∃ lack, NumR LT q g sl lack ∧ FullPost R Fd lack v new
section
variable {w : World} {ids pl R rb f p0 p1 : Addr} {oi : Obj} {sp : Str} {extra news : List (Addr × Obj)} {LT : Int → Int} {kR krb kf k0 k1 : Nat} {tsb t0 t1 u1 tg ts : Tok} {q g sl : Int}
theorem full_one_0 (K : KindOK w ids oi [] sp extra LT) (P : Places w news pl) (mi : (ids, oi) ∈ news) (mR : (R, PySem.W.listOf [Value.ref rb].toArray kR) ∈ news) (mb : (rb, tupObj [Value.str sp tsb, .ref f] krb) ∈ news)
    (mf : (f, PySem.W.listOf [Value.ref p0].toArray kf) ∈ news) (m0 : (p0, tupObj [Value.str (Str.ofString "ping") t0] k0) ∈ news) (ex : SubL extra news) (num : NumEx LT 1 g sl) :
    CSC w 222 news [.ref ids, .ref pl, .ref R, .int (LT 1 + g) tg, .int (LT 1 + g + sl) ts] 7 (FullLaw R (fun k f9 new => ∃ u, PadPost_one_0 sp tsb p0 k u (.ref f9) new) LT 1 g sl) := by
  have ex := ex.mem
  obtain ⟨res, hgo, hr, hn⟩ := num
  have h := full_rows_A w news news ids pl R (fun k => LT (1 + k)) (fun k f9 new => ∃ u, PadPost_one_0 sp tsb p0 k u (.ref f9) new) (LT 1 + g) (LT 1 + g + sl) tg ts 6 res (by show RowsOK w ids pl R news (LT (1 + 0)); rw [Int.add_zero]; exact rows_0 K P mi mR mb mf m0 ex) (pads_one_0 K P mi mR mb mf m0 ex) (fun _ h => h) hgo hr
  exact csc_mono h fun v new hp => ⟨_, hn, hp⟩
theorem full_one_1 (K : KindOK w ids oi [] sp extra LT) (P : Places w news pl) (mi : (ids, oi) ∈ news) (mR : (R, PySem.W.listOf [Value.ref rb].toArray kR) ∈ news) (mb : (rb, tupObj [Value.str sp tsb, .ref f] krb) ∈ news)
    (mf : (f, PySem.W.listOf [Value.ref p0, Value.ref p1].toArray kf) ∈ news) (m0 : (p0, tupObj [Value.str (Str.ofString "ping") t0] k0) ∈ news) (m1 : (p1, tupObj [Value.str (Str.ofString "padding") t1, Value.int (q - 1) u1] k1) ∈ news) (ex : SubL extra news) (h0 : 1 ≤ q) (h1 : q ≤ 50) (num : NumEx LT q g sl) :
    CSC w 222 news [.ref ids, .ref pl, .ref R, .int (LT q + g) tg, .int (LT q + g + sl) ts] 7 (FullLaw R (fun k f9 new => ∃ u, PadPost_one_1 sp tsb p0 p1 k u (.ref f9) new) LT q g sl) := by
  have ex := ex.mem
  obtain ⟨res, hgo, hr, hn⟩ := num
  have h := full_rows_A w news news ids pl R (fun k => LT (q + k)) (fun k f9 new => ∃ u, PadPost_one_1 sp tsb p0 p1 k u (.ref f9) new) (LT q + g) (LT q + g + sl) tg ts 6 res (by show RowsOK w ids pl R news (LT (q + 0)); rw [Int.add_zero]; have hr := rows_1 K P mi mR mb mf m0 m1 ex (by omega) (by omega); rw [show 1 + (q - 1) = q from by omega] at hr; exact hr) (pads_one_1 K P mi mR mb mf m0 m1 ex h0 (by omega)) (fun _ h => h) hgo hr
  exact csc_mono h fun v new hp => ⟨_, hn, hp⟩
theorem full_two_0 {ra : Addr} (K : KindOK w ids oi [Value.ref ra] sp extra LT) (P : Places w news pl) (mi : (ids, oi) ∈ news) (mR : (R, PySem.W.listOf [Value.ref ra, Value.ref rb].toArray kR) ∈ news) (mb : (rb, tupObj [Value.str sp tsb, .ref f] krb) ∈ news)
    (mf : (f, PySem.W.listOf [Value.ref p0].toArray kf) ∈ news) (m0 : (p0, tupObj [Value.str (Str.ofString "ping") t0] k0) ∈ news) (ex : SubL extra news) (num : NumEx LT 1 g sl) :
    CSC w 222 news [.ref ids, .ref pl, .ref R, .int (LT 1 + g) tg, .int (LT 1 + g + sl) ts] 7 (FullLaw R (fun k f9 new => ∃ u, PadPost_two_0 ra sp tsb p0 k u (.ref f9) new) LT 1 g sl) := by
  have ex := ex.mem
  obtain ⟨res, hgo, hr, hn⟩ := num
  have h := full_rows_A w news news ids pl R (fun k => LT (1 + k)) (fun k f9 new => ∃ u, PadPost_two_0 ra sp tsb p0 k u (.ref f9) new) (LT 1 + g) (LT 1 + g + sl) tg ts 6 res (by show RowsOK w ids pl R news (LT (1 + 0)); rw [Int.add_zero]; exact rows_0 K P mi mR mb mf m0 ex) (pads_two_0 K P mi mR mb mf m0 ex) (fun _ h => h) hgo hr
  exact csc_mono h fun v new hp => ⟨_, hn, hp⟩
theorem full_two_1 {ra : Addr} (K : KindOK w ids oi [Value.ref ra] sp extra LT) (P : Places w news pl) (mi : (ids, oi) ∈ news) (mR : (R, PySem.W.listOf [Value.ref ra, Value.ref rb].toArray kR) ∈ news) (mb : (rb, tupObj [Value.str sp tsb, .ref f] krb) ∈ news)
    (mf : (f, PySem.W.listOf [Value.ref p0, Value.ref p1].toArray kf) ∈ news) (m0 : (p0, tupObj [Value.str (Str.ofString "ping") t0] k0) ∈ news) (m1 : (p1, tupObj [Value.str (Str.ofString "padding") t1, Value.int (q - 1) u1] k1) ∈ news) (ex : SubL extra news) (h0 : 1 ≤ q) (h1 : q ≤ 50) (num : NumEx LT q g sl) :
    CSC w 222 news [.ref ids, .ref pl, .ref R, .int (LT q + g) tg, .int (LT q + g + sl) ts] 7 (FullLaw R (fun k f9 new => ∃ u, PadPost_two_1 ra sp tsb p0 p1 k u (.ref f9) new) LT q g sl) := by
  have ex := ex.mem
  obtain ⟨res, hgo, hr, hn⟩ := num
  have h := full_rows_A w news news ids pl R (fun k => LT (q + k)) (fun k f9 new => ∃ u, PadPost_two_1 ra sp tsb p0 p1 k u (.ref f9) new) (LT q + g) (LT q + g + sl) tg ts 6 res (by show RowsOK w ids pl R news (LT (q + 0)); rw [Int.add_zero]; have hr := rows_1 K P mi mR mb mf m0 m1 ex (by omega) (by omega); rw [show 1 + (q - 1) = q from by omega] at hr; exact hr) (pads_two_1 K P mi mR mb mf m0 m1 ex h0 (by omega)) (fun _ h => h) hgo hr
  exact csc_mono h fun v new hp => ⟨_, hn, hp⟩
end
section
open PyData PySem.SeqAt
theorem shp {d : PyData} (h1 : d.canLay0 = true) (h2 : d.depth ≤ 64) : shaped d = true := by rw [shaped, h1, decide_eq_true h2]; rfl
theorem shp_one_0 {sp : Str} (hsp : PySem.PyData.strOk sp = true) (a : Int) : shaped (PyData.list [PyData.tuple [PyData.str sp, PyData.list [PyData.tuple [PyData.str (Str.ofString "ping")]]]]) = true := by
  refine shp ?_ (by simp [PyData.depth, PyData.depthAll])
  simp only [PyData.canLay0, PyData.canLayAll0, hsp, Bool.true_and, Bool.and_true]
  decide +kernel
theorem shpp_one_0 {sp : Str} (hsp : PySem.PyData.strOk sp = true) (a k : Int) : shaped (PyData.list [PyData.tuple [PyData.str sp, PyData.list [PyData.tuple [PyData.str (Str.ofString "ping")], PyData.tuple [PyData.str (Str.ofString "padding"), PyData.int k]]]]) = true := by
  refine shp ?_ (by simp [PyData.depth, PyData.depthAll])
  simp only [PyData.canLay0, PyData.canLayAll0, hsp, Bool.true_and, Bool.and_true]
  decide +kernel
theorem shp_one_1 {sp : Str} (hsp : PySem.PyData.strOk sp = true) (a : Int) : shaped (PyData.list [PyData.tuple [PyData.str sp, PyData.list [PyData.tuple [PyData.str (Str.ofString "ping")], PyData.tuple [PyData.str (Str.ofString "padding"), PyData.int a]]]]) = true := by
  refine shp ?_ (by simp [PyData.depth, PyData.depthAll])
  simp only [PyData.canLay0, PyData.canLayAll0, hsp, Bool.true_and, Bool.and_true]
  decide +kernel
theorem shpp_one_1 {sp : Str} (hsp : PySem.PyData.strOk sp = true) (a k : Int) : shaped (PyData.list [PyData.tuple [PyData.str sp, PyData.list [PyData.tuple [PyData.str (Str.ofString "ping")], PyData.tuple [PyData.str (Str.ofString "padding"), PyData.int a], PyData.tuple [PyData.str (Str.ofString "padding"), PyData.int k]]]]) = true := by
  refine shp ?_ (by simp [PyData.depth, PyData.depthAll])
  simp only [PyData.canLay0, PyData.canLayAll0, hsp, Bool.true_and, Bool.and_true]
  decide +kernel
theorem shp_two_0 {sp : Str} (hsp : PySem.PyData.strOk sp = true) (a : Int) : shaped (PyData.list [PyData.tuple [PyData.str (Str.ofString "initial"), PyData.list [PyData.tuple [PyData.str (Str.ofString "ping")]]], PyData.tuple [PyData.str sp, PyData.list [PyData.tuple [PyData.str (Str.ofString "ping")]]]]) = true := by
  refine shp ?_ (by simp [PyData.depth, PyData.depthAll])
  simp only [PyData.canLay0, PyData.canLayAll0, hsp, Bool.true_and, Bool.and_true]
  decide +kernel
theorem shpp_two_0 {sp : Str} (hsp : PySem.PyData.strOk sp = true) (a k : Int) : shaped (PyData.list [PyData.tuple [PyData.str (Str.ofString "initial"), PyData.list [PyData.tuple [PyData.str (Str.ofString "ping")]]], PyData.tuple [PyData.str sp, PyData.list [PyData.tuple [PyData.str (Str.ofString "ping")], PyData.tuple [PyData.str (Str.ofString "padding"), PyData.int k]]]]) = true := by
  refine shp ?_ (by simp [PyData.depth, PyData.depthAll])
  simp only [PyData.canLay0, PyData.canLayAll0, hsp, Bool.true_and, Bool.and_true]
  decide +kernel
theorem shp_two_1 {sp : Str} (hsp : PySem.PyData.strOk sp = true) (a : Int) : shaped (PyData.list [PyData.tuple [PyData.str (Str.ofString "initial"), PyData.list [PyData.tuple [PyData.str (Str.ofString "ping")]]], PyData.tuple [PyData.str sp, PyData.list [PyData.tuple [PyData.str (Str.ofString "ping")], PyData.tuple [PyData.str (Str.ofString "padding"), PyData.int a]]]]) = true := by
  refine shp ?_ (by simp [PyData.depth, PyData.depthAll])
  simp only [PyData.canLay0, PyData.canLayAll0, hsp, Bool.true_and, Bool.and_true]
  decide +kernel
theorem shpp_two_1 {sp : Str} (hsp : PySem.PyData.strOk sp = true) (a k : Int) : shaped (PyData.list [PyData.tuple [PyData.str (Str.ofString "initial"), PyData.list [PyData.tuple [PyData.str (Str.ofString "ping")]]], PyData.tuple [PyData.str sp, PyData.list [PyData.tuple [PyData.str (Str.ofString "ping")], PyData.tuple [PyData.str (Str.ofString "padding"), PyData.int a], PyData.tuple [PyData.str (Str.ofString "padding"), PyData.int k]]]]) = true := by
  refine shp ?_ (by simp [PyData.depth, PyData.depthAll])
  simp only [PyData.canLay0, PyData.canLayAll0, hsp, Bool.true_and, Bool.and_true]
  decide +kernel
end
end Mine
namespace Mine
open PySem.Calls
set_option maxHeartbeats 0
local macro_rules | `(tactic| k_lt $h) => `(tactic| skip)
local macro_rules | `(tactic| walk_at "ltS9") => `(tactic| first | exact Nat.lt_succ_self _ | (refine Nat.lt_succ_of_lt ?_; walk_at "ltS9"))
local macro_rules | `(tactic| k_ne) => `(tactic| first | exact Nat.ne_of_gt (lt_of_all (by with_reducible assumption) (by k_extra "mem9")) | exact Nat.ne_of_lt (lt_of_all (by with_reducible assumption) (by k_extra "mem9")) | with_reducible assumption | exact off1_mem (by with_reducible assumption) (by k_extra "mem9") | exact Ne.symm (off1_mem (by with_reducible assumption) (by k_extra "mem9")) | exact (LCg.Off3.mem (by with_reducible assumption) (_, _) (by k_extra "mem9")).1 | exact (LCg.Off3.mem (by with_reducible assumption) (_, _) (by k_extra "mem9")).2.1 | exact (LCg.Off3.mem (by with_reducible assumption) (_, _) (by k_extra "mem9")).2.2 | (refine Nat.ne_of_lt ?_; walk_at "ltS9") | (refine Nat.ne_of_gt ?_; walk_at "ltS9") | (refine neN ?_; (try dsimp only); omega))
local macro_rules | `(tactic| walk_at "csc_enter7") => `(tactic| (
  refine wpC_call ?_
  k_dflt (refine' codeC_defCL _ ?hl ?k1 ?k2 ?k3 ?k4 ?k5 ?kA ?kF ?kK ?k6 ?k7 ?k8 ?k9 ?kB ?kD ?_ ?c2 ?c3 ?c4; (case hl => assumption); (case kA => exact rfl); (case kF => exact rfl); (case kK => assumption); (case k1 => k_asm); (case k2 => k_asm); (case k3 => k_asm); (case k4 => k_asm); (case k5 => k_asm); (case k6 => k_is); (case k7 => k_is); (case k8 => ktr_room); (case k9 => exact BindsTo.of_eq rfl); (case kB => exact rfl); (case kD => decide +kernel); (case c2 => exact rfl); (case c3 => exact rfl); (case c4 => exact rfl); k_whole; intro g' L' h' tk' cells' FG' F' N' Y' B' X' T' l1; (try k_lt l1); (have hY := PyProof.Rows.kc_seven Y'; obtain ⟨o', o2', o3', o4', o5', o6', o7', hE', d1', d2', d3', d4', d5', d6', d7'⟩ := hY; subst hE'; clear Y'); (try simp only [List.cons_append, List.nil_append] at N'); (try dsimp only))))
local macro_rules | `(tactic| walk_at "binaryOp Add bytes bytes") => `(tactic| k_extra "binaryOp Add bytes bytes")
local macro_rules | `(tactic| walk_at "call") => `(tactic| k_extra "call")
local macro_rules | `(tactic| walk_at "call builtin:bytes.join") => `(tactic| k_extra "call builtin:bytes.join")
local macro_rules | `(tactic| walk_at "call builtin:list.index") => `(tactic| k_extra "call builtin:list.index")
local macro_rules | `(tactic| walk_at "call builtin:tuple.index") => `(tactic| k_extra "call builtin:tuple.index")
local macro_rules | `(tactic| walk_at "call type:bytes") => `(tactic| k_extra "call type:bytes")
local macro_rules | `(tactic| walk_at "compareOp NotIn int ref") => `(tactic| k_extra "compareOp NotIn int ref")
local macro_rules | `(tactic| walk_at "getMethod ref") => `(tactic| k_extra "getMethod ref")
local macro_rules | `(tactic| walk_at "pyIter ref") => `(tactic| k_extra "pyIter ref")
local macro_rules | `(tactic| walk_at "setItem ref int") => `(tactic| k_extra "setItem ref int")
local macro_rules | `(tactic| walk_at "subscriptTail Name Slice ref ref") => `(tactic| k_extra "subscriptTail Name Slice ref ref")
local macro_rules | `(tactic| walk_at "CompEnd") => `(tactic| k_extra "CompEnd")
local macro_rules | `(tactic| walk_at "CompSrcT") => `(tactic| k_extra "CompSrcT")
local macro_rules | `(tactic| walk_at "FinE") => `(tactic| k_extra "FinE")
local macro_rules | `(tactic| walk_at "FinA") => `(tactic| k_extra "FinA")
local macro_rules | `(tactic| walk_at "CompRest") => `(tactic| k_extra "CompRest")
local macro_rules | `(tactic| walk_at "call builtin:max") => `(tactic| k_extra "call builtin:max")
local macro_rules | `(tactic| walk_at "call ref") => `(tactic| k_extra "call ref")
local macro_rules | `(tactic| walk_at "compareOp Eq ref ref") => `(tactic| k_extra "compareOp Eq ref ref")
local macro_rules | `(tactic| walk_at "compareOp NotEq ref ref") => `(tactic| k_extra "compareOp NotEq ref ref")
local macro_rules | `(tactic| walk_at "eval Dict") => `(tactic| k_extra "eval Dict")
local macro_rules | `(tactic| walk_at "eval Name") => `(tactic| k_extra "eval Name")
local macro_rules | `(tactic| walk_at "exec Assign") => `(tactic| k_extra "exec Assign")
local macro_rules | `(tactic| walk_at "loadName") => `(tactic| k_extra "loadName")
local macro_rules | `(tactic| walk_at "newTuple") => `(tactic| k_extra "newTuple")
local macro_rules | `(tactic| walk_at "subscriptTail") => `(tactic| k_extra "subscriptTail")
theorem lines_PR_1 : True := by
  k_with_none
  k_with "mem9" => (focus ((repeat constructor); (first | done | assumption)))
  k_with "subL9" => (first | exact trivial | (refine And.intro (by k_extra "mem9") ?_; k_extra "subL9"))
  k_with "wpC" => ((k_here; (with_reducible show Mine.wpC _ _ (call (Value.type "bytearray") _ _) _ _ _); k_dflt (refine' Mine.ba_new_K ?k1z0 ?k2z0 ?k3z0 ?k4z0 ?_; (case k1z0 => k_asm); (case k2z0 => k_asm); (case k3z0 => first | decide | omega); (case k4z0 => first | decide | omega); k_whole); intro S' h' F' N' l1; (try k_lt l1); (try k_sweep); (try dsimp only)))
  k_with "wpC" => ((k_here; first | ((with_reducible show Mine.wpC _ _ (execs [] _) _ _ _); refine Mine.wpC_execs_nil ?_; (try dsimp only)) | ((with_reducible show Mine.wpC _ _ (execs (_ :: _) _) _ _ _); refine Mine.wpC_execs_cons ?_; (try (conv => arg 6; dsimp only))) | ((with_reducible show Mine.wpC _ _ (exec _ _) _ _ _); k_dflt (first | (refine' Mine.wpC_st ?hdz1 ?_; (case hdz1 => decide)) | refine Mine.wpC_Return ?_ | refine Mine.wpC_Assign_Name ?_ | refine Mine.wpC_AugAssign_Name ?_ | refine Mine.wpC_If ?_)) | ((with_reducible show Mine.wpC _ _ (eval _ _) _ _ _); k_dflt (first | (refine' Mine.wpC_ev ?hdz1 ?_; (case hdz1 => decide)) | refine Mine.wpC_BinOp ?_ | refine Mine.wpC_Call _ _ rfl ?_)) | ((with_reducible show Mine.wpC _ _ (isTrue _ _ _) _ _ _); k_dflt (first | (refine' Mine.wpC_test ?hdz1 ?_; (case hdz1 => decide)) | refine Mine.wpC_isTrue_Compare1 ?_)) | ((with_reducible show Mine.wpC _ _ (callWith _ (Value.ref _) _ _ _) _ _ _); k_dflt (refine' Mine.wpC_callWith_K ?k1z1 ?k2z1 ?k3z1 ?_; (case k3z1 => k_asm); (case k1z1 => k_is); (case k2z1 => rfl); k_whole)) | ((with_reducible show Mine.wpC _ _ (callWith _ (Value.builtin _) _ _ _) _ _ _); k_dflt (refine Mine.wpC_callWith_builtin rfl ?_)) | ((with_reducible show Mine.wpC _ _ (callWith _ (Value.type _) _ _ _) _ _ _); k_dflt (refine Mine.wpC_callWith_type rfl ?_)) | ((with_reducible show Mine.wpC _ _ (ite _ _ _) _ _ _); k_dflt (refine Mine.wpC_iteF ?_)) | ((with_reducible show Mine.wpC _ _ (evalArgs _ _ _ _) _ _ _); k_dflt (refine Mine.wpC_evalArgs ?_)) | ((with_reducible show Mine.wpC _ _ (spliced _) _ _ _); k_dflt (first | refine Mine.wpC_spliced_cons ?_ | refine Mine.wpC_spliced_nil ?_); (try dsimp only [List.nil_append, List.cons_append]))))
  k_with "setItem ref int" => ((k_here; (with_reducible show wpAny _ _ (PySem.setItem (Value.ref _) (Value.int _ _) (Value.int _ _)) _ _ _); k_dflt (refine' Mine.ba_set_K ?k1z2 ?k2z2 ?k3z2 ?k4z2 ?k5z2 ?k6z2 ?k7z2 ?k8z2 ?_; (case k1z2 => k_asm); (case k2z2 => k_asm); (case k3z2 => k_upd); (case k4z2 => ((try simp only [Array.size_setIfInBounds, Array.size_replicate]); first | decide | omega)); (case k5z2 => decide); (case k6z2 => ((try simp only [Array.size_setIfInBounds, Array.size_replicate]); first | decide | omega)); (case k7z2 => first | exact fmod_lo _ (by decide) | exact fmod_hi _ (by decide)); (case k8z2 => first | exact fmod_lo _ (by decide) | exact fmod_hi _ (by decide)); k_whole); intro h' F' N'; (try k_sweep)))
  k_with "call type:bytes" => ((k_here; (with_reducible show wpAny _ _ (call (Value.type "bytes") [Value.ref _]) _ _ _); k_dflt (refine' Mine.ba_bytes_K ?k1z3 ?k2z3 ?k3z3 ?_; (case k1z3 => k_asm); (case k2z3 => k_extra "mem9"); (case k3z3 => ((try simp only [Array.size_setIfInBounds, Array.size_replicate]); first | decide | omega)); k_whole); intro _ _))
  k_with "pyIter ref" => ((k_here; (with_reducible show wpAny _ _ (pyIter (Value.ref _)) (fun it s₂ => Mine.codeC _ _ _ _ _) _ _); k_dflt (first | (refine' Mine.iter_tup ?Fz4 ?Nz4 ?lz4 ?_; (case Fz4 => k_asm); (case Nz4 => k_asm); (case lz4 => exact Mine.tuple_K (Frag.In.keeps (by k_asm) (Fr.keep (by k_asm))) (by k_is)); k_whole) | (refine' Mine.iter_list ?Fz4 ?Nz4 ?lz4 ?_; (case Fz4 => k_asm); (case Nz4 => k_asm); (case lz4 => is_list); k_whole)); intro I' o' h' hO' F' N' hK' l1; (try k_lt l1); (try dsimp only)))
  k_with "codeC" => ((k_here; (with_reducible show Mine.codeC _ _ (Code.forLoop _ _ _ _ _) _ _); k_dflt (first | (refine' Mine.for_tup_N ?Fz5 ?Nz5 ?hoz5 ?hIz5 ?hsz5 ?hKz5 ?hlz5 ?hxz5 ?_; (case Fz5 => k_asm); (case Nz5 => k_asm); (case hKz5 => assumption); (case hoz5 => assumption); (case hIz5 => k_extra "mem9"); (case hsz5 => k_extra "subL9"); (case hlz5 => exact Mine.tuple_K (Frag.In.keeps (by k_asm) (Fr.keep (by k_asm))) (by k_is)); (case hxz5 => rfl); k_whole; intro o' h' hO' F' N') | (refine' Mine.for_list_N ?Fz5 ?Nz5 ?hoz5 ?hIz5 ?hsz5 ?hKz5 ?hlz5 ?hxz5 ?_; (case Fz5 => k_asm); (case Nz5 => k_asm); (case hKz5 => assumption); (case hoz5 => assumption); (case hIz5 => k_extra "mem9"); (case hsz5 => k_extra "subL9"); (case hlz5 => is_list); (case hxz5 => rfl); k_whole; intro o' h' hO' F' N') | (refine' Mine.for_list_T ?Fz5 ?Nz5 ?hoz5 ?hIz5 ?hsz5 ?hKz5 ?hlz5 ?hxz5 ?_; (case Fz5 => k_asm); (case Nz5 => k_asm); (case hKz5 => assumption); (case hoz5 => assumption); (case hIz5 => k_extra "mem9"); (case hsz5 => k_extra "subL9"); (case hlz5 => is_list); (case hxz5 => rfl); k_whole; intro o' h' hO' F' N') | (refine' Mine.for_list_end ?hhz5 ?Fz5 ?Nz5 ?hoz5 ?hIz5 ?hsz5 ?hKz5 ?hlz5 ?hxz5 ?_; (case hhz5 => rfl); (case Fz5 => k_asm); (case Nz5 => k_asm); (case hKz5 => assumption); (case hoz5 => assumption); (case hIz5 => k_extra "mem9"); (case hsz5 => k_extra "subL9"); (case hlz5 => is_list); (case hxz5 => rfl); k_whole; intro h' F' N')); (try k_sweep); (try dsimp only)))
  k_with "compareOp NotIn int ref" => ((k_here; (with_reducible show wpAny _ _ (compareOp CmpOp.NotIn (Value.int _ _) (Value.ref 35)) _ _ _); k_dflt (refine' Mine.notin_tup_K (ns := [(1, 278), (2, 279), (4, 280), (8, 281)]) ?Xz6 ?ez6 ?bz6 ?_; (case Xz6 => exact Frag.In.keeps (by k_asm) (Fr.keep (by k_asm))); (case ez6 => k_is); (case bz6 => rfl); k_whole)))
  k_with "getMethod ref" => ((k_here; (with_reducible show wpAny _ _ (getMethod (Value.ref 35) (PySem.Str.ofString "index") _) _ _ _); k_dflt (refine' Mine.tup_method_K ?Xz7 ?ez7 PySem.F.slot_tuple_index PySem.F.type_tuple_index ?_; (case Xz7 => exact Frag.In.keeps (by k_asm) (Fr.keep (by k_asm))); (case ez7 => k_is))))
  k_with "call builtin:tuple.index" => ((k_here; (with_reducible show wpAny _ _ (call (Value.builtin _) [Value.ref 35, Value.int _ _]) _ _ _); k_dflt (refine' Mine.tup_index_K (ns := [(1, 278), (2, 279), (4, 280), (8, 281)]) ?Xz8 ?ez8 ?jz8 ?_; (case Xz8 => exact Frag.In.keeps (by k_asm) (Fr.keep (by k_asm))); (case ez8 => k_is); (case jz8 => rfl); k_whole)))
  k_with "getMethod ref" => ((k_here; (with_reducible show wpAny _ _ (getMethod (Value.ref 124) (PySem.Str.ofString "index") _) _ _ _); k_dflt (refine' Mine.list_method_K ?Xz9 ?ez9 PySem.F.slot_list_index PySem.F.type_list_index ?_; (case Xz9 => exact Frag.In.keeps (by k_asm) (Fr.keep (by k_asm))); (case ez9 => k_is))))
  k_with "call builtin:list.index" => ((k_here; (with_reducible show wpAny _ _ (call (Value.builtin _) [Value.ref 124, Value.str _ _]) _ _ _); k_dflt (first | (refine' Mine.list_index_K (j := 0) (ns := [(PySem.Str.ofString "initial", 434), (PySem.Str.ofString "zero", 435), (PySem.Str.ofString "handshake", 436), (PySem.Str.ofString "retry", 437)]) ?Xz10 ?ez10 ?jz10 ?zz10 ?pz10 ?qz10 ?_; (case Xz10 => exact Frag.In.keeps (by k_asm) (Fr.keep (by k_asm))); (case ez10 => k_is); (case jz10 => decide); (case zz10 => decide); (case pz10 => decide); (case qz10 => decide); k_whole) | (refine' Mine.list_index_K (j := 2) (ns := [(PySem.Str.ofString "initial", 434), (PySem.Str.ofString "zero", 435), (PySem.Str.ofString "handshake", 436), (PySem.Str.ofString "retry", 437)]) ?Xz10 ?ez10 ?jz10 ?zz10 ?pz10 ?qz10 ?_; (case Xz10 => exact Frag.In.keeps (by k_asm) (Fr.keep (by k_asm))); (case ez10 => k_is); (case jz10 => decide); (case zz10 => decide); (case pz10 => decide); (case qz10 => decide); k_whole))))
  k_with "off1" => (first | exact True.intro | (refine And.intro (by k_ne) ?_; walk_at "off1"))
  k_with "wpC" => ((k_here; (with_reducible show Mine.wpC _ _ (eval _ _) _ _ _); k_dflt (first | (refine' Mine.wpC_join ?az12 ?bz12 ?_; (case az12 => rfl); (case bz12 => rfl); intro u' tk') | (refine' Mine.wpC_ListComp ?az12 ?bz12 ?cz12 ?_; (case az12 => rfl); (case bz12 => rfl); (case cz12 => decide)))))
  k_with "CSrc" => ((k_here; k_dflt (refine' Mine.csrc_list ?Fz13 ?Nz13 ?lz13 ?az13 ?bz13 ?_; (case Fz13 => k_asm); (case Nz13 => k_asm); (case lz13 => is_list); (case az13 => decide); (case bz13 => rfl)); intro I' o' D' C' oC' h' tk' hO' hC' F' N' l1 l2 l3; (try k_lt l1); (try k_lt l2); (try k_lt l3); (try dsimp only)))
  k_with "codeC" => ((k_here; (with_reducible show Mine.codeC _ _ (Code.compLoop _ _ _ _ _) _ _); k_dflt (first | (refine' Mine.comp_turn ?Fz14 ?Nz14 ?hoz14 ?hCz14 ?oIz14 ?oCz14 ?nez14 ?hlz14 ?hxz14 ?hnz14 ?hkz14 ?_; (case Fz14 => k_asm); (case Nz14 => k_asm); (case hoz14 => assumption); (case hCz14 => assumption); (case oIz14 => walk_at "off1"); (case oCz14 => walk_at "off1"); (case nez14 => k_ne); (case hlz14 => is_list); (case hxz14 => rfl); (case hnz14 => rfl); (case hkz14 => rfl); intro o' oC' m' h' tk' hO' hC' hm' F' N') | (refine' Mine.comp_end ?hhz14 ?Fz14 ?Nz14 ?hoz14 ?hCz14 ?oIz14 ?oCz14 ?nez14 ?hlz14 ?hxz14 ?_; (case hhz14 => rfl); (case Fz14 => k_asm); (case Nz14 => k_asm); (case hoz14 => assumption); (case hCz14 => assumption); (case oIz14 => walk_at "off1"); (case oCz14 => walk_at "off1"); (case nez14 => k_ne); (case hlz14 => is_list); (case hxz14 => rfl); intro h' F' N')); (try k_sweep); (try simp only [List.push_toArray, List.nil_append, List.cons_append] at N'); (try dsimp only)))
  k_with "call builtin:bytes.join" => ((k_here; k_dflt (first | (refine' Mine.join1 ?lz15 ?e1z15 ?zz15 ?_; (case lz15 => is_list); (case e1z15 => assumption); (case zz15 => omega)) | (refine' Mine.join2 ?lz15 ?e1z15 ?e2z15 ?zz15 ?_; (case lz15 => is_list); (case e1z15 => assumption); (case e2z15 => assumption); (case zz15 => omega)) | (refine' Mine.join3 ?lz15 ?e1z15 ?e2z15 ?e3z15 ?zz15 ?_; (case lz15 => is_list); (case e1z15 => assumption); (case e2z15 => assumption); (case e3z15 => assumption); (case zz15 => omega))); intro b' t' k' hb'))
  k_with "subscriptTail Name Slice ref ref" => ((k_here; (with_reducible show wpAny _ _ (subscriptTail _ (PySem.Expr.Slice (some _) none none _) (Value.ref _) (Value.ref _)) _ _ _); k_dflt (refine' Mine.tup_from_K ?Fz16 ?Nz16 ?mz16 ?pz16 ?qz16 ?zz16 ?_ ?sz16 ?tz16; (case Fz16 => k_asm); (case Nz16 => k_asm); (case mz16 => k_extra "mem9"); (case pz16 => decide); (case qz16 => exact Nat.le_of_ble_eq_true rfl); (case zz16 => exact Nat.le_of_ble_eq_true rfl); (case sz16 => with_unfolding_all rfl); (case tz16 => intro _; with_unfolding_all rfl)); intro D' h' F' N' l1; (try k_lt l1); (try dsimp only [List.drop] at N'); (try k_sweep)))
  k_with "call type:bytes" => ((k_here; (with_reducible show wpAny _ _ (call (Value.type "bytes") [Value.ref _]) _ _ _); k_dflt (refine' Mine.bytes_zeros_K ?Fz17 ?Nz17 ?mz17 ?zz17 ?hz17 ?_; (case Fz17 => k_asm); (case Nz17 => k_asm); (case mz17 => k_extra "mem9"); (case zz17 => omega); (case hz17 => rfl)); intro h' b' t' k' F' N' hb'; (try k_sweep)))
  k_with "call type:bytes" => ((k_here; (with_reducible show wpAny _ _ (call (Value.type "bytes") [Value.int _ _]) _ _ _); k_dflt (refine' Mine.call_bytes_int ?k1z18 ?k2z18 ?_; (case k1z18 => omega); (case k2z18 => omega)); intro b' t' k' hb'))
  k_with "call" => ((k_here; (with_reducible show wpAny _ _ (call (Value.type "bytes") [Value.int _ _]) _ _ _); k_dflt (refine' Mine.call_bytes_int ?k1z19 ?k2z19 ?_; (case k1z19 => omega); (case k2z19 => omega)); intro b' t' k' hb'))
  k_with "binaryOp Add bytes bytes" => ((k_here; (with_reducible show wpAny _ _ (binaryOp Operator.Add (Value.bytes _ _) (Value.bytes _ _)) _ _ _); k_dflt (refine' Mine.bytes_add_N ?k1z20 ?k2z20 ?k3z20 ?_; (case k1z20 => first | assumption | exact Mine.size_lit1 | exact rfl); (case k2z20 => first | assumption | exact Mine.size_lit1 | exact rfl); (case k3z20 => omega)); intro b' t' k' hb'))
  k_with "FinE" => (((unfold LCg.FinE); intro D' h' tk' F' N' o1'; (try simp only [List.nil_append, List.cons_append] at N'); (try dsimp only)))
  k_with "FinA" => (((unfold LCg.FinA); intro D' h' tk' F' N' o1'; (try simp only [List.nil_append, List.cons_append] at N'); (try dsimp only)))
  k_with "CompRest" => ((with_unfolding_all first | (refine LCg.CompRest.succ ?_; intro v' I' oI' C' oC' D' m' h' tk' E' hv' hC' hx' F' N' off' ne'; (first | lcg_open hv' | (obtain ⟨t9', hv9'⟩ := hv'; subst hv9'))) | refine LCg.CompRest.zero ?_))
  k_with "csc_enter" => (( refine wpC_call ?_; k_dflt (refine' codeC_defL _ ?hlz24 ?k1z24 ?k2z24 ?k3z24 ?k4z24 ?k5z24 ?kAz24 ?kFz24 ?kKz24 ?k6z24 ?k7z24 ?k8z24 ?k9z24 ?kBz24 ?_ ?c2z24 ?c3z24 ?c4z24 ?c5z24; (case hlz24 => assumption); (case kAz24 => exact rfl); (case kFz24 => exact rfl); (case kKz24 => assumption); (case k1z24 => k_asm); (case k2z24 => k_asm); (case k3z24 => k_asm); (case k4z24 => k_asm); (case k5z24 => k_asm); (case k6z24 => k_is); (case k7z24 => k_is); (case k8z24 => ktr_room); (case k9z24 => exact BindsTo.of_eq rfl); (case c5z24 => decide); (case kBz24 => exact locs rfl); (case c2z24 => exact rfl); (case c3z24 => exact rfl); (case c4z24 => exact rfl); k_whole; intro g' L' h' tk' FG' F' N' B' X' T' l1; (try k_lt l1); (try dsimp only))))
  k_with "cs_enter" => (( refine wpAny_call ?_; k_dflt (refine' code_defL _ ?hlz25 ?k1z25 ?k2z25 ?k3z25 ?k4z25 ?k5z25 ?kAz25 ?kFz25 ?kKz25 ?k6z25 ?k7z25 ?k8z25 ?k9z25 ?kBz25 ?_ ?c2z25 ?c3z25 ?c4z25 ?c5z25; (case hlz25 => assumption); (case kAz25 => exact rfl); (case kFz25 => exact rfl); (case kKz25 => assumption); (case k1z25 => k_asm); (case k2z25 => k_asm); (case k3z25 => k_asm); (case k4z25 => k_asm); (case k5z25 => k_asm); (case k6z25 => k_is); (case k7z25 => k_is); (case k8z25 => ktr_room); (case k9z25 => exact BindsTo.of_eq rfl); (case c5z25 => decide); (case kBz25 => exact locs rfl); (case c2z25 => exact rfl); (case c3z25 => exact rfl); (case c4z25 => exact rfl); k_whole; intro g' L' h' tk' FG' F' N' B' X' T' l1; (try k_lt l1); (try dsimp only))))
  k_with "Back" => ((refine' Mine.cs_ret ?rz26 ?_ ?Fz26 ?Nz26 ?hsz26; (case rz26 => assumption); (case Fz26 => k_asm); (case Nz26 => k_asm); (case hsz26 => k_extra "subL9")))
  k_with "subscriptTail" => ((k_here; (with_reducible show wpAny _ _ (subscriptTail _ _ (Value.ref _) (Value.int (Int.fmod _ _) _)) _ _ _); k_dflt (first | (refine' Mine.item_pick ?k1z27 ?k2z27 ?k3z27 ?k4z27 ?k5z27 ?_ ?k6z27; (case k1z27 => is_list); (case k2z27 => l_ints); (case k3z27 => exact fmod_lo _ (by decide)); (case k4z27 => exact Int.lt_of_lt_of_le (fmod_hi _ (by decide)) (by simp)); (case k5z27 => exact Nat.le_of_ble_eq_true rfl); (case k6z27 => with_unfolding_all rfl); intro v9 t9 hv9; (try simp only [List.mem_cons, List.not_mem_nil, or_false] at hv9)) | (refine' Mine.item_any ?k1z27 ?k3z27 ?k4z27 ?k5z27 ?_ ?k6z27; (case k1z27 => is_list); (case k3z27 => exact fmod_lo _ (by decide)); (case k4z27 => exact Int.lt_of_lt_of_le (fmod_hi _ (by decide)) (by simp)); (case k5z27 => exact Nat.le_of_ble_eq_true rfl); (case k6z27 => with_unfolding_all rfl); intro v9 hv9; simp only [List.mem_cons, List.not_mem_nil, or_false] at hv9; (rcases hv9 with e9 | e9 | e9 | e9) <;> subst e9))))
  k_with "call type:bytes" => ((k_here; (with_reducible show wpAny _ _ (call (Value.type "bytes") [Value.int (_ * Int.fmod _ _) _]) _ _ _); refine Mine.call_bytes_small (by decide) (by decide) (by decide) ?_; intro b' t' k' hb'))
  k_with "call" => ((k_here; (with_reducible show wpAny _ _ (call (Value.type "bytes") [Value.int (_ * Int.fmod _ _) _]) _ _ _); refine Mine.call_bytes_small (by decide) (by decide) (by decide) ?_; intro b' t' k' hb'))
  k_with "CutEnd" => ((refine Mine.cutEnd_of ?_; refine Mine.stopHere ?_))
  k_with "mid3" => ((refine' Mine.mid3_intro ?fz31 ?nz31 ?n1z31 ?n2z31 ?n3z31 ?n4z31 ?n5z31 ?n6z31 ?n7z31 ?d7z31 ?d6z31 ?d5z31 ?d4z31 ?d3z31 ?d2z31 ?d1z31 ?n8z31 ?n9z31 ?l1z31 ?l2z31 ?l3z31 ?m5z31 ?hqz31 ?hgz31 ?hbz31 ?hsz31; (case fz31 => k_asm); (case nz31 => k_asm); (case n1z31 => k_extra "mem9"); (case n2z31 => k_extra "mem9"); (case n3z31 => k_extra "mem9"); (case n4z31 => k_extra "mem9"); (case n5z31 => k_extra "mem9"); (case n6z31 => k_extra "mem9"); (case n7z31 => k_extra "mem9"); (case d7z31 => with_reducible assumption); (case d6z31 => with_reducible assumption); (case d5z31 => with_reducible assumption); (case d4z31 => with_reducible assumption); (case d3z31 => with_reducible assumption); (case d2z31 => with_reducible assumption); (case d1z31 => with_reducible assumption); (case n8z31 => k_extra "mem9"); (case n9z31 => k_extra "mem9"); (case l1z31 => first | exact Mine.lt_of_all (by with_reducible assumption) (by k_extra "mem9") | omega); (case l2z31 => first | exact Mine.lt_of_all (by with_reducible assumption) (by k_extra "mem9") | omega); (case l3z31 => first | exact Mine.lt_of_all (by with_reducible assumption) (by k_extra "mem9") | omega); (case m5z31 => walk_at "ldm9"); (case hqz31 => assumption); (case hgz31 => assumption); (case hbz31 => assumption); (case hsz31 => assumption)))
  k_with "ldm9" => (first | assumption | exact if_pos rfl | (refine (if_neg (by decide)).trans ?_; walk_at "ldm9"))
  k_with "CompEnd" => (((fail_if_success (goal_has PySem.W.KCfEl)); k_dflt (refine' Mine.compEnd3 ?Fz33 ?Nz33 ?offz33 ?o1z33 ?o2z33 ?o3z33 ?hSz33 ?_; (case Fz33 => k_asm); (case Nz33 => k_asm); (case offz33 => first | with_reducible assumption | ((simp only [LCg.Off3, and_true]); assumption)); (case o1z33 => exact ⟨by k_ne, by k_ne, by k_ne⟩); (case o2z33 => exact ⟨by k_ne, by k_ne, by k_ne⟩); (case o3z33 => exact ⟨by k_ne, by k_ne, by k_ne⟩); (case hSz33 => first | lcg_src | assumption))))
  k_with "mid3" => ((refine' Mine.mid3_intro ?fz34 ?nz34 ?n1z34 ?n2z34 ?n3z34 ?n4z34 ?n5z34 ?n6z34 ?n7z34 ?d7z34 ?d6z34 ?d5z34 ?d4z34 ?d3z34 ?d2z34 ?d1z34 ?n8z34 ?n9z34 ?l1z34 ?l2z34 ?l3z34 ?m5z34 ?hqz34 ?hgz34 ?hbz34 ?hsz34; (case fz34 => k_asm); (case nz34 => k_asm); (case n1z34 => k_extra "mem9"); (case n2z34 => k_extra "mem9"); (case n3z34 => k_extra "mem9"); (case n4z34 => k_extra "mem9"); (case n5z34 => k_extra "mem9"); (case n6z34 => k_extra "mem9"); (case n7z34 => k_extra "mem9"); (case d7z34 => with_reducible assumption); (case d6z34 => with_reducible assumption); (case d5z34 => with_reducible assumption); (case d4z34 => with_reducible assumption); (case d3z34 => with_reducible assumption); (case d2z34 => with_reducible assumption); (case d1z34 => with_reducible assumption); (case n8z34 => k_extra "mem9"); (case n9z34 => k_extra "mem9"); (case l1z34 => with_reducible assumption); (case l2z34 => with_reducible assumption); (case l3z34 => first | exact Mine.lt_of_all (by with_reducible assumption) (by k_extra "mem9") | omega); (case m5z34 => walk_at "ldm9"); (case hspz34 => first | with_reducible assumption | decide +kernel); (case hqz34 => assumption); (case hgz34 => assumption); (case hbz34 => assumption); (case hsz34 => assumption)))
  k_with "call ref" => ((k_here; (with_reducible show wpAny _ _ (call (Value.ref 229) _) _ _ _); k_dflt (first | (refine' Mine.cs_use_int (Mine.totOK_1 (by assumption) ?p0z35 ?p1z35 ?p2z35) ?k1z35 ?k2z35 ?k3z35 ?k4z35 ?k5z35 ?kKz35 ?kdz35 ?kuz35 ?_; (case k1z35 => k_asm); (case k2z35 => k_asm); (case k3z35 => k_asm); (case k4z35 => k_asm); (case k5z35 => k_asm); (case kKz35 => first | exact rfl | assumption); (case kdz35 => ktr_room); (case kuz35 => ktr_units); (case p0z35 => k_extra "mem9"); (case p1z35 => k_extra "mem9"); (case p2z35 => k_extra "mem9"); k_whole) | (refine' Mine.cs_use_int (Mine.totOK_2a (by assumption) ?p0z35 ?p1z35 ?p2z35) ?k1z35 ?k2z35 ?k3z35 ?k4z35 ?k5z35 ?kKz35 ?kdz35 ?kuz35 ?_; (case k1z35 => k_asm); (case k2z35 => k_asm); (case k3z35 => k_asm); (case k4z35 => k_asm); (case k5z35 => k_asm); (case kKz35 => first | exact rfl | assumption); (case kdz35 => ktr_room); (case kuz35 => ktr_units); (case p0z35 => k_extra "mem9"); (case p1z35 => k_extra "mem9"); (case p2z35 => k_extra "mem9"); k_whole) | (refine' Mine.cs_use_int (Mine.totOK_2 (by assumption) ?p0z35 ?p1z35 ?p2z35) ?k1z35 ?k2z35 ?k3z35 ?k4z35 ?k5z35 ?kKz35 ?kdz35 ?kuz35 ?_; (case k1z35 => k_asm); (case k2z35 => k_asm); (case k3z35 => k_asm); (case k4z35 => k_asm); (case k5z35 => k_asm); (case kKz35 => first | exact rfl | assumption); (case kdz35 => ktr_room); (case kuz35 => ktr_units); (case p0z35 => k_extra "mem9"); (case p1z35 => k_extra "mem9"); (case p2z35 => k_extra "mem9"); k_whole)); intro u9 h9 tk9 F9 N9; (try dsimp only)))
  trivial
local macro_rules | `(tactic| walk_at "mid7") => `(tactic| (refine' Mine.mid7_intro ?f ?n ?n1 ?n2 ?n3 ?n4 ?n5 ?n6 ?n7 ?m9 ?d7 ?d6 ?d5 ?d4 ?d3 ?d2 ?d1 ?n8 ?n9 ?n10 ?n11 ?n12 ?n13 ?n14 ?n15 ?l1 ?l2 ?l3 ?m5 ?tot ?kind ?num ?hsp ?hq ?hg ?s0 ?s1; (case f => k_asm); (case n => k_asm); (case n1 => k_extra "mem9"); (case n2 => k_extra "mem9"); (case n3 => k_extra "mem9"); (case n4 => k_extra "mem9"); (case n5 => k_extra "mem9"); (case n6 => k_extra "mem9"); (case n7 => k_extra "mem9"); (case m9 => walk_at "ldm9"); (case d7 => with_reducible assumption); (case d6 => with_reducible assumption); (case d5 => with_reducible assumption); (case d4 => with_reducible assumption); (case d3 => with_reducible assumption); (case d2 => with_reducible assumption); (case d1 => with_reducible assumption); (case n8 => k_extra "mem9"); (case n9 => k_extra "mem9"); (case n10 => k_extra "mem9"); (case n11 => k_extra "mem9"); (case n12 => k_extra "mem9"); (case n13 => k_extra "mem9"); (case n14 => k_extra "subL9"); (case n15 => k_extra "subL9"); (case l1 => with_reducible assumption); (case l2 => with_reducible assumption); (case l3 => first | exact Mine.lt_of_all (by with_reducible assumption) (by k_extra "mem9") | omega); (case m5 => walk_at "ldm9"); (try (case tot => with_reducible assumption)); (case num => with_reducible assumption); (case hsp => first | with_reducible assumption | decide +kernel); (case hq => assumption); (case hg => assumption); (case s0 => assumption); (case s1 => assumption)))
theorem lines_PR_2 : True := by
  k_with "loadName" => ((k_here; (with_reducible show wpAny _ _ (loadName _ _) _ _ _); k_dflt (refine' Mine.ld_name ?fz36 ?lz36 ?xz36 ?_ ?az36 ?bz36; (case fz36 => k_asm); (case lz36 => rfl); (case xz36 => walk_at "ldm9"); (case az36 => rfl); (case bz36 => rfl))))
  k_with "eval Name" => ((k_here; (with_reducible show wpAny _ _ (eval (Expr.Name _ _) _) _ _ _); k_dflt (refine' Mine.ld_frame ?fz37 ?lz37 ?xz37 ?_ ?az37 ?bz37 ?cz37; (case fz37 => k_asm); (case lz37 => rfl); (case xz37 => walk_at "ldm9"); (case az37 => rfl); (case bz37 => rfl); (case cz37 => decide))))
  k_with "rd9" => (first | exact Reads.str _ _ | exact Reads.int _ _ | exact reads_list_at (News.get (by with_reducible assumption) (by k_extra "mem9")) rfl rfl (by walk_at "rds9") | exact reads_tuple_at (News.get (by with_reducible assumption) (by k_extra "mem9")) rfl rfl (by walk_at "rds9"))
  k_with "rds9" => (first | exact ReadsAll.nil | exact ReadsAll.cons (by walk_at "rd9") (by walk_at "rds9"))
  k_with "compareOp Eq ref ref" => ((k_here; (fail_if_success (have gg9 := hi)); (with_reducible show wpAny _ _ (compareOp CmpOp.Eq (Value.ref _) (Value.ref _)) _ _ _); k_dflt (refine' eq_dataH ?y1z40 ?y2z40 ?y3z40 ?y4z40 ?y5z40 ?_; (case y1z40 => walk_at "rd9"); (case y2z40 => walk_at "rd9"); (case y3z40 => with_reducible assumption); (case y4z40 => with_reducible assumption); (case y5z40 => ke_room)); ked_norm; ke_norm))
  k_with "compareOp NotEq ref ref" => ((k_here; (fail_if_success (have gg9 := hi)); (with_reducible show wpAny _ _ (compareOp CmpOp.NotEq (Value.ref _) (Value.ref _)) _ _ _); k_dflt (refine' ne_dataH ?y1z41 ?y2z41 ?y3z41 ?y4z41 ?y5z41 ?_; (case y1z41 => walk_at "rd9"); (case y2z41 => walk_at "rd9"); (case y3z41 => with_reducible assumption); (case y4z41 => with_reducible assumption); (case y5z41 => ke_room)); ked_norm; ke_norm))
  k_with "eval Dict" => ((k_here; k_dflt (refine' kdn_str ?qz42 ?Fz42 ?Nz42 ?bz42 ?az42 ?lz42 ?ez42 ?nz42 ?_; (case qz42 => rfl); (case Fz42 => k_asm); (case Nz42 => first | k_asm | exact News.nil); (case bz42 => exact Top.nolimit (by k_asm)); (case az42 => rfl); (case lz42 => rfl); (case ez42 => exact List.cons_ne_nil _ _); (case nz42 => exact Nat.le_of_ble_eq_true rfl)); intro d' h' o' F' N' l1 lo' hd'; (try k_lt l1)))
  k_with "newTuple" => ((k_here; (with_reducible show wpAny _ _ (newTuple [Value.int _ _, Value.none]) _ _ _); k_dflt (refine' kup_newTuple ?Fz43 ?Nz43 ?_ ?zz43; (case Fz43 => k_asm); (case Nz43 => k_asm); (case zz43 => kmk_size)); intro D' h' F' N' l1; (try k_lt l1); (try k_sweep)))
  k_with "wpC" => (((with_reducible show Mine.wpC _ _ (call (Value.ref 222) _ _) _ _ _); refine Mine.stopHere ?_))
  k_with "midT" => ((refine' Mine.midT_intro ?fz45 ?nz45 ?n1z45 ?n2z45 ?n3z45 ?n4z45 ?n5z45 ?n6z45 ?n7z45 ?d7z45 ?d6z45 ?d5z45 ?d4z45 ?d3z45 ?d2z45 ?d1z45 ?n8z45 ?n9z45 ?n10z45 ?l1z45 ?l2z45 ?l3z45 ?totz45 ?numz45 ?q0z45 ?q1z45 ?s0z45 ?s1z45 ?m5z45 ?m8z45 ?hprez45; (case numz45 => with_reducible assumption); (case totz45 => with_reducible assumption); (case fz45 => k_asm); (case nz45 => k_asm); (case n1z45 => k_extra "mem9"); (case n2z45 => k_extra "mem9"); (case n3z45 => k_extra "mem9"); (case n4z45 => k_extra "mem9"); (case n5z45 => k_extra "mem9"); (case n6z45 => k_extra "mem9"); (case n7z45 => k_extra "mem9"); (case d7z45 => with_reducible assumption); (case d6z45 => with_reducible assumption); (case d5z45 => with_reducible assumption); (case d4z45 => with_reducible assumption); (case d3z45 => with_reducible assumption); (case d2z45 => with_reducible assumption); (case d1z45 => with_reducible assumption); (case n8z45 => k_extra "mem9"); (case n9z45 => k_extra "mem9"); (case n10z45 => k_extra "mem9"); (case l1z45 => with_reducible assumption); (case l2z45 => with_reducible assumption); (case l3z45 => with_reducible assumption); (case q0z45 => with_reducible assumption); (case q1z45 => with_reducible assumption); (case s0z45 => with_reducible assumption); (case s1z45 => with_reducible assumption); (case m5z45 => walk_at "ldm9"); (case m8z45 => walk_at "ldm9"); (case hprez45 => first | exact Or.inl rfl | exact Or.inr ⟨_, rfl⟩)))
  k_with "call builtin:max" => ((k_here; (with_reducible show wpAny _ _ (call (Value.builtin _) [Value.ref _]) _ _ _); (with_unfolding_all refine' kso_max ?k1z46 ?k2z46 ?k3z46 ?k4z46 ?k5z46 ?k6z46 ?_; (case k1z46 => k_asm); (case k2z46 => k_asm); (case k3z46 => is_list); (case k4z46 => with_reducible assumption); (case k5z46 => with_reducible assumption); (case k6z46 => with_unfolding_all rfl); k_whole); intro h' M' t' k' F' N' a' b'; (try k_sweep)))
  k_with "CompSrcT" => (refine Mine.stopHere ?_)
  k_with "TestIs" => (refine Mine.stopHere ?_)
  k_with "subscriptTail" => ((k_here; (with_reducible show wpAny _ _ (subscriptTail (PySem.Expr.Name _ _) (PySem.Expr.Name _ _) (Value.ref _) (Value.int _ _)) _ _ _); k_dflt (refine' Mine.item_mapG ?k1z49 ?k2z49 ?k3z49 ?k4z49 ?k5z49 ?_ ?k6z49; (case k1z49 => is_list); (case k2z49 => with_reducible assumption); (case k3z49 => with_reducible assumption); (case k4z49 => with_reducible assumption); (case k5z49 => with_reducible assumption); (case k6z49 => with_unfolding_all rfl); intro t9)))
  k_with "midU" => ((refine' Mine.midU_intro ?fz50 ?nz50 ?n1z50 ?n2z50 ?n6z50 ?d1z50 ?d2z50 ?d6z50 ?ntz50 ?hiz50 ?numz50 ?s0z50 ?s1z50 ?m5z50 ?m8z50; (case fz50 => k_asm); (case nz50 => k_asm); (case n1z50 => k_extra "mem9"); (case n2z50 => k_extra "mem9"); (case n6z50 => k_extra "mem9"); (case numz50 => with_reducible assumption); (case d1z50 => with_reducible assumption); (case d2z50 => with_reducible assumption); (case d6z50 => with_reducible assumption); (case ntz50 => k_extra "mem9"); (case hiz50 => with_reducible assumption); (case s0z50 => with_reducible assumption); (case s1z50 => with_reducible assumption); (case m5z50 => walk_at "ldm9"); (case m8z50 => walk_at "ldm9")))
  k_with "subscriptTail" => ((k_here; (with_reducible show wpAny _ _ (subscriptTail (PySem.Expr.Subscript _ _ _) (PySem.Expr.Constant _ _ _) (Value.ref _) (Value.int _ _)) _ _ _); k_dflt (refine' item_tupleT ?tz51 ?az51 ?bz51 ?cz51 ?dz51 ?_; (case tz51 => exact News.isTup (by k_asm) (by k_extra "mem9")); (case az51 => decide); (case bz51 => decide); (case cz51 => rfl); (case dz51 => rfl); k_whole)))
  trivial
theorem law_one (w : World) (news : List (Addr × Obj)) (pick : Int) (tp : Tok) : CSC w 234 news [.int pick tp] 10 TrueIs := by
  unfold CSC
  intro mean mg mb dp un gd cn cs a ccd cl outer A₀ base' h₀ L m s Q E B F X N T' hk hd hu hret
  have hl : ∀ p ∈ ([] : List (Addr × Obj)), p ∈ news := fun _ h => nomatch h
  walk_at "csc_enter7"
  rename_i g1 L1 h1 tk1 FG1 F1 B1 X1 T1 l1 z1 z2 z3 z4 z5 z6 z7 w1 w2 w3 w4 w5 w6 w7 N0
  change z1.data = Data.cell none at w1
  change z2.data = Data.cell none at w2
  change z3.data = Data.cell none at w3
  change z4.data = Data.cell none at w4
  change z5.data = Data.cell none at w5
  change z6.data = Data.cell none at w6
  change z7.data = Data.cell none at w7
  refine' Mine.cut2 3 (Mid3Any g1 L1) ?qa ?qb
  case qa =>
    dsimp only [List.take]
    k_steps
    all_goals unfold StopHere
    · refine .inl ?_
      walk_at "mid3"
      all_goals exact (0 : Nat)
    · refine .inr (.inl ?_)
      walk_at "mid3"
      all_goals exact (0 : Nat)
    · refine .inr (.inr (.inl ?_))
      walk_at "mid3"
    · refine .inr (.inr (.inr ?_))
      walk_at "mid3"
  case qb =>
    intro h t H
    clear w1 w2 w3 w4 w5 w6 w7 N0 F1
    dsimp only [List.drop]
    refine' Mine.cut2 4 (Mid7Any w g1 L1) ?qc ?qd
    case qc =>
      dsimp only [List.take]
      have H := mid3_shape (w := w) H
      rcases H with H | H
      · obtain ⟨sp, ids, nm, o1, o2, o3, o4, o5, o6, o7, ki, kn, ud, us, bd, bs, t0, tq, tg, ts, q, g, sl, m3, LT, H, htot, hkind, hnum, hsp⟩ := H
        obtain ⟨F3, N3, lt1, lt2, lt3, d7, d6, d5, d4, d3, d2, d1, m5, hq, hg, s0, s1, hb, hs⟩ := H
        k_steps
        all_goals unfold StopHere
        · refine .inr (.inl ?_)
          apply mid7One1_of
          walk_at "mid7"
          exact hkind
        · refine .inl ?_
          apply mid7One0_of
          walk_at "mid7"
          exact hkind
          exact q_one hq (by assumption)
      · obtain ⟨sp, ids, nm, o1, o2, o3, o4, o5, o6, o7, ki, kn, ud, us, bd, bs, t0, t1, tq, tg, ts, q, g, sl, m3, LT, H, htot, hkind, hnum, hsp⟩ := H
        obtain ⟨F3, N3, lt1, lt2, lt3, d7, d6, d5, d4, d3, d2, d1, m5, hq, hg, s0, s1, hb, hs⟩ := H
        k_steps
        all_goals unfold StopHere
        · refine .inr (.inr (.inr ?_))
          apply mid7Two1_of
          walk_at "mid7"
          exact htot _
          exact hkind _ _ _ _ _ _ _ _
        · refine .inr (.inr (.inl ?_))
          apply mid7Two0_of
          walk_at "mid7"
          exact htot _
          exact hkind _ _ _ _ _ _ _ _
          exact q_one hq (by assumption)
    case qd =>
      clear H
      intro h t H
      dsimp only [List.drop]
      refine' Mine.cut2 3 (MidTAny w g1 L1) ?qe ?qf
      case qe =>
        dsimp only [List.take]
        rcases H with H | H | H | H
        · refine Mine.mid7One0_elim H ?_
          clear H
          intro sp t0 p0 k0 tp0 ids nm sz R0 rb f oi o1 o2 o3 o4 o5 o6 o7 kn ks kR krb kf tsb tq tq2 tg ts tgo LT q g sl m3 hq1 H
          obtain ⟨F3, N3, lt1, lt2, lt3, d7, d6, d5, d4, d3, d2, d1, tot, kind, num, hsp, q0, q1, s0, s1, g0, g5, m5, m9⟩ := H
          subst hq1
          dsimp only [List.nil_append, List.cons_append, List.append_nil] at N3
          k_steps
          unfold StopHere
          k_dflt (refine' Mine.csc_use (Mine.full_one_0 kind (places_of ?q1 ?q2 ?q3 ?q4 ?q5 ?q6) ?p0 ?p1 ?p2 ?p3 ?p4 ?p5 num) ?k1 ?k2 ?k3 ?k4 ?k5 ?kK ?kd ?ku ?_)
          case k1 => k_asm
          case k2 => k_asm
          case k3 => k_asm
          case k4 => k_asm
          case k5 => k_asm
          case kK => first | exact rfl | assumption
          case kd => ktr_room
          case ku => ktr_units
          case q3 => k_extra "mem9"
          case q2 => assumption
          case q4 => k_extra "mem9"
          case q5 => k_extra "mem9"
          case q6 => k_extra "mem9"
          case q1 => assumption
          case p0 => k_extra "mem9"
          case p1 => k_extra "mem9"
          case p2 => k_extra "mem9"
          case p3 => k_extra "mem9"
          case p4 => k_extra "mem9"
          case p5 =>
            skip
            k_extra "subL9"
          k_whole
          intro v9 n9 h9 tk9 hp9 F9 N9
          obtain ⟨lack, hn, hp9⟩ := hp9
          have hsh0 := shp_one_0 hsp 0
          have hsh1 := shpp_one_0 hsp 0 lack
          rcases hp9 with ⟨hl0, e9, f9⟩ | ⟨hl0, f9, e9, u9, hp9⟩
          · subst e9
            subst f9
            subst hl0
            simp only [List.nil_append] at N9
            k_steps
            unfold StopHere
            walk_at "midT"
          · obtain ⟨f', r', fr', pp, c1, c2, c3, c4, tp, e9', f9'⟩ := hp9
            cases e9'
            subst e9
            subst f9'
            simp only [List.nil_append, List.cons_append] at N9
            k_steps
            unfold StopHere
            walk_at "midT"
        · refine Mine.mid7One1_elim H ?_
          clear H
          intro sp t0 p0 p1 k0 k1 tp0 tp1 u1 ids nm sz R0 rb f oi o1 o2 o3 o4 o5 o6 o7 kn ks kR krb kf tsb tq tq2 tg ts tgo LT q g sl m3 H
          obtain ⟨F3, N3, lt1, lt2, lt3, d7, d6, d5, d4, d3, d2, d1, tot, kind, num, hsp, q0, q1, s0, s1, g0, g5, m5, m9⟩ := H
          dsimp only [List.nil_append, List.cons_append, List.append_nil] at N3
          k_steps
          unfold StopHere
          k_dflt (refine' Mine.csc_use (Mine.full_one_1 kind (places_of ?q1 ?q2 ?q3 ?q4 ?q5 ?q6) ?p0 ?p1 ?p2 ?p3 ?p4 ?p6 ?p5 q0 q1 num) ?k1 ?k2 ?k3 ?k4 ?k5 ?kK ?kd ?ku ?_)
          case k1 => k_asm
          case k2 => k_asm
          case k3 => k_asm
          case k4 => k_asm
          case k5 => k_asm
          case kK => first | exact rfl | assumption
          case kd => ktr_room
          case ku => ktr_units
          case q3 => k_extra "mem9"
          case q2 => assumption
          case q4 => k_extra "mem9"
          case q5 => k_extra "mem9"
          case q6 => k_extra "mem9"
          case q1 => assumption
          case p0 => k_extra "mem9"
          case p1 => k_extra "mem9"
          case p2 => k_extra "mem9"
          case p3 => k_extra "mem9"
          case p4 => k_extra "mem9"
          case p6 => k_extra "mem9"
          case p5 =>
            skip
            k_extra "subL9"
          k_whole
          intro v9 n9 h9 tk9 hp9 F9 N9
          obtain ⟨lack, hn, hp9⟩ := hp9
          have hsh0 := shp_one_1 hsp (q - 1)
          have hsh1 := shpp_one_1 hsp (q - 1) lack
          rcases hp9 with ⟨hl0, e9, f9⟩ | ⟨hl0, f9, e9, u9, hp9⟩
          · subst e9
            subst f9
            subst hl0
            simp only [List.nil_append] at N9
            k_steps
            unfold StopHere
            walk_at "midT"
          · obtain ⟨f', r', fr', pp, c1, c2, c3, c4, tp, e9', f9'⟩ := hp9
            cases e9'
            subst e9
            subst f9'
            simp only [List.nil_append, List.cons_append] at N9
            k_steps
            unfold StopHere
            walk_at "midT"
        · refine Mine.mid7Two0_elim H ?_
          clear H
          intro sp t0 t1 t2 p0 k0 tp0 ra fa pa tsa tpa kra kfa kpa ids nm sz R0 rb f oi o1 o2 o3 o4 o5 o6 o7 kn ks kR krb kf tsb tq tq2 tg ts tgo LT q g sl m3 hq1 H
          obtain ⟨F3, N3, lt1, lt2, lt3, d7, d6, d5, d4, d3, d2, d1, tot, kind, num, hsp, q0, q1, s0, s1, g0, g5, m5, m9⟩ := H
          subst hq1
          dsimp only [List.nil_append, List.cons_append, List.append_nil, twoMore] at N3
          k_steps
          unfold StopHere
          k_dflt (refine' Mine.csc_use (Mine.full_two_0 kind (places_of ?q1 ?q2 ?q3 ?q4 ?q5 ?q6) ?p0 ?p1 ?p2 ?p3 ?p4 ?p5 num) ?k1 ?k2 ?k3 ?k4 ?k5 ?kK ?kd ?ku ?_)
          case k1 => k_asm
          case k2 => k_asm
          case k3 => k_asm
          case k4 => k_asm
          case k5 => k_asm
          case kK => first | exact rfl | assumption
          case kd => ktr_room
          case ku => ktr_units
          case q3 => k_extra "mem9"
          case q2 => assumption
          case q4 => k_extra "mem9"
          case q5 => k_extra "mem9"
          case q6 => k_extra "mem9"
          case q1 => assumption
          case p0 => k_extra "mem9"
          case p1 => k_extra "mem9"
          case p2 => k_extra "mem9"
          case p3 => k_extra "mem9"
          case p4 => k_extra "mem9"
          case p5 =>
            dsimp only [twoMore]
            k_extra "subL9"
          k_whole
          intro v9 n9 h9 tk9 hp9 F9 N9
          obtain ⟨lack, hn, hp9⟩ := hp9
          have hsh0 := shp_two_0 hsp 0
          have hsh1 := shpp_two_0 hsp 0 lack
          rcases hp9 with ⟨hl0, e9, f9⟩ | ⟨hl0, f9, e9, u9, hp9⟩
          · subst e9
            subst f9
            subst hl0
            simp only [List.nil_append] at N9
            k_steps
            unfold StopHere
            walk_at "midT"
          · obtain ⟨f', r', fr', pp, c1, c2, c3, c4, tp, e9', f9'⟩ := hp9
            cases e9'
            subst e9
            subst f9'
            simp only [List.nil_append, List.cons_append] at N9
            k_steps
            unfold StopHere
            walk_at "midT"
        · refine Mine.mid7Two1_elim H ?_
          clear H
          intro sp t0 t1 t2 p0 p1 k0 k1 tp0 tp1 u1 ra fa pa tsa tpa kra kfa kpa ids nm sz R0 rb f oi o1 o2 o3 o4 o5 o6 o7 kn ks kR krb kf tsb tq tq2 tg ts tgo LT q g sl m3 H
          obtain ⟨F3, N3, lt1, lt2, lt3, d7, d6, d5, d4, d3, d2, d1, tot, kind, num, hsp, q0, q1, s0, s1, g0, g5, m5, m9⟩ := H
          dsimp only [List.nil_append, List.cons_append, List.append_nil, twoMore] at N3
          k_steps
          unfold StopHere
          k_dflt (refine' Mine.csc_use (Mine.full_two_1 kind (places_of ?q1 ?q2 ?q3 ?q4 ?q5 ?q6) ?p0 ?p1 ?p2 ?p3 ?p4 ?p6 ?p5 q0 q1 num) ?k1 ?k2 ?k3 ?k4 ?k5 ?kK ?kd ?ku ?_)
          case k1 => k_asm
          case k2 => k_asm
          case k3 => k_asm
          case k4 => k_asm
          case k5 => k_asm
          case kK => first | exact rfl | assumption
          case kd => ktr_room
          case ku => ktr_units
          case q3 => k_extra "mem9"
          case q2 => assumption
          case q4 => k_extra "mem9"
          case q5 => k_extra "mem9"
          case q6 => k_extra "mem9"
          case q1 => assumption
          case p0 => k_extra "mem9"
          case p1 => k_extra "mem9"
          case p2 => k_extra "mem9"
          case p3 => k_extra "mem9"
          case p4 => k_extra "mem9"
          case p6 => k_extra "mem9"
          case p5 =>
            dsimp only [twoMore]
            k_extra "subL9"
          k_whole
          intro v9 n9 h9 tk9 hp9 F9 N9
          obtain ⟨lack, hn, hp9⟩ := hp9
          have hsh0 := shp_two_1 hsp (q - 1)
          have hsh1 := shpp_two_1 hsp (q - 1) lack
          rcases hp9 with ⟨hl0, e9, f9⟩ | ⟨hl0, f9, e9, u9, hp9⟩
          · subst e9
            subst f9
            subst hl0
            simp only [List.nil_append] at N9
            k_steps
            unfold StopHere
            walk_at "midT"
          · obtain ⟨f', r', fr', pp, c1, c2, c3, c4, tp, e9', f9'⟩ := hp9
            cases e9'
            subst e9
            subst f9'
            simp only [List.nil_append, List.cons_append] at N9
            k_steps
            unfold StopHere
            walk_at "midT"
      case qf =>
        clear H
        intro h t H
        dsimp only [List.drop]
        refine' Mine.cut2 1 (MidUAny g1 L1) ?qg ?qh
        case qg =>
          dsimp only [List.take]
          obtain ⟨pre, ids, nm, sz, oi, on, o1, o2, o3, o4, o5, o6, o7, ks, tq, tq2, tg, ts, tgo, tla, LT, q, g, sl, lack, m8, hpre, F8, N8, lt1, lt2, lt3, e7, e6, e5, e4, e3, e2, e1, htot, hnum, q0, q1, s0, s1, m5, m8⟩ := H
          have g0 := hnum.g0
          have g5 := hnum.g5
          rcases hpre with rfl | ⟨t1, rfl⟩
          all_goals dsimp only [List.nil_append, List.cons_append] at N8 ⊢
          all_goals
            k_steps
            unfold StopHere
            walk_at "midU"
        case qh =>
          clear H
          intro h t H
          dsimp only [List.drop]
          obtain ⟨tl, o1, o2, o6, ys0, ts, tg, tgo, tla, LT, q, g, sl, lack, m8, F8, N8, e6, e2, e1, hI0, hnum, s0, s1, m5, m8⟩ := H
          obtain ⟨g0, g5, l0, l1', hr, hm⟩ := hnum
          have l2 : lack < 0 + ((g + 4 - 0).toNat : Int) := by omega
          have hnum : NumR LT q g sl lack := ⟨g0, g5, l0, l1', hr, hm⟩
          k_steps
          unfold StopHere
          refine LCt.CompSrcT.range (by rfl) (by k_asm) (by k_asm) (by assumption) (small_g g0 g5) (rangeSize_nat _ _) (size_g g5) ?_
          intro gg
          refine' filt_range (fun k => decide (LT q + g ≤ LT (q + k)) && decide (LT (q + k) ≤ LT q + g + sl)) ?zS ?za ?zb ?zc ?zf ?zt
          case zS => exact True.intro
          case za => rfl
          case zb => rfl
          case zc => decide
          case zt =>
            intro k t C oC m₂ h tk E' hk0 hk1 hC hx F N
            k_steps
            all_goals (unfold StopHere; refine testIs_of ?_)
            · rw [decide_eq_true (by assumption : LT q + g ≤ LT (q + k)), Bool.true_and]
            · rw [decide_eq_false (by assumption : ¬ LT q + g ≤ LT (q + k)), Bool.false_and]
          case zf =>
            intro ys hi
            k_steps
            rotate_left
            · exact ⟨rfl, congrArg Value.bool (end_right hnum (by assumption))⟩
            unfold StopHere
            have hnd := none_does (LT := LT) (q := q) (g := g) (sl := sl) (by assumption)
            refine LCt.CompSrcT.ledger (by rfl) (by k_asm) (by k_asm) (by k_extra "mem9") ?zz ?_
            case zz =>
              rw [PySem.sizeLine_eq, List.size_toArray]
              refine Nat.le_trans (Nat.le_of_eq (IntsAre.length (by with_reducible assumption))) ?_
              rw [List.length_map, rangeKs_length]
              omega
            intro g9
            refine' filt_list (fun k => decide (k ≤ LT q + g + sl)) (by with_reducible assumption) ?yS ?ya ?yb ?yc ?yf ?yt
            case yS => exact Or.inr ⟨_, by k_extra "mem9", rfl, _, rfl⟩
            case ya => rfl
            case yb => rfl
            case yc => decide
            case yt =>
              intro k t C oC m₂ h tk E' hk hC hx F N
              k_steps
              all_goals (unfold StopHere; refine testIs_of ?_)
              all_goals rfl
            case yf =>
              intro ys2 hi2
              have hpos := List.length_pos_of_mem (below_mem hnum hnd)
              k_steps
              exact ⟨rfl, congrArg Value.bool (beq_iff_eq.mpr (end_most hnum hnd (by assumption) (by assumption)))⟩
theorem lines_LW_1 : True := by
  k_with_none
  k_with "mem9" => (focus ((repeat constructor); (first | done | assumption)))
  k_with "subL9" => (first | exact trivial | (refine And.intro (by k_extra "mem9") ?_; k_extra "subL9"))
  k_with "wpC" => ((k_here; (with_reducible show Mine.wpC _ _ (call (Value.type "bytearray") _ _) _ _ _); k_dflt (refine' Mine.ba_new_K ?k1z0 ?k2z0 ?k3z0 ?k4z0 ?_; (case k1z0 => k_asm); (case k2z0 => k_asm); (case k3z0 => first | decide | omega); (case k4z0 => first | decide | omega); k_whole); intro S' h' F' N' l1; (try k_lt l1); (try k_sweep); (try dsimp only)))
  k_with "wpC" => ((k_here; first | ((with_reducible show Mine.wpC _ _ (execs [] _) _ _ _); refine Mine.wpC_execs_nil ?_; (try dsimp only)) | ((with_reducible show Mine.wpC _ _ (execs (_ :: _) _) _ _ _); refine Mine.wpC_execs_cons ?_; (try (conv => arg 6; dsimp only))) | ((with_reducible show Mine.wpC _ _ (exec _ _) _ _ _); k_dflt (first | (refine' Mine.wpC_st ?hdz1 ?_; (case hdz1 => decide)) | refine Mine.wpC_Return ?_ | refine Mine.wpC_Assign_Name ?_ | refine Mine.wpC_AugAssign_Name ?_ | refine Mine.wpC_If ?_)) | ((with_reducible show Mine.wpC _ _ (eval _ _) _ _ _); k_dflt (first | (refine' Mine.wpC_ev ?hdz1 ?_; (case hdz1 => decide)) | refine Mine.wpC_BinOp ?_ | refine Mine.wpC_Call _ _ rfl ?_)) | ((with_reducible show Mine.wpC _ _ (isTrue _ _ _) _ _ _); k_dflt (first | (refine' Mine.wpC_test ?hdz1 ?_; (case hdz1 => decide)) | refine Mine.wpC_isTrue_Compare1 ?_)) | ((with_reducible show Mine.wpC _ _ (callWith _ (Value.ref _) _ _ _) _ _ _); k_dflt (refine' Mine.wpC_callWith_K ?k1z1 ?k2z1 ?k3z1 ?_; (case k3z1 => k_asm); (case k1z1 => k_is); (case k2z1 => rfl); k_whole)) | ((with_reducible show Mine.wpC _ _ (callWith _ (Value.builtin _) _ _ _) _ _ _); k_dflt (refine Mine.wpC_callWith_builtin rfl ?_)) | ((with_reducible show Mine.wpC _ _ (callWith _ (Value.type _) _ _ _) _ _ _); k_dflt (refine Mine.wpC_callWith_type rfl ?_)) | ((with_reducible show Mine.wpC _ _ (ite _ _ _) _ _ _); k_dflt (refine Mine.wpC_iteF ?_)) | ((with_reducible show Mine.wpC _ _ (evalArgs _ _ _ _) _ _ _); k_dflt (refine Mine.wpC_evalArgs ?_)) | ((with_reducible show Mine.wpC _ _ (spliced _) _ _ _); k_dflt (first | refine Mine.wpC_spliced_cons ?_ | refine Mine.wpC_spliced_nil ?_); (try dsimp only [List.nil_append, List.cons_append]))))
  k_with "setItem ref int" => ((k_here; (with_reducible show wpAny _ _ (PySem.setItem (Value.ref _) (Value.int _ _) (Value.int _ _)) _ _ _); k_dflt (refine' Mine.ba_set_K ?k1z2 ?k2z2 ?k3z2 ?k4z2 ?k5z2 ?k6z2 ?k7z2 ?k8z2 ?_; (case k1z2 => k_asm); (case k2z2 => k_asm); (case k3z2 => k_upd); (case k4z2 => ((try simp only [Array.size_setIfInBounds, Array.size_replicate]); first | decide | omega)); (case k5z2 => decide); (case k6z2 => ((try simp only [Array.size_setIfInBounds, Array.size_replicate]); first | decide | omega)); (case k7z2 => first | exact fmod_lo _ (by decide) | exact fmod_hi _ (by decide)); (case k8z2 => first | exact fmod_lo _ (by decide) | exact fmod_hi _ (by decide)); k_whole); intro h' F' N'; (try k_sweep)))
  k_with "call type:bytes" => ((k_here; (with_reducible show wpAny _ _ (call (Value.type "bytes") [Value.ref _]) _ _ _); k_dflt (refine' Mine.ba_bytes_K ?k1z3 ?k2z3 ?k3z3 ?_; (case k1z3 => k_asm); (case k2z3 => k_extra "mem9"); (case k3z3 => ((try simp only [Array.size_setIfInBounds, Array.size_replicate]); first | decide | omega)); k_whole); intro _ _))
  k_with "pyIter ref" => ((k_here; (with_reducible show wpAny _ _ (pyIter (Value.ref _)) (fun it s₂ => Mine.codeC _ _ _ _ _) _ _); k_dflt (first | (refine' Mine.iter_tup ?Fz4 ?Nz4 ?lz4 ?_; (case Fz4 => k_asm); (case Nz4 => k_asm); (case lz4 => exact Mine.tuple_K (Frag.In.keeps (by k_asm) (Fr.keep (by k_asm))) (by k_is)); k_whole) | (refine' Mine.iter_list ?Fz4 ?Nz4 ?lz4 ?_; (case Fz4 => k_asm); (case Nz4 => k_asm); (case lz4 => is_list); k_whole)); intro I' o' h' hO' F' N' hK' l1; (try k_lt l1); (try dsimp only)))
  k_with "codeC" => ((k_here; (with_reducible show Mine.codeC _ _ (Code.forLoop _ _ _ _ _) _ _); k_dflt (first | (refine' Mine.for_tup_N ?Fz5 ?Nz5 ?hoz5 ?hIz5 ?hsz5 ?hKz5 ?hlz5 ?hxz5 ?_; (case Fz5 => k_asm); (case Nz5 => k_asm); (case hKz5 => assumption); (case hoz5 => assumption); (case hIz5 => k_extra "mem9"); (case hsz5 => k_extra "subL9"); (case hlz5 => exact Mine.tuple_K (Frag.In.keeps (by k_asm) (Fr.keep (by k_asm))) (by k_is)); (case hxz5 => rfl); k_whole; intro o' h' hO' F' N') | (refine' Mine.for_list_N ?Fz5 ?Nz5 ?hoz5 ?hIz5 ?hsz5 ?hKz5 ?hlz5 ?hxz5 ?_; (case Fz5 => k_asm); (case Nz5 => k_asm); (case hKz5 => assumption); (case hoz5 => assumption); (case hIz5 => k_extra "mem9"); (case hsz5 => k_extra "subL9"); (case hlz5 => is_list); (case hxz5 => rfl); k_whole; intro o' h' hO' F' N') | (refine' Mine.for_list_T ?Fz5 ?Nz5 ?hoz5 ?hIz5 ?hsz5 ?hKz5 ?hlz5 ?hxz5 ?_; (case Fz5 => k_asm); (case Nz5 => k_asm); (case hKz5 => assumption); (case hoz5 => assumption); (case hIz5 => k_extra "mem9"); (case hsz5 => k_extra "subL9"); (case hlz5 => is_list); (case hxz5 => rfl); k_whole; intro o' h' hO' F' N') | (refine' Mine.for_list_end ?hhz5 ?Fz5 ?Nz5 ?hoz5 ?hIz5 ?hsz5 ?hKz5 ?hlz5 ?hxz5 ?_; (case hhz5 => rfl); (case Fz5 => k_asm); (case Nz5 => k_asm); (case hKz5 => assumption); (case hoz5 => assumption); (case hIz5 => k_extra "mem9"); (case hsz5 => k_extra "subL9"); (case hlz5 => is_list); (case hxz5 => rfl); k_whole; intro h' F' N')); (try k_sweep); (try dsimp only)))
  k_with "compareOp NotIn int ref" => ((k_here; (with_reducible show wpAny _ _ (compareOp CmpOp.NotIn (Value.int _ _) (Value.ref 35)) _ _ _); k_dflt (refine' Mine.notin_tup_K (ns := [(1, 278), (2, 279), (4, 280), (8, 281)]) ?Xz6 ?ez6 ?bz6 ?_; (case Xz6 => exact Frag.In.keeps (by k_asm) (Fr.keep (by k_asm))); (case ez6 => k_is); (case bz6 => rfl); k_whole)))
  k_with "getMethod ref" => ((k_here; (with_reducible show wpAny _ _ (getMethod (Value.ref 35) (PySem.Str.ofString "index") _) _ _ _); k_dflt (refine' Mine.tup_method_K ?Xz7 ?ez7 PySem.F.slot_tuple_index PySem.F.type_tuple_index ?_; (case Xz7 => exact Frag.In.keeps (by k_asm) (Fr.keep (by k_asm))); (case ez7 => k_is))))
  k_with "call builtin:tuple.index" => ((k_here; (with_reducible show wpAny _ _ (call (Value.builtin _) [Value.ref 35, Value.int _ _]) _ _ _); k_dflt (refine' Mine.tup_index_K (ns := [(1, 278), (2, 279), (4, 280), (8, 281)]) ?Xz8 ?ez8 ?jz8 ?_; (case Xz8 => exact Frag.In.keeps (by k_asm) (Fr.keep (by k_asm))); (case ez8 => k_is); (case jz8 => rfl); k_whole)))
  k_with "getMethod ref" => ((k_here; (with_reducible show wpAny _ _ (getMethod (Value.ref 124) (PySem.Str.ofString "index") _) _ _ _); k_dflt (refine' Mine.list_method_K ?Xz9 ?ez9 PySem.F.slot_list_index PySem.F.type_list_index ?_; (case Xz9 => exact Frag.In.keeps (by k_asm) (Fr.keep (by k_asm))); (case ez9 => k_is))))
  k_with "call builtin:list.index" => ((k_here; (with_reducible show wpAny _ _ (call (Value.builtin _) [Value.ref 124, Value.str _ _]) _ _ _); k_dflt (first | (refine' Mine.list_index_K (j := 0) (ns := [(PySem.Str.ofString "initial", 434), (PySem.Str.ofString "zero", 435), (PySem.Str.ofString "handshake", 436), (PySem.Str.ofString "retry", 437)]) ?Xz10 ?ez10 ?jz10 ?zz10 ?pz10 ?qz10 ?_; (case Xz10 => exact Frag.In.keeps (by k_asm) (Fr.keep (by k_asm))); (case ez10 => k_is); (case jz10 => decide); (case zz10 => decide); (case pz10 => decide); (case qz10 => decide); k_whole) | (refine' Mine.list_index_K (j := 2) (ns := [(PySem.Str.ofString "initial", 434), (PySem.Str.ofString "zero", 435), (PySem.Str.ofString "handshake", 436), (PySem.Str.ofString "retry", 437)]) ?Xz10 ?ez10 ?jz10 ?zz10 ?pz10 ?qz10 ?_; (case Xz10 => exact Frag.In.keeps (by k_asm) (Fr.keep (by k_asm))); (case ez10 => k_is); (case jz10 => decide); (case zz10 => decide); (case pz10 => decide); (case qz10 => decide); k_whole))))
  k_with "off1" => (first | exact True.intro | (refine And.intro (by k_ne) ?_; walk_at "off1"))
  k_with "wpC" => ((k_here; (with_reducible show Mine.wpC _ _ (eval _ _) _ _ _); k_dflt (first | (refine' Mine.wpC_join ?az12 ?bz12 ?_; (case az12 => rfl); (case bz12 => rfl); intro u' tk') | (refine' Mine.wpC_ListComp ?az12 ?bz12 ?cz12 ?_; (case az12 => rfl); (case bz12 => rfl); (case cz12 => decide)))))
  k_with "CSrc" => ((k_here; k_dflt (refine' Mine.csrc_list ?Fz13 ?Nz13 ?lz13 ?az13 ?bz13 ?_; (case Fz13 => k_asm); (case Nz13 => k_asm); (case lz13 => is_list); (case az13 => decide); (case bz13 => rfl)); intro I' o' D' C' oC' h' tk' hO' hC' F' N' l1 l2 l3; (try k_lt l1); (try k_lt l2); (try k_lt l3); (try dsimp only)))
  k_with "codeC" => ((k_here; (with_reducible show Mine.codeC _ _ (Code.compLoop _ _ _ _ _) _ _); k_dflt (first | (refine' Mine.comp_turn ?Fz14 ?Nz14 ?hoz14 ?hCz14 ?oIz14 ?oCz14 ?nez14 ?hlz14 ?hxz14 ?hnz14 ?hkz14 ?_; (case Fz14 => k_asm); (case Nz14 => k_asm); (case hoz14 => assumption); (case hCz14 => assumption); (case oIz14 => walk_at "off1"); (case oCz14 => walk_at "off1"); (case nez14 => k_ne); (case hlz14 => is_list); (case hxz14 => rfl); (case hnz14 => rfl); (case hkz14 => rfl); intro o' oC' m' h' tk' hO' hC' hm' F' N') | (refine' Mine.comp_end ?hhz14 ?Fz14 ?Nz14 ?hoz14 ?hCz14 ?oIz14 ?oCz14 ?nez14 ?hlz14 ?hxz14 ?_; (case hhz14 => rfl); (case Fz14 => k_asm); (case Nz14 => k_asm); (case hoz14 => assumption); (case hCz14 => assumption); (case oIz14 => walk_at "off1"); (case oCz14 => walk_at "off1"); (case nez14 => k_ne); (case hlz14 => is_list); (case hxz14 => rfl); intro h' F' N')); (try k_sweep); (try simp only [List.push_toArray, List.nil_append, List.cons_append] at N'); (try dsimp only)))
  k_with "call builtin:bytes.join" => ((k_here; k_dflt (first | (refine' Mine.join1 ?lz15 ?e1z15 ?zz15 ?_; (case lz15 => is_list); (case e1z15 => assumption); (case zz15 => omega)) | (refine' Mine.join2 ?lz15 ?e1z15 ?e2z15 ?zz15 ?_; (case lz15 => is_list); (case e1z15 => assumption); (case e2z15 => assumption); (case zz15 => omega)) | (refine' Mine.join3 ?lz15 ?e1z15 ?e2z15 ?e3z15 ?zz15 ?_; (case lz15 => is_list); (case e1z15 => assumption); (case e2z15 => assumption); (case e3z15 => assumption); (case zz15 => omega))); intro b' t' k' hb'))
  k_with "subscriptTail Name Slice ref ref" => ((k_here; (with_reducible show wpAny _ _ (subscriptTail _ (PySem.Expr.Slice (some _) none none _) (Value.ref _) (Value.ref _)) _ _ _); k_dflt (refine' Mine.tup_from_K ?Fz16 ?Nz16 ?mz16 ?pz16 ?qz16 ?zz16 ?_ ?sz16 ?tz16; (case Fz16 => k_asm); (case Nz16 => k_asm); (case mz16 => k_extra "mem9"); (case pz16 => decide); (case qz16 => exact Nat.le_of_ble_eq_true rfl); (case zz16 => exact Nat.le_of_ble_eq_true rfl); (case sz16 => with_unfolding_all rfl); (case tz16 => intro _; with_unfolding_all rfl)); intro D' h' F' N' l1; (try k_lt l1); (try dsimp only [List.drop] at N'); (try k_sweep)))
  k_with "call type:bytes" => ((k_here; (with_reducible show wpAny _ _ (call (Value.type "bytes") [Value.ref _]) _ _ _); k_dflt (refine' Mine.bytes_zeros_K ?Fz17 ?Nz17 ?mz17 ?zz17 ?hz17 ?_; (case Fz17 => k_asm); (case Nz17 => k_asm); (case mz17 => k_extra "mem9"); (case zz17 => omega); (case hz17 => rfl)); intro h' b' t' k' F' N' hb'; (try k_sweep)))
  k_with "call type:bytes" => ((k_here; (with_reducible show wpAny _ _ (call (Value.type "bytes") [Value.int _ _]) _ _ _); k_dflt (refine' Mine.call_bytes_int ?k1z18 ?k2z18 ?_; (case k1z18 => omega); (case k2z18 => omega)); intro b' t' k' hb'))
  k_with "call" => ((k_here; (with_reducible show wpAny _ _ (call (Value.type "bytes") [Value.int _ _]) _ _ _); k_dflt (refine' Mine.call_bytes_int ?k1z19 ?k2z19 ?_; (case k1z19 => omega); (case k2z19 => omega)); intro b' t' k' hb'))
  k_with "binaryOp Add bytes bytes" => ((k_here; (with_reducible show wpAny _ _ (binaryOp Operator.Add (Value.bytes _ _) (Value.bytes _ _)) _ _ _); k_dflt (refine' Mine.bytes_add_N ?k1z20 ?k2z20 ?k3z20 ?_; (case k1z20 => first | assumption | exact Mine.size_lit1 | exact rfl); (case k2z20 => first | assumption | exact Mine.size_lit1 | exact rfl); (case k3z20 => omega)); intro b' t' k' hb'))
  k_with "FinE" => (((unfold LCg.FinE); intro D' h' tk' F' N' o1'; (try simp only [List.nil_append, List.cons_append] at N'); (try dsimp only)))
  k_with "FinA" => (((unfold LCg.FinA); intro D' h' tk' F' N' o1'; (try simp only [List.nil_append, List.cons_append] at N'); (try dsimp only)))
  k_with "CompRest" => ((with_unfolding_all first | (refine LCg.CompRest.succ ?_; intro v' I' oI' C' oC' D' m' h' tk' E' hv' hC' hx' F' N' off' ne'; (first | lcg_open hv' | (obtain ⟨t9', hv9'⟩ := hv'; subst hv9'))) | refine LCg.CompRest.zero ?_))
  k_with "csc_enter" => (( refine wpC_call ?_; k_dflt (refine' codeC_defL _ ?hlz24 ?k1z24 ?k2z24 ?k3z24 ?k4z24 ?k5z24 ?kAz24 ?kFz24 ?kKz24 ?k6z24 ?k7z24 ?k8z24 ?k9z24 ?kBz24 ?_ ?c2z24 ?c3z24 ?c4z24 ?c5z24; (case hlz24 => assumption); (case kAz24 => exact rfl); (case kFz24 => exact rfl); (case kKz24 => assumption); (case k1z24 => k_asm); (case k2z24 => k_asm); (case k3z24 => k_asm); (case k4z24 => k_asm); (case k5z24 => k_asm); (case k6z24 => k_is); (case k7z24 => k_is); (case k8z24 => ktr_room); (case k9z24 => exact BindsTo.of_eq rfl); (case c5z24 => decide); (case kBz24 => exact locs rfl); (case c2z24 => exact rfl); (case c3z24 => exact rfl); (case c4z24 => exact rfl); k_whole; intro g' L' h' tk' FG' F' N' B' X' T' l1; (try k_lt l1); (try dsimp only))))
  k_with "cs_enter" => (( refine wpAny_call ?_; k_dflt (refine' code_defL _ ?hlz25 ?k1z25 ?k2z25 ?k3z25 ?k4z25 ?k5z25 ?kAz25 ?kFz25 ?kKz25 ?k6z25 ?k7z25 ?k8z25 ?k9z25 ?kBz25 ?_ ?c2z25 ?c3z25 ?c4z25 ?c5z25; (case hlz25 => assumption); (case kAz25 => exact rfl); (case kFz25 => exact rfl); (case kKz25 => assumption); (case k1z25 => k_asm); (case k2z25 => k_asm); (case k3z25 => k_asm); (case k4z25 => k_asm); (case k5z25 => k_asm); (case k6z25 => k_is); (case k7z25 => k_is); (case k8z25 => ktr_room); (case k9z25 => exact BindsTo.of_eq rfl); (case c5z25 => decide); (case kBz25 => exact locs rfl); (case c2z25 => exact rfl); (case c3z25 => exact rfl); (case c4z25 => exact rfl); k_whole; intro g' L' h' tk' FG' F' N' B' X' T' l1; (try k_lt l1); (try dsimp only))))
  k_with "Back" => ((refine' Mine.cs_ret ?rz26 ?_ ?Fz26 ?Nz26 ?hsz26; (case rz26 => assumption); (case Fz26 => k_asm); (case Nz26 => k_asm); (case hsz26 => k_extra "subL9")))
  k_with "TurnEnd" => ((refine' Mine.turnEnd_of ?fz52 ?nz52 ?uz52; (case fz52 => k_asm); (case nz52 => k_asm); (case uz52 => k_extra "subL9")))
  k_with "wpC" => ((k_here; first | ((with_reducible show Mine.wpC _ _ (exec (Stmt.For _ _ _ _ _) _) _ _ _); refine Mine.wpC_For ?_) | ((with_reducible show Mine.wpC _ _ (isTrue (Expr.UnaryOp _ _ _) _ _) _ _ _); refine Mine.wpC_isTrue_Not ?_) | ((with_reducible show Mine.wpC _ _ (isTrue (Expr.Call _ _ _ _) _ _) _ _ _); refine Mine.wpC_isTrue_Call ?_) | ((with_reducible show Mine.wpC _ _ (call (Value.ref 234) _ _) _ _ _); k_dflt (refine' Mine.csc_use (Mine.law_one _ _ _ _) ?k1z53 ?k2z53 ?k3z53 ?k4z53 ?k5z53 ?kKz53 ?kdz53 ?kuz53 ?_; (case k1z53 => k_asm); (case k2z53 => k_asm); (case k3z53 => k_asm); (case k4z53 => k_asm); (case k5z53 => k_asm); (case kKz53 => first | exact rfl | assumption); (case kdz53 => ktr_room); (case kuz53 => ktr_units); k_whole); intro r9 n9 h9 tk9 hp9 F9 N9; obtain ⟨e9, f9⟩ := hp9; subst e9; subst f9; (try simp only [List.nil_append, List.cons_append] at N9); (try dsimp only))))
  k_with "codeC" => (refine Mine.stopHere ?_)
  k_with "loadName" => ((k_here; (with_reducible show wpAny _ _ (loadName _ _) _ _ _); k_dflt (refine' Mine.ld_name ?fz55 ?lz55 ?xz55 ?_ ?az55 ?bz55; (case fz55 => k_asm); (case lz55 => rfl); (case xz55 => walk_at "ldm9"); (case az55 => rfl); (case bz55 => rfl))))
  k_with "ldm9" => (first | assumption | exact if_pos rfl | (refine (if_neg (by decide)).trans ?_; walk_at "ldm9"))
  k_with "eval Name" => ((k_here; (with_reducible show wpAny _ _ (eval (Expr.Name _ _) _) _ _ _); k_dflt (refine' Mine.ld_frame ?fz57 ?lz57 ?xz57 ?_ ?az57 ?bz57 ?cz57; (case fz57 => k_asm); (case lz57 => rfl); (case xz57 => walk_at "ldm9"); (case az57 => rfl); (case bz57 => rfl); (case cz57 => decide))))
  trivial
theorem good_true {c : ClaimW} {cl : Str → Option Addr} {mean : ExcName → Option Value} {args : List WData} {s₁ : Shared} {h' : Heap} {t : Nat} (hk : ∀ b o, s₁.heap.get? b = some o → h'.get? b = some o) (hg : s₁.gens = #[]) (hn : ∀ cls, c.raises args cls = false) (hp : c.post args (.bool true) args = true) :
    GoodW c cl mean args s₁ (.ok (.ret (.bool true))) { s₁ with heap := h', toks := t } :=
  ⟨.inl ⟨_, .bool true, [], rfl, hn, .bool true, hp, fun _ => ⟨List.nodup_nil, fun _ h => nomatch h⟩⟩, hk, rfl, hg⟩
theorem law_all : PySem.Challenge.rw_pf0266_01.Holds := by
  refine holds_law Mine.said (fun x9 => ?_)
  clear x9
  refine Mine.hd ⟨Mine.left, ?_⟩
  intro w s₀ s₁ mg mb G Y fa o pm cd doc dV kV ho hd hcd hD hmg hg args vals as hpre hlay hrd hwl hlo
  have KX := kIn_of Y
  have X := (Ground.X G).1
  have V := (Ground.X G).2
  refine Ground.open G ?_
  intro T B D TE TW
  wrow_args hpre hlay hrd hwl hlo
  refine' ⟨?ya, (good_true (h' := s₁.heap) (t := s₁.toks) (fun _ _ e => e) hg ?yb ?yc).toG⟩
  case yb => intro cls; rfl
  case yc => exact postW_of (by wrow_shape) (by wtm_val) (by w_fin)
  case ya =>
    refine wpC_call ?_
    have he := Dflts.none hD rfl
    subst he
    have K0 := below_caller (Top.heap T)
    refine codeC_top (by decide) ho hd (Top.nolimit T) hcd (BindsTo.of_eq rfl) (locs rfl) (fun h₁ F => ?_) rfl rfl rfl (by decide)
    w_binds F
    have N0 := (News.nil : News _ _ _ []).at F
    clear hd hD
    clear X V B D TE TW
    clear Y
    clear G
    k_drop
    (all_goals try k_fold)
    dsimp only
    k_steps
    unfold StopHere
    refine' for_ints ?x1 ?x2 ?x3 ?x4 ?x5 ?x6 ?xt ?xf _ 0 ?x7 _ _ _ _ ?x8 ?x9 ?xN
    case x8 => assumption
    case x9 => k_asm
    case xN => exact Mine.news_sub (by k_asm) ⟨by k_extra "mem9", by k_extra "mem9", trivial⟩
    case x1 => rfl
    case x2 => with_reducible assumption
    case x3 => k_ne
    case x4 => rfl
    case x5 => rfl
    case x6 => rfl
    case x7 => exact Nat.zero_add _
    case xt =>
      intro k t h tk m o F hm N
      k_steps
    case xf =>
      intro h tk m F
      dsimp only
      k_steps
      dsimp only
      exact (good_true (fun b o e => F.keep b o e) hg (by intro cls; rfl) (postW_of (by wrow_shape) (by wtm_val) (by w_fin))).toG
end Mine
theorem PySem.Challenge.cw_pf0266_01_holds : PySem.Challenge.rw_pf0266_01.Holds := by
  exact Mine.law_all
