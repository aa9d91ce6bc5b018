import PyProof.Rows.All
import Wide.All
import OpenK.AllK
import Wide.FinOn
import KE.BytesMake
import KE.KTryMore
import Lean
import PySem.Challenge.RW_nz0366_01
set_option Elab.async false
set_option autoImplicit false
set_option linter.all false
set_option maxRecDepth 100000
set_option tactic.hygienic false
set_option compiler.extract_closed false
set_option genSizeOf false
namespace NZ
open _root_.PySem _root_.PySem.W _root_.PySem.Calls PyProof.Rows
open Sem (wp)
/-- codes that lend a buffer while they stand on the stack -/
noncomputable def dec : Code → Bool
  | .builtin id _ => Builtin.Bytes.decodersThatHold.contains id
  | _ => false
/-- the stack below lends nothing -/
noncomputable def ClB (ck : Bool) (l : List (Code × Pos)) : Prop := ck = true → ∀ x ∈ l, dec x.1 = false
noncomputable def Cln (ck : Bool) (Γ : Ctx) : Prop := (ck = true → dec Γ.code = false) ∧ ClB ck Γ.below
noncomputable def wpX (ck : Bool) {α : Type} (M : Model) (A : Around) (t : Sem α) (Q : α → Shared → Prop) (E : Value → Shared → Prop) (s : Shared) : Prop :=
  ∀ Γ p, Γ.In A → Cln ck Γ → wp M Γ t (fun a _ s' => Q a s') (fun e _ s' => E e s') p s
noncomputable def codeX (ck : Bool) (M : Model) (A : Around) (c : Code) (R : Result → Shared → Prop) (s : Shared) : Prop :=
  ∀ Γ p, Γ.code = c → Γ.Below A → ClB ck Γ.below → wpCode M Γ R p s
section
variable {ck : Bool} {α β : Type} {M : Model} {A : Around} {E : Value → Shared → Prop} {s : Shared}
theorem ax {t : Sem α} {Q : α → Shared → Prop} (h : wpAny M A t Q E s) : wpX ck M A t Q E s := fun Γ p hΓ _ => h Γ p hΓ
theorem ofX {t : Sem α} {Q : α → Shared → Prop} (h : wpX false M A t Q E s) : wpAny M A t Q E s := fun Γ p hΓ => h Γ p hΓ ⟨fun z => (by cases z), fun z => (by cases z)⟩
theorem axc {c : Code} {R : Result → Shared → Prop} (h : codeAny M A c R s) : codeX ck M A c R s := fun Γ p hc hΓ _ => h Γ p hc hΓ
theorem wpX.mono {t : Sem α} {Q Q' : α → Shared → Prop} {E' : Value → Shared → Prop} (h : wpX ck M A t Q E s) (hQ : ∀ a s, Q a s → Q' a s) (hE : ∀ e s, E e s → E' e s) : wpX ck M A t Q' E' s :=
  fun Γ p hΓ hC => Sem.wp_mono M Γ t (fun a _ s => hQ a s) (fun e _ s => hE e s) p s (h Γ p hΓ hC)
theorem wpX.val {t : Sem α} {Q Q' : α → Shared → Prop} (h : wpX ck M A t Q E s) (hQ : ∀ a s, Q a s → Q' a s) : wpX ck M A t Q' E s := h.mono hQ fun _ _ e => e
theorem X.bind {m : Sem α} {f : α → Sem β} {Q : β → Shared → Prop} (h : wpX ck M A m (fun a s' => wpX ck M A (f a) Q E s') E s) : wpX ck M A (m >>= f) Q E s := fun Γ p hΓ hC => by
  rw [Sem.wp_bind']
  exact Sem.wp_mono M Γ m (fun a p' s' h' => h' Γ p' hΓ hC) (fun _ _ _ h' => h') p s (h Γ p hΓ hC)
theorem X.pure {a : α} {Q : α → Shared → Prop} (h : Q a s) : wpX ck M A (Pure.pure a) Q E s := fun _ _ _ _ => h
theorem X.holding {vs : List Value} {m : Sem α} {Q : α → Shared → Prop} (h : wpX ck M A m Q E s) : wpX ck M A (PySem.holding vs m) Q E s := fun Γ p hΓ hC => by rw [Sem.wp_holding]; exact h Γ p hΓ hC
theorem X.onRaise {m : Sem α} {k : Value → Sem Unit} {Q : α → Shared → Prop} (h : wpX ck M A m Q (fun e s' => wpX ck M A (k e) (fun _ s'' => E e s'') E s') s) : wpX ck M A (m.onRaise k) Q E s := fun Γ p hΓ hC => by
  rw [Sem.wp_onRaise]
  exact Sem.wp_mono M Γ m (fun _ _ _ h' => h') (fun e p' s' h' => h' Γ p' hΓ hC) p s (h Γ p hΓ hC)
theorem X.attempt {m : Sem α} {Q : Except Value α → Shared → Prop} (h : wpX ck M A m (fun a => Q (.ok a)) (fun e => Q (.error e)) s) : wpX ck M A m.attempt Q E s := fun Γ p hΓ hC => by
  rw [Sem.wp_attempt]; exact h Γ p hΓ hC
theorem X.stand {pos : Pos} {f : Unit → Sem β} {Q : β → Shared → Prop} (h : wpX ck M A (f ()) Q E s) : wpX ck M A (standAt pos >>= f) Q E s := X.bind (ax (wpAny_standAt h))
theorem X.eq {m : Sem α} {a : α} {f : α → Sem β} {Q : β → Shared → Prop} (e : m = Pure.pure a) (h : wpX ck M A (f a) Q E s) : wpX ck M A (m >>= f) Q E s := by
  rw [e]; exact X.bind (X.pure h)
theorem X.pureb {a : α} {f : α → Sem β} {Q : β → Shared → Prop} (h : wpX ck M A (f a) Q E s) : wpX ck M A (Pure.pure a >>= f) Q E s := X.bind (X.pure h)
theorem ClB.enter {Γ : Ctx} (hC : Cln ck Γ) (c : Code) (h : Option Value) (p : Pos) : ClB ck (Γ.enter c h p).below := fun z x hx => by
  have hx' : x ∈ (Γ.code, p) :: Γ.below := hx
  rcases List.mem_cons.mp hx' with rfl | hx'
  · exact hC.1 z
  · exact hC.2 z x hx'
theorem X.run {c : Code} {h : Option Value} {Q : Flow → Shared → Prop} (hc : codeX ck M (A.mark h) c (fun r s' => match r with | .ok f => Q f s' | .error e => E e s') s)
    (hnb : h ≠ some byPass := by intro x; cases x) : wpX ck M A (PySem.run c h) Q E s := fun Γ p hΓ hC => by
  rw [Sem.wp_run]; exact hc _ p rfl (hΓ.enter c h p hnb) (ClB.enter hC c h p)
theorem X.runValue {c : Code} {Q : Value → Shared → Prop} (hc : codeX ck M A c (fun r s' => match r with | .ok (.ret v) => Q v s' | .ok _ => False | .error e => E e s') s) : wpX ck M A (PySem.runValue c) Q E s := fun Γ p hΓ hC => by
  rw [Sem.wp_runValue]; exact hc _ p rfl (hΓ.enter c none p (by intro x; cases x)) (ClB.enter hC c none p)
theorem X.call {f : Value} {pos : List Value} {kw : List (Str × Value)} {Q : Value → Shared → Prop}
    (hc : codeX ck M A (.call f ⟨pos, kw⟩) (fun r s' => match r with | .ok (.ret v) => Q v s' | .ok _ => False | .error e => E e s') s) : wpX ck M A (PySem.call f pos kw) Q E s := X.runValue hc
theorem X.runOwn {env : Env} {c : Code} {h : Option Value} {Q : Flow → Shared → Prop} (hc : codeX ck M (A.mark h) c (fun r s' => match r with | .ok f => Q f s' | .error e => cameBackBy M A env E e s') s)
    (hnb : h ≠ some byPass := by intro x; cases x) : wpX ck M A (PySem.runOwn c env h) Q E s := by
  unfold PySem.runOwn
  refine X.onRaise ((X.run hc hnb).mono (fun _ _ q => q) fun e s' he => ax he)
theorem codeX.mono {c : Code} {R R' : Result → Shared → Prop} (h : codeX ck M A c R s) (hR : ∀ r s, R r s → R' r s) : codeX ck M A c R' s := fun Γ p hc hΓ hC => wpCode_mono hR (h Γ p hc hΓ hC)
theorem codeX.tree {c : Code} {R : Result → Shared → Prop} (hd : dec c = false)
    (h : wpX ck M (A.under c) (M.den c) (fun fin s' => match fin with | .done f => R (.ok f) s' | .again c' => c'.quiet = true ∧ codeX ck M A c' R s') (fun e s' => R (.error e) s') s) : codeX ck M A c R s := fun Γ p hc hΓ hC => by
  rw [wpCode_iff_wp, hc]
  refine Sem.wp_mono M Γ _ (fun fin p' s' h' => ?_) (fun _ _ _ h' => h') p s (h Γ p (hc ▸ hΓ.in) ⟨fun _ => by rw [hc]; exact hd, hC⟩)
  cases fin with
  | done f => exact h'
  | again c' => exact ⟨h'.1, h'.2 (Γ.goto c') p' rfl (hΓ.goto c') hC⟩
theorem codeX.loop {c : Code} {R : Result → Shared → Prop} (hq : c.quiet = true) (hd : dec c = false) (I : Nat → Shared → Prop)
    (turn : ∀ n s, I n s → wpX ck M (A.under c) (M.den c) (fun fin s' => match fin with | .done f => R (.ok f) s' | .again c' => (c' = c ∧ ∃ m, m < n ∧ I m s') ∨ (c'.quiet = true ∧ codeX ck M A c' R s')) (fun e s' => R (.error e) s') s)
    (n : Nat) (h : I n s) : codeX ck M A c R s := by
  induction n using Nat.strongRecOn generalizing s with
  | ind n ih =>
    refine codeX.tree hd ((turn n s h).mono (fun fin s' hf => ?_) fun _ _ h' => h')
    cases fin with
    | done f => exact hf
    | again c' =>
      rcases hf with ⟨rfl, m, hm, hI⟩ | hf
      · exact ⟨hq, ih m hm hI⟩
      · exact hf
theorem codeX.builtin {prog : Program} {w : World} {R : Result → Shared → Prop} {id : String} {args : Args} {b : Builtin} (hd : dec (.builtin id args) = false) (hb : entryFor table id = some b)
    (h : wpX ck (model prog w) (A.under (.builtin id args)) (b args) (fun fin s' => match fin with | .done f => R (.ok f) s' | .again c' => c'.quiet = true ∧ codeX ck (model prog w) A c' R s') (fun e s' => R (.error e) s') s) :
    codeX ck (model prog w) A (.builtin id args) R s := by
  refine codeX.tree hd ?_
  show wpX ck _ _ (match entryFor table id with | some b => b args | none => unsupported ((withoutEnding? id "#data").getD id)) _ _ s
  rw [hb]; exact h
end
/- expressions -/
section
variable {ck : Bool} {M : Model} {A : Around} {env : Env} {E : Value → Shared → Prop} {s : Shared}
theorem X_Name {x : Str} {pos : Pos} {Q : Value → Shared → Prop} (h : wpX ck M A (loadName env x) Q E s) (hd : (x == ("__debug__" : Str)) = false := by decide) : wpX ck M A (eval (.Name x pos) env) Q E s := by
  rw [eval_Name env x pos hd]; exact X.stand h
theorem X_BinOp {l r : Expr} {op : Operator} {pos : Pos} {Q : Value → Shared → Prop} (h : wpX ck M A (eval l env) (fun a s₁ => wpX ck M A (eval r env) (fun b s₂ => wpX ck M A (binaryOp op a b) Q E s₂) E s₁) E s) :
    wpX ck M A (eval (.BinOp l op r pos) env) Q E s := fun Γ p hΓ hC => by
  simp only [eval_BinOp, Sem.wp_bind', Sem.wp_holding, Sem.wp_cmd_standAt, Sem.wp_operate]
  exact Sem.wp_mono M Γ _ (fun a p₁ s₁ h₁ => Sem.wp_mono M Γ _ (fun b _ s₂ h₂ => h₂ Γ _ hΓ hC) (fun _ _ _ e => e) _ _ (h₁ Γ p₁ hΓ hC)) (fun _ _ _ e => e) _ _ (h Γ p hΓ hC)
theorem X_Compare1 {l r : Expr} {op : CmpOp} {pos : Pos} {Q : Value → Shared → Prop} (h : wpX ck M A (eval l env) (fun a s₁ => wpX ck M A (eval r env) (fun b s₂ => wpX ck M A (compareOp op a b) Q E s₂) E s₁) E s)
    (hm : behindInMarks op r = false) : wpX ck M A (eval (.Compare l [op] [r] pos) env) Q E s := fun Γ p hΓ hC => by
  simp only [eval_Compare1, markedBehindIn_of_false hm, Sem.wp_bind', Sem.wp_holding, Sem.wp_cmd_standAt, Sem.wp_operate]
  exact Sem.wp_mono M Γ _ (fun a p₁ s₁ h₁ => Sem.wp_mono M Γ _ (fun b _ s₂ h₂ => h₂ Γ _ hΓ hC) (fun _ _ _ e => e) _ _ (h₁ Γ p₁ hΓ hC)) (fun _ _ _ e => e) _ _ (h Γ p hΓ hC)
theorem X_isTrue_Compare1 {l r : Expr} {op : CmpOp} {pos : Pos} {whole : Sem Value} {Q : Bool → Shared → Prop}
    (h : wpX ck M A (eval l env) (fun a s₁ => wpX ck M A (eval r env) (fun b s₂ => wpX ck M A (compareOp op a b) (fun c s₃ => wpX ck M A (truthy c) Q E s₃) E s₂) E s₁) E s) (hm : behindInMarks op r = false) :
    wpX ck M A (isTrue (.Compare l [op] [r] pos) env whole) Q E s := fun Γ p hΓ hC => by
  simp only [isTrue_Compare1, markedBehindIn_of_false hm, Sem.wp_bind', Sem.wp_holding, Sem.wp_cmd_standAt, Sem.wp_operate]
  exact Sem.wp_mono M Γ _ (fun a p₁ s₁ h₁ => Sem.wp_mono M Γ _ (fun b _ s₂ h₂ => Sem.wp_mono M Γ _ (fun c p₃ s₃ h₃ => h₃ Γ p₃ hΓ hC) (fun _ _ _ e => e) _ _ (h₂ Γ _ hΓ hC)) (fun _ _ _ e => e) _ _ (h₁ Γ p₁ hΓ hC)) (fun _ _ _ e => e) _ _ (h Γ p hΓ hC)
theorem X_isTrue_value {e : Expr} {whole : Sem Value} {Q : Bool → Shared → Prop} (h : wpX ck M A whole (fun v s₁ => wpX ck M A (truthy v) Q E s₁) E s)
    (he : isTrue e env whole = (do let v ← whole; standAt e.pos; PySem.holding [v] (truthy v))) : wpX ck M A (isTrue e env whole) Q E s := by
  rw [he]
  exact X.bind (h.val fun v s₁ h₁ => X.stand (X.holding h₁))
theorem X_isTrue_Not {x : Expr} {pos : Pos} {whole : Sem Value} {Q : Bool → Shared → Prop} (h : wpX ck M A (isTrue x env (eval x env)) (fun b s₁ => Q (!b) s₁) E s) : wpX ck M A (isTrue (.UnaryOp .Not x pos) env whole) Q E s := by
  rw [arm_isTrue_UnaryOp]
  exact X.bind (h.val fun b s₁ h₁ => X.pure h₁)
theorem X_and_cons {x : Expr} {rest : List Expr} {Q : Bool → Shared → Prop} (h : wpX ck M A (isTrue x env (eval x env)) (fun b s₁ => if b then wpX ck M A (allTrue .And rest env) Q E s₁ else Q false s₁) E s) :
    wpX ck M A (allTrue .And (x :: rest) env) Q E s := by
  show wpX ck M A (isTrue x env (eval x env) >>= fun b => match BoolOp.And, b with | .And, false => pure false | .Or, true => pure true | _, _ => allTrue .And rest env) Q E s
  refine X.bind (h.val fun b s₁ h₁ => ?_)
  cases b
  · exact X.pure h₁
  · exact h₁
theorem X_or_cons {x : Expr} {rest : List Expr} {Q : Bool → Shared → Prop} (h : wpX ck M A (isTrue x env (eval x env)) (fun b s₁ => if b then Q true s₁ else wpX ck M A (allTrue .Or rest env) Q E s₁) E s) :
    wpX ck M A (allTrue .Or (x :: rest) env) Q E s := by
  show wpX ck M A (isTrue x env (eval x env) >>= fun b => match BoolOp.Or, b with | .And, false => pure false | .Or, true => pure true | _, _ => allTrue .Or rest env) Q E s
  refine X.bind (h.val fun b s₁ h₁ => ?_)
  cases b
  · exact h₁
  · exact X.pure h₁
theorem X_isTrue_BoolOp {op : BoolOp} {values : List Expr} {pos : Pos} {whole : Sem Value} {Q : Bool → Shared → Prop} (h : wpX ck M A (allTrue op values env) Q E s) : wpX ck M A (isTrue (.BoolOp op values pos) env whole) Q E s := by
  rw [arm_isTrue_BoolOp]; exact h
theorem X_IfExp {t a b : Expr} {pos : Pos} {Q : Value → Shared → Prop} (h : wpX ck M A (isTrue t env (eval t env)) (fun c s₁ => if c then wpX ck M A (eval a env) Q E s₁ else wpX ck M A (eval b env) Q E s₁) E s) :
    wpX ck M A (eval (.IfExp t a b pos) env) Q E s := by
  rw [arm_eval_IfExp]
  refine X.bind (h.val fun c s₁ h₁ => ?_)
  cases c <;> exact h₁
theorem X_Or2 {x y : Expr} {pos : Pos} {Q : Value → Shared → Prop} (h : wpX ck M A (eval x env) (fun v s₁ => wpX ck M A (truthy v) (fun t s₂ => if t then Q v s₂ else wpX ck M A (eval y env) Q E s₂) E s₁) E s) :
    wpX ck M A (eval (.BoolOp .Or [x, y] pos) env) Q E s := by
  show wpX ck M A (eval x env >>= fun v => standAt pos >>= fun _ => PySem.holding [v] (truthy v) >>= fun t => match BoolOp.Or, t with
    | .And, false | .Or, true => pure v
    | _, _ => boolOp pos .Or [eval y env]) Q E s
  refine X.bind (h.val fun v s₁ h₁ => X.stand (X.bind (X.holding (h₁.val fun t s₂ h₂ => ?_))))
  cases t with
  | false => exact h₂
  | true => exact X.pure h₂
theorem X_UnaryOp {op : UnaryOp} {x : Expr} {pos : Pos} {Q : Value → Shared → Prop} (h : wpX ck M A (eval x env) (fun v s₁ => wpX ck M A (unaryOp op v) Q E s₁) E s) : wpX ck M A (eval (.UnaryOp op x pos) env) Q E s := by
  rw [arm_eval_UnaryOp]
  exact X.bind (h.val fun v s₁ h₁ => X.stand (X.holding h₁))
theorem X_items_nil {pos : Pos} {Q : List Value → Shared → Prop} (h : Q [] s) : wpX ck M A (spliced (backTo pos (starEach [] env))) Q E s := ax (wpAny_items_nil h)
theorem X_items_cons {pos : Pos} {e : Expr} {rest : List Expr} {Q : List Value → Shared → Prop} (h : wpX ck M A (eval e env) (fun v s₁ => wpX ck M A (spliced (backTo pos (starEach rest env))) (fun vs s₂ => Q (v :: vs) s₂) E s₁) E s)
    (he : starEach (e :: rest) env = (false, eval e env) :: starEach rest env) : wpX ck M A (spliced (backTo pos (starEach (e :: rest) env))) Q E s := by
  rw [he]
  show wpX ck M A (eval e env >>= fun v => (pure [v] : Sem (List Value)) >>= fun here => PySem.holding here (spliced (backTo pos (starEach rest env))) >>= fun more => pure (here ++ more)) Q E s
  exact X.bind (h.val fun v s₁ h₁ => X.pureb (X.bind (X.holding (h₁.val fun vs s₂ h₂ => X.pure h₂))))
theorem X_Tuple {elts : List Expr} {k : Nat} {pos : Pos} {Q : Value → Shared → Prop} (h : wpX ck M A (spliced (backTo pos (starEach elts env))) (fun vs s₁ => wpX ck M A (newTuple vs) Q E s₁) E s) : wpX ck M A (eval (.Tuple elts k pos) env) Q E s := by
  show wpX ck M A (standAt pos >>= fun _ => spliced (backTo pos (starEach elts env)) >>= fun vs => newTuple vs) Q E s
  exact X.stand (X.bind h)
theorem X_List {elts : List Expr} {pos : Pos} {Q : Value → Shared → Prop} (h : wpX ck M A (spliced (backTo pos (starEach elts env))) (fun vs s₁ => wpX ck M A (newList vs) Q E s₁) E s) : wpX ck M A (eval (.List elts pos) env) Q E s := by
  show wpX ck M A (standAt pos >>= fun _ => spliced (backTo pos (starEach elts env)) >>= fun vs => newList vs) Q E s
  exact X.stand (X.bind h)
theorem X_Subscript {value slice : Expr} {pos : Pos} {Q : Value → Shared → Prop} (h : wpX ck M A (eval value env) (fun o s₁ => wpX ck M A (eval slice env) (fun i s₂ => wpX ck M A (subscriptTail value slice o i) Q E s₂) E s₁) E s) :
    wpX ck M A (eval (.Subscript value slice pos) env) Q E s := by
  rw [eval_Subscript]
  exact X.bind (h.val fun o s₁ h₁ => X.bind (X.holding (h₁.val fun i s₂ h₂ => X.stand h₂)))
theorem X_Slice {lower upper step : Option Expr} {p : Pos} {Q : Value → Shared → Prop}
    (h : wpX ck M A (evalPart lower env) (fun l s₁ => wpX ck M A (evalPart upper env) (fun u s₂ => wpX ck M A (evalPart step env) (fun st s₃ => Q (.ref s₃.heap.objs.size) { s₃ with heap := s₃.heap.push { cls := .type "slice", data := .fields #[l, u, st] } }) E s₂) E s₁) E s) :
    wpX ck M A (eval (.Slice lower upper step p) env) Q E s := by
  rw [arm_eval_Slice]
  refine X.bind (h.val fun l s₁ h₁ => X.bind (X.holding (h₁.val fun u s₂ h₂ => X.bind (X.holding (h₂.val fun st s₃ h₃ => ?_)))))
  exact ax (wpAny_newObj_type h₃)
theorem X_Call_NameR {id : Str} {p pos : Pos} {args : List Expr} {Q : Value → Shared → Prop} (h : wpX ck M A (eval (.Name id p) env) (fun f s₁ => wpX ck M A (callWith pos f [] (backTo pos (starEach args env)) []) Q E s₁) E s) :
    wpX ck M A (eval (.Call (.Name id p) args [] pos) env) Q E s := by
  show wpX ck M A (eval (.Name id p) env >>= fun f => callWith pos f [] (backTo pos (starEach args env)) (backToKw pos (keywordEach [] env))) Q E s
  exact X.bind h
theorem X_callWith {P : Heap → Prop} {f : Value} {first : List Value} {pos : Pos} {args : List (Bool × Sem Value)} {Q : Value → Shared → Prop} (hplain : args.any (·.1) = false)
    (hk : ∀ h, P h → ∃ k, (k = Keeper.frame ∨ k = Keeper.machine ∨ k = Keeper.boundFrame) ∧ Looks M h (keeperOf f) k)
    (h : wpX ck M A (evalArgs f true args []) (fun a s₁ => P s₁.heap ∧ wpX ck M A (call f (first ++ a.pos) a.kw) Q E s₁) E s) : wpX ck M A (callWith pos f first args []) Q E s := by
  unfold callWith
  refine X.bind (X.holding (h.val fun a s₁ h₁ => X.stand ?_))
  obtain ⟨k, hk', L⟩ := hk _ h₁.1
  have hplain' : (args.any (·.1) || ([] : List (Option Str × Sem Value)).any (·.1.isNone)) = false := by rw [hplain]; rfl
  simp only [hplain']
  refine X.bind (ax (L.here ?_))
  have tail : ∀ {t : Sem Value}, wpX ck M A t Q E s₁ → wpX ck M A (t >>= fun r => PySem.holding [r] point >>= fun _ => pure r) Q E s₁ := fun ht => X.bind (ht.val fun r s₂ hr => X.bind (X.holding (ax (wpAny_point (X.pure hr)))))
  have marked (mk : Value) : wpX ck M A (callMarked mk f (first ++ a.pos) a.kw) Q E s₁ := by unfold callMarked; exact fun Γ p hΓ hC => by rw [Sem.wp_keep]; exact h₁.2 Γ p hΓ hC
  rcases hk' with rfl | rfl | rfl <;> dsimp only <;> first | exact tail h₁.2 | (split <;> first | exact tail h₁.2 | exact tail (marked _))
theorem X_evalArgs {f : Value} {pos : Pos} {es : List Expr} {Q : Args → Shared → Prop} (hs : (starEach es env).any (·.1) = false) (h : wpX ck M A (spliced (backTo pos (starEach es env))) (fun vs s' => Q ⟨vs, []⟩ s') E s) :
    wpX ck M A (evalArgs f true (backTo pos (starEach es env)) []) Q E s := by
  have nil : ∀ {Q : Args → Shared → Prop}, Q ⟨[], []⟩ s → wpX ck M A (evalArgs f true [] []) Q E s := fun z => ax (evalArgs_nil3 z)
  have cons : ∀ {x : Sem Value} {rest : List (Bool × Sem Value)}, wpX ck M A (spliced ((false, x) :: rest)) (fun vs s' => Q ⟨vs, []⟩ s') E s → wpX ck M A (evalArgs f true ((false, x) :: rest) []) Q E s := fun h => by
    unfold evalArgs
    exact X.bind (h.val fun vs s' h' => X.holding (X.pureb (X.pureb (X.pure h'))))
  cases es with
  | nil => exact fun Γ p hΓ hC => nil (show Q ⟨[], []⟩ s from h Γ p hΓ hC) Γ p hΓ hC
  | cons e rest =>
    cases hx : starEach (e :: rest) env with
    | nil =>
      rw [hx] at h
      exact fun Γ p hΓ hC => nil (show Q ⟨[], []⟩ s from h Γ p hΓ hC) Γ p hΓ hC
    | cons y ys =>
      rw [hx] at hs h
      obtain ⟨b, t⟩ := y
      simp only [List.any_cons, Bool.or_eq_false_iff] at hs
      obtain ⟨rfl, _⟩ := hs
      exact cons h
theorem X_MethodCall {o : Expr} {name : Str} {apos pos : Pos} {args : List Expr} {pl : Sem Bool} {Q : Value → Shared → Prop}
    (h : wpX ck M A (eval o env) (fun ov s₁ => wpX ck M A (getMethod ov name pl) (fun fx s₂ => wpX ck M A (callWith pos fx.1 fx.2 (backTo pos (starEach args env)) []) Q E s₂) E s₁) E s)
    (he : eval (.Call (.Attribute o name apos) args [] pos) env = (do
      let ov ← eval o env
      standAt apos.atName
      let (f, first) ← PySem.holding [ov] (getMethod ov name pl)
      callWith pos f first (backTo pos (starEach args env)) [])) : wpX ck M A (eval (.Call (.Attribute o name apos) args [] pos) env) Q E s := by
  rw [he]
  exact X.bind (h.val fun ov s₁ h₁ => X.stand (X.bind (X.holding (h₁.val fun fx s₂ h₂ => h₂))))
end
/- statements -/
section
variable {ck : Bool} {M : Model} {A : Around} {env : Env} {E : Value → Shared → Prop} {s : Shared}
theorem X_execs_nil {Q : Flow → Shared → Prop} (h : Q .next s) : wpX ck M A (execs [] env) Q E s := ax (wpAny_execs_nil h)
theorem X_execs_cons {st : Stmt} {rest : List Stmt} {Q : Flow → Shared → Prop} (h : wpX ck M A (exec st env) (fun f s' => match f with | .next => wpX ck M A (execs rest env) Q E s' | f => Q f s') E s) : wpX ck M A (execs (st :: rest) env) Q E s := fun Γ p hΓ hC => by
  rw [execs_cons, Sem.wp_bind']
  refine Sem.wp_mono M Γ _ (fun f p' s' h' => ?_) (fun _ _ _ h' => h') p s (h Γ p hΓ hC)
  cases f <;> first | exact h' Γ p' hΓ hC | exact h'
theorem X_If {test : Expr} {body orelse : List Stmt} {pos : Pos} {Q : Flow → Shared → Prop} (h : wpX ck M A (isTrue test env (eval test env)) (fun b s₂ => if b then wpX ck M A (execs body env) Q E s₂ else wpX ck M A (execs orelse env) Q E s₂) E s) :
    wpX ck M A (exec (.If test body orelse pos) env) Q E s := fun Γ p hΓ hC => by
  simp only [exec_If, Sem.wp_bind', Sem.wp_cmd_standAt]
  refine Sem.wp_mono M Γ _ (fun b p₂ s₂ h₂ => ?_) (fun _ _ _ h' => h') _ _ (h Γ _ hΓ hC)
  cases b <;> exact h₂ Γ p₂ hΓ hC
theorem X_Return {e : Expr} {pos : Pos} {Q : Flow → Shared → Prop} (h : wpX ck M A (eval e env) (fun v => Q (.ret v)) E s) : wpX ck M A (exec (.Return (some e) pos) env) Q E s := fun Γ p hΓ hC => by
  simp only [exec_Return_some, Sem.wp_bind', Sem.wp_cmd_standAt, Sem.wp_pure']
  exact h Γ _ hΓ hC
theorem X_Assign_Name {x : Str} {pos' pos : Pos} {value : Expr} {Q : Flow → Shared → Prop} (h : wpX ck M A (eval value env) (fun v s₁ => wpX ck M A (storeName env x v) (fun _ => Q .next) E s₁) E s)
    (hs : swapsWith value (some (.Name x pos')) pos.line env = pure false) : wpX ck M A (exec (.Assign [.Name x pos'] value pos) env) Q E s := fun Γ p hΓ hC => by
  simp only [exec_Assign_Name env x pos' value pos hs, Sem.wp_bind', Sem.wp_cmd_standAt, Sem.wp_bindName, Sem.wp_pure']
  exact Sem.wp_mono M Γ _ (fun v _ s₁ h₁ => h₁ Γ _ hΓ hC) (fun _ _ _ h' => h') _ _ (h Γ _ hΓ hC)
theorem X_Assign_stores {targets : List Expr} {value : Expr} {pos : Pos} {Q : Flow → Shared → Prop}
    (h : wpX ck M A (eval value env) (fun v s₁ => wpX ck M A (assignAll v ((assignEach targets env).map (·.2))) (fun _ => Q .next) E s₁) E s)
    (hs : swapsWithSole targets value pos.line env = pure false) (hw : swappedStores targets value env = pure none) : wpX ck M A (exec (.Assign targets value pos) env) Q E s := by
  rw [exec_Assign_arm]
  refine X.stand (X.eq hs ?_)
  rw [if_neg (by decide)]
  refine X.bind (h.val fun v s₁ h₁ => X.eq hw ?_)
  show wpX ck M A (assignAll v ((assignEach targets env).map (·.2)) >>= fun _ => pure .next) Q E s₁
  exact X.bind (h₁.val fun _ _ x => X.pure x)
theorem X_AugAssign_Name {x : Str} {pos' pos : Pos} {op : Operator} {value : Expr} {Q : Flow → Shared → Prop}
    (h : wpX ck M A (loadName env x) (fun old s₁ => wpX ck M A (eval value env) (fun v s₂ => wpX ck M A (inplaceOp op old v) (fun r s₃ => wpX ck M A (storeName env x r) (fun _ => Q .next) E s₃) E s₂) E s₁) E s) :
    wpX ck M A (exec (.AugAssign (.Name x pos') op value pos) env) Q E s := fun Γ p hΓ hC => by
  simp only [exec_AugAssign_Name, Sem.wp_bind', Sem.wp_holding, Sem.wp_cmd_standAt, Sem.wp_operate, Sem.wp_bindName, Sem.wp_pure']
  exact Sem.wp_mono M Γ _ (fun old p₁ s₁ h₁ => Sem.wp_mono M Γ _ (fun v _ s₂ h₂ => Sem.wp_mono M Γ _ (fun r _ s₃ h₃ => h₃ Γ _ hΓ hC) (fun _ _ _ h' => h') _ _ (h₂ Γ _ hΓ hC)) (fun _ _ _ h' => h') _ _ (h₁ Γ p₁ hΓ hC)) (fun _ _ _ h' => h') _ _ (h Γ _ hΓ hC)
theorem X_Expr {prog : Program} {w : World} {e : Expr} {pos : Pos} {Q : Flow → Shared → Prop} (h : wpX ck (model prog w) A (eval e env) (fun _ => Q .next) E s) (hi : interactive env = false) (hs : swapsWith e none pos.line env = pure false) :
    wpX ck (model prog w) A (exec (.Expr e pos) env) Q E s := by
  rw [exec_Expr env e pos hi hs]
  exact X.stand (X.bind (h.val fun v s' h' => ax (wpAny_dropValue h')))
theorem X_While {test : Expr} {body orelse : List Stmt} {pos : Pos} {Q : Flow → Shared → Prop} (h : codeX ck M A (.whileLoop test body orelse env) (fun r s' => match r with | .ok f => Q f s' | .error e => cameBackBy M A env E e s') s) :
    wpX ck M A (exec (.While test body orelse pos) env) Q E s := by
  rw [exec_While]
  exact X.stand (X.runOwn h)
theorem X.noted {α : Type} {m : Sem α} {Q : α → Shared → Prop} (h : wpX ck M A m Q (notedBy M A env E) s) : wpX ck M A (m.onRaise fun x => do noteFrame x env; theTreesLotGoes x) Q E s :=
  X.onRaise (h.mono (fun _ _ q => q) fun _ _ hx => ax (wpAny_bind (wpAny_mono hx (fun _ _ e => wpAny_theTreesLotGoes e) fun _ _ e => e)))
theorem X_For {target iter : Expr} {body orelse : List Stmt} {pos : Pos} {Q : Flow → Shared → Prop}
    (h : wpX ck M A (eval iter env) (fun x s₁ => wpX ck M A (pyIter x) (fun it s₂ => codeX ck M A (.forLoop target it body orelse env) (fun r s' => match r with | .ok f => Q f s' | .error e => cameBackBy M A env E e s') s₂) E s₁) E s)
    (hs : ∀ x, foldedSetIterable iter env x = pure x) : wpX ck M A (exec (.For target iter body orelse pos) env) Q E s := by
  rw [exec_For]
  exact X.stand (X.bind (h.val fun x s₁ h₁ => X.eq (hs x) (X.stand (X.bind (X.holding (h₁.val fun it s₂ h₂ => X.runOwn h₂))))))
end
section
variable {ck : Bool} {prog : Program} {w : World} {A : Around} {env : Env} {E : Value → Shared → Prop} {s : Shared} {R : Result → Shared → Prop}
theorem codeX_block {stmts : List Stmt} (h : wpX ck (model prog w) A (execs stmts env) (fun f s' => R (.ok f) s') (notedBy (model prog w) A env fun e s' => R (.error e) s') s) : codeX ck (model prog w) A (.block stmts env) R s := by
  refine codeX.tree rfl ?_
  show wpX ck _ _ ((execs stmts env).onRaise (fun x => do noteFrame x env; theTreesLotGoes x) >>= fun f => pure (Fin.done f)) _ _ s
  exact X.bind (X.noted (h.val fun f s' h' => X.pure h'))
theorem codeX_while {test : Expr} {body orelse : List Stmt} (I : Nat → Shared → Prop)
    (turn : ∀ n s, I n s → wpX ck (model prog w) A (isTrue test env (eval test env)) (fun b s₂ =>
        if b then wpX ck (model prog w) A (execs body env) (fun f s₃ => match f with
            | .next | .cont => ∃ m, m < n ∧ I m s₃
            | .brk => R (.ok .next) s₃
            | .ret v => R (.ok (.ret v)) s₃) (notedBy (model prog w) A env fun e s' => R (.error e) s') s₂
        else wpX ck (model prog w) A (execs orelse env) (fun f s₃ => R (.ok f) s₃) (notedBy (model prog w) A env fun e s' => R (.error e) s') s₂)
        (notedBy (model prog w) A env fun e s' => R (.error e) s') s)
    (n : Nat) (h : I n s) : codeX ck (model prog w) A (.whileLoop test body orelse env) R s := by
  refine codeX.loop rfl rfl I (fun n s hI => ?_) n h
  show wpX ck _ A ((whileTurn test body orelse env).onRaise (fun x => do noteFrame x env; theTreesLotGoes x)) _ _ s
  refine X.noted ?_
  simp only [whileTurn]
  refine X.bind ((turn n s hI).val fun b s₂ h₂ => ?_)
  cases b with
  | false =>
    simp only [Bool.false_eq_true, if_false] at h₂ ⊢
    exact X.bind (h₂.val fun f s₃ h₃ => X.pure h₃)
  | true =>
    simp only [if_true] at h₂ ⊢
    refine X.bind (h₂.val fun f s₃ h₃ => ?_)
    cases f with
    | next => exact X.pure (.inl ⟨rfl, h₃⟩)
    | cont => exact X.pure (.inl ⟨rfl, h₃⟩)
    | brk => exact X.pure h₃
    | ret v => exact X.pure h₃
theorem codeX_for {target : Expr} {it : Value} {body orelse : List Stmt} (I : Nat → Shared → Prop)
    (turn : ∀ n s, I n s → wpX ck (model prog w) A (pyNext it) (fun r s₁ => match r with
      | none => wpX ck (model prog w) A (execs orelse env) (fun f s₃ => R (.ok f) s₃) (notedBy (model prog w) A env fun e s' => R (.error e) s') s₁
      | some v => wpX ck (model prog w) A (letOwnedTupleGo target it v) (fun _ s₁' =>
          wpX ck (model prog w) A (assign target env v) (fun _ s₂ => wpX ck (model prog w) A (execs body env) (fun f s₃ => match f with
            | .next | .cont => ∃ m, m < n ∧ I m s₃
            | .brk => R (.ok .next) s₃
            | .ret v => R (.ok (.ret v)) s₃) (notedBy (model prog w) A env fun e s' => R (.error e) s') s₂) (notedBy (model prog w) A env fun e s' => R (.error e) s') s₁') (notedBy (model prog w) A env fun e s' => R (.error e) s') s₁) (notedBy (model prog w) A env fun e s' => R (.error e) s') s)
    (n : Nat) (h : I n s) (ho : orelse = []) : codeX ck (model prog w) A (.forLoop target it body orelse env) R s := by
  subst ho
  refine codeX.loop rfl rfl I (fun n s hI => ?_) n h
  show wpX ck _ A ((forTurn target it body [] env).onRaise (fun x => do noteFrame x env; theTreesLotGoes x)) _ _ s
  refine X.noted ?_
  simp only [forTurn]
  refine X.stand (X.bind (X.onRaise ((turn n s hI).mono (fun r s₁ h₁ => ?_) fun _ _ h' => ax (wpAny_standAt h'))))
  cases r with
  | none => exact X.pure (.inr ⟨rfl, codeX_block h₁⟩)
  | some v =>
    refine X.bind (h₁.val fun _ s₁' h₁' => ?_)
    refine X.bind (h₁'.val fun _ s₂ h₂ => X.bind (h₂.val fun f s₃ h₃ => ?_))
    cases f with
    | next => exact X.pure (.inl ⟨rfl, h₃⟩)
    | cont => exact X.pure (.inl ⟨rfl, h₃⟩)
    | brk => exact X.pure h₃
    | ret v => exact X.pure h₃
theorem codeX_func {body : List Stmt}
    (h : wpX ck (model prog w) (A.deeper env) (execs body env) (fun f s' => R (.ok (.ret (match f with | .ret v => v | _ => .none))) s')
      (fun e s' => wpAny (model prog w) (A.deeper env) (leaving env e) (fun _ s'' => R (.error e) s'') (fun e' s'' => R (.error e') s'') s') s) : codeX ck (model prog w) A (.func body env) R s := by
  refine codeX.tree rfl ?_
  show wpX ck _ (A.deeper env) (point >>= fun _ => (execs body env).onRaise (leaving env) >>= fun f => match f with | .ret v => ret v | _ => ret .none) _ _ s
  refine X.bind (ax (wpAny_point (X.bind (X.onRaise (h.mono (fun f s' h' => ?_) fun _ _ h' => ax h')))))
  cases f <;> exact X.pure h'
theorem codeX_function {a : Addr} {args : Args} {o : Obj} {fd : FuncData} {body : List Stmt} (hroom : A.depth < recursionLimit) (ho : s.heap.get? a = some o) (hd' : o.data = .func fd) (hco : fd.scope.isCoroutine = false)
    (hgen : fd.scope.isGenerator = false) (hbody : fd.body = .stmts body) (hcd : s.heap.CodeRec fd.code fd.qualname)
    (h : wpAny (model prog w) A.in1 (bindArgs fd args) (fun binds s₁ =>
      wpAny (model prog w) A.in1 (newFunctionEnv fd.scope fd.globals fd.closure binds (fd.qualname ++ ".<locals>.") (some a) fd.code none fd.builtins)
        (fun env s₂ => s₂.heap.NoLimit ∧ codeX ck (model prog w) A (.func body env) R s₂) (fun e s' => R (.error e) s') s₁) (fun e s' => R (.error e) s') s) :
    codeX ck (model prog w) A (.call (.ref a) args) R s := by
  refine codeX.tree rfl ?_
  show wpX ck _ A.in1 (callAny (.ref a) args) _ _ s
  simp only [callAny]
  refine X.bind (ax (wpAny_load ho ?_))
  obtain ⟨c, oc, vs, tq, hc, hoc, hdc, hq⟩ := hcd
  simp only [hd', callFunction, hco, hgen, hbody, hc]
  rw [hc] at h
  refine X.bind (ax (wpAny_field hoc hdc hq (X.bind (X.pure ?_))))
  exact X.bind (wpX.val (ax h) fun binds s₁ h₁ => X.bind (wpX.val (ax h₁) fun env s₂ h₂ => X.bind (ax (wpAny_enterFrame h₂.1 hroom (X.pure (And.intro rfl h₂.2))))))
theorem codeX_def {a : Addr} {o : Obj} {fd : FuncData} {body : List Stmt} {args : Args} {binds : List (Str × Value)}
    (hroom : A.depth < recursionLimit) (ho : s.heap.get? a = some o) (hdata : o.data = .func fd) (hlim : s.heap.NoLimit) (hcd : s.heap.CodeRec fd.code fd.qualname)
    (hbody : fd.body = .stmts body) (hbind : BindsTo s fd args binds)
    (hcell : ∀ x ∈ fd.scope.names, x.2 ≠ .cell) (hloc : ∀ x ∈ binds, fd.scope.names.lookup x.1 = some .local)
    (h : ∀ h₀, h₀.Ns s.heap.objs.size (fun x => binds.reverse.lookup x) → (∀ b o, s.heap.get? b = some o → h₀.get? b = some o) →
      wpX ck (model prog w) (A.deeper (callEnv fd s.heap.objs.size a)) (execs body (callEnv fd s.heap.objs.size a)) (fun f s' => R (.ok (.ret (match f with | .ret v => v | _ => .none))) s')
        (fun e s' => wpAny (model prog w) (A.deeper (callEnv fd s.heap.objs.size a)) (leaving (callEnv fd s.heap.objs.size a) e) (fun _ s'' => R (.error e) s'') (fun e' s'' => R (.error e') s'') s')
        { s with heap := h₀, toks := s.toks + binds.length })
    (hco : fd.scope.isCoroutine = false) (hgen : fd.scope.isGenerator = false) (hk : fd.scope.kind = .function) : codeX ck (model prog w) A (.call (.ref a) args) R s := by
  refine codeX_function hroom ho hdata hco hgen hbody hcd (hbind _ _ _ _ ?_)
  refine wpAny_newFunctionEnv hcell hloc (fun h₀ hns₀ hsb₀ => ⟨hlim.fresh _ hsb₀, codeX_func (h h₀ hns₀ fun b o e => ?_)⟩) hk
  exact hsb₀.extBut b o (Nat.ne_of_lt (Heap.lt_size e)) (Heap.get?_push_of_some _ e)
end
end NZ
namespace NZ
open _root_.PySem _root_.PySem.W _root_.PySem.Calls PyProof.Rows
open Sem (wp)
noncomputable abbrev barrOf (b : List UInt8) : Obj := { cls := .type "bytearray", data := .bytearray b.toArray 0 }
theorem ba_slot_append : Slot "bytearray" "append" "bytearray.append" :=
  .of (owner := "bytearray") (n := "append") (by rw [typeLookup_type, builtinLookup_eq_fast]; kernel_rfl) (by decide +kernel) (by decide +kernel) (by decide +kernel)
    (by first | exact .inl (by decide +kernel) | exact .inr (by decide +kernel)) (by rw [isSubtype_type]; kernel_rfl)
theorem ba_slot_extend : Slot "bytearray" "extend" "bytearray.extend" :=
  .of (owner := "bytearray") (n := "extend") (by rw [typeLookup_type, builtinLookup_eq_fast]; kernel_rfl) (by decide +kernel) (by decide +kernel) (by decide +kernel)
    (by first | exact .inl (by decide +kernel) | exact .inr (by decide +kernel)) (by rw [isSubtype_type]; kernel_rfl)
theorem ba_slot_init : Slot "bytearray" "__init__" "bytearray.__init__" :=
  .of (owner := "bytearray") (n := "__init__") (by rw [typeLookup_type, builtinLookup_eq_fast]; kernel_rfl) (by decide +kernel) (by decide +kernel) (by decide +kernel)
    (by first | exact .inl (by decide +kernel) | exact .inr (by decide +kernel)) (by rw [isSubtype_type]; kernel_rfl)
theorem ba_entry_append : entryFor table "bytearray.append" = some Builtin.«bytearray.append» := by first | exact entryFor_of_fast (by kernel_rfl) | exact entryFor_of_tree (by kernel_rfl)
theorem ba_entry_extend : entryFor table "bytearray.extend" = some Builtin.«bytearray.extend» := by first | exact entryFor_of_fast (by kernel_rfl) | exact entryFor_of_tree (by kernel_rfl)
theorem ba_entry_init : entryFor table "bytearray.__init__" = some Builtin.«bytearray.__init__» := by first | exact entryFor_of_fast (by kernel_rfl) | exact entryFor_of_tree (by kernel_rfl)
theorem ba_entry_new : entryFor table "bytearray.__new__" = some Builtin.«list.__new__» := entryFor_alias (id' := "list.__new__") (by kernel_rfl) rfl (by decide +kernel) (by kernel_rfl)
theorem ba_args_append (a b : Value) : argsOk "bytearray.append" ⟨[a, b], []⟩ := by unfold argsOk; kernel_rfl
theorem ba_args_extend (a b : Value) : argsOk "bytearray.extend" ⟨[a, b], []⟩ := by unfold argsOk; kernel_rfl
theorem ba_args_init (a : Value) : argsOk "bytearray.__init__" ⟨[a], []⟩ := by unfold argsOk; kernel_rfl
theorem ba_type_append : typeOf (.builtin "bytearray.append") = pure (.type "method_descriptor") := by show builtinType _ = _; rw [builtinType_eq_fast]; kernel_rfl
theorem ba_type_extend : typeOf (.builtin "bytearray.extend") = pure (.type "method_descriptor") := by show builtinType _ = _; rw [builtinType_eq_fast]; kernel_rfl
theorem ba_plainAttrs : PlainAttrs "bytearray" :=
  ⟨⟨"bytearray.__getattribute__", by rw [typeLookup_type, builtinLookup_eq_fast]; kernel_rfl, by decide +kernel⟩, by rw [typeLookup_type, builtinLookup_eq_fast]; kernel_rfl⟩
theorem ba_newCall : checkBuiltinCall "bytearray.__new__" ⟨[.type "bytearray"], []⟩ = pure () := by kernel_rfl
theorem ba_typeCall : checkTypeCall "bytearray" ⟨[], []⟩ = pure () := by kernel_rfl
theorem ba_mro : mroOf (.type "bytearray") = pure [.type "bytearray", .type "object"] := by rw [mroOf_type]; kernel_rfl
theorem ba_lookup_new : typeLookup (.type "bytearray") "__new__" = pure (some (.builtin "bytearray.__new__")) := by rw [typeLookup_type, builtinLookup_eq_fast]; kernel_rfl
theorem ba_sub : isSubtype (.type "bytearray") (.type "bytearray") = pure true := by rw [isSubtype_type]; kernel_rfl
theorem ba_called : TypeCalled "bytearray" "bytearray.__new__" "bytearray.__init__" :=
  ⟨by decide +kernel, by decide +kernel, ⟨_, _, ba_mro⟩, madeBy_type ba_mro ba_lookup_new (by decide +kernel), by decide +kernel, ba_sub, ba_slot_init⟩
theorem ba_bind : Builtin.Bytes.bindOptional "bytearray.__init__" "bytearray" ["source", "encoding", "errors"] [] [] = pure [none, none, none] := by kernel_rfl
theorem by_buffer : typeLookup (.type "bytes") "__buffer__" = pure (some (.builtin "bytes.__buffer__")) := by rw [typeLookup_type, builtinLookup_eq_fast]; kernel_rfl
theorem ba_buffer : typeLookup (.type "bytearray") "__buffer__" = pure (some (.builtin "bytearray.__buffer__")) := by rw [typeLookup_type, builtinLookup_eq_fast]; kernel_rfl
theorem by_release : typeLookup (.type "bytes") "__release_buffer__" = pure none := by rw [typeLookup_type, builtinLookup_eq_fast]; kernel_rfl
theorem ba_release : typeLookup (.type "bytearray") "__release_buffer__" = pure (some (.builtin "bytearray.__release_buffer__")) := by rw [typeLookup_type, builtinLookup_eq_fast]; kernel_rfl
theorem by_bytes : typeLookup (.type "bytes") "__bytes__" = pure (some (.builtin "bytes.__bytes__")) := by rw [typeLookup_type, builtinLookup_eq_fast]; kernel_rfl
theorem ba_no_bytes : typeLookup (.type "bytearray") "__bytes__" = pure none := by rw [typeLookup_type, builtinLookup_eq_fast]; kernel_rfl
theorem ba_no_index : typeLookup (.type "bytearray") "__index__" = pure none := by rw [typeLookup_type, builtinLookup_eq_fast]; kernel_rfl
theorem by_sub : isSubtype (.type "bytes") (.type "bytes") = pure true := by rw [isSubtype_type]; kernel_rfl
theorem ne_guard {id n : String} {args : Args} (h : (Code.builtin id args).isGuard = false) (hn : guardIds.contains n = true) : ¬ id = n := fun e => by
  have z : guardIds.contains id = false := h
  rw [e, hn] at z; cases z
theorem dec_no {id : String} {args : Args} (h : Builtin.Bytes.decodersThatHold.contains id = false) : dec (Code.builtin id args) = false := h
theorem dec_id {id : String} {args : Args} (h : dec (Code.builtin id args) = false) : Builtin.Bytes.decodersThatHold.contains id = false := h
section
variable {M : Model} {A : Around} {E : Value → Shared → Prop} {s : Shared}
theorem ba_exported {v : Value} {Q : Bool → Shared → Prop} (hg : A.guards = some []) (h : Q false s) : wpX true M A (Builtin.Bytes.exported v) Q E s := fun Γ p hΓ hC => by
  have hgu := hΓ.2.2.2.1 [] hg
  have clean : ∀ x ∈ (Γ.code, p) :: Γ.below, x.1.isGuard = false ∧ dec x.1 = false := by
    have g1 : guardsOf ((Γ.code, p) :: Γ.below) = [] := by rw [guardsOf_cons]; exact hgu
    intro x hx
    refine ⟨?_, ?_⟩
    · cases hq : x.1.isGuard with
      | false => rfl
      | true =>
        have : x.1 ∈ guardsOf ((Γ.code, p) :: Γ.below) := List.mem_filter.mpr ⟨List.mem_map.mpr ⟨x, hx, rfl⟩, hq⟩
        rw [g1] at this; cases this
    · rcases List.mem_cons.mp hx with rfl | hx
      · exact hC.1 rfl
      · exact hC.2 rfl x hx
  show Q (((Γ.code, p) :: Γ.below).any _) s
  rw [List.any_eq_false.mpr fun x hx => ?_]
  · exact h
  · obtain ⟨c1, c2⟩ := clean x hx
    obtain ⟨c, p'⟩ := x
    simp only at c1 c2
    cases c with
    | builtin id args =>
      obtain ⟨pos, kw⟩ := args
      have n1 := ne_guard c1 (n := "bytearray.__contains__") (by decide +kernel)
      have n2 := ne_guard c1 (n := "bytearray.__mod__") (by decide +kernel)
      have n3 := ne_guard c1 (n := "bytearray.__rmod__") (by decide +kernel)
      have n4 := ne_guard c1 (n := "_struct.pack_into.held") (by decide +kernel)
      have n5 := ne_guard c1 (n := "bytearray.find.held") (by decide +kernel)
      delta Builtin.Bytes.exported.match_1
      show ¬ dite _ _ _ = true
      rw [dif_neg n1, dif_neg n2, dif_neg n3, dif_neg n4, dif_neg n5]
      cases pos with
      | nil => exact Bool.false_ne_true
      | cons w r =>
        intro z
        have z : (Builtin.Bytes.sameRef w v && Builtin.Bytes.decodersThatHold.contains id) = true := z
        rw [Bool.and_eq_true] at z
        have c3 := dec_id c2
        rw [z.2] at c3
        cases c3
    | _ => exact Bool.false_ne_true
theorem ba_exports {a : Addr} {b : List UInt8} {Q : Nat → Shared → Prop} (ho : s.heap.get? a = some (barrOf b)) (h : Q 0 s) : wpAny M A (Builtin.Bytes.exportsOf (.ref a)) Q E s := by
  unfold Builtin.Bytes.exportsOf
  exact wpAny_bind (wpAny_load ho (wpAny_pure h))
theorem ba_free {a : Addr} {b : List UInt8} {Q : Bool → Shared → Prop} (hg : A.guards = some []) (ho : s.heap.get? a = some (barrOf b)) (h : Q false s) :
    wpX true M A (Builtin.Bytes.exported (.ref a) <||> (do return (← Builtin.Bytes.exportsOf (.ref a)) > 0)) Q E s := by
  refine X.bind (ba_exported hg ?_)
  exact X.bind (ax (ba_exports ho (X.pure h)))
theorem ba_resize {a : Addr} {b : List UInt8} {Q : Unit → Shared → Prop} (hg : A.guards = some []) (ho : s.heap.get? a = some (barrOf b)) (h : Q () s) : wpX true M A (Builtin.Bytes.checkResize (.ref a)) Q E s := by
  unfold Builtin.Bytes.checkResize
  refine X.bind (ba_free hg ho ?_)
  exact X.pure h
theorem ba_write {a : Addr} {b b' : List UInt8} {f : Array UInt8 → Array UInt8} {Q : Unit → Shared → Prop} (ho : s.heap.get? a = some (barrOf b)) (hf : f b.toArray = b'.toArray) (hz : b'.length ≤ sizeLine)
    (h : ∀ h', Heap.SameBut a s.heap h' → h'.get? a = some (barrOf b') → Q () { s with heap := h' }) : wpAny M A (Builtin.Bytes.write (.ref a) f) Q E s := by
  show wpAny M A (updateBytearray a f) Q E s
  unfold updateBytearray
  refine wpAny_bind (wpAny_load ho ?_)
  show wpAny _ _ (update a (Obj.mapBytearray f) >>= fun _ => lookBehind a) _ _ _
  refine wpAny_bind (wpAny_update ho ?_)
  have hS : (s.heap.update a (Obj.mapBytearray f)).get? a = some (barrOf b') := by
    have e : Obj.mapBytearray f (barrOf b) = barrOf b' := by
      show ({ cls := .type "bytearray", data := .bytearray (f b.toArray) 0 } : Obj) = _
      rw [hf]
    rw [← e]
    exact Heap.get?_update_self (Obj.mapBytearray f) ho rfl
  refine wpAny_lookBehind hS ?_ (h _ (Heap.SameBut.update ..) hS)
  show (if b'.toArray.size > sizeLine then some "bytearray:memory" else none) = none
  rw [if_neg]
  simp only [List.size_toArray]; omega
end
section
variable {prog : Program} {w : World} {A : Around} {E : Value → Shared → Prop} {s : Shared} {ck : Bool}
theorem X_call_entry {T : String} {name : Str} {id : String} {b : Builtin} {self : Value} {rest : List Value} {Q : Value → Shared → Prop} (h : Slot T name id) (hT : s.TypeIs self T) (hb : entryFor table id = some b)
    (hd : dec (.builtin id ⟨self :: rest, []⟩) = false) (hc : wpX ck (model prog w) A.in1 (b ⟨self :: rest, []⟩) (fun fin s' => ∃ v, fin = .done (.ret v) ∧ Q v s') E s) (ha : argsOk id ⟨self :: rest, []⟩) :
    wpX ck (model prog w) A (call (.builtin id) (self :: rest)) Q E s := by
  refine X.call (codeX.tree rfl ?_)
  show wpX ck _ A.in1 (checkBuiltinCall id ⟨self :: rest, []⟩ >>= fun _ => again (.builtin id ⟨self :: rest, []⟩)) _ _ s
  refine X.bind (ax (h.check _ _ _ _ _ _ _ _ hT ha ?_))
  refine X.pure ⟨plainId_quiet h.plain _, codeX.builtin hd hb ?_⟩
  rw [Around.under_plainId h.plain]
  refine hc.mono (fun fin s' z => ?_) fun _ _ z => z
  obtain ⟨v, rfl, z⟩ := z
  exact z
theorem ba_append {a : Addr} {b : List UInt8} {n : Int} {t : Tok} {Q : Value → Shared → Prop} (hg : A.guards = some []) (ho : s.heap.get? a = some (barrOf b)) (h0 : 0 ≤ n ∧ n < 256) (hz : b.length < 1000000)
    (h : ∀ h', Heap.SameBut a s.heap h' → h'.get? a = some (barrOf (b ++ [n.toNat.toUInt8])) → Q .none { s with heap := h' }) : wpX true (model prog w) A (call (.builtin "bytearray.append") [.ref a, .int n t]) Q E s := by
  refine X_call_entry ba_slot_append ⟨_, ho, rfl⟩ ba_entry_append (dec_no (by decide +kernel)) ?_ (ba_args_append _ _)
  unfold Builtin.«bytearray.append»
  refine X.eq (a := (Value.ref a, Value.int n t)) rfl ?_
  dsimp only
  refine X.bind (ax ?_)
  unfold Builtin.Bytes.byteValue
  refine wpAny_bind (wpAny_of_eq (rfl : asIndex (.int n t) = pure n) ?_)
  refine bm_if_false (by simp only [Bool.or_eq_false_iff, decide_eq_false_iff_not]; omega) ?_
  refine wpAny_pure ?_
  refine X.bind (ba_resize (A := A.in1) hg ho ?_)
  refine X.bind (ax (ba_write (b' := b ++ [n.toNat.toUInt8]) ho (by simp) (by simp only [List.length_append, List.length_singleton]; rw [sizeLine_eq]; omega) fun h' hs hS => ?_))
  exact X.pure ⟨.none, rfl, h h' hs hS⟩
end
end NZ
namespace NZ
open _root_.PySem _root_.PySem.W _root_.PySem.Calls PyProof.Rows
open Sem (wp)
section
variable {M : Model} {A : Around} {E : Value → Shared → Prop} {s : Shared}
theorem by_own {b : Array UInt8} {t : Tok} {Q : Bool → Shared → Prop} (h : Q true s) : wpAny M A (Builtin.Bytes.slotIsOwn (.bytes b t) "__buffer__") Q E s := by
  unfold Builtin.Bytes.slotIsOwn
  refine wpAny_bind (wpAny_specialOf (typeIs_bytes s b t) by_buffer ?_)
  try dsimp only
  refine bm_if_false (by decide +kernel) ?_
  have e : "bytes.__buffer__".dropRight ("__buffer__".length + 1) = "bytes" := by decide +kernel
  rw [e]
  exact wpAny_isInstance (typeIs_bytes s b t) by_sub h
theorem by_release_own {b : Array UInt8} {t : Tok} {Q : Bool → Shared → Prop} (h : Q false s) : wpAny M A (Builtin.Bytes.ownRelease (.bytes b t)) Q E s := by
  unfold Builtin.Bytes.ownRelease Builtin.Bytes.slotIsOwn
  refine wpAny_bind (wpAny_bind (wpAny_specialOf (typeIs_bytes s b t) by_release ?_))
  exact wpAny_pure (wpAny_pure h)
theorem by_take {id : String} {b : Array UInt8} {t : Tok} {Q : Option (Array UInt8 × Option Value) → Shared → Prop} (h : Q (some (b, none)) s) : wpAny M A (Builtin.Bytes.takeBufferQuiet? id (.bytes b t) 0) Q E s := by
  unfold Builtin.Bytes.takeBufferQuiet?
  refine wpAny_bind (wpAny_attempt ?_)
  unfold Builtin.Bytes.takeBuffer?
  refine wpAny_bind (wpAny_specialOf (typeIs_bytes s b t) by_buffer ?_)
  try dsimp only
  refine wpAny_bind (by_own ?_)
  refine bm_if_false (by decide) ?_
  refine wpAny_bind (wpAny_specialOf (typeIs_bytes s b t) by_buffer ?_)
  try dsimp only
  refine wpAny_bind ?_
  unfold Builtin.Bytes.buffer?
  refine wpAny_bind (wpAny_specialOf (typeIs_bytes s b t) by_buffer ?_)
  try dsimp only
  refine wpAny_bind (by_own ?_)
  refine bm_if_false (by decide) ?_
  refine wpAny_bind (wpAny_specialOf (typeIs_bytes s b t) by_buffer ?_)
  try dsimp only
  refine wpAny_bind (by_release_own ?_)
  refine bm_if_false (by decide) ?_
  refine wpAny_bind (wpAny_of_eq (rfl : Builtin.Bytes.payload (.bytes b t) = pure b) ?_)
  exact wpAny_pure (wpAny_pure (wpAny_pure h))
theorem ba_payload {a : Addr} {b : List UInt8} {Q : Array UInt8 → Shared → Prop} (ho : s.heap.get? a = some (barrOf b)) (h : Q b.toArray s) : wpAny M A (Builtin.Bytes.payload (.ref a)) Q E s := by
  unfold Builtin.Bytes.payload Builtin.Bytes.payload?
  exact wpAny_bind (wpAny_bind (wpAny_load ho (wpAny_pure (wpAny_pure h))))
theorem X_if_false {ck : Bool} {α : Type} {c : Bool} {a b : Sem α} {Q : α → Shared → Prop} (hc : c = false) (h : wpX ck M A b Q E s) : wpX ck M A (if c = true then a else b) Q E s := by
  subst hc
  exact h
theorem X_if_true {ck : Bool} {α : Type} {c : Bool} {a b : Sem α} {Q : α → Shared → Prop} (hc : c = true) (h : wpX ck M A a Q E s) : wpX ck M A (if c = true then a else b) Q E s := by
  subst hc
  exact h
end
section
variable {prog : Program} {w : World} {A : Around} {E : Value → Shared → Prop} {s : Shared} {ck : Bool}
theorem ba_extend {a : Addr} {b c : List UInt8} {t : Tok} {Q : Value → Shared → Prop} (hg : A.guards = some []) (ho : s.heap.get? a = some (barrOf b)) (hz : b.length + c.length ≤ 1000000)
    (h : ∀ h', Heap.SameBut a s.heap h' → h'.get? a = some (barrOf (b ++ c)) → Q .none { s with heap := h' }) : wpX true (model prog w) A (call (.builtin "bytearray.extend") [.ref a, .bytes c.toArray t]) Q E s := by
  refine X_call_entry ba_slot_extend ⟨_, ho, rfl⟩ ba_entry_extend (dec_no (by decide +kernel)) ?_ (ba_args_extend _ _)
  unfold Builtin.«bytearray.extend»
  refine X.eq (a := (Value.ref a, Value.bytes c.toArray t)) rfl ?_
  try dsimp only
  refine X.bind (ax (wpAny_specialOf (typeIs_bytes s _ t) by_buffer ?_))
  refine X_if_true rfl ?_
  refine X.bind (ax (wpAny_rule ?_))
  refine X.bind (ax (ba_payload ho ?_))
  refine X.bind (ax (by_take ?_))
  try dsimp only
  refine X_if_true rfl ?_
  show wpX true _ _ (if (!c.toArray.isEmpty) = true then Builtin.Bytes.checkResize (.ref a) >>= fun _ => Builtin.Bytes.write (.ref a) (· ++ c.toArray) >>= fun _ => ret .none else Builtin.Bytes.write (.ref a) (· ++ c.toArray) >>= fun _ => ret .none) _ _ _
  have tail : wpX true (model prog w) A.in1 (Builtin.Bytes.write (.ref a) (· ++ c.toArray) >>= fun _ => ret .none) (fun fin s' => ∃ v, fin = .done (.ret v) ∧ Q v s') E s := by
    refine X.bind (ax (ba_write (b' := b ++ c) ho (by simp) (by simp only [List.length_append]; rw [sizeLine_eq]; omega) fun h' hs hS => ?_))
    exact X.pure ⟨.none, rfl, h h' hs hS⟩
  cases hc : (!c.toArray.isEmpty) with
  | false => exact tail
  | true => exact X.bind (ba_resize (A := A.in1) hg ho tail)
end
end NZ
namespace NZ
open _root_.PySem _root_.PySem.W _root_.PySem.Calls PyProof.Rows
open Sem (wp)
section
variable {prog : Program} {w : World} {A : Around} {E : Value → Shared → Prop} {s : Shared} {ck : Bool}
/-- a built-in type called -/
theorem X_callType {T newId initId : String} {Bn Bi : Builtin} {args : List Value} {Q Q₁ : Value → Shared → Prop} (ft : TypeCalled T newId initId)
    (hct : checkTypeCall T ⟨args, []⟩ = pure ()) (hcn : checkBuiltinCall newId ⟨.type T :: args, []⟩ = pure ()) (entryN : entryFor table newId = some Bn) (entryI : entryFor table initId = some Bi)
    (dn : Builtin.Bytes.decodersThatHold.contains newId = false) (di : Builtin.Bytes.decodersThatHold.contains initId = false)
    (hnew : codeX ck (model prog w) A.in1 (.builtin newId ⟨.type T :: args, []⟩) (wants Q₁ E) s)
    (hnext : ∀ obj s₁, Q₁ obj s₁ → s₁.TypeIs obj T ∧ argsOk initId ⟨obj :: args, []⟩ ∧ wpX ck (model prog w) A.in1.in1 (Bi ⟨obj :: args, []⟩) (fun fin s' => fin = .done (.ret .none) ∧ Q obj s') E s₁) :
    wpX ck (model prog w) A (call (.type T) args) Q E s := by
  refine X.call (codeX.tree rfl ?_)
  show wpX ck _ _ (callAny (.type T) _) _ _ _
  refine X.pure ⟨Code.quiet_builtin _ (by decide +kernel), codeX.builtin (dec_no (by decide +kernel)) F.entry_type_call ?_⟩
  rw [Around.under_plain (weight_type_call_type T args []) rfl]
  obtain ⟨c, tl, hmro⟩ := ft.mro
  unfold Builtin.«type.__call__»
  dsimp only
  refine X_if_false ft.notType ?_
  refine X_if_false ft.canCreate ?_
  refine X.eq hct ?_
  refine X.eq hmro ?_
  refine X_if_false rfl ?_
  refine X.eq ft.made ?_
  refine X.eq (a := Value.builtin newId) rfl ?_
  refine X.bind (X.holding (X.call (codeX.tree rfl ?_)))
  show wpX ck _ A.in1.in1 (checkBuiltinCall newId ⟨.type T :: args, []⟩ >>= fun _ => again (.builtin newId ⟨.type T :: args, []⟩)) _ _ s
  refine X.eq hcn (X.pure ⟨plainId_quiet ft.plain _, hnew.mono fun r s₁ hr => ?_⟩)
  cases r with
  | error e => exact hr
  | ok fl =>
    cases fl with
    | ret obj =>
      obtain ⟨hT, hok, hsi⟩ := hnext _ _ hr
      refine X.bind (ax (wpAny_isInstance hT ft.sub ?_))
      refine X_if_false rfl ?_
      refine X.bind (X.holding ?_)
      unfold callSpecial?
      refine X.bind (ax (wpAny_specialOf hT ft.init.lookup ?_))
      dsimp only
      refine X.holding (X.eq (ft.init.bind obj) ?_)
      dsimp only
      refine X.bind (X.call (codeX.tree rfl ?_))
      show wpX ck _ A.in1.in1 (checkBuiltinCall initId ⟨obj :: args, []⟩ >>= fun _ => again (.builtin initId ⟨obj :: args, []⟩)) _ _ _
      refine X.bind (ax (ft.init.check _ _ _ _ _ _ _ _ hT hok ?_))
      refine X.pure ⟨plainId_quiet ft.init.plain _, codeX.builtin (dec_no di) entryI ?_⟩
      rw [Around.under_plainId ft.init.plain]
      refine hsi.mono (fun fin s' z => ?_) fun _ _ z => z
      obtain ⟨rfl, z⟩ := z
      exact X.pure (X.pure z)
    | _ => exact hr.elim
theorem owner_ba_new : ("bytearray.__new__".splitOn ".__new__").headD "" = "bytearray" := by simp +decide [String.splitOn, String.splitOnAux]
theorem ba_new_code {R : Result → Shared → Prop} (h : R (.ok (.ret (.ref s.heap.objs.size))) { s with heap := s.heap.push (barrOf []) }) : codeAny (model prog w) A (.builtin "bytearray.__new__" ⟨[.type "bytearray"], []⟩) R s := by
  refine codeAny_builtin_stack ba_entry_new rfl fun p st => ?_
  rw [Around.under_plainId (by decide +kernel) _]
  have hown := owner_ba_new
  dsimp only
  rw [hown]
  refine wpAny_bind (wpAny_of_eq (a := true) rfl ?_)
  refine bm_if_false rfl ?_
  refine wpAny_bind (wpAny_of_eq ba_sub ?_)
  refine bm_if_false rfl ?_
  refine wpAny_bind (wpAny_pure ?_)
  refine bm_if_true (by decide +kernel) ?_
  refine wpAny_bind (wpAny_newObj_type ?_ (Nat.zero_le _))
  exact wpAny_pure h
theorem ba_none_own {a : Addr} {Q : Bool → Shared → Prop} {b : List UInt8} (ho : s.heap.get? a = some (barrOf b)) (h : Q false s) : wpAny (model prog w) A (Builtin.Bytes.ownRelease (.ref a)) Q E s := by
  unfold Builtin.Bytes.ownRelease Builtin.Bytes.slotIsOwn
  refine wpAny_bind (wpAny_bind (wpAny_specialOf ⟨_, ho, rfl⟩ ba_release ?_))
  dsimp only
  refine bm_if_false (by decide +kernel) ?_
  have e : "bytearray.__release_buffer__".dropRight ("__release_buffer__".length + 1) = "bytearray" := by decide +kernel
  rw [e]
  refine wpAny_isInstance ⟨_, ho, rfl⟩ ba_sub ?_
  exact wpAny_pure h
theorem ba_buffer_own {a : Addr} {Q : Bool → Shared → Prop} {b : List UInt8} (ho : s.heap.get? a = some (barrOf b)) (h : Q true s) : wpAny (model prog w) A (Builtin.Bytes.slotIsOwn (.ref a) "__buffer__") Q E s := by
  unfold Builtin.Bytes.slotIsOwn
  refine wpAny_bind (wpAny_specialOf ⟨_, ho, rfl⟩ ba_buffer ?_)
  dsimp only
  refine bm_if_false (by decide +kernel) ?_
  have e : "bytearray.__buffer__".dropRight ("__buffer__".length + 1) = "bytearray" := by decide +kernel
  rw [e]
  exact wpAny_isInstance ⟨_, ho, rfl⟩ ba_sub h
/-- bytearray() -/
theorem ba_make {Q : Value → Shared → Prop} (hg : A.guards = some []) (h : ∀ h', (∀ b o, s.heap.get? b = some o → h'.get? b = some o) → s.heap.objs.size < h'.objs.size → h'.get? s.heap.objs.size = some (barrOf []) → Q (.ref s.heap.objs.size) { s with heap := h' }) :
    wpX true (model prog w) A (call (.type "bytearray") []) Q E s := by
  refine X_callType (Q₁ := fun obj s₁ => obj = .ref s.heap.objs.size ∧ s₁ = { s with heap := s.heap.push (barrOf []) }) ba_called ba_typeCall ba_newCall ba_entry_new ba_entry_init (by decide +kernel) (by decide +kernel) (axc (ba_new_code ⟨rfl, rfl⟩)) fun obj s₁ hq => ?_
  obtain ⟨rfl, rfl⟩ := hq
  have ho : (s.heap.push (barrOf [])).get? s.heap.objs.size = some (barrOf []) := Heap.get?_push_size _ rfl
  refine ⟨⟨_, ho, rfl⟩, ba_args_init _, ?_⟩
  unfold Builtin.«bytearray.__init__»
  dsimp only
  refine X.bind (ax (ba_none_own ho ?_))
  refine X_if_false rfl ?_
  refine X.eq ba_bind ?_
  dsimp only
  refine X.eq (a := ()) rfl ?_
  refine X.eq (a := ()) rfl ?_
  refine X.bind (ba_free (A := A.in1.in1) hg ho ?_)
  refine X_if_false rfl ?_
  refine X.bind (ax (ba_write (b' := []) ho rfl (Nat.zero_le _) fun h' hs hS => ?_))
  refine X.eq (a := ()) rfl ?_
  refine X.pure ⟨rfl, h h' (fun b o e => (hs.2 b (Nat.ne_of_lt (Heap.lt_size e))).trans (Heap.get?_push_of_some _ e)) (Heap.lt_size hS) hS⟩
/-- bytes(b) of bytes and of bytearrays -/
theorem by_make {x : Value} {b : List UInt8} {Q : Value → Shared → Prop} (hx : (∃ t, x = .bytes b.toArray t) ∨ (∃ a, x = .ref a ∧ s.heap.get? a = some (barrOf b))) (hz : b.length ≤ 1000000)
    (hQ : ∀ t k, Q (.bytes b.toArray t) { s with toks := k }) : wpAny (model prog w) A (call (.type "bytes") [x]) Q E s := by
  refine callType_codes (Q₁ := fun obj s₁ => s₁.TypeIs obj "bytes" ∧ Q obj s₁) F.bm_called (F.bm_typeCall _) F.entry_object_init ?_ fun obj s₁ h₁ => ?_
  · refine codeAny_of_tree ?_
    show wpAny _ A.in1.in1 (do checkBuiltinCall "bytes.__new__" ⟨[.type "bytes", x], []⟩; again (.builtin "bytes.__new__" ⟨[.type "bytes", x], []⟩)) _ _ s
    refine wpAny_bind (wpAny_of_eq (F.bm_newCall _) (wpAny_pure ⟨plainId_quiet F.bm_plain _, codeAny_builtin F.bm_entry ?_⟩))
    rw [Around.under_plainId F.bm_plain _]
    unfold Builtin.«bytes.__new__»
    refine wpAny_bind (wpAny_of_eq (a := true) rfl ?_)
    refine bm_if_false rfl ?_
    refine wpAny_bind (wpAny_of_eq F.bm_sub ?_)
    refine bm_if_false rfl ?_
    refine wpAny_bind (wpAny_of_eq (F.bm_bind _) ?_)
    refine wpAny_bind (wpAny_of_eq (a := ()) rfl ?_)
    refine wpAny_bind (wpAny_of_eq (a := ()) rfl ?_)
    refine bm_if_false rfl ?_
    rcases hx with ⟨t, rfl⟩ | ⟨a, rfl, ho⟩
    · refine wpAny_bind (wpAny_specialOf (typeIs_bytes s _ t) by_bytes ?_)
      dsimp only
      refine wpAny_bind (wpAny_rule ?_)
      refine wpAny_bind (wpAny_typeOf (typeIs_bytes s _ t) ?_)
      refine bm_if_true (by decide) ?_
      show wpAny _ _ (if (Value.type "bytes" == Value.type "bytes") = true then _ else _) _ _ s
      refine bm_if_true (by decide) ?_
      exact wpAny_pure ⟨typeIs_bytes _ _ _, hQ t s.toks⟩
    · have hT : s.TypeIs (.ref a) "bytearray" := ⟨_, ho, rfl⟩
      refine wpAny_bind (wpAny_specialOf hT ba_no_bytes ?_)
      refine wpAny_bind (wpAny_bind ?_)
      show wpAny _ _ (load a >>= _) _ _ _
      refine wpAny_bind (wpAny_load ho ?_)
      refine wpAny_pure (wpAny_pure ?_)
      refine bm_if_false rfl ?_
      refine wpAny_bind (wpAny_specialOf hT ba_no_index ?_)
      refine bm_if_true rfl ?_
      show wpAny _ _ (Builtin.Bytes.buffer? "bytes.__new__" (.ref a) true >>= _) _ _ _
      refine wpAny_bind ?_
      unfold Builtin.Bytes.buffer?
      refine wpAny_bind (wpAny_specialOf hT ba_buffer ?_)
      try dsimp only
      refine wpAny_bind (ba_buffer_own ho ?_)
      refine bm_if_false (by decide) ?_
      refine wpAny_bind (wpAny_specialOf hT ba_buffer ?_)
      try dsimp only
      refine wpAny_bind (ba_none_own ho ?_)
      refine bm_if_false (by decide) ?_
      refine wpAny_bind (ba_payload ho ?_)
      refine wpAny_pure ?_
      try dsimp only
      refine wpAny_bind (wpAny_rule ?_)
      refine wpAny_bind (wpAny_mkBytes ?_ (by simp only [List.size_toArray]; rw [sizeLine_eq]; omega))
      show wpAny _ _ (if (Value.type "bytes" == Value.type "bytes") = true then _ else _) _ _ _
      refine bm_if_true (by decide) ?_
      exact wpAny_pure ⟨typeIs_bytes _ _ _, hQ _ _⟩
  · exact ⟨h₁.1, F.args_object_init_2 obj _, object_init_meets F.bm_called.init.lookup F.bm_called.made (by decide) prog w A.in1 _ s₁ ⟨h₁.1, rfl, h₁.2⟩⟩
end
end NZ
namespace NZ
set_option maxHeartbeats 0
open PySem PySem.W PySem.Calls PyProof.Rows
theorem caller_clean {ck : Bool} : Cln ck (⟨.builtin "claim.caller" {}, none, none, [], none⟩ : Ctx) := ⟨fun _ => by decide +kernel, fun _ x hx => by cases hx⟩
noncomputable def topRunT (tb : String → Option Builtin) (p : Program) (w : World) (n₀ : Nat) (ann : Option Value) : Nat → SharedT → Thread → Option SharedT
  | 0, _, _ => none
  | n + 1, s, t => match through t with
    | true => some s
    | false => match stepOk n₀ ann t with
      | false => none
      | true => match stepT (denote tb) p w s t with
        | some (s', t') => topRunT tb p w n₀ ann n s' t'
        | none => none
theorem topRun_of {tb : String → Option Builtin} {p : Program} {w : World} {n₀ : Nat} {ann : Option Value} : ∀ {n : Nat} {s s' : SharedT} {t : Thread}, topRunT tb p w n₀ ann n s t = some s' → topRun tb p w n₀ ann n s.abs t = some s'.abs
  | 0, _, _, _, h => by cases h
  | n + 1, s, s', t, h => by
    unfold topRunT at h
    unfold topRun
    cases he : through t with
    | true => rw [he] at h; cases h; rfl
    | false =>
      rw [he] at h
      cases hk : stepOk n₀ ann t with
      | false => rw [hk] at h; cases h
      | true =>
        rw [hk] at h
        cases hs : stepT (denote tb) p w s t with
        | none => rw [hs] at h; cases h
        | some r => obtain ⟨s₂, t₂⟩ := r; rw [hs] at h; rw [stepT_spec hs]; exact topRun_of h
noncomputable def leaf (o : Obj) : BT := .node o .nil .nil
noncomputable def bootT (P : Params) : BT := .node (boot_o_0 P) (.node (boot_o_1 P) (.node (boot_o_3 P) (leaf (boot_o_7 P)) .nil) (.node (boot_o_5 P) (leaf (boot_o_9 P)) .nil)) (.node (boot_o_2 P) (.node (boot_o_4 P) (leaf (boot_o_8 P)) .nil) (.node (boot_o_6 P) (leaf (boot_o_10 P)) .nil))
noncomputable def bootS (P : Params) (os : OsState) : SharedT := ⟨bootT P, 11, {}, Array.mk [], boot_drawn, boot_toks, os⟩
theorem boot_abs (P : Params) : absHeap (bootT P) 11 {} = boot_heap P := by kernel_rfl
theorem boot_size (P : Params) : ((boot_heap P).isNs mainGlobals, (boot_heap P).objs.size, (boot_heap P).nsMap mainGlobals "__annotations__") = (true, 11, some (.ref 6)) := by kernel_rfl
/-- LeftO by one run on the tree -/
theorem left_of {p q : Program} {loose : List Str} {Xt : Shared → Bool} {α : Type} {Yf : Shared → α} {Ya : World → α} {N : Nat} (hp : opening p = plainProg p.main.scope.names) (hN : Nat.ble 600 N = true) (hf : ∀ s, fenceModules? p s = some s)
    (h : ∀ w os, (topRunT treeTable p w 11 (some (.ref 6)) N (bootS w.params os) (topStub p)).map (fun st => ((staticsOk (importedModules p.main.body) (boot_heap w.params) st.abs.heap && namesBound p st.abs.heap && gensDone st.abs && laidKept (boot_heap w.params) st.abs.heap), openSeen q loose (importedModules p.main.body) Xt true st.abs, Yf st.abs)) = some (true, openGood q loose, Ya w)) :
    LeftO p q loose Xt Yf Ya N := fun w => by
  obtain ⟨⟨h0, gs, d, k, os⟩, e, e'⟩ := Option.map_eq_some_iff.mp (boot_open hp hN hf w)
  obtain ⟨rfl, rfl, rfl, rfl⟩ : h0 = boot_heap w.params ∧ gs = Array.mk [] ∧ d = boot_drawn ∧ k = boot_toks := by simpa using e'
  obtain ⟨st, r, l⟩ := Option.map_eq_some_iff.mp (h w os)
  have r := topRun_of r
  have ab : (bootS w.params os).abs = ⟨boot_heap w.params, Array.mk [], boot_drawn, boot_toks, os⟩ := by
    show (⟨absHeap (bootT w.params) 11 {}, _, _, _, _⟩ : Shared) = _
    rw [boot_abs]
    rfl
  rw [ab] at r
  have l1 := congrArg Prod.fst l
  have l2 := congrArg (fun x => x.2) l
  dsimp only at l1 l2
  have z := boot_size w.params
  have z1 := congrArg Prod.fst z
  have z2 := congrArg (fun x => x.2.1) z
  have z3 := congrArg (fun x => x.2.2) z
  dsimp only at z1 z2 z3
  have t : topFrom treeTable p w N ⟨boot_heap w.params, Array.mk [], boot_drawn, boot_toks, os⟩ = some st.abs := by
    unfold topFrom
    dsimp only
    rw [z1, z2, z3]
    show (topRun treeTable p w 11 (some (.ref 6)) N ⟨boot_heap w.params, Array.mk [], boot_drawn, boot_toks, os⟩ (topStub p)).bind (fun s₁ => match staticsOk (importedModules p.main.body) (boot_heap w.params) s₁.heap && namesBound p s₁.heap && gensDone s₁ && laidKept (boot_heap w.params) s₁.heap with
      | true => some s₁
      | false => none) = _
    rw [r]
    show (match staticsOk (importedModules p.main.body) (boot_heap w.params) st.abs.heap && namesBound p st.abs.heap && gensDone st.abs && laidKept (boot_heap w.params) st.abs.heap with | true => some st.abs | false => none) = some st.abs
    rw [l1]
  unfold openEnds
  rw [e]
  show (topFrom treeTable p w N _).map _ = _
  rw [t]
  exact congrArg some l2
/-! the part of the program's heap that the walk reads, written out (by kprint.py) -/
noncomputable def pw : Program := PySem.Challenge.pw_nz0366_01
noncomputable def atp (i : Nat) : Stmt := (pw.main.body[i]?).getD (.Pass ⟨0, 0, 0, 0⟩)
noncomputable def atm (i j : Nat) : Stmt := match atp i with
  | .ClassDef _ _ _ body _ _ _ _ _ _ _ => (body[j]?).getD (.Pass ⟨0, 0, 0, 0⟩)
  | s => s
noncomputable def sv (x : String) (t : Nat) : Value := .str (Str.ofString x) t
noncomputable def kv (P : Params) (x : String) (t : Nat) (v : Value) : DictEntry := ⟨PyData.keyHash P (Str.ofString x), .str (Str.ofString x) t, v⟩
noncomputable def tp (vs : List Value) : Obj := { cls := .type "tuple", data := .seq vs.toArray }
noncomputable def ls (vs : List Value) : Obj := { cls := .type "list", data := .seq vs.toArray }
noncomputable def fl (c : String) (vs : List Value) : Obj := { cls := .type c, data := .fields vs.toArray }
noncomputable def di (c : Value) (es : List DictEntry) (n : Nat) : Obj := { cls := c, data := .dict es.toArray n }
noncomputable def co (n q : String) (t l c r : Nat) (x y : Value) (r3 t4 : Nat) : Obj := fl "code" [sv n t, sv q (t + 1), sv "/claim/cut.py" (t + 2), .int l 0, .int c 0, .int 0 0, .int 0 0, .int 3 0, .ref r, .bool true, .int 181 0, .ref (r + 1), .none, x, y, .ref r3, .int t4 0, .int l 0, sv "/claim/cut.py" (t4 + 1)]
noncomputable def fu (s : Stmt) (q : String) (df md : Value) (cd : Nat) : Obj := match s with
  | .FunctionDef name args body _ _ _ own _ _ _ => { cls := .type "function", data := .func { name := name, qualname := Str.ofString q, params := args, body := .stmts body, scope := own, globals := 3, closure := [], defaults := df, kwdefaults := .none, pyModule := md, code := .ref cd } }
  | _ => tp []
noncomputable def kch0 (P : Params) : Frag := [(2, di .none [kv P "type.__subclasses__.Exception.0" 212 (.int 31 0), kv P "type.__subclasses__.Exception.n" 213 (.int 1 0)] 2),
  (3, di (.type "dict") [kv P "__name__" 165 (sv "law_nz0366_01" 690), kv P "__doc__" 166 .none, kv P "__package__" 167 .none, kv P "__loader__" 168 (.builtin "__main__.__loader__#opaque"), kv P "__spec__" 169 .none, kv P "__annotations__" 170 (.ref 6), kv P "__builtins__" 171 (.ref 4), kv P "__file__" 173 (sv "/claim/cut.py" 172), kv P "__cached__" 174 .none, kv P "_wall" 193 (.ref 21), kv P "KeepError" 215 (.ref 31), kv P "StoreError" 231 (.ref 44), kv P "Corrupt" 247 (.ref 56), kv P "ShortOctets" 263 (.ref 68), kv P "BadOption" 279 (.ref 80), kv P "MAX_32" 283 (.int 4294967295 282), kv P "MAX_64" 285 (.int 18446744073709551615 284), kv P "write_groups" 294 (.ref 89), kv P "read_groups" 308 (.ref 96), kv P "put_varint" 315 (.ref 103), kv P "read_varint" 323 (.ref 110), kv P "put_varint32" 330 (.ref 117), kv P "read_varint32" 338 (.ref 124), kv P "read_lengthed" 347 (.ref 131), kv P "Cursor" 448 (.ref 212), kv P "Sink" 539 (.ref 289), kv P "MOST_LEVELS" 541 (.int 12 540), kv P "TAG_COMPARATOR" 545 (.int 1 544), kv P "TAG_LOG_NUMBER" 547 (.int 2 546), kv P "TAG_NEXT_FILE" 549 (.int 3 548), kv P "TAG_LAST_SEQ" 551 (.int 4 550), kv P "TAG_POINTER" 553 (.int 5 552), kv P "TAG_DELETED" 555 (.int 6 554), kv P "TAG_ADDED" 557 (.int 7 556), kv P "TAG_RESET" 559 (.int 10 558), kv P "FileMeta" 601 (.ref 317), kv P "VersionEdit" 658 (.ref 352), kv P "read_level" 666 (.ref 363), kv P "read_ikey" 674 (.ref 370), kv P "decode_edit" 689 (.ref 377), kv P "_law_tags" 700 (.ref 378), kv P "_law_form" 706 (.ref 385), kv P "_law_draw" 714 (.ref 392), kv P "_law_varint" 722 (.ref 399), kv P "_law_lengthed" 729 (.ref 406), kv P "_law_token" 741 (.ref 413), kv P "_law_number" 747 (.ref 418), kv P "_law_parts" 762 (.ref 425), kv P "_law_row" 768 (.ref 430), kv P "_law_both" 774 (.ref 435), kv P "_law_write" 787 (.ref 442), kv P "_law_told" 795 (.ref 449), kv P "law" 801 (.ref 454)] 53),
  (15, tp []),
  (17, tp [sv "k" 190]),
  (18, tp []),
  (20, co "_wall" "_wall" 187 1 1 15 (.ref 17) (.ref 18) 19 191),
  (21, fu (atp 0) "_wall" .none (sv "__main__" 164) 20),
  (22, tp [.type "Exception"]),
  (29, tp []),
  (30, di (.type "dict") [kv P "__module__" 203 (sv "raftkeep.errors" 194), kv P "__firstlineno__" 207 (.int 5 206), kv P "__static_attributes__" 208 (.ref 29), kv P "__weakref__" 210 (.ref 32), kv P "__doc__" 211 .none] 3),
  (31, { cls := .type "type", data := .cls { name := Str.ofString "KeepError", bases := [.type "Exception"], mro := [.ref 31, .type "Exception", .type "BaseException", .type "object"], ns := 30, qualname := Str.ofString "KeepError", subclasses := [.ref 44] }, slots := #[some (.ref 22), none, some (sv "KeepError" 196), some (sv "KeepError" 204), some (.builtin "Exception.__new__"), some (.bool true)] }),
  (32, fl "getset_descriptor" [sv "__weakref__" 209, .ref 31, .builtin "ExceptionGroup.__weakref__", .none]),
  (35, tp [.ref 31]),
  (42, tp []),
  (43, di (.type "dict") [kv P "__module__" 223 (sv "raftkeep.errors" 194), kv P "__firstlineno__" 227 (.int 7 226), kv P "__static_attributes__" 228 (.ref 42), kv P "__doc__" 229 .none] 2),
  (44, { cls := .type "type", data := .cls { name := Str.ofString "StoreError", bases := [.ref 31], mro := [.ref 44, .ref 31, .type "Exception", .type "BaseException", .type "object"], ns := 43, qualname := Str.ofString "StoreError", subclasses := [.ref 56, .ref 80] }, slots := #[some (.ref 35), none, some (sv "StoreError" 216), some (sv "StoreError" 224), some (.builtin "Exception.__new__"), some (.bool true)] }),
  (47, tp [.ref 44]),
  (54, tp []),
  (55, di (.type "dict") [kv P "__module__" 239 (sv "raftkeep.errors" 194), kv P "__firstlineno__" 243 (.int 9 242), kv P "__static_attributes__" 244 (.ref 54), kv P "__doc__" 245 .none] 2),
  (56, { cls := .type "type", data := .cls { name := Str.ofString "Corrupt", bases := [.ref 44], mro := [.ref 56, .ref 44, .ref 31, .type "Exception", .type "BaseException", .type "object"], ns := 55, qualname := Str.ofString "Corrupt", subclasses := [.ref 68] }, slots := #[some (.ref 47), none, some (sv "Corrupt" 232), some (sv "Corrupt" 240), some (.builtin "Exception.__new__"), some (.bool true)] }),
  (59, tp [.ref 56]),
  (66, tp []),
  (67, di (.type "dict") [kv P "__module__" 255 (sv "raftkeep.errors" 194), kv P "__firstlineno__" 259 (.int 11 258), kv P "__static_attributes__" 260 (.ref 66), kv P "__doc__" 261 .none] 2),
  (68, { cls := .type "type", data := .cls { name := Str.ofString "ShortOctets", bases := [.ref 56], mro := [.ref 68, .ref 56, .ref 44, .ref 31, .type "Exception", .type "BaseException", .type "object"], ns := 67, qualname := Str.ofString "ShortOctets" }, slots := #[some (.ref 59), none, some (sv "ShortOctets" 248), some (sv "ShortOctets" 256), some (.builtin "Exception.__new__"), some (.bool true)] }),
  (71, tp [.ref 44]),
  (78, tp []),
  (79, di (.type "dict") [kv P "__module__" 271 (sv "raftkeep.errors" 194), kv P "__firstlineno__" 275 (.int 13 274), kv P "__static_attributes__" 276 (.ref 78), kv P "__doc__" 277 .none] 2),
  (80, { cls := .type "type", data := .cls { name := Str.ofString "BadOption", bases := [.ref 44], mro := [.ref 80, .ref 44, .ref 31, .type "Exception", .type "BaseException", .type "object"], ns := 79, qualname := Str.ofString "BadOption" }, slots := #[some (.ref 71), none, some (sv "BadOption" 264), some (sv "BadOption" 272), some (.builtin "Exception.__new__"), some (.bool true)] }),
  (83, tp []),
  (85, tp [sv "n" 289, sv "most" 290, sv "out" 291]),
  (86, tp []),
  (88, co "write_groups" "write_groups" 286 18 2 83 (.ref 85) (.ref 86) 87 292),
  (89, fu (atp 10) "write_groups" .none (sv "raftkeep.octets" 280) 88),
  (90, tp [])]
noncomputable def kch1 (P : Params) : Frag := [(92, tp [sv "data" 298, sv "at" 299, sv "octets" 300, sv "most" 301, sv "n" 302, sv "shift" 303, sv "turn" 304, sv "octet" 305]),
  (93, tp []),
  (95, co "read_groups" "read_groups" 295 27 4 90 (.ref 92) (.ref 93) 94 306),
  (96, fu (atp 11) "read_groups" .none (sv "raftkeep.octets" 280) 95),
  (97, tp []),
  (99, tp [sv "n" 312]),
  (100, tp []),
  (102, co "put_varint" "put_varint" 309 44 1 97 (.ref 99) (.ref 100) 101 313),
  (103, fu (atp 12) "put_varint" .none (sv "raftkeep.octets" 280) 102),
  (104, tp []),
  (106, tp [sv "data" 319, sv "at" 320]),
  (107, tp []),
  (109, co "read_varint" "read_varint" 316 48 2 104 (.ref 106) (.ref 107) 108 321),
  (110, fu (atp 13) "read_varint" .none (sv "raftkeep.octets" 280) 109),
  (111, tp []),
  (113, tp [sv "n" 327]),
  (114, tp []),
  (116, co "put_varint32" "put_varint32" 324 52 1 111 (.ref 113) (.ref 114) 115 328),
  (117, fu (atp 14) "put_varint32" .none (sv "raftkeep.octets" 280) 116),
  (118, tp []),
  (120, tp [sv "data" 334, sv "at" 335]),
  (121, tp []),
  (123, co "read_varint32" "read_varint32" 331 56 2 118 (.ref 120) (.ref 121) 122 336),
  (124, fu (atp 15) "read_varint32" .none (sv "raftkeep.octets" 280) 123),
  (125, tp []),
  (127, tp [sv "data" 342, sv "at" 343, sv "count" 344]),
  (128, tp []),
  (130, co "read_lengthed" "read_lengthed" 339 60 2 125 (.ref 127) (.ref 128) 129 345),
  (131, fu (atp 16) "read_lengthed" .none (sv "raftkeep.octets" 280) 130),
  (139, tp [.int 0 360]),
  (140, tp []),
  (142, tp [sv "self" 364, sv "data" 365, sv "at" 366]),
  (143, tp []),
  (145, co "__init__" "Cursor.__init__" 361 67 3 140 (.ref 142) (.ref 143) 144 367)]
noncomputable def kch2 (P : Params) : Frag := [(146, fu (atm 17 0) "Cursor.__init__" (.ref 139) (sv "raftkeep.octets" 280) 145),
  (147, tp []),
  (149, tp [sv "self" 373]),
  (150, tp []),
  (152, co "left" "Cursor.left" 370 73 1 147 (.ref 149) (.ref 150) 151 374),
  (153, fu (atm 17 1) "Cursor.left" .none (sv "raftkeep.octets" 280) 152),
  (154, tp []),
  (156, tp [sv "self" 380, sv "at" 381, sv "n" 382]),
  (157, tp []),
  (159, co "varint" "Cursor.varint" 377 76 1 154 (.ref 156) (.ref 157) 158 383),
  (160, fu (atm 17 2) "Cursor.varint" .none (sv "raftkeep.octets" 280) 159),
  (161, tp []),
  (163, tp [sv "self" 389]),
  (164, tp []),
  (166, co "fixed32" "Cursor.fixed32" 386 85 1 161 (.ref 163) (.ref 164) 165 390),
  (167, fu (atm 17 3) "Cursor.fixed32" .none (sv "raftkeep.octets" 280) 166),
  (168, tp []),
  (170, tp [sv "self" 396]),
  (171, tp []),
  (173, co "fixed64" "Cursor.fixed64" 393 88 1 168 (.ref 170) (.ref 171) 172 397),
  (174, fu (atm 17 4) "Cursor.fixed64" .none (sv "raftkeep.octets" 280) 173),
  (175, tp []),
  (177, tp [sv "self" 403, sv "b" 404, sv "at" 405]),
  (178, tp []),
  (180, co "lengthed" "Cursor.lengthed" 400 91 1 175 (.ref 177) (.ref 178) 179 406),
  (181, fu (atm 17 5) "Cursor.lengthed" .none (sv "raftkeep.octets" 280) 180),
  (182, tp []),
  (184, tp [sv "self" 412, sv "n" 413]),
  (185, tp []),
  (187, co "octet" "Cursor.octet" 409 96 1 182 (.ref 184) (.ref 185) 186 414),
  (188, fu (atm 17 6) "Cursor.octet" .none (sv "raftkeep.octets" 280) 187),
  (189, tp []),
  (191, tp [sv "self" 420]),
  (192, tp [])]
noncomputable def kch3 (P : Params) : Frag := [(194, co "flag" "Cursor.flag" 417 103 1 189 (.ref 191) (.ref 192) 193 421),
  (195, fu (atm 17 7) "Cursor.flag" .none (sv "raftkeep.octets" 280) 194),
  (196, tp []),
  (198, tp [sv "self" 427, sv "n" 428]),
  (199, tp []),
  (201, co "take" "Cursor.take" 424 106 2 196 (.ref 198) (.ref 199) 200 429),
  (202, fu (atm 17 8) "Cursor.take" .none (sv "raftkeep.octets" 280) 201),
  (203, tp []),
  (205, tp [sv "self" 435]),
  (206, tp []),
  (208, co "done" "Cursor.done" 432 109 1 203 (.ref 205) (.ref 206) 207 436),
  (209, fu (atm 17 9) "Cursor.done" .none (sv "raftkeep.octets" 280) 208),
  (210, tp [sv "at" 439, sv "data" 440]),
  (211, di (.type "dict") [kv P "__module__" 355 (sv "raftkeep.octets" 280), kv P "__firstlineno__" 359 (.int 65 358), kv P "__init__" 369 (.ref 146), kv P "left" 376 (.ref 153), kv P "varint" 385 (.ref 160), kv P "fixed32" 392 (.ref 167), kv P "fixed64" 399 (.ref 174), kv P "lengthed" 408 (.ref 181), kv P "octet" 416 (.ref 188), kv P "flag" 423 (.ref 195), kv P "take" 431 (.ref 202), kv P "done" 438 (.ref 209), kv P "__static_attributes__" 441 (.ref 210), kv P "__dict__" 443 (.ref 213), kv P "__weakref__" 445 (.ref 214), kv P "__doc__" 446 .none] 4),
  (212, { cls := .type "type", data := .cls { name := Str.ofString "Cursor", bases := [.type "object"], mro := [.ref 212, .type "object"], ns := 211, qualname := Str.ofString "Cursor" }, slots := #[none, none, some (sv "Cursor" 348), some (sv "Cursor" 356), some (.builtin "object.__new__"), some (.bool true)] }),
  (213, fl "getset_descriptor" [sv "__dict__" 442, .ref 212, .builtin "function.__dict__", .builtin "function.__dict__#set"]),
  (214, fl "getset_descriptor" [sv "__weakref__" 444, .ref 212, .builtin "ExceptionGroup.__weakref__", .none]),
  (224, tp []),
  (226, tp [sv "self" 464]),
  (227, tp []),
  (229, co "__init__" "Sink.__init__" 461 114 1 224 (.ref 226) (.ref 227) 228 465),
  (230, fu (atm 18 0) "Sink.__init__" .none (sv "raftkeep.octets" 280) 229),
  (231, tp []),
  (233, tp [sv "self" 471, sv "n" 472]),
  (234, tp []),
  (236, co "varint" "Sink.varint" 468 117 2 231 (.ref 233) (.ref 234) 235 473),
  (237, fu (atm 18 1) "Sink.varint" .none (sv "raftkeep.octets" 280) 236),
  (238, tp []),
  (240, tp [sv "self" 479, sv "n" 480]),
  (241, tp []),
  (243, co "fixed32" "Sink.fixed32" 476 123 2 238 (.ref 240) (.ref 241) 242 481),
  (244, fu (atm 18 2) "Sink.fixed32" .none (sv "raftkeep.octets" 280) 243),
  (245, tp []),
  (247, tp [sv "self" 487, sv "n" 488])]
noncomputable def kch4 (P : Params) : Frag := [(248, tp []),
  (250, co "fixed64" "Sink.fixed64" 484 126 2 245 (.ref 247) (.ref 248) 249 489),
  (251, fu (atm 18 3) "Sink.fixed64" .none (sv "raftkeep.octets" 280) 250),
  (252, tp []),
  (254, tp [sv "self" 495, sv "b" 496]),
  (255, tp []),
  (257, co "lengthed" "Sink.lengthed" 492 129 2 252 (.ref 254) (.ref 255) 256 497),
  (258, fu (atm 18 4) "Sink.lengthed" .none (sv "raftkeep.octets" 280) 257),
  (259, tp []),
  (261, tp [sv "self" 503, sv "n" 504]),
  (262, tp []),
  (264, co "octet" "Sink.octet" 500 133 2 259 (.ref 261) (.ref 262) 263 505),
  (265, fu (atm 18 5) "Sink.octet" .none (sv "raftkeep.octets" 280) 264),
  (266, tp []),
  (268, tp [sv "self" 511, sv "b" 512]),
  (269, tp []),
  (271, co "flag" "Sink.flag" 508 138 2 266 (.ref 268) (.ref 269) 270 513),
  (272, fu (atm 18 6) "Sink.flag" .none (sv "raftkeep.octets" 280) 271),
  (273, tp []),
  (275, tp [sv "self" 519, sv "b" 520]),
  (276, tp []),
  (278, co "raw" "Sink.raw" 516 141 2 273 (.ref 275) (.ref 276) 277 521),
  (279, fu (atm 18 7) "Sink.raw" .none (sv "raftkeep.octets" 280) 278),
  (280, tp []),
  (282, tp [sv "self" 527]),
  (283, tp []),
  (285, co "done" "Sink.done" 524 144 1 280 (.ref 282) (.ref 283) 284 528),
  (286, fu (atm 18 8) "Sink.done" .none (sv "raftkeep.octets" 280) 285),
  (287, tp [sv "parts" 531]),
  (288, di (.type "dict") [kv P "__module__" 456 (sv "raftkeep.octets" 280), kv P "__firstlineno__" 460 (.int 112 459), kv P "__init__" 467 (.ref 230), kv P "varint" 475 (.ref 237), kv P "fixed32" 483 (.ref 244), kv P "fixed64" 491 (.ref 251), kv P "lengthed" 499 (.ref 258), kv P "octet" 507 (.ref 265), kv P "flag" 515 (.ref 272), kv P "raw" 523 (.ref 279), kv P "done" 530 (.ref 286), kv P "__static_attributes__" 532 (.ref 287), kv P "__dict__" 534 (.ref 290), kv P "__weakref__" 536 (.ref 291), kv P "__doc__" 537 .none] 4),
  (289, { cls := .type "type", data := .cls { name := Str.ofString "Sink", bases := [.type "object"], mro := [.ref 289, .type "object"], ns := 288, qualname := Str.ofString "Sink" }, slots := #[none, none, some (sv "Sink" 449), some (sv "Sink" 457), some (.builtin "object.__new__"), some (.bool true)] }),
  (290, fl "getset_descriptor" [sv "__dict__" 533, .ref 289, .builtin "function.__dict__", .builtin "function.__dict__#set"]),
  (291, fl "getset_descriptor" [sv "__weakref__" 535, .ref 289, .builtin "ExceptionGroup.__weakref__", .none]),
  (301, tp [])]
noncomputable def kch5 (P : Params) : Frag := [(303, tp [sv "self" 575, sv "number" 576, sv "size" 577, sv "smallest" 578, sv "largest" 579]),
  (304, tp []),
  (306, co "__init__" "FileMeta.__init__" 572 158 5 301 (.ref 303) (.ref 304) 305 580),
  (307, fu (atm 29 0) "FileMeta.__init__" .none (sv "raftkeep.versions" 542) 306),
  (308, tp []),
  (310, tp [sv "self" 586]),
  (311, tp []),
  (313, co "row" "FileMeta.row" 583 164 1 308 (.ref 310) (.ref 311) 312 587),
  (314, fu (atm 29 1) "FileMeta.row" .none (sv "raftkeep.versions" 542) 313),
  (315, tp [sv "largest" 590, sv "number" 591, sv "size" 592, sv "smallest" 593]),
  (316, di (.type "dict") [kv P "__module__" 567 (sv "raftkeep.versions" 542), kv P "__firstlineno__" 571 (.int 156 570), kv P "__init__" 582 (.ref 307), kv P "row" 589 (.ref 314), kv P "__static_attributes__" 594 (.ref 315), kv P "__dict__" 596 (.ref 318), kv P "__weakref__" 598 (.ref 319), kv P "__doc__" 599 .none] 4),
  (317, { cls := .type "type", data := .cls { name := Str.ofString "FileMeta", bases := [.type "object"], mro := [.ref 317, .type "object"], ns := 316, qualname := Str.ofString "FileMeta" }, slots := #[none, none, some (sv "FileMeta" 560), some (sv "FileMeta" 568), some (.builtin "object.__new__"), some (.bool true)] }),
  (318, fl "getset_descriptor" [sv "__dict__" 595, .ref 317, .builtin "function.__dict__", .builtin "function.__dict__#set"]),
  (319, fl "getset_descriptor" [sv "__weakref__" 597, .ref 317, .builtin "ExceptionGroup.__weakref__", .none]),
  (329, tp []),
  (331, tp [sv "self" 617]),
  (332, tp []),
  (334, co "__init__" "VersionEdit.__init__" 614 168 1 329 (.ref 331) (.ref 332) 333 618),
  (335, fu (atm 30 0) "VersionEdit.__init__" .none (sv "raftkeep.versions" 542) 334),
  (336, tp []),
  (338, tp [sv "self" 624, sv "added" 625, sv "level" 626, sv "meta" 627]),
  (339, tp []),
  (341, co "row" "VersionEdit.row" 621 178 1 336 (.ref 338) (.ref 339) 340 628),
  (342, fu (atm 30 1) "VersionEdit.row" .none (sv "raftkeep.versions" 542) 341),
  (343, tp []),
  (345, tp [sv "self" 634, sv "sink" 635, sv "level" 636, sv "ikey" 637, sv "number" 638, sv "meta" 639]),
  (346, tp []),
  (348, co "encode" "VersionEdit.encode" 631 184 1 343 (.ref 345) (.ref 346) 347 640),
  (349, fu (atm 30 2) "VersionEdit.encode" .none (sv "raftkeep.versions" 542) 348),
  (350, tp [sv "added" 643, sv "compact_pointers" 644, sv "comparator" 645, sv "deleted" 646, sv "last_seq" 647, sv "log_number" 648, sv "next_file" 649, sv "reset" 650]),
  (351, di (.type "dict") [kv P "__module__" 609 (sv "raftkeep.versions" 542), kv P "__firstlineno__" 613 (.int 166 612), kv P "__init__" 620 (.ref 335), kv P "row" 630 (.ref 342), kv P "encode" 642 (.ref 349), kv P "__static_attributes__" 651 (.ref 350), kv P "__dict__" 653 (.ref 353), kv P "__weakref__" 655 (.ref 354), kv P "__doc__" 656 .none] 4),
  (352, { cls := .type "type", data := .cls { name := Str.ofString "VersionEdit", bases := [.type "object"], mro := [.ref 352, .type "object"], ns := 351, qualname := Str.ofString "VersionEdit" }, slots := #[none, none, some (sv "VersionEdit" 602), some (sv "VersionEdit" 610), some (.builtin "object.__new__"), some (.bool true)] }),
  (353, fl "getset_descriptor" [sv "__dict__" 652, .ref 352, .builtin "function.__dict__", .builtin "function.__dict__#set"]),
  (354, fl "getset_descriptor" [sv "__weakref__" 654, .ref 352, .builtin "ExceptionGroup.__weakref__", .none])]
noncomputable def kch6 (P : Params) : Frag := [(357, tp []),
  (359, tp [sv "cursor" 662, sv "level" 663]),
  (360, tp []),
  (362, co "read_level" "read_level" 659 216 1 357 (.ref 359) (.ref 360) 361 664),
  (363, fu (atp 31) "read_level" .none (sv "raftkeep.versions" 542) 362),
  (364, tp []),
  (366, tp [sv "cursor" 670, sv "ikey" 671]),
  (367, tp []),
  (369, co "read_ikey" "read_ikey" 667 221 1 364 (.ref 366) (.ref 367) 368 672),
  (370, fu (atp 32) "read_ikey" .none (sv "raftkeep.versions" 542) 369),
  (371, tp []),
  (373, tp [sv "data" 678, sv "edit" 679, sv "cursor" 680, sv "tag" 681, sv "level" 682, sv "number" 683, sv "size" 684, sv "smallest" 685, sv "largest" 686]),
  (374, tp []),
  (376, co "decode_edit" "decode_edit" 675 226 1 371 (.ref 373) (.ref 374) 375 687),
  (377, fu (atp 33) "decode_edit" .none (sv "raftkeep.versions" 542) 376),
  (378, ls [.int 1 692, .int 2 693, .int 3 694, .int 4 695, .int 5 696, .int 6 697, .int 7 698, .int 10 699]),
  (379, tp []),
  (381, tp []),
  (382, tp []),
  (384, co "_law_form" "_law_form" 701 259 0 379 (.ref 381) (.ref 382) 383 704),
  (385, fu (atp 36) "_law_form" .none (sv "law_nz0366_01" 690) 384),
  (386, tp []),
  (388, tp [sv "nums" 710, sv "i" 711]),
  (389, tp []),
  (391, co "_law_draw" "_law_draw" 707 261 2 386 (.ref 388) (.ref 389) 390 712),
  (392, fu (atp 37) "_law_draw" .none (sv "law_nz0366_01" 690) 391),
  (393, tp []),
  (395, tp [sv "n" 718, sv "out" 719]),
  (396, tp []),
  (398, co "_law_varint" "_law_varint" 715 263 1 393 (.ref 395) (.ref 396) 397 720),
  (399, fu (atp 38) "_law_varint" .none (sv "law_nz0366_01" 690) 398),
  (400, tp []),
  (402, tp [sv "word" 726]),
  (403, tp [])]
noncomputable def kch7 (P : Params) : Frag := [(405, co "_law_lengthed" "_law_lengthed" 723 269 1 400 (.ref 402) (.ref 403) 404 727),
  (406, fu (atp 39) "_law_lengthed" .none (sv "law_nz0366_01" 690) 405),
  (407, tp []),
  (409, tp [sv "y" 733, sv "what" 734, sv "q" 735, sv "out" 736, sv "letter" 737, sv "n" 738]),
  (410, tp []),
  (412, co "_law_token" "_law_token" 730 271 1 407 (.ref 409) (.ref 410) 411 739),
  (413, fu (atp 40) "_law_token" .none (sv "law_nz0366_01" 690) 412),
  (414, tp []),
  (417, co "_law_number" "_law_number" 742 295 4 414 .none .none 416 745),
  (418, fu (atp 41) "_law_number" .none (sv "law_nz0366_01" 690) 417),
  (419, tp []),
  (421, tp [sv "data" 751, sv "parts" 752, sv "at" 753, sv "fault" 754, sv "tag" 755, sv "part" 756, sv "letter" 757, sv "worded" 758, sv "n" 759]),
  (422, tp []),
  (424, co "_law_parts" "_law_parts" 748 304 1 419 (.ref 421) (.ref 422) 423 760),
  (425, fu (atp 42) "_law_parts" .none (sv "law_nz0366_01" 690) 424),
  (426, tp []),
  (429, co "_law_row" "_law_row" 763 332 1 426 .none .none 428 766),
  (430, fu (atp 43) "_law_row" .none (sv "law_nz0366_01" 690) 429),
  (431, tp []),
  (434, co "_law_both" "_law_both" 769 342 2 431 .none .none 433 772),
  (435, fu (atp 44) "_law_both" .none (sv "law_nz0366_01" 690) 434),
  (436, tp []),
  (438, tp [sv "row" 778, sv "out" 779, sv "i" 780, sv "level" 781, sv "key" 782, sv "number" 783, sv "meta" 784]),
  (439, tp []),
  (441, co "_law_write" "_law_write" 775 345 1 436 (.ref 438) (.ref 439) 440 785),
  (442, fu (atp 45) "_law_write" .none (sv "law_nz0366_01" 690) 441),
  (443, tp []),
  (445, tp [sv "data" 791, sv "edit" 792]),
  (446, tp []),
  (448, co "_law_told" "_law_told" 788 362 1 443 (.ref 445) (.ref 446) 447 793),
  (449, fu (atp 46) "_law_told" .none (sv "law_nz0366_01" 690) 448),
  (450, tp []),
  (453, co "law" "law" 796 370 1 450 .none .none 452 799),
  (454, fu (atp 47) "law" .none (sv "law_nz0366_01" 690) 453)]
noncomputable def hd.heap_39 (P : Params) : Frag := kch0 P ++ (kch1 P ++ (kch2 P ++ (kch3 P ++ (kch4 P ++ (kch5 P ++ (kch6 P ++ (kch7 P)))))))
noncomputable def kAs : List Addr := [2, 3, 15, 17, 18, 20, 21, 22, 29, 30, 31, 32, 35, 42, 43, 44, 47, 54, 55, 56, 59, 66, 67, 68, 71, 78, 79, 80, 83, 85, 86, 88, 89, 90, 92, 93, 95, 96, 97, 99, 100, 102, 103, 104, 106, 107, 109, 110, 111, 113, 114, 116, 117, 118, 120, 121, 123, 124, 125, 127, 128, 130, 131, 139, 140, 142, 143, 145, 146, 147, 149, 150, 152, 153, 154, 156, 157, 159, 160, 161, 163, 164, 166, 167, 168, 170, 171, 173, 174, 175, 177, 178, 180, 181, 182, 184, 185, 187, 188, 189, 191, 192, 194, 195, 196, 198, 199, 201, 202, 203, 205, 206, 208, 209, 210, 211, 212, 213, 214, 224, 226, 227, 229, 230, 231, 233, 234, 236, 237, 238, 240, 241, 243, 244, 245, 247, 248, 250, 251, 252, 254, 255, 257, 258, 259, 261, 262, 264, 265, 266, 268, 269, 271, 272, 273, 275, 276, 278, 279, 280, 282, 283, 285, 286, 287, 288, 289, 290, 291, 301, 303, 304, 306, 307, 308, 310, 311, 313, 314, 315, 316, 317, 318, 319, 329, 331, 332, 334, 335, 336, 338, 339, 341, 342, 343, 345, 346, 348, 349, 350, 351, 352, 353, 354, 357, 359, 360, 362, 363, 364, 366, 367, 369, 370, 371, 373, 374, 376, 377, 378, 379, 381, 382, 384, 385, 386, 388, 389, 391, 392, 393, 395, 396, 398, 399, 400, 402, 403, 405, 406, 407, 409, 410, 412, 413, 414, 417, 418, 419, 421, 422, 424, 425, 426, 429, 430, 431, 434, 435, 436, 438, 439, 441, 442, 443, 445, 446, 448, 449, 450, 453, 454]
noncomputable def qv (p : Program) : Program := { p with main := { p.main with body := (((p.main.body.eraseIdx 34).eraseIdx 20).eraseIdx 7).eraseIdx 1 } }
noncomputable def looseN : List Str := [Str.ofString "_law_tags"]
noncomputable def fs (s : Stmt) (q : String) : Obj := match s with
  | .FunctionDef name args body _ _ _ own _ _ _ => { cls := .none, data := .func { name := name, qualname := Str.ofString q, params := args, body := .stmts body, scope := own, globals := 0, closure := [], defaults := .none, kwdefaults := .none } }
  | _ => tp []
noncomputable def rch0 (P : Params) : Frag := [(0, boot_o_0 P),
  (1, boot_o_1 P),
  (4, boot_o_4 P),
  (5, boot_o_5 P),
  (6, boot_o_6 P),
  (7, boot_o_7 P),
  (8, boot_o_8 P),
  (9, boot_o_9 P),
  (10, boot_o_10 P),
  (11, tp []),
  (12, { cls := .none, data := .fields #[.int 1 0, .int 0 0, .ref 20, .int 5 0, .int 0 0, .ref 27, .int 7 0, .int 0 0, .ref 40, .int 9 0, .int 0 0, .ref 52, .int 11 0, .int 0 0, .ref 64, .int 13 0, .int 0 0, .ref 76, .int 18 0, .int 0 0, .ref 88, .int 27 0, .int 0 0, .ref 95, .int 44 0, .int 0 0, .ref 102, .int 48 0, .int 0 0, .ref 109, .int 52 0, .int 0 0, .ref 116, .int 56 0, .int 0 0, .ref 123, .int 60 0, .int 0 0, .ref 130, .int 65 0, .int 0 0, .ref 137, .int 112 0, .int 0 0, .ref 222, .int 156 0, .int 0 0, .ref 299, .int 166 0, .int 0 0, .ref 327, .int 216 0, .int 0 0, .ref 362, .int 221 0, .int 0 0, .ref 369, .int 226 0, .int 0 0, .ref 376, .int 259 0, .int 0 0, .ref 384, .int 261 0, .int 0 0, .ref 391, .int 263 0, .int 0 0, .ref 398, .int 269 0, .int 0 0, .ref 405, .int 271 0, .int 0 0, .ref 412, .int 295 0, .int 0 0, .ref 417, .int 304 0, .int 0 0, .ref 424, .int 332 0, .int 0 0, .ref 429, .int 342 0, .int 0 0, .ref 434, .int 345 0, .int 0 0, .ref 441, .int 362 0, .int 0 0, .ref 448, .int 370 0, .int 0 0, .ref 453] }),
  (13, fl "code" [sv "<module>" 182, sv "<module>" 183, sv "/claim/cut.py" 184, .int 1 0, .int 0 0, .int 0 0, .int 0 0, .int 0 0, .ref 11, .bool false, .int 181 0, .ref 12, .none, .none, .none, .none, .int 185 0, .int 1 0, sv "/claim/cut.py" 186]),
  (14, { cls := .type "frame", slots := #[some (.ref 13), some (.ref 3), some (.ref 3), none, some (sv "__main__" 164), none, some (.ref 0)] }),
  (16, { cls := .none, data := .fields #[] }),
  (19, fs (atp 0) "_wall"),
  (23, fl "builtin_function_or_method" [.builtin "type.__prepare__", .type "type"]),
  (24, di (.type "dict") [kv P "__module__" 203 (sv "raftkeep.errors" 194), kv P "__qualname__" 205 (sv "KeepError" 204), kv P "__firstlineno__" 207 (.int 5 206), kv P "__static_attributes__" 208 (.ref 29)] 4),
  (25, tp []),
  (26, { cls := .none, data := .fields #[] }),
  (27, fl "code" [sv "KeepError" 198, sv "KeepError" 199, sv "/claim/cut.py" 200, .int 5 0, .int 0 0, .int 0 0, .int 0 0, .int 0 0, .ref 25, .bool false, .int 181 0, .ref 26, .none, .none, .none, .none, .int 201 0, .int 5 0, sv "/claim/cut.py" 202]),
  (28, { cls := .type "frame", slots := #[some (.ref 27), some (.ref 3), some (.ref 24), none, some (sv "raftkeep.errors" 194), none, some (.ref 0)] }),
  (33, fl "super" [.ref 31, .ref 31, .ref 31]),
  (34, fl "builtin_function_or_method" [.builtin "object.__init_subclass__", .ref 31]),
  (36, fl "builtin_function_or_method" [.builtin "type.__prepare__", .type "type"]),
  (37, di (.type "dict") [kv P "__module__" 223 (sv "raftkeep.errors" 194), kv P "__qualname__" 225 (sv "StoreError" 224), kv P "__firstlineno__" 227 (.int 7 226), kv P "__static_attributes__" 228 (.ref 42)] 4),
  (38, tp []),
  (39, { cls := .none, data := .fields #[] }),
  (40, fl "code" [sv "StoreError" 218, sv "StoreError" 219, sv "/claim/cut.py" 220, .int 7 0, .int 0 0, .int 0 0, .int 0 0, .int 0 0, .ref 38, .bool false, .int 181 0, .ref 39, .none, .none, .none, .none, .int 221 0, .int 7 0, sv "/claim/cut.py" 222]),
  (41, { cls := .type "frame", slots := #[some (.ref 40), some (.ref 3), some (.ref 37), none, some (sv "raftkeep.errors" 194), none, some (.ref 0)] }),
  (45, fl "super" [.ref 44, .ref 44, .ref 44]),
  (46, fl "builtin_function_or_method" [.builtin "object.__init_subclass__", .ref 44]),
  (48, fl "builtin_function_or_method" [.builtin "type.__prepare__", .type "type"]),
  (49, di (.type "dict") [kv P "__module__" 239 (sv "raftkeep.errors" 194), kv P "__qualname__" 241 (sv "Corrupt" 240), kv P "__firstlineno__" 243 (.int 9 242), kv P "__static_attributes__" 244 (.ref 54)] 4),
  (50, tp [])]
noncomputable def rch1 (P : Params) : Frag := [(51, { cls := .none, data := .fields #[] }),
  (52, fl "code" [sv "Corrupt" 234, sv "Corrupt" 235, sv "/claim/cut.py" 236, .int 9 0, .int 0 0, .int 0 0, .int 0 0, .int 0 0, .ref 50, .bool false, .int 181 0, .ref 51, .none, .none, .none, .none, .int 237 0, .int 9 0, sv "/claim/cut.py" 238]),
  (53, { cls := .type "frame", slots := #[some (.ref 52), some (.ref 3), some (.ref 49), none, some (sv "raftkeep.errors" 194), none, some (.ref 0)] }),
  (57, fl "super" [.ref 56, .ref 56, .ref 56]),
  (58, fl "builtin_function_or_method" [.builtin "object.__init_subclass__", .ref 56]),
  (60, fl "builtin_function_or_method" [.builtin "type.__prepare__", .type "type"]),
  (61, di (.type "dict") [kv P "__module__" 255 (sv "raftkeep.errors" 194), kv P "__qualname__" 257 (sv "ShortOctets" 256), kv P "__firstlineno__" 259 (.int 11 258), kv P "__static_attributes__" 260 (.ref 66)] 4),
  (62, tp []),
  (63, { cls := .none, data := .fields #[] }),
  (64, fl "code" [sv "ShortOctets" 250, sv "ShortOctets" 251, sv "/claim/cut.py" 252, .int 11 0, .int 0 0, .int 0 0, .int 0 0, .int 0 0, .ref 62, .bool false, .int 181 0, .ref 63, .none, .none, .none, .none, .int 253 0, .int 11 0, sv "/claim/cut.py" 254]),
  (65, { cls := .type "frame", slots := #[some (.ref 64), some (.ref 3), some (.ref 61), none, some (sv "raftkeep.errors" 194), none, some (.ref 0)] }),
  (69, fl "super" [.ref 68, .ref 68, .ref 68]),
  (70, fl "builtin_function_or_method" [.builtin "object.__init_subclass__", .ref 68]),
  (72, fl "builtin_function_or_method" [.builtin "type.__prepare__", .type "type"]),
  (73, di (.type "dict") [kv P "__module__" 271 (sv "raftkeep.errors" 194), kv P "__qualname__" 273 (sv "BadOption" 272), kv P "__firstlineno__" 275 (.int 13 274), kv P "__static_attributes__" 276 (.ref 78)] 4),
  (74, tp []),
  (75, { cls := .none, data := .fields #[] }),
  (76, fl "code" [sv "BadOption" 266, sv "BadOption" 267, sv "/claim/cut.py" 268, .int 13 0, .int 0 0, .int 0 0, .int 0 0, .int 0 0, .ref 74, .bool false, .int 181 0, .ref 75, .none, .none, .none, .none, .int 269 0, .int 13 0, sv "/claim/cut.py" 270]),
  (77, { cls := .type "frame", slots := #[some (.ref 76), some (.ref 3), some (.ref 73), none, some (sv "raftkeep.errors" 194), none, some (.ref 0)] }),
  (81, fl "super" [.ref 80, .ref 80, .ref 80]),
  (82, fl "builtin_function_or_method" [.builtin "object.__init_subclass__", .ref 80]),
  (84, { cls := .none, data := .fields #[] }),
  (87, fs (atp 10) "write_groups"),
  (91, { cls := .none, data := .fields #[] }),
  (94, fs (atp 11) "read_groups"),
  (98, { cls := .none, data := .fields #[] }),
  (101, fs (atp 12) "put_varint"),
  (105, { cls := .none, data := .fields #[] }),
  (108, fs (atp 13) "read_varint"),
  (112, { cls := .none, data := .fields #[] }),
  (115, fs (atp 14) "put_varint32"),
  (119, { cls := .none, data := .fields #[] }),
  (122, fs (atp 15) "read_varint32"),
  (126, { cls := .none, data := .fields #[] })]
noncomputable def rch2 (P : Params) : Frag := [(129, fs (atp 16) "read_lengthed"),
  (132, tp []),
  (133, fl "builtin_function_or_method" [.builtin "type.__prepare__", .type "type"]),
  (134, di (.type "dict") [kv P "__module__" 355 (sv "raftkeep.octets" 280), kv P "__qualname__" 357 (sv "Cursor" 356), kv P "__firstlineno__" 359 (.int 65 358), kv P "__init__" 369 (.ref 146), kv P "left" 376 (.ref 153), kv P "varint" 385 (.ref 160), kv P "fixed32" 392 (.ref 167), kv P "fixed64" 399 (.ref 174), kv P "lengthed" 408 (.ref 181), kv P "octet" 416 (.ref 188), kv P "flag" 423 (.ref 195), kv P "take" 431 (.ref 202), kv P "done" 438 (.ref 209), kv P "__static_attributes__" 441 (.ref 210)] 14),
  (135, tp []),
  (136, { cls := .none, data := .fields #[.int 67 0, .int 4 0, .ref 145, .int 73 0, .int 4 0, .ref 152, .int 76 0, .int 4 0, .ref 159, .int 85 0, .int 4 0, .ref 166, .int 88 0, .int 4 0, .ref 173, .int 91 0, .int 4 0, .ref 180, .int 96 0, .int 4 0, .ref 187, .int 103 0, .int 4 0, .ref 194, .int 106 0, .int 4 0, .ref 201, .int 109 0, .int 4 0, .ref 208] }),
  (137, fl "code" [sv "Cursor" 350, sv "Cursor" 351, sv "/claim/cut.py" 352, .int 65 0, .int 0 0, .int 0 0, .int 0 0, .int 0 0, .ref 135, .bool false, .int 181 0, .ref 136, .none, .none, .none, .none, .int 353 0, .int 65 0, sv "/claim/cut.py" 354]),
  (138, { cls := .type "frame", slots := #[some (.ref 137), some (.ref 3), some (.ref 134), none, some (sv "raftkeep.octets" 280), none, some (.ref 0)] }),
  (141, { cls := .none, data := .fields #[] }),
  (144, fs (atm 17 0) "Cursor.__init__"),
  (148, { cls := .none, data := .fields #[] }),
  (151, fs (atm 17 1) "Cursor.left"),
  (155, { cls := .none, data := .fields #[] }),
  (158, fs (atm 17 2) "Cursor.varint"),
  (162, { cls := .none, data := .fields #[] }),
  (165, fs (atm 17 3) "Cursor.fixed32"),
  (169, { cls := .none, data := .fields #[] }),
  (172, fs (atm 17 4) "Cursor.fixed64"),
  (176, { cls := .none, data := .fields #[] }),
  (179, fs (atm 17 5) "Cursor.lengthed"),
  (183, { cls := .none, data := .fields #[] }),
  (186, fs (atm 17 6) "Cursor.octet"),
  (190, { cls := .none, data := .fields #[] }),
  (193, fs (atm 17 7) "Cursor.flag"),
  (197, { cls := .none, data := .fields #[] }),
  (200, fs (atm 17 8) "Cursor.take"),
  (204, { cls := .none, data := .fields #[] }),
  (207, fs (atm 17 9) "Cursor.done"),
  (215, fl "super" [.ref 212, .ref 212, .ref 212]),
  (216, fl "builtin_function_or_method" [.builtin "object.__init_subclass__", .ref 212]),
  (217, tp []),
  (218, fl "builtin_function_or_method" [.builtin "type.__prepare__", .type "type"]),
  (219, di (.type "dict") [kv P "__module__" 456 (sv "raftkeep.octets" 280), kv P "__qualname__" 458 (sv "Sink" 457), kv P "__firstlineno__" 460 (.int 112 459), kv P "__init__" 467 (.ref 230), kv P "varint" 475 (.ref 237), kv P "fixed32" 483 (.ref 244), kv P "fixed64" 491 (.ref 251), kv P "lengthed" 499 (.ref 258), kv P "octet" 507 (.ref 265), kv P "flag" 515 (.ref 272), kv P "raw" 523 (.ref 279), kv P "done" 530 (.ref 286), kv P "__static_attributes__" 532 (.ref 287)] 13),
  (220, tp [])]
noncomputable def rch3 (P : Params) : Frag := [(221, { cls := .none, data := .fields #[.int 114 0, .int 4 0, .ref 229, .int 117 0, .int 4 0, .ref 236, .int 123 0, .int 4 0, .ref 243, .int 126 0, .int 4 0, .ref 250, .int 129 0, .int 4 0, .ref 257, .int 133 0, .int 4 0, .ref 264, .int 138 0, .int 4 0, .ref 271, .int 141 0, .int 4 0, .ref 278, .int 144 0, .int 4 0, .ref 285] }),
  (222, fl "code" [sv "Sink" 451, sv "Sink" 452, sv "/claim/cut.py" 453, .int 112 0, .int 0 0, .int 0 0, .int 0 0, .int 0 0, .ref 220, .bool false, .int 181 0, .ref 221, .none, .none, .none, .none, .int 454 0, .int 112 0, sv "/claim/cut.py" 455]),
  (223, { cls := .type "frame", slots := #[some (.ref 222), some (.ref 3), some (.ref 219), none, some (sv "raftkeep.octets" 280), none, some (.ref 0)] }),
  (225, { cls := .none, data := .fields #[] }),
  (228, fs (atm 18 0) "Sink.__init__"),
  (232, { cls := .none, data := .fields #[] }),
  (235, fs (atm 18 1) "Sink.varint"),
  (239, { cls := .none, data := .fields #[] }),
  (242, fs (atm 18 2) "Sink.fixed32"),
  (246, { cls := .none, data := .fields #[] }),
  (249, fs (atm 18 3) "Sink.fixed64"),
  (253, { cls := .none, data := .fields #[] }),
  (256, fs (atm 18 4) "Sink.lengthed"),
  (260, { cls := .none, data := .fields #[] }),
  (263, fs (atm 18 5) "Sink.octet"),
  (267, { cls := .none, data := .fields #[] }),
  (270, fs (atm 18 6) "Sink.flag"),
  (274, { cls := .none, data := .fields #[] }),
  (277, fs (atm 18 7) "Sink.raw"),
  (281, { cls := .none, data := .fields #[] }),
  (284, fs (atm 18 8) "Sink.done"),
  (292, fl "super" [.ref 289, .ref 289, .ref 289]),
  (293, fl "builtin_function_or_method" [.builtin "object.__init_subclass__", .ref 289]),
  (294, tp []),
  (295, fl "builtin_function_or_method" [.builtin "type.__prepare__", .type "type"]),
  (296, di (.type "dict") [kv P "__module__" 567 (sv "raftkeep.versions" 542), kv P "__qualname__" 569 (sv "FileMeta" 568), kv P "__firstlineno__" 571 (.int 156 570), kv P "__init__" 582 (.ref 307), kv P "row" 589 (.ref 314), kv P "__static_attributes__" 594 (.ref 315)] 6),
  (297, tp []),
  (298, { cls := .none, data := .fields #[.int 158 0, .int 4 0, .ref 306, .int 164 0, .int 4 0, .ref 313] }),
  (299, fl "code" [sv "FileMeta" 562, sv "FileMeta" 563, sv "/claim/cut.py" 564, .int 156 0, .int 0 0, .int 0 0, .int 0 0, .int 0 0, .ref 297, .bool false, .int 181 0, .ref 298, .none, .none, .none, .none, .int 565 0, .int 156 0, sv "/claim/cut.py" 566]),
  (300, { cls := .type "frame", slots := #[some (.ref 299), some (.ref 3), some (.ref 296), none, some (sv "raftkeep.versions" 542), none, some (.ref 0)] }),
  (302, { cls := .none, data := .fields #[] }),
  (305, fs (atm 29 0) "FileMeta.__init__"),
  (309, { cls := .none, data := .fields #[] }),
  (312, fs (atm 29 1) "FileMeta.row")]
noncomputable def rch4 (P : Params) : Frag := [(320, fl "super" [.ref 317, .ref 317, .ref 317]),
  (321, fl "builtin_function_or_method" [.builtin "object.__init_subclass__", .ref 317]),
  (322, tp []),
  (323, fl "builtin_function_or_method" [.builtin "type.__prepare__", .type "type"]),
  (324, di (.type "dict") [kv P "__module__" 609 (sv "raftkeep.versions" 542), kv P "__qualname__" 611 (sv "VersionEdit" 610), kv P "__firstlineno__" 613 (.int 166 612), kv P "__init__" 620 (.ref 335), kv P "row" 630 (.ref 342), kv P "encode" 642 (.ref 349), kv P "__static_attributes__" 651 (.ref 350)] 7),
  (325, tp []),
  (326, { cls := .none, data := .fields #[.int 168 0, .int 4 0, .ref 334, .int 178 0, .int 4 0, .ref 341, .int 184 0, .int 4 0, .ref 348] }),
  (327, fl "code" [sv "VersionEdit" 604, sv "VersionEdit" 605, sv "/claim/cut.py" 606, .int 166 0, .int 0 0, .int 0 0, .int 0 0, .int 0 0, .ref 325, .bool false, .int 181 0, .ref 326, .none, .none, .none, .none, .int 607 0, .int 166 0, sv "/claim/cut.py" 608]),
  (328, { cls := .type "frame", slots := #[some (.ref 327), some (.ref 3), some (.ref 324), none, some (sv "raftkeep.versions" 542), none, some (.ref 0)] }),
  (330, { cls := .none, data := .fields #[] }),
  (333, fs (atm 30 0) "VersionEdit.__init__"),
  (337, { cls := .none, data := .fields #[] }),
  (340, fs (atm 30 1) "VersionEdit.row"),
  (344, { cls := .none, data := .fields #[] }),
  (347, fs (atm 30 2) "VersionEdit.encode"),
  (355, fl "super" [.ref 352, .ref 352, .ref 352]),
  (356, fl "builtin_function_or_method" [.builtin "object.__init_subclass__", .ref 352]),
  (358, { cls := .none, data := .fields #[] }),
  (361, fs (atp 31) "read_level"),
  (365, { cls := .none, data := .fields #[] }),
  (368, fs (atp 32) "read_ikey"),
  (372, { cls := .none, data := .fields #[] }),
  (375, fs (atp 33) "decode_edit"),
  (380, { cls := .none, data := .fields #[] }),
  (383, fs (atp 36) "_law_form"),
  (387, { cls := .none, data := .fields #[] }),
  (390, fs (atp 37) "_law_draw"),
  (394, { cls := .none, data := .fields #[] }),
  (397, fs (atp 38) "_law_varint"),
  (401, { cls := .none, data := .fields #[] }),
  (404, fs (atp 39) "_law_lengthed"),
  (408, { cls := .none, data := .fields #[] }),
  (411, fs (atp 40) "_law_token"),
  (415, { cls := .none, data := .fields #[] })]
noncomputable def rch5 (P : Params) : Frag := [(416, fs (atp 41) "_law_number"),
  (420, { cls := .none, data := .fields #[] }),
  (423, fs (atp 42) "_law_parts"),
  (427, { cls := .none, data := .fields #[] }),
  (428, fs (atp 43) "_law_row"),
  (432, { cls := .none, data := .fields #[] }),
  (433, fs (atp 44) "_law_both"),
  (437, { cls := .none, data := .fields #[] }),
  (440, fs (atp 45) "_law_write"),
  (444, { cls := .none, data := .fields #[] }),
  (447, fs (atp 46) "_law_told"),
  (451, { cls := .none, data := .fields #[] }),
  (452, fs (atp 47) "law")]
noncomputable def restF (P : Params) : Frag := rch0 P ++ (rch1 P ++ (rch2 P ++ (rch3 P ++ (rch4 P ++ (rch5 P)))))
/-- two parts of a heap, by their addresses -/
noncomputable def mergeF : Nat → Frag → Frag → List Obj
  | 0, _, _ => []
  | n + 1, x :: r, y :: t => match Nat.blt x.1 y.1 with
    | true => x.2 :: mergeF n r (y :: t)
    | false => y.2 :: mergeF n (x :: r) t
  | n + 1, x :: r, [] => x.2 :: mergeF n r []
  | n + 1, [], y :: t => y.2 :: mergeF n [] t
  | _, [], [] => []
/-- the program, opened: the whole state written out -/
noncomputable def finS (P : Params) (os : OsState) : Shared := ⟨⟨(mergeF 460 (hd.heap_39 P) (restF P)).toArray, {}⟩, Array.mk [], {}, 802, os⟩
noncomputable def runB (p : Program) (w : World) (os : OsState) : Option Shared := (topRunT treeTable p w 11 (some (.ref 6)) 8000 (bootS w.params os) (topStub p)).map SharedT.abs
noncomputable def okB (p : Program) (P : Params) (s : Shared) : Bool := staticsOk (importedModules p.main.body) (boot_heap P) s.heap && namesBound p s.heap && gensDone s && laidKept (boot_heap P) s.heap
noncomputable def seenB (p q : Program) (s : Shared) := openSeen q looseN (importedModules p.main.body) (fun s => xlAt q [] s && recOk [] s) true s
noncomputable def goodB (q : Program) := openGood q looseN
theorem lay_run : ((fun (_ : Program → World → OsState → _) => true) runB) = true := by k_qdec
theorem lay_ok : ((fun (_ : Program → Params → Shared → _) => true) okB) = true := by k_qdec
theorem lay_seen : ((fun (_ : Program → Program → Shared → _) => true) seenB) = true := by k_qdec
theorem lay_good : ((fun (_ : Program → _) => true) goodB) = true := by k_qdec
theorem run_q (w : World) (os : OsState) : _root_.PySem.W.Fast.tw1120170849479253235 pw w os = some (finS w.params os) := by kernel_rfl
theorem ok_q (P : Params) (os : OsState) : _root_.PySem.W.Fast.tw16405052045728818611 pw P (finS P os) = true := by kernel_rfl
theorem seen_q (P : Params) (os : OsState) : _root_.PySem.W.Fast.tw12155448617573518670 pw (qv pw) (finS P os) = _root_.PySem.W.Fast.tw16236303852467554327 (qv pw) := by kernel_rfl
theorem k_q (P : Params) (os : OsState) : kAs.map (finS P os).heap.get? = (hd.heap_39 P).map fun p => some p.2 := by kernel_rfl
noncomputable def lhsB (p q : Program) (as : List Addr) (w : World) (os : OsState) := (topRunT treeTable p w 11 (some (.ref 6)) 8000 (bootS w.params os) (topStub p)).map (fun st => ((staticsOk (importedModules p.main.body) (boot_heap w.params) st.abs.heap && namesBound p st.abs.heap && gensDone st.abs && laidKept (boot_heap w.params) st.abs.heap), openSeen q looseN (importedModules p.main.body) (fun s => xlAt q [] s && recOk [] s) true st.abs, as.map st.abs.heap.get?))
noncomputable def rhsB (q : Program) (vs : List (Option Obj)) := some (true, openGood q looseN, vs)
theorem kAs_ok (P : Params) : kAs = (hd.heap_39 P).map (·.1) := by kernel_rfl
noncomputable abbrev hookB : Hook := kHook hd.heap_39 kAs kAs_ok
theorem left_eq (w : World) (os : OsState) : lhsB pw (qv pw) kAs w os = rhsB (qv pw) ((hd.heap_39 w.params).map fun p => some p.2) := by
  have r : runB pw w os = some (finS w.params os) := by rw [_root_.PySem.W.Fast.te1120170849479253235]; exact run_q w os
  have o : okB pw w.params (finS w.params os) = true := by rw [_root_.PySem.W.Fast.te16405052045728818611]; exact ok_q _ _
  have z : seenB pw (qv pw) (finS w.params os) = goodB (qv pw) := by rw [_root_.PySem.W.Fast.te12155448617573518670, _root_.PySem.W.Fast.te16236303852467554327]; exact seen_q _ _
  unfold runB at r
  obtain ⟨st, e1, e2⟩ := Option.map_eq_some_iff.mp r
  unfold lhsB
  rw [e1]
  show some (okB pw w.params st.abs, seenB pw (qv pw) st.abs, kAs.map st.abs.heap.get?) = some (true, goodB (qv pw), _)
  rw [e2, o, z, k_q]
theorem left : LeftO pw (qv pw) looseN (fun s => xlAt (qv pw) [] s && recOk [] s) (Hook.obs hookB) (Hook.val hookB) 8000 :=
  left_of (by kernel_rfl) (by decide) (fun s => by kernel_rfl) fun w os => left_eq w os
/-! the head, for this one row -/
noncomputable abbrev Rw : OpenRow := _root_.PySem.Challenge.rw_nz0366_01.row
noncomputable abbrev Cw : ClaimW := Rw.toRowW.claim
noncomputable abbrev caller (t : Sem Fin) : Thread := ⟨t, .builtin "claim.caller" {}, default, []⟩
/-- a bare caller's thread ends as its `wpX` tells -/
theorem caller_ends {w : World} {t : Sem Fin} {s : Shared} {R : Result → Shared → Prop} (hz : s.asleep) (hb : ∀ r s', R r s' → AllBare s'.gens)
    (h : wpX true (model pw w) callerA t (fun f s' => ∃ x, f = .done x ∧ R (.ok x) s') (fun e s' => R (.error e) s') s) :
    ∃ n r sa sb, schedN (denote table) pw w n (.single s (caller t)) = .halted (outcomeOf r) sa ∧ sa.heap = sb.heap ∧ sa.os = sb.os ∧ sa.heap.life = s.heap.life ∧ R r sb := by
  have still : ∀ {r s'}, R r s' → R r s' ∧ leftWithCleanup s'.gens = false := fun z => ⟨z, leftWithCleanup_false_of_bare (hb _ _ z)⟩
  obtain ⟨n, r, sb, sa, h1, h2, fo, hR⟩ := wp_halts_full (M := model pw w) (R := R) hz (Sem.wp_mono (model pw w) _ t
    (fun fin p s' z => by obtain ⟨x, rfl, z⟩ := z; exact still z) (fun _ _ _ z => still z) default s (h _ default caller_in caller_clean))
  have fo := Shared.forget_eq fo
  exact ⟨n, r, sa, sb, h1, fo.1, fo.2.2.2.1, runN_life _ _ _ h2, hR⟩
/-- what the law's own call must do, at the state that the top leaves (`s`) and the caller's list laid (`z`) -/
noncomputable def LawRuns : Prop := ∀ (w : World) (s z : Shared) (mg mb : Str → Option Value), Ground (qv pw) looseN [] (XL (qv pw) []) w s mg mb z.heap → Hook.says hookB w z.heap → z.gens = #[] →
  ∀ (a : Addr), mg (Str.ofString "law") = some (.ref a) → ∀ (args : List WData) (vals : List Value) (as : List Addr), Cw.pre args = true → WData.layableAll args = true →
    ReadsAllW Rw.records (classAt s.heap) z.heap vals args as → WellAll w.params z.heap vals args → (∀ a ∈ as, (a == sysModules) = false) →
    wpX true (model pw w) callerA (PySem.call (.ref a) vals) (fun v s' => GoodWG Cw (classAt s.heap) (ExcName.means s.heap) args z (.ok (.ret v)) s') (fun e s' => GoodWG Cw (classAt s.heap) (ExcName.means s.heap) args z (.error e) s') z
theorem law_holds (said : Rw.wellSaid = true) (hw : _root_.PySem.Challenge.rw_nz0366_01.row.toRowW.promised) (runs : LawRuns) : Rw.Holds := by
  have top := left.behind (XP := XL (qv pw) []) (fun s e => xl_of s (Bool.and_eq_true_iff.mp e).1) (by decide +kernel)
  refine ⟨said, hw, ⟨⟨rfl, rfl, rfl, rfl, rfl, by decide +kernel⟩, by decide +kernel, rfl⟩, hw.witness, fun w => ⟨(top w).1, fun s0 ran => ?_⟩⟩
  obtain ⟨s1, fenced, none1, s, topped, asleep, quiet, names, ground, seen⟩ := (top w).2 s0 ran
  have empty : s.gens = #[] := Array.eq_empty_of_size_eq_zero (beq_iff_eq.mp quiet)
  have says : Hook.says hookB w s.heap := Hook.of hookB w s seen
  refine ⟨s1, fenced, none1, s, topped, ?_, (fun x hx => by cases hx), (fun x hx => by cases hx), ?_⟩
  · intro n hn
    have hn : Rw.pinned = true ∧ n = Rw.name := by simpa using hn
    rw [hn.2]
    exact pinned_of_view names ground (by rfl) (by rfl) (by rfl)
  intro args pre lay ord perm
  refine Classical.byContradiction fun no => ?_
  -- the arguments, laid
  cases hl : layAllW Cw.records (classAt s.heap) w.params ord args s with
  | none =>
    have q := layAllW_isSome (P := w.params) (ord := ord) ground.has args Rw.args s (pre_splitW pre).1
    have hl : layAllW [] (classAt s.heap) w.params ord args s = none := hl
    rw [hl] at q; cases q
  | some laid =>
  obtain ⟨vals, z⟩ := laid
  have grown := layAllW_keeps _ _ _ hl
  have alike := layAllW_rest _ _ _ hl
  obtain ⟨as, reads, within, there⟩ := reads_layAllW perm _ _ _ hl lay z.heap (fun _ _ e => e)
  have L : Laid Cw.records w s z args vals as := ⟨⟨ord, perm, hl⟩, reads, within, there, grown, alike.1.trans empty, alike.2.2.1⟩
  have groundZ := ground.keeps XL.keeps grown
  obtain ⟨a, _, _, _, _, _, _, atLaw, _⟩ := groundZ.fn (name := Rw.name) (d := _) (kw := _) (by rfl)
  have called := runs w s z _ _ groundZ (Hook.keeps hookB _ _ _ says grown) L.gens a atLaw args vals as pre lay L.reads L.well (L.low ground.low)
  have ends := caller_ends (w := w) (s := z) (t := do match ← nsGet mainNs Rw.name with
      | some f => do ret (← PySem.call f vals)
      | none => unsupported "claim.caller:no-such-global") (R := fun r s' => Cw.Ends s args vals z r s' ∧ s'.os = s.os ∧ AllBare s'.gens)
    (Shared.asleep_of_life alike.2.2.2 asleep) (fun _ _ x => x.2.2)
    (X.bind (ax (wpAny_nsGet groundZ.T.g (by rw [atLaw]; exact X.bind (called.mono (fun v s' g => X.pure ⟨_, rfl, g.laid (c := Cw) rfl rfl (ident_freeW rfl rfl rfl) L⟩) fun e s' g => g.laid (c := Cw) rfl rfl (ident_freeW rfl rfl rfl) L)))))
  obtain ⟨n, r, sa, sb, halts, same, os, life, good, os', _⟩ := ends
  have good := good.congr same
  have never : ¬ Rw.writes = true := by decide +kernel
  refine no ⟨vals, z, hl, n, _, sa, halts, ?_, (fun _ i x hx => by rw [empty] at hx; simp at hx), (fun q => absurd q never), by rw [life, alike.2.2.2], Shared.rest_eq (os.trans os')⟩
  rcases good with ⟨v, rfl, g1, g2, g3, g4, g5⟩ | ⟨e, ob, cls, rfl, g1, g2, g3, g4, g5⟩
  · exact .inl ⟨v, rfl, g1, g2, g3, fun b o y _ => g4 b o y, g5⟩
  · exact .inr ⟨e, ob, cls, rfl, g1, g2, g3, g4, fun b o y _ => g5 b o y⟩
end NZ
namespace NZ
open _root_.PySem _root_.PySem.W _root_.PySem.Calls PyProof.Rows
/-- abstract values -/
inductive V where
  | none
  | bool (b : Bool)
  | int (i : Int)
  | str (s : Str)
  | bytes (b : List UInt8)
  | tup (vs : List V)
  | cell (k : Nat)
  | obj (C : Addr) (k : Nat)
  | clist (vs : List V)
/-- what a mutable cell holds -/
inductive Cell where
  | list (vs : List V)
  | barr (b : List UInt8)
  | flds (fs : List (Str × V))
/-- the end of an expression -/
inductive Res (α : Type) where
  | ok (a : α) (σ : List Cell)
  | exc (c : Addr)
  | bad
noncomputable abbrev Loc := Nat → Option V
/-- the end of statements -/
inductive RS where
  | next (m : Loc) (σ : List Cell)
  | ret (v : V) (σ : List Cell)
  | exc (c : Addr)
  | bad
noncomputable def immut (o : Obj) : Prop := match o.data with
  | .seq .. => o.cls = .type "tuple"
  | .plain => True
  | _ => False
noncomputable def Imm (h h' : Heap) : Prop := ∀ b o, h.get? b = some o → immut o → h'.get? b = some o
theorem Imm.refl (h : Heap) : Imm h h := fun _ _ e _ => e
theorem Imm.trans {h h' h'' : Heap} (x : Imm h h') (y : Imm h' h'') : Imm h h'' := fun b o e i => y b o (x b o e i) i
theorem Imm.of_keeps {h h' : Heap} (k : ∀ b o, h.get? b = some o → h'.get? b = some o) : Imm h h' := fun b o e _ => k b o e
theorem immut_tuple {o : Obj} {xs : Array Value} {n : Nat} (hc : o.cls = .type "tuple") (hd : o.data = .seq xs n) : immut o := by
  unfold immut; rw [hd]; exact hc
theorem immut_plain {o : Obj} (hd : o.data = .plain) : immut o := by
  unfold immut; rw [hd]; trivial
/-- the cells' addresses, longer -/
noncomputable def Pre (ρ ρ' : List Addr) : Prop := ∃ new, ρ' = ρ ++ new
theorem Pre.refl (ρ : List Addr) : Pre ρ ρ := ⟨[], (List.append_nil ρ).symm⟩
theorem Pre.trans {ρ ρ' ρ'' : List Addr} (x : Pre ρ ρ') (y : Pre ρ' ρ'') : Pre ρ ρ'' := by
  obtain ⟨a, rfl⟩ := x
  obtain ⟨b, rfl⟩ := y
  exact ⟨a ++ b, List.append_assoc ρ a b⟩
theorem Pre.at {ρ ρ' : List Addr} (x : Pre ρ ρ') {k : Nat} {a : Addr} (e : ρ[k]? = some a) : ρ'[k]? = some a := by
  obtain ⟨n, rfl⟩ := x
  rw [List.getElem?_append_left (by
    by_cases hk : k < ρ.length
    · exact hk
    · rw [List.getElem?_eq_none (Nat.le_of_not_lt hk)] at e; cases e)]
  exact e
inductive VR (B0 h : Heap) (ρ : List Addr) : V → Value → Prop
  | none : VR B0 h ρ .none .none
  | bool (b : Bool) : VR B0 h ρ (.bool b) (.bool b)
  | int (i : Int) (t : Tok) : VR B0 h ρ (.int i) (.int i t)
  | str (x : Str) (t : Tok) : VR B0 h ρ (.str x) (.str x t)
  | bytes (b : List UInt8) (t : Tok) : VR B0 h ρ (.bytes b) (.bytes b.toArray t)
  | tup {vs : List V} {a : Addr} {ws : List Value} (ht : h.IsTuple a ws.toArray) (hl : vs.length = ws.length)
      (he : ∀ (i : Nat) (v : V) (w : Value), vs[i]? = some v → ws[i]? = some w → VR B0 h ρ v w) : VR B0 h ρ (.tup vs) (.ref a)
  | cell {k : Nat} {a : Addr} (e : ρ[k]? = some a) : VR B0 h ρ (.cell k) (.ref a)
  | obj {C : Addr} {k : Nat} {x dx : Addr} (e : ρ[k]? = some dx) (hx : h.get? x = some (instObj C dx)) : VR B0 h ρ (.obj C k) (.ref x)
  | clist {vs : List V} {a : Addr} {ws : List Value} (ht : B0.IsList a ws.toArray) (hl : vs.length = ws.length)
      (he : ∀ (i : Nat) (v : V) (w : Value), vs[i]? = some v → ws[i]? = some w → VR B0 h ρ v w) : VR B0 h ρ (.clist vs) (.ref a)
section
variable {B0 h : Heap} {ρ : List Addr} {w : Value}
theorem VR.int_inv {i : Int} (r : VR B0 h ρ (.int i) w) : ∃ t, w = .int i t := by cases r; exact ⟨_, rfl⟩
theorem VR.bool_inv {b : Bool} (r : VR B0 h ρ (.bool b) w) : w = .bool b := by cases r; rfl
theorem VR.none_inv (r : VR B0 h ρ .none w) : w = .none := by cases r; rfl
theorem VR.str_inv {x : Str} (r : VR B0 h ρ (.str x) w) : ∃ t, w = .str x t := by cases r; exact ⟨_, rfl⟩
theorem VR.bytes_inv {b : List UInt8} (r : VR B0 h ρ (.bytes b) w) : ∃ t, w = .bytes b.toArray t := by cases r; exact ⟨_, rfl⟩
theorem VR.tup_inv {vs : List V} (r : VR B0 h ρ (.tup vs) w) : ∃ a ws, w = .ref a ∧ h.IsTuple a (List.toArray ws) ∧ vs.length = ws.length ∧ ∀ (i : Nat) (v : V) (w : Value), vs[i]? = some v → ws[i]? = some w → VR B0 h ρ v w := by
  cases r with | tup ht hl he => exact ⟨_, _, rfl, ht, hl, he⟩
theorem VR.clist_inv {vs : List V} (r : VR B0 h ρ (.clist vs) w) : ∃ a ws, w = .ref a ∧ B0.IsList a (List.toArray ws) ∧ vs.length = ws.length ∧ ∀ (i : Nat) (v : V) (w : Value), vs[i]? = some v → ws[i]? = some w → VR B0 h ρ v w := by
  cases r with | clist ht hl he => exact ⟨_, _, rfl, ht, hl, he⟩
theorem VR.cell_inv {k : Nat} (r : VR B0 h ρ (.cell k) w) : ∃ a, w = .ref a ∧ ρ[k]? = some a := by cases r with | cell e => exact ⟨_, rfl, e⟩
end
theorem pair_inv {α β : Type} {a a' : α} {b b' : β} (e : some (a, b) = some (a', b')) : a = a' ∧ b = b' := by cases e; exact ⟨rfl, rfl⟩
theorem VR.mono {B0 h h' : Heap} {ρ ρ' : List Addr} (hi : Imm h h') (hp : Pre ρ ρ') {v : V} {w : Value} (x : VR B0 h ρ v w) : VR B0 h' ρ' v w := by
  induction x with
  | none => exact .none
  | bool b => exact .bool b
  | int i t => exact .int i t
  | str x t => exact .str x t
  | bytes b t => exact .bytes b t
  | tup ht hl he ih =>
    obtain ⟨o, ho, hc, n, hd⟩ := ht
    exact .tup ⟨o, hi _ _ ho (immut_tuple hc hd), hc, n, hd⟩ hl ih
  | cell e => exact .cell (hp.at e)
  | obj e hx => exact .obj (hp.at e) (hi _ _ hx (immut_plain rfl))
  | clist ht hl he ih => exact .clist ht hl ih
noncomputable def VRs (B0 h : Heap) (ρ : List Addr) (vs : List V) (ws : List Value) : Prop :=
  vs.length = ws.length ∧ ∀ (i : Nat) (v : V) (w : Value), vs[i]? = some v → ws[i]? = some w → VR B0 h ρ v w
theorem VRs.mono {B0 h h' : Heap} {ρ ρ' : List Addr} (hi : Imm h h') (hp : Pre ρ ρ') {vs : List V} {ws : List Value} (x : VRs B0 h ρ vs ws) : VRs B0 h' ρ' vs ws :=
  ⟨x.1, fun i v w a b => (x.2 i v w a b).mono hi hp⟩
theorem VRs.nil {B0 h : Heap} {ρ : List Addr} : VRs B0 h ρ [] [] := ⟨rfl, fun i v w a _ => by simp at a⟩
theorem VRs.cons {B0 h : Heap} {ρ : List Addr} {v : V} {w : Value} {vs : List V} {ws : List Value} (x : VR B0 h ρ v w) (y : VRs B0 h ρ vs ws) : VRs B0 h ρ (v :: vs) (w :: ws) :=
  ⟨congrArg (· + 1) y.1, fun i v' w' a b => by
    cases i with
    | zero => simp at a b; subst a; subst b; exact x
    | succ i => simp at a b; exact y.2 i v' w' a b⟩
theorem VRs.inv_cons {B0 h : Heap} {ρ : List Addr} {v : V} {vs : List V} {ws : List Value} (x : VRs B0 h ρ (v :: vs) ws) : ∃ w ws', ws = w :: ws' ∧ VR B0 h ρ v w ∧ VRs B0 h ρ vs ws' := by
  cases ws with
  | nil => have := x.1; simp at this
  | cons w ws' =>
    refine ⟨w, ws', rfl, x.2 0 v w rfl rfl, ?_, fun i v' w' a b => x.2 (i + 1) v' w' (by simpa using a) (by simpa using b)⟩
    have := x.1; simpa using this
theorem VRs.inv_nil {B0 h : Heap} {ρ : List Addr} {ws : List Value} (x : VRs B0 h ρ [] ws) : ws = [] := by
  cases ws with
  | nil => rfl
  | cons w ws' => have := x.1; simp at this
theorem VRs.at {B0 h : Heap} {ρ : List Addr} {vs : List V} {ws : List Value} (x : VRs B0 h ρ vs ws) {i : Nat} {v : V} (e : vs[i]? = some v) : ∃ w, ws[i]? = some w ∧ VR B0 h ρ v w := by
  have hi : i < vs.length := by
    by_cases hk : i < vs.length
    · exact hk
    · rw [List.getElem?_eq_none (Nat.le_of_not_lt hk)] at e; cases e
  have hw : i < ws.length := x.1 ▸ hi
  exact ⟨ws[i], List.getElem?_eq_getElem hw, x.2 i v _ e (List.getElem?_eq_getElem hw)⟩
theorem VRs.append {B0 h : Heap} {ρ : List Addr} : ∀ {vs us : List V} {ws zs : List Value}, VRs B0 h ρ vs ws → VRs B0 h ρ us zs → VRs B0 h ρ (vs ++ us) (ws ++ zs)
  | [], _, ws, _, x, y => by rw [x.inv_nil]; exact y
  | v :: vs, _, _, _, x, y => by
    obtain ⟨w, ws', rfl, a, b⟩ := x.inv_cons
    exact VRs.cons a (VRs.append b y)
theorem VRs.snoc {B0 h : Heap} {ρ : List Addr} {vs : List V} {ws : List Value} {v : V} {w : Value} (x : VRs B0 h ρ vs ws) (y : VR B0 h ρ v w) : VRs B0 h ρ (vs ++ [v]) (ws ++ [w]) :=
  x.append (VRs.cons y VRs.nil)
/-- fields of one made of a class -/
noncomputable def FR (P : Params) (B0 h : Heap) (ρ : List Addr) (fs : List (Str × V)) (es : List DictEntry) : Prop :=
  fs.length = es.length ∧ ∀ (i : Nat) (x : Str) (v : V) (e : DictEntry), fs[i]? = some (x, v) → es[i]? = some e → (∃ t, e.key = .str x t) ∧ e.hash = PyData.keyHash P x ∧ VR B0 h ρ v e.val
theorem FR.mono {P : Params} {B0 h h' : Heap} {ρ ρ' : List Addr} (hi : Imm h h') (hp : Pre ρ ρ') {fs : List (Str × V)} {es : List DictEntry} (x : FR P B0 h ρ fs es) : FR P B0 h' ρ' fs es :=
  ⟨x.1, fun i n v e a b => let ⟨k, hs, r⟩ := x.2 i n v e a b; ⟨k, hs, r.mono hi hp⟩⟩
noncomputable def CR (P : Params) (B0 h : Heap) (ρ : List Addr) : Cell → Obj → Prop
  | .list vs, o => ∃ ws n, o = listOf (List.toArray ws) n ∧ VRs B0 h ρ vs ws
  | .barr b, o => o = { cls := .type "bytearray", data := .bytearray b.toArray 0 }
  | .flds fs, o => ∃ es n, o = dictOf es n ∧ FR P B0 h ρ fs es
theorem CR.mono {P : Params} {B0 h h' : Heap} {ρ ρ' : List Addr} (hi : Imm h h') (hp : Pre ρ ρ') {c : Cell} {o : Obj} (x : CR P B0 h ρ c o) : CR P B0 h' ρ' c o := by
  cases c with
  | list vs => obtain ⟨ws, n, e, r⟩ := x; exact ⟨ws, n, e, r.mono hi hp⟩
  | barr b => exact x
  | flds fs => obtain ⟨es, n, e, r⟩ := x; exact ⟨es, n, e, r.mono hi hp⟩
theorem CR.not_immut {P : Params} {B0 h : Heap} {ρ : List Addr} {c : Cell} {o : Obj} (x : CR P B0 h ρ c o) : ¬ immut o := by
  cases c with
  | list vs => obtain ⟨ws, n, rfl, r⟩ := x; intro q; have q' : (Value.type "list") = Value.type "tuple" := q; simp at q'
  | barr b => cases x; exact id
  | flds fs => obtain ⟨es, n, rfl, r⟩ := x; exact id
theorem CR.not_freed {P : Params} {B0 h : Heap} {ρ : List Addr} {c : Cell} {o : Obj} (x : CR P B0 h ρ c o) : o.isFreed = false := by
  cases c with
  | list vs => obtain ⟨ws, n, rfl, r⟩ := x; rfl
  | barr b => cases x; rfl
  | flds fs => obtain ⟨es, n, rfl, r⟩ := x; rfl
structure CRel (P : Params) (B0 h : Heap) (ρ : List Addr) (σ : List Cell) : Prop where
  len : ρ.length = σ.length
  nodup : ρ.Nodup
  at_ : ∀ (k : Nat) (c : Cell) (a : Addr), σ[k]? = some c → ρ[k]? = some a → ∃ o, h.get? a = some o ∧ CR P B0 h ρ c o
theorem CRel.cellOf {P : Params} {B0 h : Heap} {ρ : List Addr} {σ : List Cell} (C : CRel P B0 h ρ σ) {a : Addr} (e : a ∈ ρ) : ∃ (k : Nat) (c : Cell) (o : Obj), ρ[k]? = some a ∧ σ[k]? = some c ∧ h.get? a = some o ∧ CR P B0 h ρ c o := by
  obtain ⟨k, hk, rfl⟩ := List.getElem_of_mem e
  have hs : k < σ.length := C.len ▸ hk
  obtain ⟨o, ho, r⟩ := C.at_ k σ[k] ρ[k] (List.getElem?_eq_getElem hs) (List.getElem?_eq_getElem hk)
  exact ⟨k, σ[k], o, List.getElem?_eq_getElem hk, List.getElem?_eq_getElem hs, ho, r⟩
theorem CRel.no_it {P : Params} {B0 h : Heap} {ρ : List Addr} {σ : List Cell} (C : CRel P B0 h ρ σ) {I : Addr} {o : Obj} {v : Array Value} (ho : h.get? I = some o) (hd : o.data = .fields v) : I ∉ ρ := fun hm => by
  obtain ⟨_, c, o', _, _, ho', r⟩ := C.cellOf hm
  rw [ho] at ho'; cases ho'
  cases c with
  | list vs => obtain ⟨ws, n, rfl, _⟩ := r; cases hd
  | barr bb => cases r; cases hd
  | flds fs => obtain ⟨es, n, rfl, _⟩ := r; cases hd
theorem CRel.keeps {P : Params} {B0 h h' : Heap} {ρ : List Addr} {σ : List Cell} (C : CRel P B0 h ρ σ) (hi : Imm h h') (hk : ∀ a ∈ ρ, ∀ o, h.get? a = some o → h'.get? a = some o) : CRel P B0 h' ρ σ :=
  ⟨C.len, C.nodup, fun k c a e1 e2 => by
    obtain ⟨o, ho, r⟩ := C.at_ k c a e1 e2
    exact ⟨o, hk a (List.mem_of_getElem? e2) o ho, r.mono hi (Pre.refl _)⟩⟩
/-- what leaves everything but the cells alone leaves the immutable things alone -/
theorem CRel.imm {P : Params} {B0 h h' : Heap} {ρ : List Addr} {σ : List Cell} (C : CRel P B0 h ρ σ) (hk : ∀ b o, h.get? b = some o → b ∉ ρ → h'.get? b = some o) : Imm h h' := fun b o e i => by
  by_cases hb : b ∈ ρ
  · obtain ⟨k, c, o', _, _, ho, r⟩ := C.cellOf hb
    rw [e] at ho; cases ho
    exact absurd i r.not_immut
  · exact hk b o e hb
end NZ
namespace NZ
open _root_.PySem _root_.PySem.W _root_.PySem.Calls PyProof.Rows
/-- the top's facts -/
structure Gd (w : World) (mg mb : Str → Option Value) (B0 : Heap) : Prop where
  g : B0.Ns mainGlobals mg
  b : B0.Ns builtinsNs mb
  nolimit : B0.NoLimit
  nodigits : ∃ mc, B0.Ns cStatics mc ∧ mc "sys.int_max_str_digits" = none
  builtins : ∀ x : Str, x ≠ "__name__" → mb x = bootBuiltins x
  kx : (hd.heap_39 w.params).In B0
  top : ∃ (p : Program) (loose : List Str), TopRead p loose mg mb B0
/-- an activation: what stands around the running frame -/
structure Act where
  A : Around
  base : Heap
  g : Heap
  outer : List Env
  fenv : Env
  L : Addr
structure Act.Ok (w : World) (mg mb : Str → Option Value) (B0 : Heap) (X : Act) (d : Nat) : Prop where
  gd : Gd w mg mb B0
  hh : X.A.handled = none
  gu : X.A.guards = some []
  fr : X.A.frames = some (X.fenv :: X.outer)
  dep : X.A.depth + d < recursionLimit
  un : X.A.units + 8 * d + 200 < cLine
  b0 : B0.StaysIn X.base
  bg : X.base.StaysIn X.g
  ff : X.g.FunFrames X.base X.outer
  fL : X.fenv.frame = some X.L
  fk : X.fenv.scope.kind = .function
  gL : X.g.get? X.L = none
  top : 50 ≤ d → X.outer = []
structure EOk (sc : Scope) (X : Act) (env : Env) : Prop where
  is : env.scope = sc
  gl : env.globals = mainGlobals
  bi : env.builtins = builtinsNs
  k : sc.kind = ScopeKind.function
  fr : env.frame = some X.L
  cm : ∀ p ∈ env.cells, env.cells.lookup p.1 = some p.2
  ce : ∀ x, sc.names.lookup x = some .cell → ∃ c, env.cells.lookup x = some c
/-- a name's value -/
noncomputable def Holds (env : Env) (h : Heap) (mr : Str → Option Value) (x : Str) (w : Value) : Prop :=
  (env.kindOf x = some .local ∧ mr x = some w) ∨ ((env.kindOf x = some .cell ∨ env.kindOf x = some .free) ∧ ∃ c, env.cells.lookup x = some c ∧ h.IsCell c (some w))
structure Rel (P : Params) (B0 : Heap) (X : Act) (env : Env) (vars : List Str) (ρ : List Addr) (σ : List Cell) (m : Loc) (h : Heap) : Prop where
  stay : X.g.StaysIn h
  c : CRel P B0 h ρ σ
  out : ∀ a ∈ ρ, X.g.get? a = none ∧ a ≠ env.locals ∧ a ≠ X.L
  abv : X.g.get? env.locals = none
  fn : ∃ o es n, h.get? X.L = some o ∧ o.data = .dict es n
  cl : ∀ x c, env.cells.lookup x = some c → c ∉ ρ ∧ X.g.get? c = none ∧ c ≠ env.locals ∧ ∃ v, h.IsCell c v
  ci : ∀ x y c, env.cells.lookup x = some c → env.cells.lookup y = some c → x = y
  ns : ∃ mr, h.Ns env.locals mr ∧ ∀ (i : Nat) (x : Str) (v : V), vars[i]? = some x → m i = some v → ∃ w, Holds env h mr x w ∧ VR B0 h ρ v w
theorem Holds.keeps {env : Env} {h h' : Heap} {mr : Str → Option Value} {x : Str} {w : Value} (H : Holds env h mr x w) (k : ∀ b o, h.get? b = some o → h'.get? b = some o) : Holds env h' mr x w := by
  rcases H with H | ⟨hk, c, hc, o, ho, hd⟩
  · exact .inl H
  · exact .inr ⟨hk, c, hc, o, k _ _ ho, hd⟩
theorem Rel.keeps {P : Params} {B0 : Heap} {X : Act} {env : Env} {vars : List Str} {ρ : List Addr} {σ : List Cell} {m : Loc} {h h' : Heap} (R : Rel P B0 X env vars ρ σ m h)
    (k : ∀ b o, h.get? b = some o → h'.get? b = some o) : Rel P B0 X env vars ρ σ m h' where
  stay := fun b o e => k b o (R.stay b o e)
  c := R.c.keeps (Imm.of_keeps k) fun a _ o e => k a o e
  out := R.out
  abv := R.abv
  fn := let ⟨o, es, n, ho, hd⟩ := R.fn; ⟨o, es, n, k _ _ ho, hd⟩
  cl := fun x c e => let ⟨a, b, d, v, o, ho, hd⟩ := R.cl x c e; ⟨a, b, d, v, o, k _ _ ho, hd⟩
  ci := R.ci
  ns := let ⟨mr, hn, hv⟩ := R.ns; ⟨mr, hn.keeps k, fun i x v a b => let ⟨w, hw, r⟩ := hv i x v a b; ⟨w, hw.keeps k, r.mono (Imm.of_keeps k) (Pre.refl _)⟩⟩
/-- what holds behind an expression -/
structure Post (P : Params) (B0 : Heap) (X : Act) (env : Env) (vars : List Str) (ρ : List Addr) (m : Loc) (h : Heap) (q : Bool) (σ' : List Cell) (ρ' : List Addr) (h' : Heap) : Prop where
  rel : Rel P B0 X env vars ρ' σ' m h'
  imm : Imm h h'
  pre : Pre ρ ρ'
  quiet : q = true → ρ' = ρ ∧ ∀ b o, h.get? b = some o → h'.get? b = some o
/-- an exception in the running frame -/
noncomputable def InFrame (X : Act) (c e : Addr) (h' : Heap) : Prop :=
  X.g.UpToSlots h' ∧
   ((∃ h0 args, Heap.MadeExcOf h0 h' e (.ref c) args ∧ X.base.StaysIn h0 ∧ h0.FunFrames X.base (X.fenv :: X.outer)) ∨
    (∃ a0, Heap.FlyingW X.base (X.fenv :: X.outer) e (.ref c) a0 h') ∨
    (∃ a0, Heap.HeldW X.base (X.fenv :: X.outer) e (.ref c) a0 X.L h'))
section
variable {w : World} {mg mb : Str → Option Value} {B0 : Heap} {M : Model} {E : Value → Shared → Prop} {s : Shared} {X : Act} {d : Nat}
theorem InFrame.note (O : X.Ok w mg mb B0 d) {c e : Addr} (I : InFrame X c e s.heap) {Q : Unit → Shared → Prop}
    (k : ∀ h' a0, X.g.UpToSlots h' → Heap.HeldW X.base (X.fenv :: X.outer) e (.ref c) a0 X.L h' → Q () { s with heap := h' }) : wpAny M X.A (noteFrame (.ref e) X.fenv) Q E s := by
  obtain ⟨up, ⟨h0, args, hx, hb, hf⟩ | ⟨a0, hf⟩ | ⟨a0, hf⟩⟩ := I
  · obtain ⟨t, he, htn, ht⟩ := hx.there
    have hen : X.base.get? e = none := by
      cases hq : X.base.get? e with
      | none => rfl
      | some o' => have := hb e o' hq; rw [hx.new] at this; cases this
    unfold noteFrame
    simp only [O.fL]
    refine wpAny_bind (wpAny_field he rfl (i := 1) (x := .none) rfl ?_)
    rw [if_neg (by decide)]
    refine wpAny_entryW O.fr (hf.of_keeps fun b o hb' _ => ⟨o, hx.keeps b o hb', rfl⟩) O.fL he (fun b o hb' => hx.keeps b o (hb b o hb')) hen rfl (by simp) (a0 := .ref t) rfl fun h' hN => ?_
    obtain ⟨k1, k2, k3, k4⟩ := hN
    exact k h' _ (up.trans k4) ⟨k1, hen, k2, k3⟩
  · exact wpAny_looks_onW O.fr O.fL hf fun h' hh hu => k h' a0 (up.trans hu) hh
  · exact wpAny_noteFrame_againW O.fL hf.2.2.2 (k s.heap a0 up hf)
theorem InFrame.leave (O : X.Ok w mg mb B0 d) {c e : Addr} (I : InFrame X c e s.heap) {Q : Unit → Shared → Prop}
    (k : ∀ h' a0, X.g.UpToSlots h' → Heap.FlyingW X.base X.outer e (.ref c) a0 h' → Q () { s with heap := h' }) : wpAny M X.A (leaving X.fenv (.ref e)) Q E s := by
  unfold leaving
  refine wpAny_bind (I.note O fun h' a0 up hh => ?_)
  refine wpAny_landsW hh fun h'' hfl hu => ?_
  obtain ⟨k1, k2, ⟨_, _, k3⟩, k4⟩ := hfl
  exact k h'' a0 (up.trans hu) ⟨k1, k2, k3, k4⟩
/-- held, it comes back out of a loop's own run -/
theorem held_back (O : X.Ok w mg mb B0 d) {c e : Addr} {a0 : Value} (up : X.g.UpToSlots s.heap) (H : Heap.HeldW X.base (X.fenv :: X.outer) e (.ref c) a0 X.L s.heap)
    (k : ∀ h', InFrame X c e h' → E (.ref e) { s with heap := h' }) : cameBackBy M X.A X.fenv E (.ref e) s := by
  obtain ⟨f1, f2, f3, f4⟩ := H
  obtain ⟨oe, vs, T, oT, ts, he, hcls, hd, h1, hnT, hTe, hT, hdT, h3⟩ := f4
  have hsz3 : 3 < ts.size := (Array.getElem?_eq_some_iff.mp h3).1
  unfold cameBackBy
  refine wpAny_bind (wpAny_field he hd h1 ?_)
  rw [if_neg (show ¬ ((Value.ref T == Value.none) = true) from by simp)]
  unfold setFlight
  rw [O.fL]
  refine wpAny_bind (wpAny_field he hd h1 ?_)
  rw [if_pos (show (Value.ref T != Value.none) = true from by simp)]
  refine wpAny_setField hT hdT hsz3 (k _ ?_)
  have other : ∀ b, b ≠ T → (s.heap.update T (Obj.mapFields (·.setIfInBounds 3 ((some X.L).elim Value.none fun f => rawInt f)))).get? b = s.heap.get? b :=
    fun b hb => Heap.get?_update_other _ _ (Ne.symm hb)
  have noRecord : ∀ b o, s.heap.get? b = some o → (∀ vs, o.data ≠ .fields vs) → b ≠ T := fun b o hb hnf q => by
    rw [q, hT] at hb; injection hb with hb; subst hb; exact hnf ts hdT
  refine ⟨up.trans fun b o hb hn => ⟨o.slots, (other b (noRecord b o hb hn)).trans hb⟩, .inr (.inr ⟨a0, fun b o hbo => (other b fun q => by rw [q, hnT] at hbo; cases hbo).trans (f1 b o hbo), f2,
    f3.of_keeps fun b o hb hnf => ⟨o, (other b (noRecord b o hb hnf)).trans hb, rfl⟩, ?_⟩)⟩
  exact ⟨oe, vs, T, _, _, (other e (Ne.symm hTe)).trans he, hcls, hd, h1, hnT, hTe, Heap.get?_update_self _ hT (Obj.isFreed_of_fields (Obj.data_mapFields hdT _)), Obj.data_mapFields hdT _, by simp [hsz3]⟩
end
section
variable (prog : Program) (w : World) (mg mb : Str → Option Value) (B0 : Heap)
noncomputable def ExcTo (X : Act) (E : Value → Shared → Prop) (s : Shared) (c : Addr) : Prop := ∀ e h' tk', InFrame X c e h' → E (.ref e) { s with heap := h', toks := tk' }
end
end NZ
namespace NZ
open _root_.PySem _root_.PySem.W _root_.PySem.Calls PyProof.Rows
section
variable (ck : Bool) (prog : Program) (w : World) (mg mb : Str → Option Value) (B0 : Heap)
/-- a tree under an environment, its pure reading, what ties the two results -/
noncomputable def SG {α β : Type} (q : Bool) (d : Nat) (sc : Scope) (vars : List Str) (t : Env → Sem α) (f : Loc → List Cell → Res β) (RV : Heap → List Addr → β → α → Prop) : Prop :=
  ∀ (X : Act) (env : Env) (ρ : List Addr) (σ : List Cell) (m : Loc) (s : Shared) (Q : α → Shared → Prop) (E : Value → Shared → Prop),
    X.Ok w mg mb B0 d → EOk sc X env → Rel w.params B0 X env vars ρ σ m s.heap → f m σ ≠ .bad →
    (∀ v σ' ρ' x h' tk', f m σ = .ok v σ' → Post w.params B0 X env vars ρ m s.heap q σ' ρ' h' → RV h' ρ' v x → Q x { s with heap := h', toks := tk' }) →
    (∀ c, f m σ = .exc c → ExcTo X E s c) →
    wpX ck (model prog w) X.A (t env) Q E s
noncomputable abbrev ST (q : Bool) (d : Nat) (sc : Scope) (vars : List Str) (e : Expr) (f : Loc → List Cell → Res Bool) : Prop :=
  SG ck prog w mg mb B0 q d sc vars (fun env => isTrue e env (eval e env)) f (fun _ _ b x => x = b)
noncomputable abbrev SA (q : Bool) (d : Nat) (sc : Scope) (vars : List Str) (pos : Pos) (es : List Expr) (f : Loc → List Cell → Res (List V)) : Prop :=
  SG ck prog w mg mb B0 q d sc vars (fun env => spliced (backTo pos (starEach es env))) f (fun h ρ vs ws => VRs B0 h ρ vs ws)
noncomputable abbrev SV (q : Bool) (d : Nat) (sc : Scope) (vars : List Str) (e : Expr) (f : Loc → List Cell → Res V) : Prop :=
  SG ck prog w mg mb B0 q d sc vars (fun env => eval e env) f (fun h ρ v x => VR B0 h ρ v x)
structure AOk (A : Around) : Prop where
  hh : A.handled = none
  gu : A.guards = some []
  dep : A.depth < recursionLimit
  un : A.units + 200 < cLine
/-- quiet operations -/
noncomputable def Q1 (t : Value → Sem Value) (F : List Cell → V → Option V) : Prop :=
  ∀ (A : Around) (ρ : List Addr) (σ : List Cell) (s : Shared) (Q : Value → Shared → Prop) (E : Value → Shared → Prop) (a v : V) (wa : Value),
    AOk A → Gd w mg mb B0 → B0.StaysIn s.heap → CRel w.params B0 s.heap ρ σ → VR B0 s.heap ρ a wa → F σ a = some v →
    (∀ x h' tk', (∀ b o, s.heap.get? b = some o → h'.get? b = some o) → VR B0 h' ρ v x → Q x { s with heap := h', toks := tk' }) → wpAny (model prog w) A (t wa) Q E s
noncomputable def Q2 (t : Value → Value → Sem Value) (F : List Cell → V → V → Option V) : Prop :=
  ∀ (A : Around) (ρ : List Addr) (σ : List Cell) (s : Shared) (Q : Value → Shared → Prop) (E : Value → Shared → Prop) (a b v : V) (wa wb : Value),
    AOk A → Gd w mg mb B0 → B0.StaysIn s.heap → CRel w.params B0 s.heap ρ σ → VR B0 s.heap ρ a wa → VR B0 s.heap ρ b wb → F σ a b = some v →
    (∀ x h' tk', (∀ b o, s.heap.get? b = some o → h'.get? b = some o) → VR B0 h' ρ v x → Q x { s with heap := h', toks := tk' }) → wpAny (model prog w) A (t wa wb) Q E s
end
theorem Act.Ok.a {w : World} {mg mb : Str → Option Value} {B0 : Heap} {X : Act} {d : Nat} (O : X.Ok w mg mb B0 d) : AOk X.A := ⟨O.hh, O.gu, by have := O.dep; omega, by have := O.un; omega⟩
theorem Act.Ok.g0 {w : World} {mg mb : Str → Option Value} {B0 : Heap} {X : Act} {d : Nat} (O : X.Ok w mg mb B0 d) : B0.StaysIn X.g := fun b o e => O.bg b o (O.b0 b o e)
theorem Rel.b0 {w : World} {mg mb : Str → Option Value} {B0 : Heap} {X : Act} {d : Nat} {P : Params} {env : Env} {vars : List Str} {ρ : List Addr} {σ : List Cell} {m : Loc} {h : Heap}
    (R : Rel P B0 X env vars ρ σ m h) (O : X.Ok w mg mb B0 d) : B0.StaysIn h := fun b o e => R.stay b o (O.g0 b o e)
section
variable {P : Params} {B0 : Heap} {X : Act} {env : Env} {vars : List Str} {ρ ρ1 ρ2 : List Addr} {σ σ1 σ2 : List Cell} {m : Loc} {h h1 h2 : Heap} {q q1 q2 : Bool}
theorem Post.refl (R : Rel P B0 X env vars ρ σ m h) : Post P B0 X env vars ρ m h q σ ρ h := ⟨R, Imm.refl _, Pre.refl _, fun _ => ⟨rfl, fun _ _ e => e⟩⟩
theorem Post.of_keeps (R : Rel P B0 X env vars ρ σ m h) (k : ∀ b o, h.get? b = some o → h1.get? b = some o) : Post P B0 X env vars ρ m h q σ ρ h1 := ⟨R.keeps k, Imm.of_keeps k, Pre.refl _, fun _ => ⟨rfl, k⟩⟩
theorem Post.trans (x : Post P B0 X env vars ρ m h q1 σ1 ρ1 h1) (y : Post P B0 X env vars ρ1 m h1 q2 σ2 ρ2 h2) : Post P B0 X env vars ρ m h (q1 && q2) σ2 ρ2 h2 :=
  ⟨y.rel, x.imm.trans y.imm, x.pre.trans y.pre, fun e => by
    rw [Bool.and_eq_true] at e
    obtain ⟨a, b⟩ := x.quiet e.1
    obtain ⟨c, d⟩ := y.quiet e.2
    exact ⟨c.trans a, fun z o e => d z o (b z o e)⟩⟩
theorem Post.then (x : Post P B0 X env vars ρ m h q σ1 ρ1 h1) (k : ∀ b o, h1.get? b = some o → h2.get? b = some o) : Post P B0 X env vars ρ m h q σ1 ρ1 h2 :=
  ⟨x.rel.keeps k, x.imm.trans (Imm.of_keeps k), x.pre, fun e => let ⟨a, b⟩ := x.quiet e; ⟨a, fun z o e => k z o (b z o e)⟩⟩
theorem Post.weak (x : Post P B0 X env vars ρ m h q1 σ1 ρ1 h1) (e : q2 = true → q1 = true) : Post P B0 X env vars ρ m h q2 σ1 ρ1 h1 := ⟨x.rel, x.imm, x.pre, fun y => x.quiet (e y)⟩
end
/-- pure combinators -/
noncomputable def pC {β : Type} (v : β) : Loc → List Cell → Res β := fun _ σ => .ok v σ
noncomputable def pVar (i : Nat) : Loc → List Cell → Res V := fun m σ => match m i with
  | some v => .ok v σ
  | none => .bad
noncomputable def pBind {α β : Type} (f : Loc → List Cell → Res α) (k : α → Loc → List Cell → Res β) : Loc → List Cell → Res β := fun m σ => match f m σ with
  | .ok a σ' => k a m σ'
  | .exc c => .exc c
  | .bad => .bad
noncomputable def pOp {β : Type} (o : List Cell → Option β) : Loc → List Cell → Res β := fun _ σ => match o σ with
  | some v => .ok v σ
  | none => .bad
noncomputable def pUn (F : List Cell → V → Option V) (f : Loc → List Cell → Res V) : Loc → List Cell → Res V := pBind f fun a => pOp fun σ => F σ a
noncomputable def pBin (F : List Cell → V → V → Option V) (f g : Loc → List Cell → Res V) : Loc → List Cell → Res V := pBind f fun a => pBind g fun b => pOp fun σ => F σ a b
noncomputable def boolV : V → Option Bool
  | .bool b => some b
  | _ => none
noncomputable def pTest (f : Loc → List Cell → Res V) : Loc → List Cell → Res Bool := pBind f fun a => pOp fun _ => boolV a
noncomputable def pIf {β : Type} (t : Loc → List Cell → Res Bool) (f g : Loc → List Cell → Res β) : Loc → List Cell → Res β := pBind t fun b => if b then f else g
noncomputable def pNot (t : Loc → List Cell → Res Bool) : Loc → List Cell → Res Bool := pBind t fun b => pC (!b)
noncomputable def pList : List (Loc → List Cell → Res V) → Loc → List Cell → Res (List V)
  | [] => pC []
  | f :: r => pBind f fun a => pBind (pList r) fun as => pC (a :: as)
noncomputable def pTup (f : Loc → List Cell → Res (List V)) : Loc → List Cell → Res V := pBind f fun vs => pOp fun _ => if vs.length ≤ 1000 then some (.tup vs) else none
/-- what is known of a step that did not go bad -/
theorem pBind_nb {α β : Type} {f : Loc → List Cell → Res α} {k : α → Loc → List Cell → Res β} {m : Loc} {σ : List Cell} (nb : pBind f k m σ ≠ .bad) : f m σ ≠ .bad := by
  intro e; apply nb; unfold pBind; rw [e]
theorem pBind_exc {α β : Type} {f : Loc → List Cell → Res α} {k : α → Loc → List Cell → Res β} {m : Loc} {σ : List Cell} {c : Addr} (e : f m σ = .exc c) : pBind f k m σ = .exc c := by
  unfold pBind; rw [e]
theorem pBind_ok {α β : Type} {f : Loc → List Cell → Res α} {k : α → Loc → List Cell → Res β} {m : Loc} {σ σ' : List Cell} {a : α} (e : f m σ = .ok a σ') : pBind f k m σ = k a m σ' := by
  unfold pBind; rw [e]
theorem pOp_nb {β : Type} {o : List Cell → Option β} {m : Loc} {σ : List Cell} (nb : pOp o m σ ≠ .bad) : ∃ v, o σ = some v ∧ pOp o m σ = .ok v σ := by
  unfold pOp at nb ⊢
  cases h : o σ with
  | none => rw [h] at nb; exact absurd rfl nb
  | some v => exact ⟨v, rfl, rfl⟩
section
variable {ck : Bool} {prog : Program} {w : World} {mg mb : Str → Option Value} {B0 : Heap} {q q1 q2 q3 : Bool} {d : Nat} {sc : Scope} {vars : List Str}
/-- the one way in which steps are put together -/
theorem SG.step {α β β' : Type} {t : Env → Sem α} {f : Loc → List Cell → Res β} {RV : Heap → List Addr → β → α → Prop} {k : β → Loc → List Cell → Res β'}
    (ht : SG ck prog w mg mb B0 q1 d sc vars t f RV) {X : Act} {env : Env} {ρ : List Addr} {σ : List Cell} {m : Loc} {s : Shared} {Q : α → Shared → Prop} {E : Value → Shared → Prop}
    (O : X.Ok w mg mb B0 d) (Ek : EOk sc X env) (R : Rel w.params B0 X env vars ρ σ m s.heap) (nb : pBind f k m σ ≠ .bad) (ex : ∀ c, pBind f k m σ = .exc c → ExcTo X E s c)
    (next : ∀ a σ1 ρ1 x h1 tk1, Post w.params B0 X env vars ρ m s.heap q1 σ1 ρ1 h1 → RV h1 ρ1 a x → k a m σ1 ≠ .bad → (∀ c, k a m σ1 = .exc c → ExcTo X E s c) → pBind f k m σ = k a m σ1 →
      Q x { s with heap := h1, toks := tk1 }) : wpX ck (model prog w) X.A (t env) Q E s :=
  ht X env ρ σ m s Q E O Ek R (pBind_nb nb) (fun a σ1 ρ1 x h1 tk1 e P r => next a σ1 ρ1 x h1 tk1 P r (by rw [← pBind_ok (k := k) e]; exact nb) (fun c ec => ex c ((pBind_ok e).trans ec)) (pBind_ok e)) fun c e => ex c (pBind_exc e)
theorem SV.bin {l r : Expr} {op : Operator} {pos : Pos} {f g : Loc → List Cell → Res V} {F : List Cell → V → V → Option V}
    (hl : SV ck prog w mg mb B0 q1 d sc vars l f) (hr : SV ck prog w mg mb B0 q2 d sc vars r g) (ho : Q2 prog w mg mb B0 (binaryOp op) F) :
    SV ck prog w mg mb B0 (q1 && q2) d sc vars (.BinOp l op r pos) (pBin F f g) := by
  intro X env ρ σ m s Q E O Ek R nb ok ex
  refine X_BinOp (hl.step O Ek R nb ex fun a σ1 ρ1 wa h1 tk1 P1 va nb1 ex1 e1 => hr.step O Ek P1.rel nb1 ex1 fun b σ2 ρ2 wb h2 tk2 P2 vb nb2 ex2 e2 => ?_)
  obtain ⟨v, ev, e3⟩ := pOp_nb nb2
  exact ax <| ho X.A ρ2 σ2 _ Q E a b v wa wb O.a O.gd (P2.rel.b0 O) P2.rel.c (va.mono P2.imm P2.pre) vb ev fun x h3 tk3 k3 v3 =>
    ok v σ2 ρ2 x h3 tk3 (e1.trans (e2.trans e3)) ((P1.trans P2).then k3) v3
theorem SV.cmp {l r : Expr} {op : CmpOp} {pos : Pos} {f g : Loc → List Cell → Res V} {F : List Cell → V → V → Option V}
    (hl : SV ck prog w mg mb B0 q1 d sc vars l f) (hr : SV ck prog w mg mb B0 q2 d sc vars r g) (ho : Q2 prog w mg mb B0 (compareOp op) F) (hm : behindInMarks op r = false := by with_unfolding_all rfl) :
    SV ck prog w mg mb B0 (q1 && q2) d sc vars (.Compare l [op] [r] pos) (pBin F f g) := by
  intro X env ρ σ m s Q E O Ek R nb ok ex
  refine X_Compare1 (hl.step O Ek R nb ex fun a σ1 ρ1 wa h1 tk1 P1 va nb1 ex1 e1 => hr.step O Ek P1.rel nb1 ex1 fun b σ2 ρ2 wb h2 tk2 P2 vb nb2 ex2 e2 => ?_) hm
  obtain ⟨v, ev, e3⟩ := pOp_nb nb2
  exact ax <| ho X.A ρ2 σ2 _ Q E a b v wa wb O.a O.gd (P2.rel.b0 O) P2.rel.c (va.mono P2.imm P2.pre) vb ev fun x h3 tk3 k3 v3 =>
    ok v σ2 ρ2 x h3 tk3 (e1.trans (e2.trans e3)) ((P1.trans P2).then k3) v3
theorem boolV_inv {v : V} {b : Bool} (e : boolV v = some b) : v = .bool b := by
  cases v <;> simp [boolV] at e
  subst e; rfl
theorem ST.cmp {l r : Expr} {op : CmpOp} {pos : Pos} {f g : Loc → List Cell → Res V} {F : List Cell → V → V → Option V}
    (hl : SV ck prog w mg mb B0 q1 d sc vars l f) (hr : SV ck prog w mg mb B0 q2 d sc vars r g) (ho : Q2 prog w mg mb B0 (compareOp op) F) (hm : behindInMarks op r = false := by with_unfolding_all rfl) :
    ST ck prog w mg mb B0 (q1 && q2) d sc vars (.Compare l [op] [r] pos) (pBind f fun a => pBind g fun b => pOp fun σ => (F σ a b).bind boolV) := by
  intro X env ρ σ m s Q E O Ek R nb ok ex
  refine X_isTrue_Compare1 (hl.step O Ek R nb ex fun a σ1 ρ1 wa h1 tk1 P1 va nb1 ex1 e1 => hr.step O Ek P1.rel nb1 ex1 fun b σ2 ρ2 wb h2 tk2 P2 vb nb2 ex2 e2 => ?_) hm
  obtain ⟨v, ev, e3⟩ := pOp_nb nb2
  obtain ⟨v', ev', eb⟩ := Option.bind_eq_some_iff.mp ev
  obtain rfl := boolV_inv eb
  refine ax <| ho X.A ρ2 σ2 _ _ E a b _ wa wb O.a O.gd (P2.rel.b0 O) P2.rel.c (va.mono P2.imm P2.pre) vb ev' fun x h3 tk3 k3 v3 => ?_
  obtain rfl := v3.bool_inv
  exact ax <| wpAny_truthy_bool (ok v σ2 ρ2 v h3 tk3 (e1.trans (e2.trans e3)) ((P1.trans P2).then k3) rfl)
/-- a test of any other expression -/
theorem ST.of {e : Expr} {f : Loc → List Cell → Res V} (he : SV ck prog w mg mb B0 q d sc vars e f)
    (hi : ∀ env whole, isTrue e env whole = (do let v ← whole; standAt e.pos; holding [v] (truthy v)) := by intro _ _; rfl) : ST ck prog w mg mb B0 q d sc vars e (pTest f) := by
  intro X env ρ σ m s Q E O Ek R nb ok ex
  refine X_isTrue_value (he.step O Ek R nb ex fun a σ1 ρ1 wa h1 tk1 P1 va nb1 ex1 e1 => ?_) (hi _ _)
  obtain ⟨v, ev, e3⟩ := pOp_nb nb1
  obtain rfl := boolV_inv ev
  obtain rfl := va.bool_inv
  exact ax <| wpAny_truthy_bool (ok v σ1 ρ1 v h1 tk1 (e1.trans e3) P1 rfl)
theorem ST.not {e : Expr} {pos : Pos} {f : Loc → List Cell → Res Bool} (he : ST ck prog w mg mb B0 q d sc vars e f) : ST ck prog w mg mb B0 q d sc vars (.UnaryOp .Not e pos) (pNot f) := by
  intro X env ρ σ m s Q E O Ek R nb ok ex
  refine X_isTrue_Not (he.step O Ek R nb ex fun a σ1 ρ1 wa h1 tk1 P1 va nb1 ex1 e1 => ?_)
  subst va
  exact ok (!wa) σ1 ρ1 (!wa) h1 tk1 e1 P1 rfl
/-- and, or in a test -/
noncomputable def SB (ck : Bool) (prog : Program) (w : World) (mg mb : Str → Option Value) (B0 : Heap) (q : Bool) (d : Nat) (sc : Scope) (vars : List Str) (op : BoolOp) (es : List Expr) (f : Loc → List Cell → Res Bool) : Prop :=
  SG ck prog w mg mb B0 q d sc vars (fun env => allTrue op es env) f (fun _ _ b x => x = b)
theorem SB.and_nil : SB ck prog w mg mb B0 true d sc vars .And [] (pC true) := fun X env ρ σ m s Q E O Ek R nb ok ex => ax <| wpAny_allTrue_And_nil (ok true σ ρ true s.heap s.toks rfl (Post.refl R) rfl)
theorem SB.or_nil : SB ck prog w mg mb B0 true d sc vars .Or [] (pC false) := fun X env ρ σ m s Q E O Ek R nb ok ex => (show wpX ck (model prog w) X.A (pure false) Q E s from ax <| wpAny_pure (ok false σ ρ false s.heap s.toks rfl (Post.refl R) rfl))
theorem SB.and_cons {e : Expr} {es : List Expr} {f g : Loc → List Cell → Res Bool} (he : ST ck prog w mg mb B0 q1 d sc vars e f) (hr : SB ck prog w mg mb B0 q2 d sc vars .And es g) :
    SB ck prog w mg mb B0 (q1 && q2) d sc vars .And (e :: es) (pIf f g (pC false)) := by
  intro X env ρ σ m s Q E O Ek R nb ok ex
  refine X_and_cons (he.step O Ek R nb ex fun a σ1 ρ1 wa h1 tk1 P1 va nb1 ex1 e1 => ?_)
  subst va
  cases wa with
  | true =>
    refine hr X env ρ1 σ1 m _ Q E O Ek P1.rel nb1 (fun v σ' ρ' x h' tk' e2 P2 r => ok v σ' ρ' x h' tk' (e1.trans e2) (P1.trans P2) r) ex1
  | false => exact ok false σ1 ρ1 false h1 tk1 e1 (P1.weak (by simp +contextual)) rfl
theorem SB.or_cons {e : Expr} {es : List Expr} {f g : Loc → List Cell → Res Bool} (he : ST ck prog w mg mb B0 q1 d sc vars e f) (hr : SB ck prog w mg mb B0 q2 d sc vars .Or es g) :
    SB ck prog w mg mb B0 (q1 && q2) d sc vars .Or (e :: es) (pIf f (pC true) g) := by
  intro X env ρ σ m s Q E O Ek R nb ok ex
  refine X_or_cons (he.step O Ek R nb ex fun a σ1 ρ1 wa h1 tk1 P1 va nb1 ex1 e1 => ?_)
  subst va
  cases wa with
  | true => exact ok true σ1 ρ1 true h1 tk1 e1 (P1.weak (by simp +contextual)) rfl
  | false =>
    refine hr X env ρ1 σ1 m _ Q E O Ek P1.rel nb1 (fun v σ' ρ' x h' tk' e2 P2 r => ok v σ' ρ' x h' tk' (e1.trans e2) (P1.trans P2) r) ex1
theorem ST.boolop {op : BoolOp} {es : List Expr} {pos : Pos} {f : Loc → List Cell → Res Bool} (h : SB ck prog w mg mb B0 q d sc vars op es f) : ST ck prog w mg mb B0 q d sc vars (.BoolOp op es pos) f :=
  fun X env ρ σ m s Q E O Ek R nb ok ex => X_isTrue_BoolOp (h X env ρ σ m s Q E O Ek R nb ok ex)
theorem SV.ifexp {t a b : Expr} {pos : Pos} {ft : Loc → List Cell → Res Bool} {fa fb : Loc → List Cell → Res V} (ht : ST ck prog w mg mb B0 q1 d sc vars t ft) (ha : SV ck prog w mg mb B0 q2 d sc vars a fa) (hb : SV ck prog w mg mb B0 q3 d sc vars b fb) :
    SV ck prog w mg mb B0 (q1 && (q2 && q3)) d sc vars (.IfExp t a b pos) (pIf ft fa fb) := by
  intro X env ρ σ m s Q E O Ek R nb ok ex
  refine X_IfExp (ht.step O Ek R nb ex fun x σ1 ρ1 wa h1 tk1 P1 va nb1 ex1 e1 => ?_)
  subst va
  cases wa with
  | true => exact ha X env ρ1 σ1 m _ Q E O Ek P1.rel nb1 (fun v σ' ρ' x h' tk' e2 P2 r => ok v σ' ρ' x h' tk' (e1.trans e2) ((P1.trans P2).weak (by simp +contextual)) r) ex1
  | false => exact hb X env ρ1 σ1 m _ Q E O Ek P1.rel nb1 (fun v σ' ρ' x h' tk' e2 P2 r => ok v σ' ρ' x h' tk' (e1.trans e2) ((P1.trans P2).weak (by simp +contextual)) r) ex1
/-- or as a value, of bools -/
noncomputable def pOr (f g : Loc → List Cell → Res V) : Loc → List Cell → Res V := pBind f fun a => match boolV a with
  | some true => pC a
  | some false => g
  | none => fun _ _ => .bad
theorem SV.or2 {x y : Expr} {pos : Pos} {f g : Loc → List Cell → Res V} (hx : SV ck prog w mg mb B0 q1 d sc vars x f) (hy : SV ck prog w mg mb B0 q2 d sc vars y g) :
    SV ck prog w mg mb B0 (q1 && q2) d sc vars (.BoolOp .Or [x, y] pos) (pOr f g) := by
  intro X env ρ σ m s Q E O Ek R nb ok ex
  refine X_Or2 (hx.step O Ek R nb ex fun a σ1 ρ1 wa h1 tk1 P1 va nb1 ex1 e1 => ?_)
  cases a with
  | bool b =>
    obtain rfl := va.bool_inv
    refine ax <| wpAny_truthy_bool ?_
    cases b with
    | true => exact ok (.bool true) σ1 ρ1 _ h1 tk1 e1 (P1.weak (by simp +contextual)) (.bool _)
    | false => exact hy X env ρ1 σ1 m _ Q E O Ek P1.rel nb1 (fun v σ' ρ' x h' tk' e2 P2 r => ok v σ' ρ' x h' tk' (e1.trans e2) (P1.trans P2) r) ex1
  | _ => exact absurd rfl nb1
/-- names and constants -/
theorem SV.const_int {i : Int} {k : Nat} {pos : Pos} : SV ck prog w mg mb B0 true d sc vars (.Constant (.int i) k pos) (pC (.int i)) :=
  fun X env ρ σ m s Q E O Ek R nb ok ex => ax <| wpAny_Constant_int (ok _ σ ρ _ s.heap _ rfl (Post.refl R) (.int _ _))
theorem SV.const_none {k : Nat} {pos : Pos} : SV ck prog w mg mb B0 true d sc vars (.Constant .none k pos) (pC .none) :=
  fun X env ρ σ m s Q E O Ek R nb ok ex => ax <| wpAny_Constant_none (ok _ σ ρ _ s.heap _ rfl (Post.refl R) .none)
theorem SV.const_bool {b : Bool} {k : Nat} {pos : Pos} : SV ck prog w mg mb B0 true d sc vars (.Constant (.bool b) k pos) (pC (.bool b)) :=
  fun X env ρ σ m s Q E O Ek R nb ok ex => ax <| wpAny_Constant_bool (ok _ σ ρ _ s.heap _ rfl (Post.refl R) (.bool _))
theorem SV.const_str {x : Str} {k : Nat} {pos : Pos} : SV ck prog w mg mb B0 true d sc vars (.Constant (.str x) k pos) (pC (.str x)) :=
  fun X env ρ σ m s Q E O Ek R nb ok ex => ax <| wpAny_Constant_str (ok _ σ ρ _ s.heap _ rfl (Post.refl R) (.str _ _))
theorem SV.const_bytes {x : List UInt8} {k : Nat} {pos : Pos} : SV ck prog w mg mb B0 true d sc vars (.Constant (.bytes x) k pos) (pC (.bytes x)) :=
  fun X env ρ σ m s Q E O Ek R nb ok ex => ax <| Constant_bytes (ok _ σ ρ _ s.heap _ rfl (Post.refl R) (.bytes _ _))
theorem holds_load {X : Act} {env : Env} {s : Shared} {mr : Str → Option Value} {x : Str} {v : Value} {A : Around} {Q : Value → Shared → Prop} {E : Value → Shared → Prop} (Ek : EOk sc X env) (hn : s.heap.Ns env.locals mr) (H : Holds env s.heap mr x v)
    (hd : (x == ("__classdict__" : Str)) = false) (h : Q v s) : wpAny (model prog w) A (loadName env x) Q E s := by
  have hk : env.scope.kind = .function := by rw [Ek.is]; exact Ek.k
  rcases H with ⟨a, b⟩ | ⟨a | a, c, hc, hv⟩
  · exact wpAny_loadName_local hk a hn b h
  · exact wpAny_loadName_cell hk a hc hv h
  · exact wpAny_loadName_free hk a hc hv h hd
theorem SV.var {x : Str} {i : Nat} {pos : Pos} (hi : vars[i]? = some x) (hd : (x == ("__debug__" : Str)) = false := by decide) (hc : (x == ("__classdict__" : Str)) = false := by decide) :
    SV ck prog w mg mb B0 true d sc vars (.Name x pos) (pVar i) := by
  intro X env ρ σ m s Q E O Ek R nb ok ex
  unfold pVar at nb ok
  cases e : m i with
  | none => rw [e] at nb; exact absurd rfl nb
  | some v =>
    rw [e] at ok
    obtain ⟨mr, hn, hv⟩ := R.ns
    obtain ⟨x', hx, vx⟩ := hv i x v hi e
    exact X_Name (ax (holds_load Ek hn hx hc (ok v σ ρ x' s.heap s.toks rfl (Post.refl R) vx))) hd
theorem SV.glob {x : Str} {v : V} {vr : Value} {pos : Pos} (hx : sc.names.lookup x = some .globalImplicit) (hg : mg x = some vr) (hv : ∀ h ρ, VR B0 h ρ v vr) (hd : (x == ("__debug__" : Str)) = false := by decide) :
    SV ck prog w mg mb B0 true d sc vars (.Name x pos) (pC v) := by
  intro X env ρ σ m s Q E O Ek R nb ok ex
  refine ax <| Name_function_global (by rw [Ek.is]; exact Ek.k) (by unfold Env.kindOf; rw [Ek.is]; exact hx) (loadGlobal_global (by rw [Ek.gl]; exact O.gd.g.keeps (R.b0 O)) hg ?_) hd
  exact ok v σ ρ vr s.heap s.toks rfl (Post.refl R) (hv _ _)
/-- lists of arguments -/
theorem SA.nil {pos : Pos} : SA ck prog w mg mb B0 true d sc vars pos [] (pList []) :=
  fun X env ρ σ m s Q E O Ek R nb ok ex => X_items_nil (ok _ σ ρ _ s.heap s.toks rfl (Post.refl R) VRs.nil)
theorem SA.cons {pos : Pos} {e : Expr} {es : List Expr} {f : Loc → List Cell → Res V} {fs : List (Loc → List Cell → Res V)} (he : SV ck prog w mg mb B0 q1 d sc vars e f) (hr : SA ck prog w mg mb B0 q2 d sc vars pos es (pList fs))
    (hs : ∀ env, starEach (e :: es) env = (false, eval e env) :: starEach es env := by intro _; rfl) : SA ck prog w mg mb B0 (q1 && q2) d sc vars pos (e :: es) (pList (f :: fs)) := by
  intro X env ρ σ m s Q E O Ek R nb ok ex
  refine X_items_cons (he.step O Ek R nb ex fun a σ1 ρ1 wa h1 tk1 P1 va nb1 ex1 e1 => hr.step O Ek P1.rel nb1 ex1 fun b σ2 ρ2 wb h2 tk2 P2 vb nb2 ex2 e2 => ?_) (hs _)
  exact ok (a :: b) σ2 ρ2 _ h2 tk2 (e1.trans e2) (P1.trans P2) (VRs.cons (va.mono P2.imm P2.pre) vb)
theorem SV.tuple {es : List Expr} {k : Nat} {pos : Pos} {f : Loc → List Cell → Res (List V)} (he : SA ck prog w mg mb B0 q d sc vars pos es f) :
    SV ck prog w mg mb B0 q d sc vars (.Tuple es k pos) (pTup f) := by
  intro X env ρ σ m s Q E O Ek R nb ok ex
  refine X_Tuple (he.step O Ek R nb ex fun a σ1 ρ1 wa h1 tk1 P1 va nb1 ex1 e1 => ?_)
  obtain ⟨v, ev, e3⟩ := pOp_nb nb1
  have hl : a.length ≤ 1000 := by
    by_cases q : a.length ≤ 1000
    · exact q
    · simp [q] at ev
  simp [hl] at ev
  subst ev
  refine ax <| wpAny_newObj_type (ok _ σ1 ρ1 _ (h1.push { cls := .type "tuple", data := .seq wa.toArray }) tk1 (e1.trans e3) (P1.then fun b o e => Heap.get?_push_of_some _ e) ?_) (by show wa.toArray.size ≤ sizeLine; rw [List.size_toArray, ← va.1]; unfold sizeLine; omega)
  exact .tup ⟨_, Heap.get?_push_size h1 rfl, rfl, 0, rfl⟩ va.1 fun i v w a b => (va.2 i v w a b).mono (Imm.of_keeps fun b o e => Heap.get?_push_of_some _ e) (Pre.refl _)
end
section
variable {P : Params} {B0 : Heap} {X : Act} {env : Env} {vars : List Str} {ρ : List Addr} {σ : List Cell} {m : Loc} {h : Heap}
theorem Rel.fresh (R : Rel P B0 X env vars ρ σ m h) : h.objs.size ∉ ρ ∧ h.objs.size ≠ env.locals ∧ h.objs.size ≠ X.L ∧ X.g.get? h.objs.size = none ∧ ∀ x c, env.cells.lookup x = some c → c ≠ h.objs.size := by
  refine ⟨fun hm => ?_, ?_, ?_, ?_, fun x c e => ?_⟩
  · obtain ⟨_, _, o, _, _, ho, _⟩ := R.c.cellOf hm
    exact absurd (Heap.lt_size ho) (Nat.lt_irrefl _)
  · obtain ⟨mr, hn, _⟩ := R.ns
    exact Nat.ne_of_gt hn.lt
  · obtain ⟨o, _, _, ho, _⟩ := R.fn
    exact Nat.ne_of_gt (Heap.lt_size ho)
  · exact R.stay.fresh
  · obtain ⟨_, _, _, v, o, ho, _⟩ := R.cl x c e
    exact Nat.ne_of_lt (Heap.lt_size ho)
theorem Rel.newCell (R : Rel P B0 X env vars ρ σ m h) {c : Cell} {o : Obj} (hc : CR P B0 h ρ c o) : Rel P B0 X env vars (ρ ++ [h.objs.size]) (σ ++ [c]) m (h.push o) := by
  have k : ∀ b o', h.get? b = some o' → (h.push o).get? b = some o' := fun b o' e => Heap.get?_push_of_some _ e
  have R' := R.keeps k
  obtain ⟨f1, f2, f3, f4, f5⟩ := R.fresh
  have pre : Pre ρ (ρ ++ [h.objs.size]) := ⟨_, rfl⟩
  have im := Imm.of_keeps k
  refine ⟨R'.stay, ⟨by simp [R.c.len], List.nodup_append.mpr ⟨R.c.nodup, by simp, fun a ha b hb e => ?_⟩, fun i c' a e1 e2 => ?_⟩, fun a ha => ?_, R'.abv, R'.fn, fun x c' e => ?_, R'.ci, ?_⟩
  · simp at hb; subst hb; subst e; exact f1 ha
  · by_cases hi : i < σ.length
    · rw [List.getElem?_append_left hi] at e1
      rw [List.getElem?_append_left (R.c.len ▸ hi)] at e2
      obtain ⟨o', ho, r⟩ := R.c.at_ i c' a e1 e2
      exact ⟨o', k _ _ ho, r.mono im pre⟩
    · have hlen := R.c.len
      have hi' : i = σ.length := by
        have := (List.getElem?_eq_some_iff.mp e1).1
        simp at this; omega
      subst hi'
      simp at e1
      rw [← hlen] at e2
      simp at e2
      subst e1; subst e2
      exact ⟨o, Heap.get?_push_size h hc.not_freed, hc.mono im pre⟩
  · rcases List.mem_append.mp ha with ha | ha
    · exact R.out a ha
    · simp at ha; subst ha; exact ⟨f4, f2, f3⟩
  · obtain ⟨a, b, c1, d⟩ := R'.cl x c' e
    refine ⟨fun hm => ?_, b, c1, d⟩
    rcases List.mem_append.mp hm with hm | hm
    · exact a hm
    · simp at hm; exact f5 x c' e hm
  · obtain ⟨mr, hn, hv⟩ := R'.ns
    exact ⟨mr, hn, fun i x v a b => let ⟨w', hw, r⟩ := hv i x v a b; ⟨w', hw, r.mono (Imm.refl _) pre⟩⟩
theorem Post.newCell {q : Bool} {h0 : Heap} {ρ0 : List Addr} (x : Post P B0 X env vars ρ0 m h0 q σ ρ h) {c : Cell} {o : Obj} (hc : CR P B0 h ρ c o) :
    Post P B0 X env vars ρ0 m h0 false (σ ++ [c]) (ρ ++ [h.objs.size]) (h.push o) ∧ VR B0 (h.push o) (ρ ++ [h.objs.size]) (.cell σ.length) (.ref h.objs.size) :=
  ⟨⟨x.rel.newCell hc, x.imm.trans (Imm.of_keeps fun b o' e => Heap.get?_push_of_some _ e), x.pre.trans ⟨_, rfl⟩, fun e => by cases e⟩, .cell (by rw [← x.rel.c.len]; simp)⟩
end
noncomputable def pNewList (f : Loc → List Cell → Res (List V)) : Loc → List Cell → Res V := pBind f fun vs => fun _ σ => if vs.length ≤ 1000 then .ok (.cell σ.length) (σ ++ [.list vs]) else .bad
section
variable {ck : Bool} {prog : Program} {w : World} {mg mb : Str → Option Value} {B0 : Heap} {q q1 q2 q3 : Bool} {d : Nat} {sc : Scope} {vars : List Str}
theorem SV.list {es : List Expr} {pos : Pos} {f : Loc → List Cell → Res (List V)} (he : SA ck prog w mg mb B0 q d sc vars pos es f) :
    SV ck prog w mg mb B0 false d sc vars (.List es pos) (pNewList f) := by
  intro X env ρ σ m s Q E O Ek R nb ok ex
  refine X_List (he.step O Ek R nb ex fun a σ1 ρ1 wa h1 tk1 P1 va nb1 ex1 e1 => ?_)
  have hl : a.length ≤ 1000 := by
    by_cases q : a.length ≤ 1000
    · exact q
    · simp [q] at nb1
  simp only [hl, if_true] at e1
  obtain ⟨P2, v2⟩ := P1.newCell (c := .list a) ⟨wa, 0, rfl, va⟩
  exact ax <| wpAny_newObj_type (ok _ _ _ _ _ tk1 e1 P2 v2) (by show wa.toArray.size ≤ sizeLine; rw [List.size_toArray, ← va.1]; unfold sizeLine; omega)
end
end NZ
namespace NZ
open _root_.PySem _root_.PySem.W _root_.PySem.Calls PyProof.Rows
noncomputable def addV (_ : List Cell) : V → V → Option V
  | .int a, .int b => some (.int (a + b))
  | .bytes a, .bytes b => if a.length + b.length ≤ 1000000 then some (.bytes (a ++ b)) else none
  | .tup a, .tup b => if a.length + b.length ≤ 1000 then some (.tup (a ++ b)) else none
  | _, _ => none
noncomputable def intOp (g : Int → Int → Option V) (_ : List Cell) : V → V → Option V
  | .int a, .int b => g a b
  | _, _ => none
theorem intOp_inv {g : Int → Int → Option V} {σ : List Cell} {v : V} : ∀ {a b : V}, intOp g σ a b = some v → ∃ x y, a = .int x ∧ b = .int y ∧ g x y = some v := by
  intro a b e
  unfold intOp at e
  split at e
  · exact ⟨_, _, rfl, rfl, e⟩
  · cases e
theorem int_inv {B0 h : Heap} {ρ : List Addr} {g : Int → Int → Option V} {σ : List Cell} {a b v : V} {wa wb : Value} (va : VR B0 h ρ a wa) (vb : VR B0 h ρ b wb) (e : intOp g σ a b = some v) :
    ∃ x y tx ty, a = .int x ∧ b = .int y ∧ wa = .int x tx ∧ wb = .int y ty ∧ g x y = some v := by
  obtain ⟨x, y, rfl, rfl, e⟩ := intOp_inv e
  obtain ⟨tx, rfl⟩ := va.int_inv
  obtain ⟨ty, rfl⟩ := vb.int_inv
  exact ⟨x, y, tx, ty, rfl, rfl, rfl, rfl, e⟩
theorem if_inv {α : Type} {c : Prop} [Decidable c] {a v : α} (e : (if c then some a else none) = some v) : c ∧ a = v := by
  by_cases h : c
  · rw [if_pos h] at e; exact ⟨h, Option.some.inj e⟩
  · rw [if_neg h] at e; cases e
noncomputable def subV : List Cell → V → V → Option V := intOp fun a b => some (.int (a - b))
noncomputable def mulV (_ : List Cell) : V → V → Option V
  | .int a, .int b => if Builtin.Int.intBits a ≤ 5000 ∧ Builtin.Int.intBits b ≤ 5000 then some (.int (a * b)) else none
  | .bytes b, .int n => if b ≠ [] ∧ 2 ≤ n ∧ n ≤ 1000 ∧ b.length ≤ 1000 then some (.bytes (List.replicate n.toNat b).flatten) else none
  | _, _ => none
noncomputable def modV : List Cell → V → V → Option V := intOp fun a b => if b ≠ 0 then some (.int (a.fmod b)) else none
noncomputable def fdivV : List Cell → V → V → Option V := intOp fun a b => if b ≠ 0 ∧ b.natAbs < 1073741824 then some (.int (a.fdiv b)) else none
noncomputable def powV : List Cell → V → V → Option V := intOp fun a n => if 0 ≤ n ∧ n ≤ 1000 ∧ Builtin.Int.intBits a ≤ 1000 then some (.int (a ^ n.toNat)) else none
noncomputable def shlV : List Cell → V → V → Option V := intOp fun a n => if 0 ≤ n ∧ n ≤ 1000 ∧ a.natAbs < 2 ^ 64 then some (.int (a * 2 ^ n.toNat)) else none
noncomputable def shrV : List Cell → V → V → Option V := intOp fun a n => if 0 ≤ n then some (.int (a.fdiv (2 ^ n.toNat))) else none
noncomputable def andV : List Cell → V → V → Option V := intOp fun a b => some (.int (Builtin.bitAnd a b))
noncomputable def orV : List Cell → V → V → Option V := intOp fun a b => some (.int (Builtin.bitOr a b))
noncomputable def ltV : List Cell → V → V → Option V := intOp fun a b => some (.bool (decide (a < b)))
noncomputable def gtV : List Cell → V → V → Option V := intOp fun a b => some (.bool (decide (b < a)))
noncomputable def geV : List Cell → V → V → Option V := intOp fun a b => some (.bool (decide (b ≤ a)))
noncomputable def isNone : V → Bool
  | .none => true
  | _ => false
noncomputable def isV (_ : List Cell) : V → V → Option V
  | a, .none => some (.bool (isNone a))
  | _, _ => none
noncomputable def isNotV (_ : List Cell) : V → V → Option V
  | a, .none => some (.bool (!isNone a))
  | _, _ => none
section
variable {prog : Program} {w : World} {mg mb : Str → Option Value} {B0 : Heap}
theorem q_sub : Q2 prog w mg mb B0 (binaryOp .Sub) subV := by
  intro A ρ σ s Q E a b v wa wb OA G HB C va vb e k
  obtain ⟨x, y, tx, ty, rfl, rfl, rfl, rfl, e⟩ := int_inv va vb e
  obtain rfl := Option.some.inj e
  with_reducible refine sub_int ?_
  exact k _ s.heap _ (fun _ _ e => e) (.int _ _)
set_option tactic.hygienic true in
theorem q_mul : Q2 prog w mg mb B0 (binaryOp .Mult) mulV := by
  intro A ρ σ s Q E a b v wa wb OA G HB C va vb e k
  unfold mulV at e
  split at e
  rotate_right
  · cases e
  · obtain ⟨tx, rfl⟩ := va.int_inv
    obtain ⟨ty, rfl⟩ := vb.int_inv
    obtain ⟨⟨h1, h2⟩, rfl⟩ := if_inv e
    have hm := IntMulOk.of_bits (Nat.le_trans h1 (by decide : 5000 ≤ 2 ^ 20)) (Nat.le_trans h2 (by decide : 5000 ≤ 2 ^ 20))
    with_reducible refine mul_int ?_ hm
    exact k _ s.heap _ (fun _ _ e => e) (.int _ _)
  · obtain ⟨tx, rfl⟩ := va.bytes_inv
    obtain ⟨ty, rfl⟩ := vb.int_inv
    obtain ⟨⟨h1, h2, h3, h4⟩, rfl⟩ := if_inv e
    rename_i b i
    have h5 : b.length * i.toNat ≤ 1000 * 1000 := Nat.mul_le_mul h4 (by omega)
    have h6 : b.length * i.toNat ≤ 16777216 := by omega
    have h7 : i ≤ 1048576 := by omega
    with_reducible refine bytes_mul_K h1 h2 h7 h6 rfl fun t' k' => ?_
    exact k _ s.heap _ (fun _ _ e => e) (.bytes _ _)
theorem q_mod : Q2 prog w mg mb B0 (binaryOp .Mod) modV := by
  intro A ρ σ s Q E a b v wa wb OA G HB C va vb e k
  obtain ⟨x, y, tx, ty, rfl, rfl, rfl, rfl, e⟩ := int_inv va vb e
  obtain ⟨h1, rfl⟩ := if_inv e
  with_reducible refine mod_int' h1 ?_
  exact k _ s.heap _ (fun _ _ e => e) (.int _ _)
theorem q_fdiv : Q2 prog w mg mb B0 (binaryOp .FloorDiv) fdivV := by
  intro A ρ σ s Q E a b v wa wb OA G HB C va vb e k
  obtain ⟨x, y, tx, ty, rfl, rfl, rfl, rfl, e⟩ := int_inv va vb e
  obtain ⟨⟨h1, h2⟩, rfl⟩ := if_inv e
  with_reducible refine floordiv_int h1 ?_ (Or.inl (PyProof.noPylong_small h2))
  exact k _ s.heap _ (fun _ _ e => e) (.int _ _)
theorem q_pow : Q2 prog w mg mb B0 (binaryOp .Pow) powV := by
  intro A ρ σ s Q E a b v wa wb OA G HB C va vb e k
  obtain ⟨x, y, tx, ty, rfl, rfl, rfl, rfl, e⟩ := int_inv va vb e
  obtain ⟨⟨h1, h2, h3⟩, rfl⟩ := if_inv e
  with_reducible refine pow_int h1 ?_ ?_
  rotate_left
  · exact k _ s.heap _ (fun _ _ e => e) (.int _ _)
  have h5 : (Builtin.Int.intBits x : Int) * y ≤ 1000 * 1000 := Int.mul_le_mul (by omega) h2 h1 (by decide)
  omega
theorem q_shl : Q2 prog w mg mb B0 (binaryOp .LShift) shlV := by
  intro A ρ σ s Q E a b v wa wb OA G HB C va vb e k
  obtain ⟨x, y, tx, ty, rfl, rfl, rfl, rfl, e⟩ := int_inv va vb e
  obtain ⟨⟨h1, h2, h3⟩, rfl⟩ := if_inv e
  with_reducible refine lshift_int_small h1 (by omega) h3 ?_
  exact k _ s.heap _ (fun _ _ e => e) (.int _ _)
theorem q_and : Q2 prog w mg mb B0 (binaryOp .BitAnd) andV := by
  intro A ρ σ s Q E a b v wa wb OA G HB C va vb e k
  obtain ⟨x, y, tx, ty, rfl, rfl, rfl, rfl, e⟩ := int_inv va vb e
  obtain rfl := Option.some.inj e
  with_reducible refine and_int ?_
  exact k _ s.heap _ (fun _ _ e => e) (.int _ _)
theorem q_or : Q2 prog w mg mb B0 (binaryOp .BitOr) orV := by
  intro A ρ σ s Q E a b v wa wb OA G HB C va vb e k
  obtain ⟨x, y, tx, ty, rfl, rfl, rfl, rfl, e⟩ := int_inv va vb e
  obtain rfl := Option.some.inj e
  with_reducible refine or_int ?_
  exact k _ s.heap _ (fun _ _ e => e) (.int _ _)
theorem q_ior : Q2 prog w mg mb B0 (inplaceOp .BitOr) orV := by
  intro A ρ σ s Q E a b v wa wb OA G HB C va vb e k
  obtain ⟨x, y, tx, ty, rfl, rfl, rfl, rfl, e⟩ := int_inv va vb e
  obtain rfl := Option.some.inj e
  with_reducible refine ior_int ?_
  exact k _ s.heap _ (fun _ _ e => e) (.int _ _)
theorem q_ishr : Q2 prog w mg mb B0 (inplaceOp .RShift) shrV := by
  intro A ρ σ s Q E a b v wa wb OA G HB C va vb e k
  obtain ⟨x, y, tx, ty, rfl, rfl, rfl, rfl, e⟩ := int_inv va vb e
  obtain ⟨h1, rfl⟩ := if_inv e
  with_reducible refine irshift_int h1 ?_
  exact k _ s.heap _ (fun _ _ e => e) (.int _ _)
noncomputable def iaddV : List Cell → V → V → Option V := intOp fun a b => some (.int (a + b))
theorem q_iadd : Q2 prog w mg mb B0 (inplaceOp .Add) iaddV := by
  intro A ρ σ s Q E a b v wa wb OA G HB C va vb e k
  obtain ⟨x, y, tx, ty, rfl, rfl, rfl, rfl, e⟩ := int_inv va vb e
  obtain rfl := Option.some.inj e
  with_reducible refine iadd_int ?_
  exact k _ s.heap _ (fun _ _ e => e) (.int _ _)
theorem q_lt : Q2 prog w mg mb B0 (compareOp .Lt) ltV := by
  intro A ρ σ s Q E a b v wa wb OA G HB C va vb e k
  obtain ⟨x, y, tx, ty, rfl, rfl, rfl, rfl, e⟩ := int_inv va vb e
  obtain rfl := Option.some.inj e
  with_reducible refine lt_int ?_
  exact k _ s.heap s.toks (fun _ _ e => e) (.bool _)
theorem q_gt : Q2 prog w mg mb B0 (compareOp .Gt) gtV := by
  intro A ρ σ s Q E a b v wa wb OA G HB C va vb e k
  obtain ⟨x, y, tx, ty, rfl, rfl, rfl, rfl, e⟩ := int_inv va vb e
  obtain rfl := Option.some.inj e
  with_reducible refine gt_int ?_
  exact k _ s.heap s.toks (fun _ _ e => e) (.bool _)
theorem q_ge : Q2 prog w mg mb B0 (compareOp .GtE) geV := by
  intro A ρ σ s Q E a b v wa wb OA G HB C va vb e k
  obtain ⟨x, y, tx, ty, rfl, rfl, rfl, rfl, e⟩ := int_inv va vb e
  obtain rfl := Option.some.inj e
  with_reducible refine ge_int ?_
  exact k _ s.heap s.toks (fun _ _ e => e) (.bool _)
theorem VR.none_iff {B0 h : Heap} {ρ : List Addr} {v : V} {x : Value} (r : VR B0 h ρ v x) : (x == Value.none) = isNone v := by
  cases r <;> rfl
theorem q_is : Q2 prog w mg mb B0 (compareOp .Is) isV := by
  intro A ρ σ s Q E a b v wa wb OA G HB C va vb e k
  unfold isV at e
  split at e
  rotate_left
  · cases e
  obtain rfl := vb.none_inv
  obtain rfl := Option.some.inj e
  with_reducible refine is_none ?_
  rw [va.none_iff]
  exact k _ s.heap s.toks (fun _ _ e => e) (.bool _)
theorem q_isNot : Q2 prog w mg mb B0 (compareOp .IsNot) isNotV := by
  intro A ρ σ s Q E a b v wa wb OA G HB C va vb e k
  unfold isNotV at e
  split at e
  rotate_left
  · cases e
  obtain rfl := vb.none_inv
  obtain rfl := Option.some.inj e
  have hp : plainIs wa Value.none = true := by cases va <;> rfl
  with_reducible refine wpAny_isNot_plain hp ?_
  rw [va.none_iff]
  exact k _ s.heap s.toks (fun _ _ e => e) (.bool _)
end
end NZ
namespace NZ
open _root_.PySem _root_.PySem.W _root_.PySem.Calls PyProof.Rows
/-- what holds behind a call -/
structure OPost (P : Params) (B0 : Heap) (ρ : List Addr) (h : Heap) (σ' : List Cell) (ρ' : List Addr) (h' : Heap) : Prop where
  c : CRel P B0 h' ρ' σ'
  pre : Pre ρ ρ'
  keep : ∀ b o, h.get? b = some o → b ∉ ρ → h'.get? b = some o
  new : ∀ a ∈ ρ', a ∈ ρ ∨ h.get? a = none
theorem OPost.of_keeps {P : Params} {B0 h h' : Heap} {ρ : List Addr} {σ : List Cell} (C : CRel P B0 h ρ σ) (k : ∀ b o, h.get? b = some o → h'.get? b = some o) : OPost P B0 ρ h σ ρ h' :=
  ⟨C.keeps (Imm.of_keeps k) fun a _ o e => k a o e, Pre.refl _, fun b o e _ => k b o e, fun a ha => .inl ha⟩
theorem Rel.of_op {P : Params} {B0 : Heap} {X : Act} {env : Env} {vars : List Str} {ρ ρ' : List Addr} {σ σ' : List Cell} {m : Loc} {h h' : Heap} (R : Rel P B0 X env vars ρ σ m h) (O : OPost P B0 ρ h σ' ρ' h') :
    Rel P B0 X env vars ρ' σ' m h' ∧ Imm h h' := by
  have im : Imm h h' := R.c.imm O.keep
  have ng : ∀ b o, X.g.get? b = some o → b ∉ ρ := fun b o e hm => by rw [(R.out b hm).1] at e; cases e
  have keepL : ∀ b o, h.get? b = some o → (b = env.locals ∨ b = X.L) → h'.get? b = some o := fun b o e hb => O.keep b o e fun hm => by
    obtain ⟨_, p, q⟩ := R.out b hm
    rcases hb with hb | hb
    · exact p hb
    · exact q hb
  refine ⟨⟨fun b o e => O.keep b o (R.stay b o e) (ng b o e), O.c, fun a ha => ?_, R.abv, ?_, fun x c e => ?_, R.ci, ?_⟩, im⟩
  · rcases O.new a ha with ha' | ha'
    · exact R.out a ha'
    · refine ⟨?_, fun q => ?_, fun q => ?_⟩
      · cases e : X.g.get? a with
        | none => rfl
        | some o => rw [R.stay a o e] at ha'; cases ha'
      · obtain ⟨mr, ⟨o, _, _, ho, _⟩, _⟩ := R.ns
        rw [q, ho] at ha'; cases ha'
      · obtain ⟨o, _, _, ho, _⟩ := R.fn
        rw [q, ho] at ha'; cases ha'
  · obtain ⟨o, es, n, ho, hd⟩ := R.fn
    exact ⟨o, es, n, keepL _ o ho (.inr rfl), hd⟩
  · obtain ⟨a, b, d, v, o, ho, hd⟩ := R.cl x c e
    refine ⟨fun hm => ?_, b, d, v, o, O.keep c o ho a, hd⟩
    rcases O.new c hm with q | q
    · exact a q
    · rw [ho] at q; cases q
  · obtain ⟨mr, hn, hv⟩ := R.ns
    refine ⟨mr, hn.at fun o e => keepL _ o e (.inl rfl), fun i x v e1 e2 => ?_⟩
    obtain ⟨w', hw, r⟩ := hv i x v e1 e2
    refine ⟨w', ?_, r.mono im O.pre⟩
    rcases hw with hw | ⟨hk, c, hc, o, ho, hd⟩
    · exact .inl hw
    · exact .inr ⟨hk, c, hc, o, O.keep c o ho (R.cl x c hc).1, hd⟩
/-- around a call -/
structure COk (w : World) (mg mb : Str → Option Value) (B0 : Heap) (A : Around) (base : Heap) (outer : List Env) (d : Nat) (ρ : List Addr) (h : Heap) : Prop where
  gd : Gd w mg mb B0
  hh : A.handled = none
  gu : A.guards = some []
  fr : A.frames = some outer
  dep : A.depth + d < recursionLimit
  un : A.units + 8 * d + 200 < cLine
  b0 : B0.StaysIn base
  bh : base.StaysIn h
  bn : ∀ a ∈ ρ, base.get? a = none
  ff : h.FunFrames base outer
  fn : ∀ env ∈ outer, ∀ a ∈ ρ, env.frame ≠ some a
theorem COk.a {w : World} {mg mb : Str → Option Value} {B0 : Heap} {A : Around} {base : Heap} {outer : List Env} {d : Nat} {ρ : List Addr} {h : Heap} (O : COk w mg mb B0 A base outer d ρ h) : AOk A := ⟨O.hh, O.gu, by have := O.dep; omega, by have := O.un; omega⟩
theorem COk.hb {w : World} {mg mb : Str → Option Value} {B0 : Heap} {A : Around} {base : Heap} {outer : List Env} {d : Nat} {ρ : List Addr} {h : Heap} (O : COk w mg mb B0 A base outer d ρ h) : B0.StaysIn h := fun b o e => O.bh b o (O.b0 b o e)
section
variable (ck : Bool) (prog : Program) (w : World) (mg mb : Str → Option Value) (B0 : Heap)
/-- a callable: what it does, as a plain function -/
noncomputable def CF (d : Nat) (t : List Value → Sem Value) (φ : List Cell → List V → Res V) : Prop :=
  ∀ (A : Around) (base : Heap) (outer : List Env) (ρ : List Addr) (σ : List Cell) (vs : List V) (ws : List Value) (s : Shared) (Q E : Value → Shared → Prop),
    COk w mg mb B0 A base outer d ρ s.heap → CRel w.params B0 s.heap ρ σ → VRs B0 s.heap ρ vs ws → φ σ vs ≠ .bad →
    (∀ v σ' ρ' x h' tk', φ σ vs = .ok v σ' → OPost w.params B0 ρ s.heap σ' ρ' h' → VR B0 h' ρ' v x → Q x { s with heap := h', toks := tk' }) →
    (∀ c, φ σ vs = .exc c → ∀ e a0 h' tk', Heap.FlyingW base outer e (.ref c) a0 h' → (hideAll s.heap ρ).UpToSlots h' → E (.ref e) { s with heap := h', toks := tk' }) →
    wpX ck (model prog w) A (t ws) Q E s
end
theorem Rel.cok {w : World} {mg mb : Str → Option Value} {B0 : Heap} {X : Act} {d : Nat} {env : Env} {vars : List Str} {ρ : List Addr} {σ : List Cell} {m : Loc} {h : Heap}
    (O : X.Ok w mg mb B0 d) (R : Rel w.params B0 X env vars ρ σ m h) {d' : Nat} (hd : d' ≤ d) : COk w mg mb B0 X.A X.base (X.fenv :: X.outer) d' ρ h where
  gd := O.gd
  hh := O.hh
  gu := O.gu
  fr := O.fr
  dep := by have := O.dep; omega
  un := by have := O.un; omega
  b0 := O.b0
  bh := fun b o e => R.stay b o (O.bg b o e)
  bn := fun a ha => by
    cases e : X.base.get? a with
    | none => rfl
    | some o => have := O.bg a o e; rw [(R.out a ha).1] at this; cases this
  ff := by
    refine ⟨by rw [O.fk]; decide, ?_, O.ff.of_keeps fun b o e _ => ⟨o, R.stay b o e, rfl⟩⟩
    obtain ⟨o, es, n, ho, hdt⟩ := R.fn
    refine ⟨X.L, o, O.fL, ?_, ho, fun vs q => by rw [hdt] at q; cases q⟩
    cases e : X.base.get? X.L with
    | none => rfl
    | some o => have := O.bg _ o e; rw [O.gL] at this; cases this
  fn := fun env' he a ha q => by
    cases he with
    | head => rw [O.fL] at q; exact (R.out a ha).2.2 (Option.some.inj q).symm
    | tail _ he =>
      obtain ⟨L, o, hf, ho⟩ := funFrames_in O.ff env' he
      rw [hf] at q
      cases q
      rw [(R.out a ha).1] at ho; cases ho
theorem Rel.exc {P : Params} {B0 : Heap} {X : Act} {env : Env} {vars : List Str} {ρ : List Addr} {σ : List Cell} {m : Loc} {h h' : Heap} (R : Rel P B0 X env vars ρ σ m h) {c e : Addr} {a0 : Value}
    (fl : Heap.FlyingW X.base (X.fenv :: X.outer) e (.ref c) a0 h') (up : (hideAll h ρ).UpToSlots h') : InFrame X c e h' :=
  ⟨(Heap.UpToSlots.of_keeps fun b o q => hideAll_get _ (R.stay b o q) fun hm => by rw [(R.out b hm).1] at q; cases q).trans up, .inr (.inl ⟨a0, fl⟩)⟩
/-- a keeper that is looked up with no harm -/
noncomputable def KOk (M : Model) (B0 : Heap) (f : Value) : Prop := ∀ h : Heap, B0.StaysIn h → ∃ k, (k = Keeper.frame ∨ k = Keeper.machine ∨ k = Keeper.boundFrame) ∧ Looks M h (keeperOf f) k
noncomputable def pCall (φ : List Cell → List V → Res V) (first : List V) (f : Loc → List Cell → Res (List V)) : Loc → List Cell → Res V := pBind f fun vs => fun _ σ => φ σ (first ++ vs)
section
variable {ck : Bool} {prog : Program} {w : World} {mg mb : Str → Option Value} {B0 : Heap} {q q1 q2 q3 : Bool} {d d' : Nat} {sc : Scope} {vars : List Str}
theorem backTo_any {pos : Pos} (l : List (Bool × Sem Value)) : (backTo pos l).any (·.1) = l.any (·.1) := by
  unfold backTo
  induction l with
  | nil => rfl
  | cons a r ih => obtain ⟨b, t⟩ := a; simp only [List.map_cons, List.any_cons]; rw [ih]
/-- the arguments, then the call -/
theorem call_run {X : Act} {env : Env} {ρ : List Addr} {σ : List Cell} {m : Loc} {s : Shared} {Q : Value → Shared → Prop} {E : Value → Shared → Prop} {pos : Pos} {es : List Expr} {fv : Value} {first : List Value} {vfirst : List V} {f : Loc → List Cell → Res (List V)} {φ : List Cell → List V → Res V}
    (O : X.Ok w mg mb B0 d) (Ek : EOk sc X env) (R : Rel w.params B0 X env vars ρ σ m s.heap) (hs : (starEach es env).any (·.1) = false)
    (ha : SA ck prog w mg mb B0 q d sc vars pos es f) (hk : KOk (model prog w) B0 fv) (hd : d' ≤ d) (hc : CF ck prog w mg mb B0 d' (fun ws => call fv ws) φ) (hf : VRs B0 s.heap ρ vfirst first)
    (nb : pCall φ vfirst f m σ ≠ .bad) (ex : ∀ c, pCall φ vfirst f m σ = .exc c → ExcTo X E s c)
    (ok : ∀ v σ' ρ' x h' tk', pCall φ vfirst f m σ = .ok v σ' → Post w.params B0 X env vars ρ m s.heap false σ' ρ' h' → VR B0 h' ρ' v x → Q x { s with heap := h', toks := tk' }) :
    wpX ck (model prog w) X.A (callWith pos fv first (backTo pos (starEach es env)) []) Q E s := by
  refine X_callWith (P := fun h => B0.StaysIn h) (by rw [backTo_any, hs]) hk ?_
  refine X_evalArgs hs (ha.step O Ek R nb ex fun vs σ1 ρ1 ws h1 tk1 P1 rs nb1 ex1 e1 => ⟨P1.rel.b0 O, ?_⟩)
  refine hc X.A X.base (X.fenv :: X.outer) ρ1 σ1 (vfirst ++ vs) (first ++ ws) _ Q E (P1.rel.cok O hd) P1.rel.c ((hf.mono P1.imm P1.pre).append rs) nb1 (fun v σ2 ρ2 x h2 tk2 e2 P2 r2 => ?_) fun c e2 e a0 h' tk' fl up => ?_
  · obtain ⟨R2, im⟩ := P1.rel.of_op P2
    exact ok v σ2 ρ2 x h2 tk2 (e1.trans e2) ⟨R2, P1.imm.trans im, P1.pre.trans P2.pre, fun z => by cases z⟩ r2
  · exact ex1 c e2 e h' tk' (P1.rel.exc fl up)
/-- a call of a global: a def, a class -/
theorem SV.call_glob {x : Str} {np pos : Pos} {es : List Expr} {fv : Value} {f : Loc → List Cell → Res (List V)} {φ : List Cell → List V → Res V}
    (hx : sc.names.lookup x = some .globalImplicit) (hg : mg x = some fv) (hk : KOk (model prog w) B0 fv) (hc : CF ck prog w mg mb B0 d' (fun ws => call fv ws) φ) (hd : d' ≤ d)
    (ha : SA ck prog w mg mb B0 q d sc vars pos es f) (hs : ∀ env, (starEach es env).any (·.1) = false := by intro _; rfl) (hdb : (x == ("__debug__" : Str)) = false := by decide) :
    SV ck prog w mg mb B0 false d sc vars (.Call (.Name x np) es [] pos) (pCall φ [] f) := by
  intro X env ρ σ m s Q E O Ek R nb ok ex
  refine X_Call_NameR (ax <| Name_function_global (by rw [Ek.is]; exact Ek.k) (by unfold Env.kindOf; rw [Ek.is]; exact hx) (loadGlobal_global (by rw [Ek.gl]; exact O.gd.g.keeps (R.b0 O)) hg ?_) hdb)
  exact call_run O Ek R (hs env) ha hk hd hc VRs.nil nb ex ok
/-- a call of a built-in by its name -/
theorem SV.call_builtin {x : Str} {np pos : Pos} {es : List Expr} {fv : Value} {f : Loc → List Cell → Res (List V)} {φ : List Cell → List V → Res V}
    (hx : sc.names.lookup x = some .globalImplicit) (hg : mg x = none) (hb : bootBuiltins x = some fv) (hn : x ≠ "__name__") (hk : KOk (model prog w) B0 fv) (hc : CF ck prog w mg mb B0 d' (fun ws => call fv ws) φ) (hd : d' ≤ d)
    (ha : SA ck prog w mg mb B0 q d sc vars pos es f) (hs : ∀ env, (starEach es env).any (·.1) = false := by intro _; rfl) (hdb : (x == ("__debug__" : Str)) = false := by decide) :
    SV ck prog w mg mb B0 false d sc vars (.Call (.Name x np) es [] pos) (pCall φ [] f) := by
  intro X env ρ σ m s Q E O Ek R nb ok ex
  refine X_Call_NameR (ax <| Name_function_global (by rw [Ek.is]; exact Ek.k) (by unfold Env.kindOf; rw [Ek.is]; exact hx)
    (loadGlobal_builtin (by rw [Ek.gl]; exact O.gd.g.keeps (R.b0 O)) hg (by rw [Ek.bi]; exact O.gd.b.keeps (R.b0 O)) ((O.gd.builtins x hn).trans hb) ?_) hdb)
  exact call_run O Ek R (hs env) ha hk hd hc VRs.nil nb ex ok
theorem kok_type {M : Model} {n : String} : KOk M B0 (.type n) := fun h _ => ⟨.machine, .inr (.inl rfl), Looks.of_pure rfl⟩
theorem kok_builtin {M : Model} {n : String} : KOk M B0 (.builtin n) := fun h _ => ⟨.machine, .inr (.inl rfl), Looks.of_pure rfl⟩
theorem kok_K {P : Params} {M : Model} {f : Value} (hX : (hd.heap_39 P).In B0) (hk : keepIn (hd.heap_39 P) f = true) : KOk M B0 f := fun h hb => keeps_K hk h (hX.keeps hb)
/-- quiet built-ins as callables -/
theorem CF.ofQ1 {t : Value → Sem Value} {F : List Cell → V → Option V} (h : Q1 prog w mg mb B0 t F) {u : List Value → Sem Value} (hu : ∀ a, u [a] = t a) :
    CF ck prog w mg mb B0 d u (fun σ vs => match vs with | [a] => (match F σ a with | some v => .ok v σ | none => .bad) | _ => .bad) := by
  intro A base outer ρ σ vs ws s Q E O C rs nb ok ex
  match vs, rs, nb, ok with
  | [a], rs, nb, ok =>
    obtain ⟨wa, ws', rfl, ra, rs'⟩ := rs.inv_cons
    obtain rfl := rs'.inv_nil
    rw [hu]
    cases e : F σ a with
    | none => simp [e] at nb
    | some v =>
      refine ax <| h A ρ σ s Q E a v wa O.a O.gd O.hb C ra e fun x h' tk' k r => ok v σ ρ x h' tk' (by simp [e]) (OPost.of_keeps C k) r
  | [], _, nb, _ => exact absurd rfl nb
  | _ :: _ :: _, _, nb, _ => exact absurd rfl nb
end
end NZ
namespace NZ
open _root_.PySem _root_.PySem.W _root_.PySem.Calls PyProof.Rows
noncomputable def upd (m : Loc) (i : Nat) (v : V) : Loc := fun j => if j = i then some v else m j
noncomputable def nov : Loc := fun _ => none
section
variable (ck : Bool) (prog : Program) (w : World) (mg mb : Str → Option Value) (B0 : Heap)
/-- statements -/
noncomputable def SS (d : Nat) (sc : Scope) (vars : List Str) (t : Env → Sem Flow) (f : Loc → List Cell → RS) : Prop :=
  ∀ (X : Act) (ρ : List Addr) (σ : List Cell) (m : Loc) (s : Shared) (Q : Flow → Shared → Prop) (E : Value → Shared → Prop),
    X.Ok w mg mb B0 d → EOk sc X X.fenv → X.fenv.locals = X.L → Rel w.params B0 X X.fenv vars ρ σ m s.heap → f m σ ≠ .bad →
    (∀ m' σ' ρ' h' tk', f m σ = .next m' σ' → Post w.params B0 X X.fenv vars ρ m' s.heap false σ' ρ' h' → Q .next { s with heap := h', toks := tk' }) →
    (∀ v σ' ρ' x h' tk', f m σ = .ret v σ' → Post w.params B0 X X.fenv vars ρ nov s.heap false σ' ρ' h' → VR B0 h' ρ' v x → Q (.ret x) { s with heap := h', toks := tk' }) →
    (∀ c, f m σ = .exc c → ExcTo X E s c) →
    wpX ck (model prog w) X.A (t X.fenv) Q E s
noncomputable abbrev S1 (d : Nat) (sc : Scope) (vars : List Str) (st : Stmt) (f : Loc → List Cell → RS) : Prop := SS ck prog w mg mb B0 d sc vars (fun env => exec st env) f
noncomputable abbrev SL (d : Nat) (sc : Scope) (vars : List Str) (st : List Stmt) (f : Loc → List Cell → RS) : Prop := SS ck prog w mg mb B0 d sc vars (fun env => execs st env) f
end
noncomputable def sBind {α : Type} (f : Loc → List Cell → Res α) (k : α → Loc → List Cell → RS) : Loc → List Cell → RS := fun m σ => match f m σ with
  | .ok a σ' => k a m σ'
  | .exc c => .exc c
  | .bad => .bad
theorem sBind_nb {α : Type} {f : Loc → List Cell → Res α} {k : α → Loc → List Cell → RS} {m : Loc} {σ : List Cell} (nb : sBind f k m σ ≠ .bad) : f m σ ≠ .bad := by
  intro e; apply nb; unfold sBind; rw [e]
theorem sBind_exc {α : Type} {f : Loc → List Cell → Res α} {k : α → Loc → List Cell → RS} {m : Loc} {σ : List Cell} {c : Addr} (e : f m σ = .exc c) : sBind f k m σ = .exc c := by
  unfold sBind; rw [e]
theorem sBind_ok {α : Type} {f : Loc → List Cell → Res α} {k : α → Loc → List Cell → RS} {m : Loc} {σ σ' : List Cell} {a : α} (e : f m σ = .ok a σ') : sBind f k m σ = k a m σ' := by
  unfold sBind; rw [e]
noncomputable def sSeq (f g : Loc → List Cell → RS) : Loc → List Cell → RS := fun m σ => match f m σ with
  | .next m' σ' => g m' σ'
  | .ret v σ' => .ret v σ'
  | .exc c => .exc c
  | .bad => .bad
noncomputable def sNil : Loc → List Cell → RS := fun m σ => .next m σ
noncomputable def sSet (i : Nat) (f : Loc → List Cell → Res V) : Loc → List Cell → RS := sBind f fun v => fun m σ => .next (upd m i v) σ
noncomputable def sRet (f : Loc → List Cell → Res V) : Loc → List Cell → RS := sBind f fun v => fun _ σ => .ret v σ
noncomputable def sIf (t : Loc → List Cell → Res Bool) (f g : Loc → List Cell → RS) : Loc → List Cell → RS := sBind t fun b => if b then f else g
noncomputable def sExpr (f : Loc → List Cell → Res V) : Loc → List Cell → RS := sBind f fun _ => fun m σ => .next m σ
noncomputable def sBad : Loc → List Cell → RS := fun _ _ => .bad
noncomputable def updAll (m : Loc) : List Nat → List V → Option Loc
  | [], [] => some m
  | i :: is, v :: vs => updAll (upd m i v) is vs
  | _, _ => none
noncomputable def sUnpack (is : List Nat) (f : Loc → List Cell → Res V) : Loc → List Cell → RS := sBind f fun v => fun m σ => match v with
  | .tup vs => match updAll m is vs with
    | some m' => .next m' σ
    | none => .bad
  | _ => .bad
noncomputable def sAug (i : Nat) (F : List Cell → V → V → Option V) (f : Loc → List Cell → Res V) : Loc → List Cell → RS := sBind (pBin F (pVar i) f) fun v => fun m σ => .next (upd m i v) σ
section
variable {ck : Bool} {prog : Program} {w : World} {mg mb : Str → Option Value} {B0 : Heap} {q q1 q2 q3 : Bool} {d d' : Nat} {sc : Scope} {vars : List Str}
theorem SG.stepS {α β : Type} {t : Env → Sem α} {f : Loc → List Cell → Res β} {RV : Heap → List Addr → β → α → Prop} {k : β → Loc → List Cell → RS}
    (ht : SG ck prog w mg mb B0 q1 d sc vars t f RV) {X : Act} {env : Env} {ρ : List Addr} {σ : List Cell} {m : Loc} {s : Shared} {Q : α → Shared → Prop} {E : Value → Shared → Prop}
    (O : X.Ok w mg mb B0 d) (Ek : EOk sc X env) (R : Rel w.params B0 X env vars ρ σ m s.heap) (nb : sBind f k m σ ≠ .bad) (ex : ∀ c, sBind f k m σ = .exc c → ExcTo X E s c)
    (next : ∀ a σ1 ρ1 x h1 tk1, Post w.params B0 X env vars ρ m s.heap false σ1 ρ1 h1 → RV h1 ρ1 a x → k a m σ1 ≠ .bad → (∀ c, k a m σ1 = .exc c → ExcTo X E s c) → sBind f k m σ = k a m σ1 →
      Q x { s with heap := h1, toks := tk1 }) : wpX ck (model prog w) X.A (t env) Q E s :=
  ht X env ρ σ m s Q E O Ek R (sBind_nb nb) (fun a σ1 ρ1 x h1 tk1 e P r => next a σ1 ρ1 x h1 tk1 (P.weak (by simp)) r (by rw [← sBind_ok (k := k) e]; exact nb) (fun c ec => ex c ((sBind_ok e).trans ec)) (sBind_ok e)) fun c e => ex c (sBind_exc e)
theorem Rel.forget {P : Params} {X : Act} {env : Env} {ρ : List Addr} {σ : List Cell} {m : Loc} {h : Heap} (R : Rel P B0 X env vars ρ σ m h) : Rel P B0 X env vars ρ σ nov h :=
  { R with ns := let ⟨mr, hn, _⟩ := R.ns; ⟨mr, hn, fun i x v a b => by cases b⟩ }
theorem Post.forget {P : Params} {X : Act} {env : Env} {ρ ρ' : List Addr} {σ : List Cell} {m : Loc} {h h' : Heap} {q : Bool} (R : Post P B0 X env vars ρ m h q σ ρ' h') : Post P B0 X env vars ρ nov h q σ ρ' h' :=
  ⟨R.rel.forget, R.imm, R.pre, R.quiet⟩
/-- from a place further on back to the start -/
theorem Post.back {P : Params} {X : Act} {env : Env} {ρ ρ1 ρ2 : List Addr} {σ1 σ2 : List Cell} {m m1 : Loc} {h h1 h2 : Heap} {q1 q2 : Bool} (x : Post P B0 X env vars ρ m h q1 σ1 ρ1 h1) (y : Post P B0 X env vars ρ1 m1 h1 q2 σ2 ρ2 h2) :
    Post P B0 X env vars ρ m1 h false σ2 ρ2 h2 := ⟨y.rel, x.imm.trans y.imm, x.pre.trans y.pre, fun e => by cases e⟩
theorem SL.nil : SL ck prog w mg mb B0 d sc vars [] sNil := fun X ρ σ m s Q E O Ek EL R nb nx rt ex => X_execs_nil (nx m σ ρ s.heap s.toks rfl (Post.refl R))
theorem SL.cons {st : Stmt} {rest : List Stmt} {f g : Loc → List Cell → RS} (h1 : S1 ck prog w mg mb B0 d sc vars st f) (h2 : SL ck prog w mg mb B0 d sc vars rest g) : SL ck prog w mg mb B0 d sc vars (st :: rest) (sSeq f g) := by
  intro X ρ σ m s Q E O Ek EL R nb nx rt ex
  refine X_execs_cons (h1 X ρ σ m s _ E O Ek EL R (fun e => nb (by unfold sSeq; rw [e])) (fun m1 σ1 ρ1 h1 tk1 e P1 => ?_) (fun v σ1 ρ1 x h1 tk1 e P1 r => rt v σ1 ρ1 x h1 tk1 (by unfold sSeq; rw [e]) P1 r) fun c e => ex c (by unfold sSeq; rw [e]))
  have eq : sSeq f g m σ = g m1 σ1 := by unfold sSeq; rw [e]
  rw [eq] at nb
  exact h2 X ρ1 σ1 m1 _ Q E O Ek EL P1.rel nb (fun m2 σ2 ρ2 h2 tk2 e2 P2 => nx m2 σ2 ρ2 h2 tk2 (eq.trans e2) (P1.back P2)) (fun v σ2 ρ2 x h2 tk2 e2 P2 r => rt v σ2 ρ2 x h2 tk2 (eq.trans e2) (P1.back P2) r) fun c e2 => ex c (eq.trans e2)
/-- behind a statement that returns nothing is asked -/
theorem SL.bad {st : List Stmt} : SL ck prog w mg mb B0 d sc vars st sBad := fun X ρ σ m s Q E O Ek EL R nb nx rt ex => absurd rfl nb
theorem store_local {X : Act} {ρ : List Addr} {σ : List Cell} {m : Loc} {s : Shared} {Q : Unit → Shared → Prop} {E : Value → Shared → Prop} {x : Str} {i : Nat} {v : V} {wv : Value} {P : Params} {M : Model} {A : Around}
    (Ek : EOk sc X X.fenv) (EL : X.fenv.locals = X.L) (R : Rel P B0 X X.fenv vars ρ σ m s.heap) (hi : vars[i]? = some x) (hnd : vars.Nodup) (hk : sc.names.lookup x = some .local) (va : VR B0 s.heap ρ v wv)
    (k : ∀ h', Post P B0 X X.fenv vars ρ (upd m i v) s.heap false σ ρ h' → (∀ b o, b ≠ X.L → s.heap.get? b = some o → h'.get? b = some o) → Q () { s with heap := h', toks := s.toks + 1 }) : wpAny M A (storeName X.fenv x wv) Q E s := by
  obtain ⟨mr, hn, hv⟩ := R.ns
  have hkind : X.fenv.kindOf x = some .local := by unfold Env.kindOf; rw [Ek.is]; exact hk
  refine wpAny_storeName_local hkind hn (fun h' hn' hs => ?_) (by rw [Ek.is, Ek.k]; rfl)
  have kept : ∀ b o, b ≠ X.fenv.locals → s.heap.get? b = some o → h'.get? b = some o := fun b o hb e => (hs.2 b hb).trans e
  have im : Imm s.heap h' := fun b o e i => by
    by_cases hb : b = X.fenv.locals
    · subst hb
      obtain ⟨o', es, ep, ho, hd, _⟩ := hn
      rw [ho] at e; cases e
      unfold immut at i
      rw [hd] at i
      exact i.elim
    · exact kept b o hb e
  refine k h' ⟨⟨fun b o e => kept b o (fun q => by rw [q, R.abv] at e; cases e) (R.stay b o e), R.c.keeps im fun a ha o e => kept a o (R.out a ha).2.1 e, R.out, R.abv, ?_, fun y c e => ?_, R.ci, _, hn', fun j y v' e1 e2 => ?_⟩, im, Pre.refl _, fun z => by cases z⟩ fun b o hb e => kept b o (by rw [EL]; exact hb) e
  · obtain ⟨o, es, n, ho, hd, _⟩ := hn'
    exact ⟨o, es, n, EL ▸ ho, hd⟩
  · obtain ⟨a, b, c', v', o, ho, hd⟩ := R.cl y c e
    exact ⟨a, b, c', v', o, kept _ _ c' ho, hd⟩
  · by_cases hj : j = i
    · subst hj
      rw [hi] at e1; cases e1
      unfold upd at e2; simp at e2; subst e2
      exact ⟨wv, .inl ⟨hkind, by simp⟩, va.mono im (Pre.refl _)⟩
    · unfold upd at e2; simp [hj] at e2
      obtain ⟨w', hw, r⟩ := hv j y v' e1 e2
      have hyx : y ≠ x := fun q => by
        subst q
        obtain ⟨l1, g1⟩ := List.getElem?_eq_some_iff.mp e1
        obtain ⟨l2, g2⟩ := List.getElem?_eq_some_iff.mp hi
        exact hj ((List.getElem_inj hnd).mp (g1.trans g2.symm))
      refine ⟨w', ?_, r.mono im (Pre.refl _)⟩
      rcases hw with ⟨a, b⟩ | ⟨hk', c, hc, o, ho, hd⟩
      · exact .inl ⟨a, by simp [hyx, b]⟩
      · exact .inr ⟨hk', c, hc, o, kept _ _ (R.cl y c hc).2.2.1 ho, hd⟩
theorem S1.set {x : Str} {i : Nat} {p pos : Pos} {e : Expr} {f : Loc → List Cell → Res V} (he : SV ck prog w mg mb B0 q d sc vars e f) (hi : vars[i]? = some x) (hnd : vars.Nodup) (hk : sc.names.lookup x = some .local)
    (hs : ∀ env, swapsWith e (some (.Name x p)) pos.line env = pure false := by intro _; rfl) : S1 ck prog w mg mb B0 d sc vars (.Assign [.Name x p] e pos) (sSet i f) := by
  intro X ρ σ m s Q E O Ek EL R nb nx rt ex
  refine X_Assign_Name (he.stepS O Ek R nb ex fun a σ1 ρ1 wa h1 tk1 P1 va nb1 ex1 e1 => ?_) (hs _)
  exact ax <| store_local Ek EL P1.rel hi hnd hk va fun h' P2 _ => nx _ σ1 ρ1 h' _ e1 (P1.back P2)
theorem S1.ret {e : Expr} {pos : Pos} {f : Loc → List Cell → Res V} (he : SV ck prog w mg mb B0 q d sc vars e f) : S1 ck prog w mg mb B0 d sc vars (.Return (some e) pos) (sRet f) := by
  intro X ρ σ m s Q E O Ek EL R nb nx rt ex
  refine X_Return (he.stepS O Ek R nb ex fun a σ1 ρ1 wa h1 tk1 P1 va nb1 ex1 e1 => ?_)
  exact rt a σ1 ρ1 wa h1 tk1 e1 P1.forget va
theorem S1.expr {e : Expr} {pos : Pos} {f : Loc → List Cell → Res V} (he : SV ck prog w mg mb B0 q d sc vars e f) (hs : ∀ env, swapsWith e none pos.line env = pure false := by intro _; rfl) : S1 ck prog w mg mb B0 d sc vars (.Expr e pos) (sExpr f) := by
  intro X ρ σ m s Q E O Ek EL R nb nx rt ex
  refine X_Expr (he.stepS O Ek R nb ex fun a σ1 ρ1 wa h1 tk1 P1 va nb1 ex1 e1 => nx m σ1 ρ1 h1 tk1 e1 P1) ?_ (hs _)
  unfold interactive; rw [Ek.is, Ek.k]; rfl
theorem S1.if_ {t : Expr} {a b : List Stmt} {pos : Pos} {ft : Loc → List Cell → Res Bool} {fa fb : Loc → List Cell → RS} (ht : ST ck prog w mg mb B0 q d sc vars t ft) (ha : SL ck prog w mg mb B0 d sc vars a fa) (hb : SL ck prog w mg mb B0 d sc vars b fb) :
    S1 ck prog w mg mb B0 d sc vars (.If t a b pos) (sIf ft fa fb) := by
  intro X ρ σ m s Q E O Ek EL R nb nx rt ex
  refine X_If (ht.stepS O Ek R nb ex fun x σ1 ρ1 wa h1 tk1 P1 va nb1 ex1 e1 => ?_)
  subst va
  cases wa with
  | true => exact ha X ρ1 σ1 m _ Q E O Ek EL P1.rel nb1 (fun m' σ' ρ' h' tk' e2 P2 => nx m' σ' ρ' h' tk' (e1.trans e2) (P1.back P2)) (fun v σ' ρ' x h' tk' e2 P2 r => rt v σ' ρ' x h' tk' (e1.trans e2) (P1.back P2) r) ex1
  | false => exact hb X ρ1 σ1 m _ Q E O Ek EL P1.rel nb1 (fun m' σ' ρ' h' tk' e2 P2 => nx m' σ' ρ' h' tk' (e1.trans e2) (P1.back P2)) (fun v σ' ρ' x h' tk' e2 P2 r => rt v σ' ρ' x h' tk' (e1.trans e2) (P1.back P2) r) ex1
theorem S1.aug {x : Str} {i : Nat} {p pos : Pos} {op : Operator} {e : Expr} {f : Loc → List Cell → Res V} {F : List Cell → V → V → Option V} (he : SV ck prog w mg mb B0 q d sc vars e f) (ho : Q2 prog w mg mb B0 (inplaceOp op) F)
    (hi : vars[i]? = some x) (hnd : vars.Nodup) (hk : sc.names.lookup x = some .local) (hc : (x == ("__classdict__" : Str)) = false := by decide) : S1 ck prog w mg mb B0 d sc vars (.AugAssign (.Name x p) op e pos) (sAug i F f) := by
  intro X ρ σ m s Q E O Ek EL R nb nx rt ex
  have nb0 := sBind_nb nb
  unfold pBin pBind pVar at nb0
  cases em : m i with
  | none => rw [em] at nb0; exact absurd rfl nb0
  | some v0 =>
  obtain ⟨mr, hn, hv⟩ := R.ns
  obtain ⟨x0, hx, vx⟩ := hv i x v0 hi em
  refine X_AugAssign_Name (ax <| holds_load Ek hn hx hc ?_)
  have ev : ∀ {β : Type} (k : V → Loc → List Cell → Res β), pBind (pVar i) k m σ = k v0 m σ := fun k => by unfold pBind pVar; rw [em]
  have e0 : sAug i F f m σ = sBind (pBind f fun b => pOp fun σ => F σ v0 b) (fun v => fun m σ => .next (upd m i v) σ) m σ := by
    unfold sAug sBind pBin; rw [ev]
  rw [e0] at nb nx rt ex
  refine he.step (k := fun b => pOp fun σ => F σ v0 b) O Ek R (sBind_nb nb) (fun c e => ex c (sBind_exc e)) fun b σ2 ρ2 wb h2 tk2 P2 vb nb2 ex2 e2 => ?_
  obtain ⟨v, ev', e3⟩ := pOp_nb nb2
  refine ax <| ho X.A ρ2 σ2 _ _ E v0 b v x0 wb O.a O.gd (P2.rel.b0 O) P2.rel.c (vx.mono P2.imm P2.pre) vb ev' fun y h3 tk3 k3 v3 => ?_
  exact ax <| store_local Ek EL (P2.then k3).rel hi hnd hk v3 fun h' P4 _ => nx _ σ2 ρ2 h' _ (sBind_ok (e2.trans e3)) ((P2.then k3).back P4)
/-- names in a row -/
inductive TN (sc : Scope) (vars : List Str) : List Expr → List Nat → Prop
  | nil : TN sc vars [] []
  | cons {x : Str} {p : Pos} {i : Nat} {es : List Expr} {is : List Nat} : vars[i]? = some x → sc.names.lookup x = some .local → TN sc vars es is → TN sc vars (.Name x p :: es) (i :: is)
theorem TN.assign {es : List Expr} {is : List Nat} (T : TN sc vars es is) {env : Env} : (assignEach es env).length = es.length ∧ (assignEach es env).findIdx? (·.1) = none := by
  induction T with
  | nil => exact ⟨rfl, rfl⟩
  | @cons x p i es is a b t ih =>
    have e : assignEach (.Name x p :: es) env = (false, PySem.assign (.Name x p) env) :: assignEach es env := rfl
    rw [e]
    exact ⟨by simp [ih.1], by simp [List.findIdx?_cons, ih.2]⟩
theorem TN.len {es : List Expr} {is : List Nat} (T : TN sc vars es is) : es.length = is.length := by
  induction T with
  | nil => rfl
  | cons a b t ih => exact congrArg (· + 1) ih
theorem names_store {X : Act} {P : Params} {M : Model} {A : Around} {E : Value → Shared → Prop} (Ek : EOk sc X X.fenv) (EL : X.fenv.locals = X.L) (hnd : vars.Nodup) {es : List Expr} {is : List Nat} (T : TN sc vars es is) :
    ∀ (vs : List V) (ws : List Value) (ρ : List Addr) (σ : List Cell) (m m' : Loc) (s : Shared) (Q : Unit → Shared → Prop),
    Rel P B0 X X.fenv vars ρ σ m s.heap → VRs B0 s.heap ρ vs ws → updAll m is vs = some m' →
    (∀ h' tk', Post P B0 X X.fenv vars ρ m' s.heap false σ ρ h' → (∀ b o, b ≠ X.L → s.heap.get? b = some o → h'.get? b = some o) → Q () { s with heap := h', toks := tk' }) →
    wpAny M A (assignInOrder ((assignEach es X.fenv).map (·.2)) ws) Q E s := by
  induction T with
  | nil =>
    intro vs ws ρ σ m m' s Q R r e k
    cases vs with
    | cons v vs => cases e
    | nil =>
      obtain rfl := r.inv_nil
      cases e
      exact wpAny_assignInOrder_none (k s.heap s.toks (Post.refl R) fun _ _ _ e => e)
  | @cons x p i es is a b t ih =>
    intro vs ws ρ σ m m' s Q R r e k
    cases vs with
    | nil => cases e
    | cons v vs =>
      obtain ⟨wv, ws', rfl, rv, rs⟩ := r.inv_cons
      have ea : assignEach (.Name x p :: es) X.fenv = (false, PySem.assign (.Name x p) X.fenv) :: assignEach es X.fenv := rfl
      rw [ea]
      refine wpAny_assignInOrder_more (wpAny_assign_Name (store_local Ek EL R a hnd b rv fun h1 P1 k1 => ?_))
      exact ih vs ws' ρ σ (upd m i v) m' _ Q P1.rel (rs.mono P1.imm P1.pre) e fun h' tk' P2 k2 => k h' tk' (P1.back P2) fun b o hb e => k2 b o hb (k1 b o hb e)
theorem S1.unpack {es : List Expr} {k : Nat} {p pos : Pos} {is : List Nat} {e : Expr} {f : Loc → List Cell → Res V} (he : SV ck prog w mg mb B0 q d sc vars e f) (T : TN sc vars es is) (hnd : vars.Nodup)
    (hs : ∀ env, swapsWithSole [.Tuple es k p] e pos.line env = pure false := by intro _; rfl) (hw : ∀ env, swappedStores [.Tuple es k p] e env = pure none := by intro _; rfl) :
    S1 ck prog w mg mb B0 d sc vars (.Assign [.Tuple es k p] e pos) (sUnpack is f) := by
  intro X ρ σ m s Q E O Ek EL R nb nx rt ex
  refine X_Assign_stores (he.stepS O Ek R nb ex fun a σ1 ρ1 wa h1 tk1 P1 va nb1 ex1 e1 => ?_) (hs _) (hw _)
  cases a with
  | tup vs =>
    obtain ⟨_, _, rfl, ht, hl, hel⟩ := va.tup_inv
    dsimp only at nb1 e1
    cases eu : updAll m is vs with
    | none => rw [eu] at nb1; exact absurd rfl nb1
    | some m' =>
      rw [eu] at e1
      have rs : VRs B0 h1 ρ1 vs _ := ⟨hl, hel⟩
      have lens : ∀ (is : List Nat) (vs : List V) (m m' : Loc), updAll m is vs = some m' → is.length = vs.length := by
        intro is
        induction is with
        | nil => intro vs m m' e; cases vs with | nil => rfl | cons => cases e
        | cons i is ih => intro vs m m' e; cases vs with | nil => cases e | cons v vs => exact congrArg (· + 1) (ih vs _ _ e)
      have len2 := T.len
      obtain ⟨q1, q2⟩ := T.assign (env := X.fenv)
      refine ax <| wpAny_assign_Tuple (x1 := k) (s := { s with heap := h1, toks := tk1 }) O.hh ht (by rw [q1, len2, lens _ _ _ _ eu, hl, List.size_toArray]) q2 fun h' hx => ?_
      have kp : ∀ b o, h1.get? b = some o → h'.get? b = some o := fun b o e => hx b o (Nat.ne_of_lt (Heap.lt_size e)) e
      refine names_store Ek EL hnd T vs _ ρ1 σ1 m m' _ _ (P1.then kp).rel (rs.mono (Imm.of_keeps kp) (Pre.refl _)) eu fun h2 tk2 P2 _ => ?_
      exact nx m' σ1 ρ1 h2 tk2 e1 ((P1.then kp).back P2)
  | _ => exact absurd rfl nb1
/-- the answer of a body -/
noncomputable def bodyOf (f : Loc → List Cell → RS) (m : Loc) (σ : List Cell) : Res V := match f m σ with
  | .next _ σ' => .ok .none σ'
  | .ret v σ' => .ok v σ'
  | .exc c => .exc c
  | .bad => .bad
/-- a def, entered -/
theorem CF.of_def {a : Addr} {o : Obj} {fd : FuncData} {body : List Stmt} {n : Nat} {F : Loc → List Cell → RS} {bnd : List Value → List (Str × Value)} {m0 : List V → Loc}
    (ho : B0.get? a = some o) (hdata : o.data = .func fd) (hcd : B0.CodeRec fd.code fd.qualname) (hbody : fd.body = .stmts body) (hsc : fd.scope = sc)
    (hgl : fd.globals = mainGlobals) (hbi : fd.builtins = builtinsNs) (hcl : fd.closure = [])
    (hbind : ∀ (s : Shared) (ws : List Value), B0.StaysIn s.heap → ws.length = n → BindsTo s fd ⟨ws, []⟩ (bnd ws))
    (hloc : ∀ ws, ws.length = n → ∀ x ∈ bnd ws, sc.names.lookup x.1 = some .local)
    (hm0 : ∀ (h : Heap) (ρ : List Addr) (vs : List V) (ws : List Value), VRs B0 h ρ vs ws → ws.length = n → ∀ (i : Nat) (x : Str) (v : V), vars[i]? = some x → m0 vs i = some v → sc.names.lookup x = some .local ∧ ∃ w', (bnd ws).reverse.lookup x = some w' ∧ VR B0 h ρ v w')
    (hcell : ∀ x ∈ sc.names, x.2 ≠ .cell) (hco : sc.isCoroutine = false) (hgen : sc.isGenerator = false) (hk : sc.kind = .function)
    (hS : SL ck prog w mg mb B0 d sc vars body F) (hdd : d + 2 ≤ d') (h50 : d < 50 := by decide) :
    CF ck prog w mg mb B0 d' (fun ws => call (.ref a) ws) (fun σ vs => if vs.length = n then bodyOf F (m0 vs) σ else .bad) := by
  intro A base outer ρ σ vs ws s Q E O C rs nb ok ex
  have hn : vs.length = n := by
    by_cases q : vs.length = n
    · exact q
    · simp [q] at nb
  simp only [hn, if_true] at nb ok ex
  have hw : ws.length = n := rs.1 ▸ hn
  subst hsc
  refine NZ.X.call (codeX_def (fd := fd) (body := body) (binds := bnd ws) (by have := O.dep; omega) (O.hb _ _ ho) hdata (O.gd.nolimit.keeps O.hb) (hcd.keeps O.hb) hbody (hbind s ws O.hb hw) hcell (hloc ws hw) (fun h0 hns kp => ?_) hco hgen hk)
  -- the new activation
  have hnew : s.heap.objs.size ∉ ρ := fun hm => by
    obtain ⟨_, _, o', _, _, ho', _⟩ := C.cellOf hm
    exact absurd (Heap.lt_size ho') (Nat.lt_irrefl _)
  have hgn : (hideAll s.heap ρ).get? s.heap.objs.size = none := by
    cases e : (hideAll s.heap ρ).get? s.heap.objs.size with
    | none => rfl
    | some o' => exact absurd (Heap.lt_size (of_hideAll _ e)) (Nat.lt_irrefl _)
  let X : Act := ⟨A.deeper (callEnv fd s.heap.objs.size a), base, hideAll s.heap ρ, outer, callEnv fd s.heap.objs.size a, s.heap.objs.size⟩
  have env : X.fenv = { scope := fd.scope, locals := s.heap.objs.size, globals := mainGlobals, cells := [], qual := fd.qualname ++ ".<locals>.", func := some a, code := fd.code, frame := some s.heap.objs.size, builtins := builtinsNs } := by
    show callEnv fd s.heap.objs.size a = _
    unfold callEnv newEnv
    rw [hgl, hbi, hcl]
  have OX : X.Ok w mg mb B0 d := {
    gd := O.gd
    hh := O.hh
    gu := O.gu
    fr := Around.frames_deeper O.fr
    dep := by have := O.dep; show A.depth + 1 + d < recursionLimit; omega
    un := by have := O.un; show A.units + 3 + 8 * d + 200 < cLine; omega
    b0 := O.b0
    bg := fun b o' e => hideAll_get _ (O.bh b o' e) fun hm => by rw [O.bn b hm] at e; cases e
    ff := funFrames_hideAll O.ff O.fn
    fL := by rw [env]
    fk := by rw [env]; exact hk
    gL := hgn
    top := fun h => absurd h (by omega) }
  have EX : EOk fd.scope X X.fenv := ⟨by rw [env], by rw [env], by rw [env], hk, by rw [env], fun p hp => (by rw [env] at hp; cases hp), fun x hx => absurd rfl (hcell (x, .cell) (mem_of_lookup hx))⟩
  have EL : X.fenv.locals = X.L := by rw [env]
  have im : Imm s.heap h0 := Imm.of_keeps kp
  have RX : Rel w.params B0 X X.fenv vars ρ σ (m0 vs) h0 := {
    stay := fun b o' e => kp b o' (of_hideAll _ e)
    c := C.keeps im fun a' _ o' e => kp a' o' e
    out := fun a' ha => ⟨hideAll_none _ ha, fun q => by rw [EL] at q; exact hnew ((show a' = s.heap.objs.size from q) ▸ ha), fun q => hnew ((show a' = s.heap.objs.size from q) ▸ ha)⟩
    abv := by rw [EL]; exact hgn
    fn := by
      obtain ⟨o', es, ep, h1, h2, _⟩ := hns
      exact ⟨o', es, ep, h1, h2⟩
    cl := fun x c e => by rw [env] at e; cases e
    ci := fun x y c e => by rw [env] at e; cases e
    ns := by
      refine ⟨_, by rw [EL]; exact hns, fun i x v e1 e2 => ?_⟩
      obtain ⟨h1, w', h2, r⟩ := hm0 s.heap ρ vs ws rs hw i x v e1 e2
      exact ⟨w', .inl ⟨by unfold Env.kindOf; rw [env]; exact h1, h2⟩, r.mono im (Pre.refl _)⟩ }
  have post : ∀ {σ' : List Cell} {ρ' : List Addr} {h' : Heap} {m' : Loc}, Post w.params B0 X X.fenv vars ρ m' h0 false σ' ρ' h' → OPost w.params B0 ρ s.heap σ' ρ' h' := fun P => by
    refine ⟨P.rel.c, P.pre, fun b o' e hb => P.rel.stay b o' (hideAll_get _ e hb), fun a' ha => ?_⟩
    by_cases q : a' ∈ ρ
    · exact .inl q
    · refine .inr ?_
      cases e : s.heap.get? a' with
      | none => rfl
      | some o' => have := (P.rel.out a' ha).1; rw [show X.g = hideAll s.heap ρ from rfl, hideAll_get _ e q] at this; cases this
  refine hS X ρ σ (m0 vs) _ _ _ OX EX EL RX (fun e => nb (by unfold bodyOf; rw [e])) (fun m' σ' ρ' h' tk' e P => ?_) (fun v σ' ρ' x h' tk' e P r => ?_) fun c e => ?_
  · exact ok .none σ' ρ' .none h' tk' (by unfold bodyOf; rw [e]) (post P) .none
  · exact ok v σ' ρ' x h' tk' (by unfold bodyOf; rw [e]) (post P) r
  · intro e' h' tk' I
    refine I.leave OX (s := { s with heap := h', toks := tk' }) fun h2 a0 up fl => ?_
    exact ex c (by unfold bodyOf; rw [e]) e' a0 h2 tk' fl up
theorem lookup_nodup {α : Type} : ∀ {l : List (Str × α)} {x : Str} {a : α}, (l.map (·.1)).Nodup → (x, a) ∈ l → l.lookup x = some a
  | (y, b) :: r, x, a, hn, hm => by
    simp only [List.map_cons, List.nodup_cons] at hn
    rcases List.mem_cons.mp hm with e | hm
    · cases e; simp [List.lookup_cons]
    · have hne : (x == y) = false := by
        cases q : x == y with
        | false => rfl
        | true => exact absurd (List.mem_map.mpr ⟨_, hm, by have := eq_of_beq q; exact this⟩) hn.1
      rw [List.lookup_cons, hne]
      exact lookup_nodup hn.2 hm
/-- the plain binding of positional arguments -/
theorem bind_zip {names : List Str} {vs : List V} {ws : List Value} {h : Heap} {ρ : List Addr} (rs : VRs B0 h ρ vs ws) (hl : names.length = ws.length) (hnd : names.Nodup) {i : Nat} {x : Str} {v : V} (hi : names[i]? = some x) (hv : vs[i]? = some v) :
    ∃ w', (names.zip ws).reverse.lookup x = some w' ∧ VR B0 h ρ v w' := by
  obtain ⟨w', hw, r⟩ := rs.at hv
  refine ⟨w', lookup_nodup ?_ ?_, r⟩
  · rw [List.map_reverse, List.map_fst_zip (by omega)]
    exact List.pairwise_reverse.mpr (hnd.imp fun q => Ne.symm q)
  · rw [List.mem_reverse]
    exact List.mem_of_getElem? (i := i) (by rw [List.getElem?_zip_eq_some]; exact ⟨hi, hw⟩)
/-- a def with positional arguments alone -/
theorem CF.of_plain {a : Addr} {o : Obj} {fd : FuncData} {body : List Stmt} {names : List Str} {F : Loc → List Cell → RS}
    (ho : B0.get? a = some o) (hdata : o.data = .func fd) (hcd : B0.CodeRec fd.code fd.qualname) (hbody : fd.body = .stmts body) (hsc : fd.scope = sc)
    (hgl : fd.globals = mainGlobals) (hbi : fd.builtins = builtinsNs) (hcl : fd.closure = [])
    (hbind : ∀ ws : List Value, ws.length = names.length → bindArgs fd ⟨ws, []⟩ = pure (names.zip ws))
    (hpre : ∃ more, vars = names ++ more) (hnd : names.Nodup)
    (hloc : ∀ x ∈ names, sc.names.lookup x = some .local)
    (hcell : ∀ x ∈ sc.names, x.2 ≠ .cell) (hco : sc.isCoroutine = false) (hgen : sc.isGenerator = false) (hk : sc.kind = .function)
    (hS : SL ck prog w mg mb B0 d sc vars body F) (hdd : d + 2 ≤ d') (h50 : d < 50 := by decide) :
    CF ck prog w mg mb B0 d' (fun ws => call (.ref a) ws) (fun σ vs => if vs.length = names.length then bodyOf F (fun i => vs[i]?) σ else .bad) := by
  refine CF.of_def (bnd := fun ws => names.zip ws) (m0 := fun vs i => vs[i]?) ho hdata hcd hbody hsc hgl hbi hcl (fun s ws _ hw => BindsTo.of_eq (hbind ws hw)) (fun ws hw x hx => ?_) (fun h ρ vs ws rs hw i x v e1 e2 => ?_) hcell hco hgen hk hS hdd h50
  · obtain ⟨y, z⟩ := x
    exact hloc y (List.of_mem_zip hx).1
  · obtain ⟨more, rfl⟩ := hpre
    have hi : i < names.length := by
      have := (List.getElem?_eq_some_iff.mp e2).1
      rw [rs.1, hw] at this; exact this
    rw [List.getElem?_append_left hi] at e1
    exact ⟨hloc x (List.mem_of_getElem? e1), bind_zip rs hw.symm hnd e1 e2⟩
end
end NZ
namespace NZ
open _root_.PySem _root_.PySem.W _root_.PySem.Calls PyProof.Rows
noncomputable def ownOf (X : Act) : List Addr := X.L :: X.fenv.cells.map (·.2)
noncomputable def wide (X : Act) (ρ : List Addr) (h : Heap) : Act := { X with g := hideAll h (ρ ++ ownOf X) }
section
variable {ck : Bool} {prog : Program} {w : World} {mg mb : Str → Option Value} {B0 : Heap} {q q1 q2 q3 : Bool} {d d' : Nat} {sc : Scope} {vars : List Str}
  {X : Act} {ρ : List Addr} {σ : List Cell} {m : Loc} {h : Heap}
theorem g_not (O : X.Ok w mg mb B0 d) (Ek : EOk sc X X.fenv) (R : Rel w.params B0 X X.fenv vars ρ σ m h) {b : Addr} (hb : b ∈ ρ ++ ownOf X) : X.g.get? b = none := by
  rcases List.mem_append.mp hb with hb | hb
  · exact (R.out b hb).1
  · rcases List.mem_cons.mp hb with rfl | hb
    · exact O.gL
    · obtain ⟨p, hp, rfl⟩ := List.mem_map.mp hb
      exact (R.cl p.1 p.2 (Ek.cm p hp)).2.1
theorem g_in_wide (O : X.Ok w mg mb B0 d) (Ek : EOk sc X X.fenv) (R : Rel w.params B0 X X.fenv vars ρ σ m h) : X.g.StaysIn (wide X ρ h).g := fun b o e =>
  hideAll_get _ (R.stay b o e) fun hm => by rw [g_not O Ek R hm] at e; cases e
theorem wide_ok (O : X.Ok w mg mb B0 d) (Ek : EOk sc X X.fenv) (R : Rel w.params B0 X X.fenv vars ρ σ m h) : (wide X ρ h).Ok w mg mb B0 d :=
  { gd := O.gd, hh := O.hh, gu := O.gu, fr := O.fr, dep := O.dep, un := O.un, b0 := O.b0
    bg := fun b o e => g_in_wide O Ek R b o (O.bg b o e)
    ff := O.ff.of_keeps fun b o e _ => ⟨o, g_in_wide O Ek R b o e, rfl⟩
    fL := O.fL, fk := O.fk
    gL := hideAll_none _ (List.mem_append_right _ List.mem_cons_self)
    top := O.top }
theorem wide_rel (O : X.Ok w mg mb B0 d) (Ek : EOk sc X X.fenv) (EL : X.fenv.locals = X.L) (R : Rel w.params B0 X X.fenv vars ρ σ m h) : Rel w.params B0 (wide X ρ h) X.fenv vars ρ σ m h :=
  { stay := fun b o e => of_hideAll _ e
    c := R.c
    out := fun a ha => ⟨hideAll_none _ (List.mem_append_left _ ha), (R.out a ha).2⟩
    abv := by rw [EL]; exact hideAll_none _ (List.mem_append_right _ List.mem_cons_self)
    fn := R.fn
    cl := fun x c e => by
      obtain ⟨a, b, c', d'⟩ := R.cl x c e
      refine ⟨a, hideAll_none _ (List.mem_append_right _ (List.mem_cons_of_mem _ (List.mem_map.mpr ⟨(x, c), ?_, rfl⟩))), c', d'⟩
      have : ∀ {l : List (Str × Addr)}, l.lookup x = some c → (x, c) ∈ l := fun {l} => by
        induction l with
        | nil => intro z; cases z
        | cons p r ih =>
          obtain ⟨y, b⟩ := p
          intro z
          rw [List.lookup_cons] at z
          cases q : x == y with
          | true => rw [q] at z; cases z; rw [eq_of_beq q]; exact List.mem_cons_self
          | false => rw [q] at z; exact List.mem_cons_of_mem _ (ih z)
      exact this e
    ci := R.ci
    ns := R.ns }
theorem narrow {ρ' : List Addr} {σ' : List Cell} {m' : Loc} {h' : Heap} (O : X.Ok w mg mb B0 d) (Ek : EOk sc X X.fenv) (R : Rel w.params B0 X X.fenv vars ρ σ m h) (R' : Rel w.params B0 (wide X ρ h) X.fenv vars ρ' σ' m' h') :
    Rel w.params B0 X X.fenv vars ρ' σ' m' h' :=
  have k : ∀ a, (wide X ρ h).g.get? a = none → X.g.get? a = none := fun a e => by
    cases z : X.g.get? a with
    | none => rfl
    | some o => rw [g_in_wide O Ek R a o z] at e; cases e
  { stay := fun b o e => R'.stay b o (g_in_wide O Ek R b o e)
    c := R'.c
    out := fun a ha => ⟨k a (R'.out a ha).1, (R'.out a ha).2⟩
    abv := k _ R'.abv
    fn := R'.fn
    cl := fun x c e => let ⟨a, b, c', d'⟩ := R'.cl x c e; ⟨a, k _ b, c', d'⟩
    ci := R'.ci
    ns := R'.ns }
/-- what a run of statements leaves alone -/
noncomputable def Kept (X : Act) (ρ : List Addr) (h h' : Heap) : Prop := ∀ b o, h.get? b = some o → b ∉ ρ → b ∉ ownOf X → h'.get? b = some o
theorem SS.keep {t : Env → Sem Flow} {f : Loc → List Cell → RS} (hS : SS ck prog w mg mb B0 d sc vars t f) {s : Shared} {Q : Flow → Shared → Prop} {E : Value → Shared → Prop}
    (O : X.Ok w mg mb B0 d) (Ek : EOk sc X X.fenv) (EL : X.fenv.locals = X.L) (R : Rel w.params B0 X X.fenv vars ρ σ m s.heap) (nb : f m σ ≠ .bad)
    (nx : ∀ m' σ' ρ' h' tk', f m σ = .next m' σ' → Post w.params B0 X X.fenv vars ρ m' s.heap false σ' ρ' h' → Kept X ρ s.heap h' → Q .next { s with heap := h', toks := tk' })
    (rt : ∀ v σ' ρ' x h' tk', f m σ = .ret v σ' → Post w.params B0 X X.fenv vars ρ nov s.heap false σ' ρ' h' → Kept X ρ s.heap h' → VR B0 h' ρ' v x → Q (.ret x) { s with heap := h', toks := tk' })
    (ex : ∀ c, f m σ = .exc c → ExcTo X E s c) : wpX ck (model prog w) X.A (t X.fenv) Q E s := by
  have kept : ∀ {ρ' σ' m' h'}, Rel w.params B0 (wide X ρ s.heap) X.fenv vars ρ' σ' m' h' → Kept X ρ s.heap h' := fun R' b o e h1 h2 =>
    R'.stay b o (hideAll_get _ e fun hm => (List.mem_append.mp hm).elim h1 h2)
  refine hS (wide X ρ s.heap) ρ σ m s Q E (wide_ok O Ek R) ⟨Ek.is, Ek.gl, Ek.bi, Ek.k, Ek.fr, Ek.cm, Ek.ce⟩ EL (wide_rel O Ek EL R) nb (fun m' σ' ρ' h' tk' e P => ?_) (fun v σ' ρ' x h' tk' e P r => ?_) fun c e => ?_
  · exact nx m' σ' ρ' h' tk' e ⟨narrow O Ek R P.rel, P.imm, P.pre, P.quiet⟩ (kept P.rel)
  · exact rt v σ' ρ' x h' tk' e ⟨narrow O Ek R P.rel, P.imm, P.pre, P.quiet⟩ (kept P.rel) r
  · intro e' h' tk' I
    exact ex c e e' h' tk' ⟨(Heap.UpToSlots.of_keeps (g_in_wide O Ek R)).trans I.1, I.2⟩
theorem exc_out {s : Shared} {E : Value → Shared → Prop} {c : Addr} (O : X.Ok w mg mb B0 d) (k : ExcTo X E s c) : ExcTo X (notedBy (model prog w) X.A X.fenv fun e s' => cameBackBy (model prog w) X.A X.fenv E e s') s c := by
  intro e h' tk' I
  unfold notedBy
  refine I.note O (s := { s with heap := h', toks := tk' }) fun h2 a0 up H => ?_
  exact held_back O (s := { s with heap := h2, toks := tk' }) up H fun h3 I3 => k e h3 tk' I3
/-- while -/
noncomputable def wIter (t : Loc → List Cell → Res Bool) (b : Loc → List Cell → RS) : Nat → Loc → List Cell → RS
  | 0 => sBad
  | n + 1 => sIf t (sSeq b (wIter t b n)) sNil
theorem S1.while_n {t : Expr} {b : List Stmt} {pos : Pos} {ft : Loc → List Cell → Res Bool} {fb : Loc → List Cell → RS} (ht : ST ck prog w mg mb B0 q d sc vars t ft) (hb : SL ck prog w mg mb B0 d sc vars b fb) (N : Nat) :
    S1 ck prog w mg mb B0 d sc vars (.While t b [] pos) (wIter ft fb N) := by
  intro X ρ σ m s Q E O Ek EL R nb nx rt ex
  refine X_While (codeX_while (I := fun n s' => ∃ ρ1 σ1 m1 h1 tk1, s' = { s with heap := h1, toks := tk1 } ∧ Post w.params B0 X X.fenv vars ρ m1 s.heap false σ1 ρ1 h1 ∧ wIter ft fb n m1 σ1 = wIter ft fb N m σ) ?_ N ⟨ρ, σ, m, s.heap, s.toks, rfl, Post.refl R, rfl⟩)
  rintro n s' ⟨ρ1, σ1, m1, h1, tk1, rfl, P1, e1⟩
  cases n with
  | zero => exact absurd e1.symm nb
  | succ n =>
    rw [← e1] at nb nx rt ex
    have nb' : sBind ft (fun b => if b then sSeq fb (wIter ft fb n) else sNil) m1 σ1 ≠ .bad := nb
    have ex' : ∀ c, sBind ft (fun b => if b then sSeq fb (wIter ft fb n) else sNil) m1 σ1 = .exc c → ExcTo X E s c := ex
    refine ht.stepS (s := { s with heap := h1, toks := tk1 }) O Ek P1.rel nb' (fun c e => exc_out O (ex' c e)) fun x σ2 ρ2 wa h2 tk2 P2 va nb2 ex2 e2 => ?_
    subst va
    cases wa with
    | false =>
      refine X_execs_nil ?_
      exact nx m1 σ2 ρ2 h2 tk2 e2 (P1.back P2)
    | true =>
      refine hb X ρ2 σ2 m1 _ _ _ O Ek EL P2.rel (fun e => nb2 (by show sSeq fb _ m1 σ2 = _; unfold sSeq; rw [e])) (fun m3 σ3 ρ3 h3 tk3 e3 P3 => ?_) (fun v σ3 ρ3 x h3 tk3 e3 P3 r => ?_) fun c e3 => ?_
      · refine ⟨n, Nat.lt_succ_self n, ρ3, σ3, m3, h3, tk3, rfl, P1.back (P2.back P3), ?_⟩
        have e4 : sSeq fb (wIter ft fb n) m1 σ2 = wIter ft fb n m3 σ3 := by unfold sSeq; rw [e3]
        exact (e4.symm.trans e2.symm).trans e1
      · exact rt v σ3 ρ3 x h3 tk3 (e2.trans (by show sSeq fb _ m1 σ2 = _; unfold sSeq; rw [e3])) (P1.back (P2.back P3)) r
      · exact exc_out O (ex c (e2.trans (by show sSeq fb _ m1 σ2 = _; unfold sSeq; rw [e3])))
open Classical in
noncomputable def sWhile (t : Loc → List Cell → Res Bool) (b : Loc → List Cell → RS) : Loc → List Cell → RS := fun m σ =>
  if h : ∃ n, wIter t b n m σ ≠ .bad then wIter t b h.choose m σ else .bad
theorem S1.while_ {t : Expr} {b : List Stmt} {pos : Pos} {ft : Loc → List Cell → Res Bool} {fb : Loc → List Cell → RS} (ht : ST ck prog w mg mb B0 q d sc vars t ft) (hb : SL ck prog w mg mb B0 d sc vars b fb) :
    S1 ck prog w mg mb B0 d sc vars (.While t b [] pos) (sWhile ft fb) := by
  intro X ρ σ m s Q E O Ek EL R nb nx rt ex
  unfold sWhile at nb nx rt ex
  by_cases h : ∃ n, wIter ft fb n m σ ≠ .bad
  · rw [dif_pos h] at nb nx rt ex
    exact S1.while_n ht hb h.choose X ρ σ m s Q E O Ek EL R nb nx rt ex
  · rw [dif_neg h] at nb; exact absurd rfl nb
theorem wIter_succ {t : Loc → List Cell → Res Bool} {b : Loc → List Cell → RS} : ∀ (n : Nat) (m : Loc) (σ : List Cell), wIter t b n m σ ≠ .bad → wIter t b (n + 1) m σ = wIter t b n m σ := by
  intro n
  induction n with
  | zero => intro m σ h; exact absurd rfl h
  | succ n ih =>
    intro m σ h
    show sBind t _ m σ = sBind t _ m σ
    have h' : sBind t (fun b' => if b' then sSeq b (wIter t b n) else sNil) m σ ≠ .bad := h
    unfold sBind at h' ⊢
    cases e : t m σ with
    | bad => rfl
    | exc c => rfl
    | ok a σ' =>
      rw [e] at h'
      cases a with
      | false => rfl
      | true =>
        show sSeq b (wIter t b (n + 1)) m σ' = sSeq b (wIter t b n) m σ'
        have h2 : sSeq b (wIter t b n) m σ' ≠ .bad := h'
        unfold sSeq at h2 ⊢
        cases eb : b m σ' with
        | next m' σ'' => rw [eb] at h2; exact ih m' σ'' h2
        | ret v σ'' => rfl
        | exc c => rfl
        | bad => rfl
theorem wIter_le {t : Loc → List Cell → Res Bool} {b : Loc → List Cell → RS} {n n' : Nat} {m : Loc} {σ : List Cell} (h : wIter t b n m σ ≠ .bad) (hn : n ≤ n') : wIter t b n' m σ = wIter t b n m σ := by
  induction hn with
  | refl => rfl
  | step hn ih => rw [wIter_succ _ _ _ (by rw [ih]; exact h), ih]
/-- a while that ends within n turns -/
theorem sWhile_eq {t : Loc → List Cell → Res Bool} {b : Loc → List Cell → RS} {m : Loc} {σ : List Cell} (n : Nat) {r : RS} (h : wIter t b n m σ = r) (hr : r ≠ .bad) : sWhile t b m σ = r := by
  unfold sWhile
  have hx : ∃ n, wIter t b n m σ ≠ .bad := ⟨n, by rw [h]; exact hr⟩
  rw [dif_pos hx]
  have h1 := hx.choose_spec
  rcases Nat.le_total n hx.choose with q | q
  · rw [wIter_le (by rw [h]; exact hr) q, h]
  · rw [← wIter_le h1 q, h]
/-- a turn of a while -/
theorem sWhile_step {t : Loc → List Cell → Res Bool} {b : Loc → List Cell → RS} {m : Loc} {σ : List Cell} {r : RS} (h : sIf t (sSeq b (sWhile t b)) sNil m σ = r) (hr : r ≠ .bad) : sWhile t b m σ = r := by
  have key : ∃ n, wIter t b n m σ = r := by
    unfold sIf sBind at h
    cases e : t m σ with
    | bad => rw [e] at h; exact absurd h.symm hr
    | exc c => exact ⟨1, by rw [e] at h; show sBind t _ m σ = r; unfold sBind; rw [e]; exact h⟩
    | ok a σ' =>
      rw [e] at h
      cases a with
      | false => exact ⟨1, by show sBind t _ m σ = r; unfold sBind; rw [e]; exact h⟩
      | true =>
        have h2 : sSeq b (sWhile t b) m σ' = r := h
        unfold sSeq at h2
        cases eb : b m σ' with
        | bad => rw [eb] at h2; exact absurd h2.symm hr
        | exc c => exact ⟨1, by rw [eb] at h2; show sBind t _ m σ = r; unfold sBind; rw [e]; show sSeq b _ m σ' = r; unfold sSeq; rw [eb]; exact h2⟩
        | ret v σ'' => exact ⟨1, by rw [eb] at h2; show sBind t _ m σ = r; unfold sBind; rw [e]; show sSeq b _ m σ' = r; unfold sSeq; rw [eb]; exact h2⟩
        | next m' σ'' =>
          rw [eb] at h2
          have h3 : sWhile t b m' σ'' = r := h2
          unfold sWhile at h3
          by_cases hx : ∃ n, wIter t b n m' σ'' ≠ .bad
          · rw [dif_pos hx] at h3
            exact ⟨hx.choose + 1, by show sBind t _ m σ = r; unfold sBind; rw [e]; show sSeq b _ m σ' = r; unfold sSeq; rw [eb]; exact h3⟩
          · rw [dif_neg hx] at h3; exact absurd h3.symm hr
  obtain ⟨n, hn⟩ := key
  exact sWhile_eq n hn hr
end
end NZ
namespace NZ
open _root_.PySem _root_.PySem.W _root_.PySem.Calls PyProof.Rows
/-- an iterator at I that gives the items in a row -/
structure Src (prog : Program) (w : World) (B0 : Heap) (A : Around) (I : Addr) (items : List V) (chk : List Cell → Prop) (St : Nat → Heap → List Addr → Prop) : Prop where
  frame : ∀ j h h' ρ ρ', St j h ρ → (∀ o, h.get? I = some o → h'.get? I = some o) → Imm h h' → Pre ρ ρ' → St j h' ρ'
  there : ∀ j h ρ, St j h ρ → ∃ o vs n, h.get? I = some o ∧ o.data = .fields vs ∧ o.cls = .type n ∧ n ∈ ["list_iterator", "tuple_iterator", "range_iterator", "str_ascii_iterator"]
  item : ∀ (j : Nat) (v : V) (ρ : List Addr) (σ : List Cell) (s : Shared) (Q : Option Value → Shared → Prop) (E : Value → Shared → Prop), St j s.heap ρ → CRel w.params B0 s.heap ρ σ → chk σ → items[j]? = some v →
    (∀ x h' tk', (∀ b o, b ≠ I → s.heap.get? b = some o → h'.get? b = some o) → VR B0 h' ρ v x → St (j + 1) h' ρ → Q (some x) { s with heap := h', toks := tk' }) → wpAny (model prog w) A (pyNext (.ref I)) Q E s
  done : ∀ (j : Nat) (ρ : List Addr) (σ : List Cell) (s : Shared) (Q : Option Value → Shared → Prop) (E : Value → Shared → Prop), St j s.heap ρ → CRel w.params B0 s.heap ρ σ → chk σ → items[j]? = none →
    (∀ h' tk', (∀ b o, b ≠ I → s.heap.get? b = some o → h'.get? b = some o) → Q none { s with heap := h', toks := tk' }) → wpAny (model prog w) A (pyNext (.ref I)) Q E s
section
variable {ck : Bool} {prog : Program} {w : World} {mg mb : Str → Option Value} {B0 : Heap} {A : Around}
theorem imm_but {I : Addr} {h h' : Heap} {o : Obj} {vs : Array Value} (ho : h.get? I = some o) (hd : o.data = .fields vs) (k : ∀ b o, b ≠ I → h.get? b = some o → h'.get? b = some o) : Imm h h' := fun b ob e i => by
  by_cases q : b = I
  · subst q; rw [ho] at e; cases e; unfold immut at i; rw [hd] at i; exact i.elim
  · exact k b ob q e
theorem Src.list (hh : A.handled = none) {I a : Addr} {k : Nat} {items : List V} : Src prog w B0 A I items (fun σ => σ[k]? = some (.list items)) (fun j h ρ => h.IsListIter I a j ∧ ρ[k]? = some a) where
  frame := fun j h h' ρ ρ' ⟨a, b⟩ c _ p => ⟨a.at c, p.at b⟩
  there := fun j h ρ ⟨⟨o, ho, hc, hd⟩, _⟩ => ⟨o, _, _, ho, hd, hc, by decide⟩
  item := fun j v ρ σ s Q E ⟨hit, hk⟩ C hc hv next => by
    obtain ⟨o, ho, ws, n, rfl, rs⟩ := C.at_ k _ a hc hk
    obtain ⟨x, hx, rx⟩ := rs.at hv
    obtain ⟨oI, hoI, _, hdI⟩ := id hit
    refine wpAny_pyNext_list_item hit ⟨_, ho, rfl, n, rfl⟩ (x := x) (by simpa using hx) fun h' hit' hs => ?_
    have kp : ∀ b o, b ≠ I → s.heap.get? b = some o → h'.get? b = some o := fun b o hb e => (hs.2 b hb).trans e
    exact next x h' s.toks kp (rx.mono (imm_but hoI hdI kp) (Pre.refl _)) ⟨hit', hk⟩
  done := fun j ρ σ s Q E ⟨hit, hk⟩ C hc hv next => by
    obtain ⟨o, ho, ws, n, rfl, rs⟩ := C.at_ k _ a hc hk
    refine wpAny_pyNext_list_end hh hit ⟨_, ho, rfl, n, rfl⟩ ?_ fun h' hs => next h' s.toks fun b o hb e => hs b o hb e
    rw [List.getElem?_eq_none_iff] at hv
    simp only [List.getElem?_toArray, List.getElem?_eq_none_iff]
    rw [← rs.1]; exact hv
theorem Src.tuple (hh : A.handled = none) {I t : Addr} {items : List V} {ws : List Value} :
    Src prog w B0 A I items (fun _ => True) (fun j h ρ => h.IsTupleIter I t j ∧ h.IsTuple t ws.toArray ∧ VRs B0 h ρ items ws) where
  frame := fun j h h' ρ ρ' ⟨a, ⟨o, ho, hc, n, hd⟩, r⟩ c im p => ⟨a.at c, ⟨o, im _ _ ho (immut_tuple hc hd), hc, n, hd⟩, r.mono im p⟩
  there := fun j h ρ ⟨⟨o, ho, hc, hd⟩, _⟩ => ⟨o, _, _, ho, hd, hc, by decide⟩
  item := fun j v ρ σ s Q E ⟨hit, ht, rs⟩ C hc hv next => by
    obtain ⟨x, hx, rx⟩ := rs.at hv
    obtain ⟨oI, hoI, _, hdI⟩ := id hit
    refine wpAny_pyNext_tuple_item hit ht (x := x) (by simpa using hx) fun h' hit' hs => ?_
    have kp : ∀ b o, b ≠ I → s.heap.get? b = some o → h'.get? b = some o := fun b o hb e => (hs.2 b hb).trans e
    have im := imm_but hoI hdI kp
    obtain ⟨o, ho, hc', n, hd⟩ := ht
    exact next x h' s.toks kp (rx.mono im (Pre.refl _)) ⟨hit', ⟨o, im _ _ ho (immut_tuple hc' hd), hc', n, hd⟩, rs.mono im (Pre.refl _)⟩
  done := fun j ρ σ s Q E ⟨hit, ht, rs⟩ C hc hv next => by
    refine wpAny_pyNext_tuple_end hh hit ht ?_ fun h' hs => next h' s.toks fun b o hb e => hs b o hb e
    rw [List.getElem?_eq_none_iff] at hv
    simp only [List.getElem?_toArray, List.getElem?_eq_none_iff]
    rw [← rs.1]; exact hv
noncomputable def rangeV (a : Int) (n : Nat) : List V := (List.range n).map fun i => .int (a + (i : Nat))
theorem rangeV_get {a : Int} {n j : Nat} {v : V} (h : (rangeV a n)[j]? = some v) : j < n ∧ v = .int (a + (j : Nat)) := by
  unfold rangeV at h
  rw [List.getElem?_map, Option.map_eq_some_iff] at h
  obtain ⟨i, hi, rfl⟩ := h
  obtain ⟨h1, h2⟩ := List.getElem?_eq_some_iff.mp hi
  simp at h1 h2
  subst h2
  exact ⟨h1, rfl⟩
theorem Src.range (hh : A.handled = none) {I : Addr} {a : Int} {n : Nat} : Src prog w B0 A I (rangeV a n) (fun _ => True) (fun j h ρ => IsRangeIter h I (a + (j : Nat)) ((n : Int) - (j : Nat)) 1) where
  frame := fun j h h' ρ ρ' a c im p => c _ a
  there := fun j h ρ a => ⟨_, _, _, a, rfl, rfl, by decide⟩
  item := fun j v ρ σ s Q E hit C hc hv next => by
    obtain ⟨hj, rfl⟩ := rangeV_get hv
    refine wpAny_pyNext_range_item hit (by omega) fun h' hit' hs => ?_
    have kp : ∀ b o, b ≠ I → s.heap.get? b = some o → h'.get? b = some o := fun b o hb e => (hs.2 b hb).trans e
    refine next _ h' _ kp (.int _ _) ?_
    have e1 : a + ((j + 1 : Nat) : Int) = a + (j : Nat) + 1 := by omega
    have e2 : (n : Int) - ((j + 1 : Nat) : Int) = (n : Int) - (j : Nat) - 1 := by omega
    rw [e1, e2]; exact hit'
  done := fun j ρ σ s Q E hit C hc hv next => by
    rw [List.getElem?_eq_none_iff] at hv
    unfold rangeV at hv
    simp at hv
    refine wpAny_pyNext_range_end hh hit (by omega) fun h' hs => next h' s.toks fun b o hb e => hs b o hb e
noncomputable def signsV (x : Str) : List V := x.cps.toList.map fun c => .str ⟨#[c]⟩
theorem Src.str (hh : A.handled = none) {I : Addr} {x : Str} {t : Tok} : Src prog w B0 A I (signsV x) (fun _ => True) (fun j h ρ => h.IsStrIter I "str_ascii_iterator" x t j) where
  frame := fun j h h' ρ ρ' ⟨o, ho, r⟩ c im p => ⟨o, c o ho, r⟩
  there := fun j h ρ ⟨o, ho, hc, hd⟩ => ⟨o, _, _, ho, hd, hc, by decide⟩
  item := fun j v ρ σ s Q E hit C hc hv next => by
    unfold signsV at hv
    rw [List.getElem?_map, Option.map_eq_some_iff] at hv
    obtain ⟨c, hc', rfl⟩ := hv
    refine wpAny_pyNext_ascii_item hit (c := c) (by rw [← Array.getElem?_toList]; exact hc') fun h' hit' hs => ?_
    have kp : ∀ b o, b ≠ I → s.heap.get? b = some o → h'.get? b = some o := fun b o hb e => (hs.2 b hb).trans e
    exact next _ h' _ kp (.str _ _) hit'
  done := fun j ρ σ s Q E hit C hc hv next => by
    unfold signsV at hv
    rw [List.getElem?_map, Option.map_eq_none_iff] at hv
    refine wpAny_pyNext_ascii_end hh hit (by rw [← Array.getElem?_toList]; exact hv) fun h' hs => next h' s.toks fun b o hb e => hs b o hb e
end
section
variable (ck : Bool) (prog : Program) (w : World) (mg mb : Str → Option Value) (B0 : Heap)
/-- what a for goes over -/
noncomputable def SI (d : Nat) (sc : Scope) (vars : List Str) (e : Expr) (f : Loc → List Cell → Res (List V × (List Cell → Prop))) : Prop :=
  ∀ (X : Act) (env : Env) (ρ : List Addr) (σ : List Cell) (m : Loc) (s : Shared) (Q : Value → Shared → Prop) (E : Value → Shared → Prop),
    X.Ok w mg mb B0 d → EOk sc X env → Rel w.params B0 X env vars ρ σ m s.heap → f m σ ≠ .bad →
    (∀ items chk σ' ρ' I St h' tk', f m σ = .ok (items, chk) σ' → Post w.params B0 X env vars ρ m s.heap false σ' ρ' h' → (∀ A, A.handled = none → Src prog w B0 A I items chk St) → St 0 h' ρ' → chk σ' → X.g.get? I = none → Q (.ref I) { s with heap := h', toks := tk' }) →
    (∀ c, f m σ = .exc c → ExcTo X E s c) →
    wpX ck (model prog w) X.A (eval e env) (fun x s1 => wpX ck (model prog w) X.A (pyIter x) Q E s1) E s
end
noncomputable def overV (v : V) : Loc → List Cell → Res (List V × (List Cell → Prop)) := fun _ σ => match v with
  | .cell k => match σ[k]? with
    | some (.list vs) => .ok (vs, fun σ' => σ'[k]? = some (.list vs)) σ
    | _ => .bad
  | .tup vs => .ok (vs, fun _ => True) σ
  | .str x => if x.cps.all (· < 128) then .ok (signsV x, fun _ => True) σ else .bad
  | _ => .bad
noncomputable def pOver (f : Loc → List Cell → Res V) : Loc → List Cell → Res (List V × (List Cell → Prop)) := pBind f overV
noncomputable def rangeOf : List V → Option (Int × Nat)
  | [.int b] => if -1000000 ≤ b ∧ b ≤ 1000000 then some (0, b.toNat) else none
  | [.int a, .int b] => if -1000000 ≤ a ∧ a ≤ 1000000 ∧ -1000000 ≤ b ∧ b ≤ 1000000 then some (a, (b - a).toNat) else none
  | _ => none
noncomputable def pRange (f : Loc → List Cell → Res (List V)) : Loc → List Cell → Res (List V × (List Cell → Prop)) := pBind f fun vs => fun _ σ => match rangeOf vs with
  | some (a, n) => .ok (rangeV a n, fun _ => True) σ
  | none => .bad
section
variable {ck : Bool} {prog : Program} {w : World} {mg mb : Str → Option Value} {B0 : Heap} {q q1 q2 q3 : Bool} {d d' : Nat} {sc : Scope} {vars : List Str}
theorem push_keep {h : Heap} (o : Obj) : ∀ b o', h.get? b = some o' → (h.push o).get? b = some o' := fun b o' e => Heap.get?_push_of_some _ e
set_option tactic.hygienic true in
theorem SI.value {e : Expr} {f : Loc → List Cell → Res V} (he : SV ck prog w mg mb B0 q d sc vars e f) : SI ck prog w mg mb B0 d sc vars e (pOver f) := by
  intro X env ρ σ m s Q E O Ek R nb ok ex
  refine he.step O Ek R nb ex fun v σ1 ρ1 x h1 tk1 P1 rv nb1 ex1 e1 => ?_
  have P1' := P1.weak (q2 := false) (by simp)
  cases v with
  | cell k =>
    obtain ⟨a, rfl, ha⟩ := rv.cell_inv
    unfold overV at nb1 e1
    dsimp only at nb1 e1
    split at nb1
    · rename_i vs hk
      rw [hk] at e1
      obtain ⟨o, ho, ws, n, rfl, rs⟩ := P1.rel.c.at_ k _ a hk ha
      refine ax <| wpAny_pyIter_list (s := { s with heap := h1, toks := tk1 }) ⟨_, ho, rfl, n, rfl⟩ ?_
      refine ok _ _ σ1 ρ1 h1.objs.size _ _ tk1 e1 (P1'.then (push_keep _)) (fun A hh => Src.list (a := a) (k := k) hh) ⟨⟨_, Heap.get?_push_size h1 rfl, rfl, rfl⟩, ha⟩ hk P1.rel.stay.fresh
    · exact absurd rfl nb1
  | tup vs =>
    obtain ⟨t, ws, rfl, ht, hl, he'⟩ := rv.tup_inv
    refine ax <| wpAny_pyIter_tuple (s := { s with heap := h1, toks := tk1 }) ht ?_
    refine ok _ _ σ1 ρ1 h1.objs.size _ _ tk1 e1 (P1'.then (push_keep _)) (fun A hh => Src.tuple (t := t) (ws := ws) hh) ⟨⟨_, Heap.get?_push_size h1 rfl, rfl, rfl⟩, ?_, ?_⟩ trivial P1.rel.stay.fresh
    · obtain ⟨o, ho, r⟩ := ht
      exact ⟨o, push_keep _ _ _ ho, r⟩
    · exact VRs.mono (Imm.of_keeps (push_keep _)) (Pre.refl _) ⟨hl, he'⟩
  | str x =>
    obtain ⟨t, rfl⟩ := rv.str_inv
    unfold overV at nb1 e1
    dsimp only at nb1 e1
    split at nb1
    · rename_i ha
      rw [if_pos ha] at e1
      refine ax <| wpAny_pyIter_ascii (s := { s with heap := h1, toks := tk1 }) ha ?_
      exact ok _ _ σ1 ρ1 h1.objs.size _ _ tk1 e1 (P1'.then (push_keep _)) (fun A hh => Src.str (t := t) hh) ⟨_, Heap.get?_push_size h1 rfl, rfl, rfl⟩ trivial P1.rel.stay.fresh
    · exact absurd rfl nb1
  | _ => exact absurd rfl nb1
set_option tactic.hygienic true in
theorem SI.range {es : List Expr} {np pos : Pos} {f : Loc → List Cell → Res (List V)} (hx : sc.names.lookup (Str.ofString "range") = some .globalImplicit) (hg : mg (Str.ofString "range") = none) (ha : SA ck prog w mg mb B0 q d sc vars pos es f)
    (hs : ∀ env, (starEach es env).any (·.1) = false := by intro _; rfl) : SI ck prog w mg mb B0 d sc vars (.Call (.Name (Str.ofString "range") np) es [] pos) (pRange f) := by
  intro X env ρ σ m s Q E O Ek R nb ok ex
  refine X_Call_NameR (ax <| Name_function_global (by rw [Ek.is]; exact Ek.k) (by unfold Env.kindOf; rw [Ek.is]; exact hx)
    (loadGlobal_builtin (v := .type "range") (by rw [Ek.gl]; exact O.gd.g.keeps (R.b0 O)) hg (by rw [Ek.bi]; exact O.gd.b.keeps (R.b0 O)) ((O.gd.builtins (Str.ofString "range") (by decide)).trans (by decide +kernel)) ?_) (by decide))
  refine X_callWith (P := fun h => B0.StaysIn h) (by rw [backTo_any, hs]) kok_type ?_
  refine X_evalArgs (hs env) (ha.step O Ek R nb ex fun vs σ1 ρ1 ws h1 tk1 P1 rs nb1 ex1 e1 => ⟨P1.rel.b0 O, ?_⟩)
  cases hr : rangeOf vs with
  | none => exact absurd (by show (match rangeOf vs with | some (a, n) => _ | none => _) = _; rw [hr]) nb1
  | some an =>
    obtain ⟨a, n⟩ := an
    have e2 : pRange f m σ = .ok (rangeV a n, fun _ => True) σ1 := e1.trans (by show (match rangeOf vs with | some (a, n) => _ | none => _) = _; rw [hr])
    have P1' := P1.weak (q2 := false) (by simp)
    unfold rangeOf at hr
    split at hr
    · rename_i b
      split at hr
      · rename_i hb
        obtain ⟨rfl, rfl⟩ := pair_inv hr
        obtain ⟨wb, ws', rfl, rb, rs'⟩ := rs.inv_cons
        obtain rfl := rs'.inv_nil
        obtain ⟨tb, rfl⟩ := rb.int_inv
        refine ax <| call_range_1 (s := { s with heap := h1, toks := tk1 }) ?_
        refine ax <| wpAny_pyIter_range (IsRange.new h1 0 b 1 tk1 tb (tk1 + 1)) (small_one (by omega) (by omega) (by omega) (by omega)) ?_
        refine ok _ _ σ1 ρ1 _ _ _ _ e2 ((P1'.then (push_keep _)).then (push_keep _)) (fun A hh => Src.range (a := 0) (n := b.toNat) hh) ?_ trivial (P1'.then (push_keep _)).rel.stay.fresh
        have e3 : Builtin.Range.rangeSize 0 b 1 = ((b.toNat : Nat) : Int) - ((0 : Nat) : Int) := by rw [rangeSize_one]; split <;> omega
        rw [e3]
        exact Heap.get?_push_size _ rfl
      · cases hr
    · rename_i a' b
      split at hr
      · rename_i hb
        obtain ⟨rfl, rfl⟩ := pair_inv hr
        obtain ⟨wa, ws', rfl, ra, rs'⟩ := rs.inv_cons
        obtain ⟨wb, ws'', rfl, rb, rs''⟩ := rs'.inv_cons
        obtain rfl := rs''.inv_nil
        obtain ⟨ta, rfl⟩ := ra.int_inv
        obtain ⟨tb, rfl⟩ := rb.int_inv
        refine ax <| call_range_2 (s := { s with heap := h1, toks := tk1 }) ?_
        refine ax <| wpAny_pyIter_range (IsRange.new h1 a' b 1 ta tb tk1) (small_one (by omega) (by omega) (by omega) (by omega)) ?_
        refine ok _ _ σ1 ρ1 _ _ _ _ e2 ((P1'.then (push_keep _)).then (push_keep _)) (fun A hh => Src.range (a := a') (n := (b - a').toNat) hh) ?_ trivial (P1'.then (push_keep _)).rel.stay.fresh
        have e3 : Builtin.Range.rangeSize a' b 1 = (((b - a').toNat : Nat) : Int) - ((0 : Nat) : Int) := by rw [rangeSize_one]; split <;> omega
        have e4 : a' + ((0 : Nat) : Int) = a' := by omega
        rw [e3, e4]
        exact Heap.get?_push_size _ rfl
      · cases hr
    · cases hr
end
section
variable (ck : Bool) (prog : Program) (w : World) (mg mb : Str → Option Value) (B0 : Heap)
noncomputable def TgtOk (sc : Scope) (vars : List Str) (t : Expr) (st : Loc → V → Option Loc) : Prop :=
  ∀ (X : Act) (ρ : List Addr) (σ : List Cell) (m m' : Loc) (s : Shared) (v : V) (x : Value) (Q : Unit → Shared → Prop) (E : Value → Shared → Prop), X.A.handled = none → EOk sc X X.fenv → X.fenv.locals = X.L →
    Rel w.params B0 X X.fenv vars ρ σ m s.heap → VR B0 s.heap ρ v x → st m v = some m' →
    (∀ h' tk', Post w.params B0 X X.fenv vars ρ m' s.heap false σ ρ h' → (∀ b o, b ∉ ownOf X → s.heap.get? b = some o → h'.get? b = some o) → Q () { s with heap := h', toks := tk' }) →
    wpAny (model prog w) X.A (assign t X.fenv x) Q E s
end
open Classical in
noncomputable def sFor (st : Loc → V → Option Loc) (b : Loc → List Cell → RS) (chk : List Cell → Prop) : List V → Loc → List Cell → RS
  | [] => fun m σ => .next m σ
  | v :: r => fun m σ => match st m v with
    | none => .bad
    | some m1 => match b m1 σ with
      | .next m2 σ2 => if chk σ2 then sFor st b chk r m2 σ2 else .bad
      | .ret v σ' => .ret v σ'
      | .exc c => .exc c
      | .bad => .bad
noncomputable def sForE (st : Loc → V → Option Loc) (f : Loc → List Cell → Res (List V × (List Cell → Prop))) (b : Loc → List Cell → RS) : Loc → List Cell → RS := sBind f fun p => sFor st b p.2 p.1
noncomputable def stName (i : Nat) : Loc → V → Option Loc := fun m v => some (upd m i v)
noncomputable def stTup (is : List Nat) : Loc → V → Option Loc := fun m v => match v with
  | .tup vs => updAll m is vs
  | _ => none
section
variable {ck : Bool} {prog : Program} {w : World} {mg mb : Str → Option Value} {B0 : Heap} {q q1 q2 q3 : Bool} {d d' : Nat} {sc : Scope} {vars : List Str}
theorem store_cell {X : Act} {ρ : List Addr} {σ : List Cell} {m : Loc} {s : Shared} {Q : Unit → Shared → Prop} {E : Value → Shared → Prop} {x : Str} {i : Nat} {v : V} {wv : Value} {P : Params} {M : Model} {A : Around}
    (Ek : EOk sc X X.fenv) (EL : X.fenv.locals = X.L) (R : Rel P B0 X X.fenv vars ρ σ m s.heap) (hi : vars[i]? = some x) (hnd : vars.Nodup) (hk : sc.names.lookup x = some .cell) (va : VR B0 s.heap ρ v wv)
    (k : ∀ h', Post P B0 X X.fenv vars ρ (upd m i v) s.heap false σ ρ h' → (∀ b o, b ∉ ownOf X → s.heap.get? b = some o → h'.get? b = some o) → Q () { s with heap := h' }) : wpAny M A (storeName X.fenv x wv) Q E s := by
  obtain ⟨mr, hn, hv⟩ := R.ns
  have hkind : X.fenv.kindOf x = some .cell := by unfold Env.kindOf; rw [Ek.is]; exact hk
  obtain ⟨c, hc⟩ := Ek.ce x hk
  obtain ⟨c1, c2, c3, v0, oc, hoc, hdc⟩ := R.cl x c hc
  refine wpAny_storeName_cell (by rw [Ek.is]; exact Ek.k) hkind hc ⟨oc, hoc, hdc⟩ fun h' hcell hs => ?_
  have kept : ∀ b o, b ≠ c → s.heap.get? b = some o → h'.get? b = some o := fun b o hb e => (hs.2 b hb).trans e
  have im : Imm s.heap h' := fun b o e i => by
    by_cases hb : b = c
    · subst hb
      rw [hoc] at e; cases e
      unfold immut at i
      rw [hdc] at i
      exact i.elim
    · exact kept b o hb e
  obtain ⟨oc', hoc', hdc'⟩ := hcell
  refine k h' ⟨⟨fun b o e => kept b o (fun q => by rw [q, c2] at e; cases e) (R.stay b o e), R.c.keeps im fun a ha o e => kept a o (fun q => c1 (q ▸ ha)) e, R.out, R.abv, ?_, fun y c' e => ?_, R.ci, mr, hn.at fun o e => kept _ o (Ne.symm c3) e, fun j y v' e1 e2 => ?_⟩, im, Pre.refl _, fun z => by cases z⟩ fun b o hb e => kept b o (fun q => hb ?_) e
  · obtain ⟨o, es, n, ho, hd⟩ := R.fn
    exact ⟨o, es, n, kept _ _ (fun q => by rw [q, hoc] at ho; cases ho; rw [hdc] at hd; cases hd) ho, hd⟩
  · obtain ⟨a1, a2, a3, v', o, ho, hd⟩ := R.cl y c' e
    by_cases q : c' = c
    · subst q; exact ⟨a1, a2, a3, _, oc', hoc', hdc'⟩
    · exact ⟨a1, a2, a3, v', o, kept _ _ q ho, hd⟩
  · by_cases hj : j = i
    · subst hj
      rw [hi] at e1; cases e1
      unfold upd at e2; simp at e2; subst e2
      exact ⟨wv, .inr ⟨.inl hkind, c, hc, oc', hoc', hdc'⟩, va.mono im (Pre.refl _)⟩
    · unfold upd at e2; simp [hj] at e2
      obtain ⟨w', hw, r⟩ := hv j y v' e1 e2
      have hyx : y ≠ x := fun q => by
        subst q
        obtain ⟨l1, g1⟩ := List.getElem?_eq_some_iff.mp e1
        obtain ⟨l2, g2⟩ := List.getElem?_eq_some_iff.mp hi
        exact hj ((List.getElem_inj hnd).mp (g1.trans g2.symm))
      refine ⟨w', ?_, r.mono im (Pre.refl _)⟩
      rcases hw with hw | ⟨hk', c', hc', o, ho, hd⟩
      · exact .inl hw
      · exact .inr ⟨hk', c', hc', o, kept _ _ (fun q => hyx (R.ci y x c' hc' (q ▸ hc))) ho, hd⟩
  · subst q
    refine List.mem_cons_of_mem _ (List.mem_map.mpr ⟨(x, b), mem_of_lookup hc, rfl⟩)
theorem S1.setc {x : Str} {i : Nat} {p pos : Pos} {e : Expr} {f : Loc → List Cell → Res V} (he : SV ck prog w mg mb B0 q d sc vars e f) (hi : vars[i]? = some x) (hnd : vars.Nodup) (hk : sc.names.lookup x = some .cell)
    (hs : ∀ env, swapsWith e (some (.Name x p)) pos.line env = pure false := by intro _; rfl) : S1 ck prog w mg mb B0 d sc vars (.Assign [.Name x p] e pos) (sSet i f) := by
  intro X ρ σ m s Q E O Ek EL R nb nx rt ex
  refine X_Assign_Name (he.stepS O Ek R nb ex fun a σ1 ρ1 wa h1 tk1 P1 va nb1 ex1 e1 => ?_) (hs _)
  exact ax <| store_cell Ek EL P1.rel hi hnd hk va fun h' P2 _ => nx _ σ1 ρ1 h' _ e1 (P1.back P2)
theorem TgtOk.namec {x : Str} {p : Pos} {i : Nat} (hi : vars[i]? = some x) (hnd : vars.Nodup) (hk : sc.names.lookup x = some .cell) : TgtOk prog w B0 sc vars (.Name x p) (stName i) := by
  intro X ρ σ m m' s v x' Q E hh Ek EL R rv e k
  cases e
  exact wpAny_assign_Name (store_cell Ek EL R hi hnd hk rv fun h' P kp => k h' _ P kp)
theorem TgtOk.name {x : Str} {p : Pos} {i : Nat} (hi : vars[i]? = some x) (hnd : vars.Nodup) (hk : sc.names.lookup x = some .local) : TgtOk prog w B0 sc vars (.Name x p) (stName i) := by
  intro X ρ σ m m' s v x' Q E hh Ek EL R rv e k
  cases e
  exact wpAny_assign_Name (store_local Ek EL R hi hnd hk rv fun h' P kp => k h' _ P fun b o hb e => kp b o (fun q => hb (q ▸ List.mem_cons_self)) e)
theorem TgtOk.tup {es : List Expr} {k : Nat} {p : Pos} {is : List Nat} (T : TN sc vars es is) (hnd : vars.Nodup) : TgtOk prog w B0 sc vars (.Tuple es k p) (stTup is) := by
  intro X ρ σ m m' s v x' Q E hh Ek EL R rv e kk
  cases v with
  | tup vs =>
    obtain ⟨ta, ws, rfl, ht, hl, hel⟩ := rv.tup_inv
    have eu : updAll m is vs = some m' := e
    have rs : VRs B0 s.heap ρ vs _ := ⟨hl, hel⟩
    have lens : ∀ (is : List Nat) (vs : List V) (m m' : Loc), updAll m is vs = some m' → is.length = vs.length := by
      intro is
      induction is with
      | nil => intro vs m m' e; cases vs with | nil => rfl | cons => cases e
      | cons i is ih => intro vs m m' e; cases vs with | nil => cases e | cons v vs => exact congrArg (· + 1) (ih vs _ _ e)
    obtain ⟨q1, q2⟩ := T.assign (env := X.fenv)
    refine wpAny_assign_Tuple hh ht (by rw [q1, T.len, lens _ _ _ _ eu, hl, List.size_toArray]) q2 fun h' hx => ?_
    have kp : ∀ b o, s.heap.get? b = some o → h'.get? b = some o := fun b o e => hx b o (Nat.ne_of_lt (Heap.lt_size e)) e
    refine names_store Ek EL hnd T vs _ ρ σ m m' _ _ (R.keeps kp) (rs.mono (Imm.of_keeps kp) (Pre.refl _)) eu fun h2 tk2 P2 k2 => ?_
    exact kk h2 tk2 (Post.back (Post.of_keeps (q := false) R kp) P2) fun b o hb e => k2 b o (fun q => hb (q ▸ List.mem_cons_self)) (kp b o e)
  | _ => cases e
theorem Rel.but {P : Params} {X : Act} {env : Env} {ρ : List Addr} {σ : List Cell} {m : Loc} {h h' : Heap} (R : Rel P B0 X env vars ρ σ m h) {I : Addr} {o : Obj} {vs : Array Value} (ho : h.get? I = some o) (hd : o.data = .fields vs)
    (k : ∀ b o, b ≠ I → h.get? b = some o → h'.get? b = some o) (hg : X.g.get? I = none) : Rel P B0 X env vars ρ σ m h' := by
  have im := imm_but ho hd k
  have nr : ∀ a ∈ ρ, a ≠ I := fun a hm q => by
    exact R.c.no_it ho hd (q ▸ hm)
  have nc : ∀ x c, env.cells.lookup x = some c → c ≠ I := fun x c e q => by
    subst q
    obtain ⟨_, _, _, v, o', ho', hd'⟩ := R.cl x c e
    rw [ho] at ho'; cases ho'
    rw [hd] at hd'; cases hd'
  refine ⟨fun b o' e => k b o' (fun q => by rw [q, hg] at e; cases e) (R.stay b o' e), R.c.keeps im fun a ha o' e => k a o' (nr a ha) e, R.out, R.abv, ?_, fun x c e => ?_, R.ci, ?_⟩
  · obtain ⟨o', es, n, h1, h2⟩ := R.fn
    exact ⟨o', es, n, k _ _ (fun q => by rw [q, ho] at h1; cases h1; rw [hd] at h2; cases h2) h1, h2⟩
  · obtain ⟨a, b, c', v, o', h1, h2⟩ := R.cl x c e
    exact ⟨a, b, c', v, o', k _ _ (nc x c e) h1, h2⟩
  · obtain ⟨mr, hn, hv⟩ := R.ns
    refine ⟨mr, hn.at fun o' e => k _ o' (fun q => ?_) e, fun i x v e1 e2 => ?_⟩
    · obtain ⟨o2, es, ep, h1, h2, _⟩ := hn
      rw [q, ho] at h1; cases h1; rw [hd] at h2; cases h2
    · obtain ⟨w', hw, r⟩ := hv i x v e1 e2
      refine ⟨w', ?_, r.mono im (Pre.refl _)⟩
      rcases hw with hw | ⟨hk, c, hc, o2, h1, h2⟩
      · exact .inl hw
      · exact .inr ⟨hk, c, hc, o2, k _ _ (nc x c hc) h1, h2⟩
theorem owned_none {M : Model} {A : Around} {target : Expr} {I : Addr} {x : Value} {o : Obj} {vs : Array Value} {n : String} {s : Shared} {Q : Unit → Shared → Prop} {E : Value → Shared → Prop} (ho : s.heap.get? I = some o) (hc : o.cls = .type n) (hd : o.data = .fields vs)
    (hno : (["enumerate", "zip", "dict_itemiterator", "dict_reverseitemiterator", "odict_iterator", "itertools.zip_longest", "itertools.pairwise"].contains n) = false) (h : Q () s) : wpAny M A (letOwnedTupleGo target (.ref I) x) Q E s := by
  have key : ∀ a : Addr, wpAny M A (do
      let o ← load I
      match o.cls, o.data with
      | .type n, .fields vs =>
        if ["enumerate", "zip", "dict_itemiterator", "dict_reverseitemiterator", "odict_iterator", "itertools.zip_longest", "itertools.pairwise"].contains n && vs[0]? == some (rawInt a) then
          rule "for.unpacks-the-owned-tuple"
          updateField I 0 .none
      | _, _ => pure ()) Q E s := fun a => by
    refine wpAny_bind (wpAny_load ho ?_)
    rw [hc, hd]
    dsimp only
    rw [hno]
    exact wpAny_pure h
  cases target <;> first | exact wpAny_pure h | (cases x <;> first | exact wpAny_pure h | exact key _)
theorem Rel.no_own {P : Params} {X : Act} {ρ : List Addr} {σ : List Cell} {m : Loc} {h : Heap} (R : Rel P B0 X X.fenv vars ρ σ m h) (Ek : EOk sc X X.fenv) {I : Addr} {o : Obj} {vs : Array Value} (ho : h.get? I = some o) (hd : o.data = .fields vs) : I ∉ ownOf X := fun hm => by
  rcases List.mem_cons.mp hm with q | hm
  · obtain ⟨o', es, n, ho', hd'⟩ := R.fn
    rw [← q, ho] at ho'; cases ho'
    rw [hd] at hd'; cases hd'
  · obtain ⟨p, hp, q⟩ := List.mem_map.mp hm
    obtain ⟨_, _, _, v, o', ho', hd'⟩ := R.cl p.1 p.2 (Ek.cm p hp)
    rw [q, ho] at ho'; cases ho'
    rw [hd] at hd'; cases hd'
theorem no_owned {n : String} (h : n ∈ ["list_iterator", "tuple_iterator", "range_iterator", "str_ascii_iterator"]) : (["enumerate", "zip", "dict_itemiterator", "dict_reverseitemiterator", "odict_iterator", "itertools.zip_longest", "itertools.pairwise"].contains n) = false := by
  simp only [List.mem_cons, List.not_mem_nil, or_false] at h
  rcases h with rfl | rfl | rfl | rfl <;> decide
inductive ForInv (P : Params) (B0 : Heap) (X : Act) (vars : List Str) (ρ : List Addr) (s : Shared) (items : List V) (chk : List Cell → Prop) (St : Nat → Heap → List Addr → Prop) (run : List V → Loc → List Cell → RS) (end_ : RS) (n : Nat) : Shared → Prop
  | mk (j : Nat) (ρ2 : List Addr) (σ2 : List Cell) (m2 : Loc) (h2 : Heap) (tk2 : Nat) (hn : n = items.length - j) (hj : j ≤ items.length) (P2 : Post P B0 X X.fenv vars ρ m2 s.heap false σ2 ρ2 h2) (hst : St j h2 ρ2) (hc : chk σ2)
    (e2 : run (items.drop j) m2 σ2 = end_) : ForInv P B0 X vars ρ s items chk St run end_ n { s with heap := h2, toks := tk2 }
open Classical in
theorem S1.for_ {t iter : Expr} {b : List Stmt} {pos : Pos} {st : Loc → V → Option Loc} {f : Loc → List Cell → Res (List V × (List Cell → Prop))} {fb : Loc → List Cell → RS}
    (hi : SI ck prog w mg mb B0 d sc vars iter f) (ht : TgtOk prog w B0 sc vars t st) (hb : SL ck prog w mg mb B0 d sc vars b fb) (hs : ∀ env x, foldedSetIterable iter env x = pure x := by intro _ _; rfl) :
    S1 ck prog w mg mb B0 d sc vars (.For t iter b [] pos) (sForE st f fb) := by
  intro X ρ σ m s Q E O Ek EL R nb nx rt ex
  refine X_For (hi X X.fenv ρ σ m s _ E O Ek R (sBind_nb nb) (fun items chk σ1 ρ1 I St h1 tk1 e1 P1 src st0 c0 g0 => ?_) fun c e => ex c (sBind_exc e)) (hs _)
  have ee : sForE st f fb m σ = sFor st fb chk items m σ1 := sBind_ok e1
  rw [ee] at nb nx rt ex
  have S := src X.A O.hh
  refine codeX_for (I := ForInv w.params B0 X vars ρ s items chk St (sFor st fb chk) (sFor st fb chk items m σ1)) ?_ items.length ⟨0, ρ1, σ1, m, h1, tk1, rfl, Nat.zero_le _, P1, st0, c0, rfl⟩ rfl
  rintro n s' ⟨j, ρ2, σ2, m2, h2, tk2, hn, hj, P2, hst, hc, e2⟩
  obtain ⟨oI, vI, nI, hoI, hdI, hcI, hnI⟩ := S.there _ _ _ hst
  by_cases hjl : j < items.length
  · have hv : items[j]? = some items[j] := List.getElem?_eq_getElem hjl
    have hdrop : items.drop j = items[j] :: items.drop (j + 1) := List.drop_eq_getElem_cons hjl
    refine ax <| S.item j items[j] ρ2 σ2 _ _ _ hst P2.rel.c hc hv fun x h3 tk3 kp3 rv3 st3 => ?_
    have R3 := P2.rel.but hoI hdI kp3 g0
    have P3 : Post w.params B0 X X.fenv vars ρ m2 s.heap false σ2 ρ2 h3 := ⟨R3, P2.imm.trans (imm_but hoI hdI kp3), P2.pre, fun z => by cases z⟩
    obtain ⟨oJ, vJ, nJ, hoJ, hdJ, hcJ, hnJ⟩ := S.there _ _ _ st3
    refine ax <| owned_none (s := { s with heap := h3, toks := tk3 }) hoJ hcJ hdJ (no_owned hnJ) ?_
    cases hm : st m2 items[j] with
    | none =>
      rw [← e2, hdrop] at nb
      exact absurd (by show (match st m2 items[j] with | none => _ | some m1 => _) = _; rw [hm]) nb
    | some m3 =>
    have e3 : sFor st fb chk (items.drop j) m2 σ2 = (match fb m3 σ2 with
      | .next m2 σ2 => if chk σ2 then sFor st fb chk (items.drop (j + 1)) m2 σ2 else .bad
      | .ret v σ' => .ret v σ'
      | .exc c => .exc c
      | .bad => .bad) := by rw [hdrop]; show (match st m2 items[j] with | none => _ | some m1 => _) = _; rw [hm]
    refine ax <| ht X ρ2 σ2 m2 m3 _ items[j] x _ _ O.hh Ek EL R3 rv3 hm fun h4 tk4 P4 kp4 => ?_
    have nb4 : fb m3 σ2 ≠ .bad := fun z => nb (by rw [← e2, e3, z])
    have hIo : I ∉ ownOf X := R3.no_own Ek hoJ hdJ
    have hoI4 := kp4 I _ hIo hoJ
    have P34 := P3.back P4
    have st4 := S.frame _ _ _ _ _ st3 (fun o e => kp4 I o hIo e) P4.imm P4.pre
    have hIρ : I ∉ ρ2 := R3.c.no_it hoJ hdJ
    refine SS.keep hb (s := { s with heap := h4, toks := tk4 }) O Ek EL P34.rel nb4 (fun m5 σ5 ρ5 h5 tk5 e5 P5 k5 => ?_) (fun v σ5 ρ5 y h5 tk5 e5 P5 k5 r5 => ?_) fun c e5 => ?_
    · rw [e5] at e3
      dsimp only at e3
      by_cases hck : chk σ5
      · rw [if_pos hck] at e3
        exact ⟨items.length - (j + 1), by omega, j + 1, ρ5, σ5, m5, h5, tk5, rfl, hjl, P34.back P5, S.frame _ _ _ _ _ st4 (fun o e => k5 I o e hIρ hIo) P5.imm P5.pre, hck, e3.symm.trans e2⟩
      · rw [if_neg hck] at e3
        exact absurd (e2.symm.trans e3) nb
    · rw [e5] at e3
      exact rt v σ5 ρ5 y h5 tk5 (e2.symm.trans e3) (P34.back P5) r5
    · rw [e5] at e3
      exact exc_out O (ex c (e2.symm.trans e3))
  · have hj' : j = items.length := by omega
    subst hj'
    refine ax <| S.done _ ρ2 σ2 _ _ _ hst P2.rel.c hc (by simp) fun h3 tk3 kp3 => ?_
    refine X_execs_nil ?_
    rw [List.drop_length] at e2
    exact nx m2 σ2 ρ2 h3 tk3 e2.symm ⟨P2.rel.but hoI hdI kp3 g0, P2.imm.trans (imm_but hoI hdI kp3), P2.pre, fun z => by cases z⟩
end
end NZ
namespace NZ
open _root_.PySem _root_.PySem.W _root_.PySem.Calls PyProof.Rows _root_.PySem.SeqAt
/-- values whose == is asked: data without cells -/
noncomputable def eqOk : Nat → V → Bool
  | 0, _ => false
  | n + 1, .tup vs => vs.all (eqOk n)
  | _ + 1, .none => true
  | _ + 1, .bool _ => true
  | _ + 1, .int _ => true
  | _ + 1, .bytes _ => true
  | _, _ => false
section
variable {prog : Program} {w : World} {mg mb : Str → Option Value} {B0 : Heap}
theorem eqat_bytes {A : Around} {s : Shared} (b : Array UInt8) (t u : Tok) : EqAt A s (.bytes b t) (.bytes b u) true := fun prog w E Q h => by
  unfold eqBool
  refine wpAny_holding ?_
  refine wpAny_ite_split (fun _ => wpAny_bind (wpAny_rule (wpAny_pure h))) (fun _ => ?_)
  refine wpAny_bind ?_
  have z : wpAny (model prog w) A (compareOp .Eq (.bytes b t) (.bytes b u)) (fun v s' => wpAny (model prog w) A (truthOfDropped v) Q E s') E s := by
    refine eq_bytes ?_
    rw [beq_self_eq_true]
    exact wpAny_truthy_bool h
  exact z
set_option tactic.hygienic true in
theorem eq_same {A : Around} {s : Shared} {ρ : List Addr} : ∀ (n : Nat) (u : Nat) (v : V) (x y : Value), eqOk n v = true → A.units + u + n < cLine → VR B0 s.heap ρ v x → VR B0 s.heap ρ v y →
    EqAt { A with units := A.units + u } s x y true ∧ (∀ vs, v = .tup vs → RcAt { A with units := A.units + u } s x y true ∧ SeqAt.RcNeAt { A with units := A.units + u } s x y false) := by
  intro n
  induction n with
  | zero => intro u v x y e; cases e
  | succ n ih =>
    intro u v x y e hu rx ry
    cases v with
    | none => obtain rfl := rx.none_inv; obtain rfl := ry.none_inv; exact ⟨EqAt.same _, fun vs q => by cases q⟩
    | bool b => obtain rfl := rx.bool_inv; obtain rfl := ry.bool_inv; exact ⟨EqAt.same _, fun vs q => by cases q⟩
    | int i =>
      obtain ⟨t1, rfl⟩ := rx.int_inv
      obtain ⟨t2, rfl⟩ := ry.int_inv
      refine ⟨?_, fun vs q => by cases q⟩
      have := EqAt.int_int (A := { A with units := A.units + u }) (s := s) i t1 i t2
      rw [beq_self_eq_true] at this; exact this
    | bytes b => obtain ⟨t1, rfl⟩ := rx.bytes_inv; obtain ⟨t2, rfl⟩ := ry.bytes_inv; exact ⟨eqat_bytes _ _ _, fun vs q => by cases q⟩
    | tup vs =>
      obtain ⟨_, _, rfl, hx, lx, ex⟩ := rx.tup_inv
      obtain ⟨_, _, rfl, hy, ly, ey⟩ := ry.tup_inv
      rename_i a ws b zs
      have hall : ∀ v ∈ vs, eqOk n v = true := fun v hv => List.all_eq_true.mp (show vs.all (eqOk n) = true from e) v hv
      have items : ∀ j (h1 : j < ws.toArray.size) (h2 : j < zs.toArray.size), EqAt (Around.in1 { A with units := A.units + u }) s ws.toArray[j] zs.toArray[j] true := fun j h1 h2 => by
        simp only [List.size_toArray] at h1 h2
        have hj : j < vs.length := lx ▸ h1
        have := (ih (u + 1) vs[j] ws[j] zs[j] (hall _ (List.getElem_mem hj)) (by omega) (ex j _ _ (List.getElem?_eq_getElem hj) (List.getElem?_eq_getElem h1)) (ey j _ _ (List.getElem?_eq_getElem hj) (List.getElem?_eq_getElem h2))).1
        exact this
      have val : ((List.range (min ws.toArray.size zs.toArray.size)).all (fun _ => true) && ws.toArray.size == zs.toArray.size) = true := by
        have : ws.toArray.size = zs.toArray.size := by simp only [List.size_toArray]; rw [← lx, ly]
        rw [this]; simp
      have hu' : ({ A with units := A.units + u } : Around).units < cLine := by show A.units + u < cLine; omega
      have r1 : RcAt { A with units := A.units + u } s (.ref a) (.ref b) true := by
        have := RcAt.tuples (e := fun _ => true) hx hy hu' items
        rw [val] at this; exact this
      have r2 : SeqAt.RcNeAt { A with units := A.units + u } s (.ref a) (.ref b) false := by
        have := SeqAt.RcNeAt.tuples (e := fun _ => true) hx hy hu' items
        rw [val] at this; exact this
      refine ⟨?_, fun vs' q => ⟨r1, r2⟩⟩
      by_cases hab : a = b
      · subst hab; exact EqAt.same _
      · exact EqAt.of_refs hab r1
    | str x => cases e
    | cell k => cases e
    | obj C k => cases e
    | clist vs => cases e
open Classical in
noncomputable def eqV (_ : List Cell) : V → V → Option V
  | .int a, .int b => some (.bool (a == b))
  | .str a, .str b => some (.bool (a == b))
  | .bytes a, .bytes b => some (.bool (a == b))
  | .tup a, .tup b => if eqOk 8 (.tup a) = true ∧ a = b then some (.bool true) else none
  | _, _ => none
open Classical in
noncomputable def neV (_ : List Cell) : V → V → Option V
  | .int a, .int b => some (.bool (a != b))
  | .bytes a, .bytes b => some (.bool (a != b))
  | .tup a, .tup b => if eqOk 8 (.tup a) = true ∧ a = b then some (.bool false) else none
  | _, _ => none
set_option tactic.hygienic true in
theorem q_eq : Q2 prog w mg mb B0 (compareOp .Eq) eqV := by
  intro A ρ σ s Q E a b v wa wb OA G HB C va vb e k
  unfold eqV at e
  split at e
  · obtain ⟨tx, rfl⟩ := va.int_inv
    obtain ⟨ty, rfl⟩ := vb.int_inv
    obtain rfl := Option.some.inj e
    with_reducible refine eq_int ?_
    exact k _ s.heap s.toks (fun _ _ e => e) (.bool _)
  · obtain ⟨tx, rfl⟩ := va.str_inv
    obtain ⟨ty, rfl⟩ := vb.str_inv
    obtain rfl := Option.some.inj e
    with_reducible refine eq_str ?_
    exact k _ s.heap s.toks (fun _ _ e => e) (.bool _)
  · obtain ⟨tx, rfl⟩ := va.bytes_inv
    obtain ⟨ty, rfl⟩ := vb.bytes_inv
    obtain rfl := Option.some.inj e
    with_reducible refine eq_bytes ?_
    exact k _ s.heap s.toks (fun _ _ e => e) (.bool _)
  · rename_i a b
    split at e
    · rename_i h
      cases e
      obtain ⟨h1, rfl⟩ := h
      have := ((eq_same (A := A) (s := s) 8 0 (.tup a) wa wb h1 (by have := OA.un; omega) va vb).2 a rfl).1
      exact this prog w E Q (k _ s.heap s.toks (fun _ _ e => e) (.bool _))
    · cases e
  · cases e
set_option tactic.hygienic true in
theorem q_ne : Q2 prog w mg mb B0 (compareOp .NotEq) neV := by
  intro A ρ σ s Q E a b v wa wb OA G HB C va vb e k
  unfold neV at e
  split at e
  · obtain ⟨tx, rfl⟩ := va.int_inv
    obtain ⟨ty, rfl⟩ := vb.int_inv
    obtain rfl := Option.some.inj e
    with_reducible refine ne_int ?_
    exact k _ s.heap s.toks (fun _ _ e => e) (.bool _)
  · obtain ⟨tx, rfl⟩ := va.bytes_inv
    obtain ⟨ty, rfl⟩ := vb.bytes_inv
    obtain rfl := Option.some.inj e
    with_reducible refine ne_bytes ?_
    exact k _ s.heap s.toks (fun _ _ e => e) (.bool _)
  · rename_i a b
    split at e
    · rename_i h
      cases e
      obtain ⟨h1, rfl⟩ := h
      have := ((eq_same (A := A) (s := s) 8 0 (.tup a) wa wb h1 (by have := OA.un; omega) va vb).2 a rfl).2
      exact this prog w E Q (k _ s.heap s.toks (fun _ _ e => e) (.bool _))
    · cases e
  · cases e
set_option tactic.hygienic true in
theorem q_add : Q2 prog w mg mb B0 (binaryOp .Add) addV := by
  intro A ρ σ s Q E a b v wa wb OA G HB C va vb e k
  unfold addV at e
  split at e
  · obtain ⟨tx, rfl⟩ := va.int_inv
    obtain ⟨ty, rfl⟩ := vb.int_inv
    obtain rfl := Option.some.inj e
    with_reducible refine add_int ?_
    exact k _ s.heap _ (fun _ _ e => e) (.int _ _)
  · rename_i a b
    split at e
    · rename_i h
      obtain ⟨tx, rfl⟩ := va.bytes_inv
      obtain ⟨ty, rfl⟩ := vb.bytes_inv
      obtain rfl := Option.some.inj e
      refine KBy.add_bytes (by simp only [List.size_toArray]; omega) fun t' k' => ?_
      rw [List.append_toArray]
      exact k _ s.heap _ (fun _ _ e => e) (.bytes _ _)
    · cases e
  · rename_i vs us
    split at e
    · rename_i hlen
      cases e
      obtain ⟨_, _, rfl, ht, hl, he⟩ := va.tup_inv
      obtain ⟨_, _, rfl, ht2, hl2, he2⟩ := vb.tup_inv
      rename_i ta ws tb zs
      obtain ⟨⟨cls, dd, data, sl⟩, ho, hc, n, hd⟩ := id ht
      obtain ⟨⟨cls2, dd2, data2, sl2⟩, ho2, hc2, n2, hd2⟩ := id ht2
      simp only at hc hd hc2 hd2
      subst hc hd hc2 hd2
      have r1 : VRs B0 s.heap ρ vs ws := ⟨hl, he⟩
      have r2 : VRs B0 s.heap ρ us zs := ⟨hl2, he2⟩
      have ty1 : s.TypeIs (.ref ta) "tuple" := ⟨_, ho, rfl⟩
      have ty2 : s.TypeIs (.ref tb) "tuple" := ⟨_, ho2, rfl⟩
      by_cases hv : ws = []
      · have hvs : vs = [] := by cases vs with | nil => rfl | cons => rw [hv] at hl; simp at hl
        refine concat_meets ty1 ty2 noFill_tuple_add seq_tuple_add PySem.F.slot_tuple_add PySem.F.entry_tuple_add (PySem.F.args_tuple_add_2 _ _)
          (tuple_addW0 ta tb ws.toArray zs.toArray n n2 dd dd2 sl sl2 (by simp [hv])) ⟨ho, ho2, ?_⟩
        refine k _ s.heap s.toks (fun _ _ e => e) ?_
        rw [hvs, List.nil_append]
        exact .tup ht2 hl2 he2
      · by_cases hz : zs = []
        · have hus : us = [] := by cases us with | nil => rfl | cons => rw [hz] at hl2; simp at hl2
          refine concat_meets ty1 ty2 noFill_tuple_add seq_tuple_add PySem.F.slot_tuple_add PySem.F.entry_tuple_add (PySem.F.args_tuple_add_2 _ _)
            (tuple_addW1 ta tb ws.toArray zs.toArray n n2 dd dd2 sl sl2 (by simpa using hv) (by simp [hz])) ⟨ho, ho2, ?_⟩
          refine k _ s.heap s.toks (fun _ _ e => e) ?_
          rw [hus, List.append_nil]
          exact .tup ht hl he
        · refine concat_meets ty1 ty2 noFill_tuple_add seq_tuple_add PySem.F.slot_tuple_add PySem.F.entry_tuple_add (PySem.F.args_tuple_add_2 _ _)
            (tuple_addW2 ta tb ws.toArray zs.toArray n n2 dd dd2 sl sl2 (by simpa using hv) (by simpa using hz) (by rw [List.size_toArray, List.size_toArray, ← hl, ← hl2]; unfold sizeLine; omega)) ⟨ho, ho2, ?_⟩
          refine k _ _ s.toks (push_keep _) ?_
          have r3 := (r1.append r2).mono (Imm.of_keeps (push_keep { cls := .type "tuple", data := .seq (ws.toArray ++ zs.toArray) })) (Pre.refl ρ)
          refine .tup (ws := ws ++ zs) ⟨_, Heap.get?_push_size _ rfl, rfl, 0, ?_⟩ r3.1 r3.2
          simp
    · cases e
  · cases e
end
end NZ
namespace NZ
open _root_.PySem _root_.PySem.W _root_.PySem.Calls PyProof.Rows _root_.PySem.SeqAt
noncomputable def itemV (σ : List Cell) : V → V → Option V
  | .bytes b, .int i => if 0 ≤ i ∧ i < b.length ∧ b.length ≤ 1000000 then some (.int (b.getD i.toNat 0).toNat) else none
  | .tup vs, .int i => if 0 ≤ i ∧ i < 1000000 then vs[i.toNat]? else none
  | .clist vs, .int i => if 0 ≤ i ∧ i < 1000000 then vs[i.toNat]? else none
  | .cell k, .int i => match σ[k]? with
    | some (.list vs) => if 0 ≤ i then (if i < 1000000 then vs[i.toNat]? else none) else if -(vs.length : Int) ≤ i ∧ -1000000 ≤ i then vs[(i + vs.length).toNat]? else none
    | _ => none
  | _, _ => none
noncomputable def negV (_ : List Cell) : V → Option V
  | .int i => some (.int (-i))
  | _ => none
/-- the bounds of a slice -/
noncomputable def partV : V → Option (Option Int)
  | .none => some none
  | .int i => some (some i)
  | _ => none
noncomputable def cut {α : Type} (l : List α) (lo hi : Option Int) : List α := (l.drop (lo.elim 0 (clipAt l.length))).take (hi.elim l.length (clipAt l.length) - lo.elim 0 (clipAt l.length))
section
variable {ck : Bool} {prog : Program} {w : World} {mg mb : Str → Option Value} {B0 : Heap} {q q1 q2 q3 : Bool} {d d' : Nat} {sc : Scope} {vars : List Str}
theorem VRs.take_drop {h : Heap} {ρ : List Addr} {vs : List V} {ws : List Value} (r : VRs B0 h ρ vs ws) (a b : Nat) : VRs B0 h ρ ((vs.drop a).take b) ((ws.drop a).take b) :=
  ⟨by simp [r.1], fun i v w e1 e2 => by
    rw [List.getElem?_take] at e1 e2
    split at e1
    · rw [if_pos ‹_›] at e2
      rw [List.getElem?_drop] at e1 e2
      exact r.2 _ v w e1 e2
    · cases e1⟩
theorem VRs.cut {h : Heap} {ρ : List Addr} {vs : List V} {ws : List Value} (r : VRs B0 h ρ vs ws) (lo hi : Option Int) : VRs B0 h ρ (NZ.cut vs lo hi) (NZ.cut ws lo hi) := by
  unfold NZ.cut
  rw [r.1]
  exact r.take_drop _ _
set_option tactic.hygienic true in
theorem q_item {value slice : Expr} (hs : ∀ o i, subscripted slice false o i = operate [o, i] (getItem o i)) : Q2 prog w mg mb B0 (subscriptTail value slice) itemV := by
  intro A ρ σ s Q E a b v wa wb OA G HB C va vb e k
  unfold itemV at e
  split at e
  · rename_i b i
    split at e
    · rename_i hb
      obtain ⟨tx, rfl⟩ := va.bytes_inv
      obtain ⟨ty, rfl⟩ := vb.int_inv
      obtain rfl := Option.some.inj e
      refine tail_any (T := "bytes") rfl FB.slot_bytes_getitem.lookup ?_ (hs _ _)
      refine getItem_bytes (by omega) hb.1 hb.2.1 ?_
      exact k _ s.heap _ (fun _ _ e => e) (.int _ _)
    · cases e
  · rename_i vs i
    split at e
    · rename_i hb
      obtain ⟨ta, ws, rfl, ht, hl, he⟩ := va.tup_inv
      obtain ⟨ti, rfl⟩ := vb.int_inv
      obtain ⟨x, hx, rx⟩ := VRs.at ⟨hl, he⟩ e
      refine tail_any (T := "tuple") (by obtain ⟨o, ho, hc, _⟩ := ht; exact ⟨o, ho, hc⟩) slot_tuple_getitem.lookup ?_ (hs _ _)
      have hlen : i.toNat < ws.length := (List.getElem?_eq_some_iff.mp hx).1
      refine getItem_tuple ht (by omega) (by omega) (j := i.toNat) ?_ (by simpa using hx) (k _ s.heap s.toks (fun _ _ e => e) rx)
      unfold seqIndex?
      simp only [List.size_toArray]
      have : ¬ i < 0 := by omega
      simp [this]
      omega
    · cases e
  · rename_i vs i
    split at e
    · rename_i hb
      obtain ⟨ta, ws, rfl, ht, hl, he⟩ := va.clist_inv
      obtain ⟨ti, rfl⟩ := vb.int_inv
      obtain ⟨x, hx, rx⟩ := VRs.at ⟨hl, he⟩ e
      have ht' := ht.at fun o e => HB _ o e
      refine tail_any (T := "list") (by obtain ⟨o, ho, hc, _⟩ := ht'; exact ⟨o, ho, hc⟩) slot_list_getitem.lookup ?_ (hs _ _)
      exact wpAny_getItem_list ht' hb.1 (by omega) (by simpa using hx) (k _ s.heap s.toks (fun _ _ e => e) rx)
    · cases e
  · rename_i kk i
    split at e
    · rename_i vs hk
      obtain ⟨ca, rfl, ha⟩ := va.cell_inv
      obtain ⟨ti, rfl⟩ := vb.int_inv
      obtain ⟨o, ho, ws, n, rfl, rs⟩ := C.at_ kk _ _ hk ha
      have ht : s.heap.IsList _ ws.toArray := ⟨_, ho, rfl, n, rfl⟩
      refine tail_any (T := "list") ⟨_, ho, rfl⟩ slot_list_getitem.lookup ?_ (hs _ _)
      split at e
      · rename_i h0
        split at e
        · obtain ⟨x, hx, rx⟩ := rs.at e
          exact wpAny_getItem_list ht h0 (by omega) (by simpa using hx) (k _ s.heap s.toks (fun _ _ e => e) rx)
        · cases e
      · rename_i h0
        split at e
        · rename_i h1
          obtain ⟨x, hx, rx⟩ := rs.at e
          refine wpAny_getItem_list_neg ht (by omega) (by simp only [List.size_toArray]; rw [← rs.1]; exact h1.1) (by omega) ?_ (k _ s.heap s.toks (fun _ _ e => e) rx)
          simp only [List.size_toArray, List.getElem?_toArray]
          rw [← rs.1]; exact hx
        · cases e
    · cases e
  · cases e
theorem SV.item {value slice : Expr} {pos : Pos} {f g : Loc → List Cell → Res V} (hv : SV ck prog w mg mb B0 q1 d sc vars value f) (hi : SV ck prog w mg mb B0 q2 d sc vars slice g)
    (hs : ∀ o i, subscripted slice false o i = operate [o, i] (getItem o i) := by intro _ _; rfl) : SV ck prog w mg mb B0 (q1 && q2) d sc vars (.Subscript value slice pos) (pBin itemV f g) := by
  intro X env ρ σ m s Q E O Ek R nb ok ex
  refine X_Subscript (hv.step O Ek R nb ex fun a σ1 ρ1 wa h1 tk1 P1 va nb1 ex1 e1 => hi.step O Ek P1.rel nb1 ex1 fun b σ2 ρ2 wb h2 tk2 P2 vb nb2 ex2 e2 => ?_)
  obtain ⟨v, ev, e3⟩ := pOp_nb nb2
  exact ax <| q_item hs X.A ρ2 σ2 _ Q E a b v wa wb O.a O.gd (P2.rel.b0 O) P2.rel.c (va.mono P2.imm P2.pre) vb ev fun x h3 tk3 k3 v3 =>
    ok v σ2 ρ2 x h3 tk3 (e1.trans (e2.trans e3)) ((P1.trans P2).then k3) v3
theorem SV.neg {e : Expr} {pos : Pos} {f : Loc → List Cell → Res V} (he : SV ck prog w mg mb B0 q d sc vars e f) : SV ck prog w mg mb B0 q d sc vars (.UnaryOp .USub e pos) (pUn negV f) := by
  intro X env ρ σ m s Q E O Ek R nb ok ex
  refine X_UnaryOp (he.step O Ek R nb ex fun a σ1 ρ1 wa h1 tk1 P1 va nb1 ex1 e1 => ?_)
  obtain ⟨v, ev, e3⟩ := pOp_nb nb1
  obtain ⟨i, rfl, rfl⟩ : ∃ i, a = .int i ∧ v = .int (-i) := by
    cases a with
    | int i => cases ev; exact ⟨i, rfl, rfl⟩
    | _ => cases ev
  obtain ⟨t, rfl⟩ := va.int_inv
  exact ax <| PyProof.Rows.neg_int (ok _ σ1 ρ1 _ h1 _ (e1.trans e3) (P1.then fun _ _ e => e) (.int _ _))
/-- slices of bytes, of tuples, of constant lists (a new list) -/
noncomputable def sliceV (σ : List Cell) (o : V) (lo hi : Option Int) : Option (V × List Cell) := match o with
  | .bytes b => if b.length ≤ 1000000 then some (.bytes (cut b lo hi), σ) else none
  | .tup vs => if lo = none ∧ (∃ k : Int, hi = some k ∧ 0 ≤ k ∧ k < vs.length) ∧ vs.length ≤ 1000 then some (.tup (cut vs lo hi), σ) else none
  | .clist vs => if vs.length ≤ 1000000 then some (.cell σ.length, σ ++ [.list (cut vs lo hi)]) else none
  | _ => none
theorem applied_to {A : Around} {E : Value → Shared → Prop} {s : Shared} {sl : Addr} {b : Int} {n : Nat} {u : Tok} {Q : Int × Int × Nat → Shared → Prop} (hs : s.heap.IsSliceOf sl .none (.int b u) .none) (h0 : 0 ≤ b) (hb : b ≤ n) (h : Q ((0 : Int), 1, b.toNat) s) :
    wpAny (model prog w) A (Builtin.Slice.sliceApplied (.ref sl) (pure (n : Int))) Q E s := by
  obtain ⟨os, hos, hcs, hds⟩ := id hs
  unfold Builtin.Slice.sliceApplied Builtin.Slice.sliceFields
  refine wpAny_bind (wpAny_bind (wpAny_field hos hds (x := .none) rfl (wpAny_bind (wpAny_field hos hds (x := .int b u) rfl (wpAny_bind (wpAny_field hos hds (x := .none) rfl (wpAny_pure ?_)))))))
  refine wpAny_bind (slicePart_none ?_)
  show wpAny _ _ (if ((1 : Int) == 0) = true then _ else _) _ _ s
  rw [if_neg (by decide)]
  refine wpAny_bind (slicePart_none (wpAny_bind (slicePart_int (wpAny_bind (wpAny_pure ?_)))))
  have e1 : Builtin.Slice.sliceAdjust none (some b) 1 (n : Int) = ((0 : Int), b) := by
    unfold Builtin.Slice.sliceAdjust
    have h1 : ¬ ((1 : Int) < 0) := by omega
    have h2 : ¬ (b < 0) := by omega
    simp only [h1, h2, if_false]
    congr 1
    omega
  have e2 : Builtin.Slice.slicePlaces 0 b 1 = b.toNat := by
    unfold Builtin.Slice.slicePlaces
    have h1 : (1 : Int) > 0 := by omega
    simp only [h1, if_true, Int.ediv_one]
    split <;> omega
  show wpAny _ _ (match Builtin.Slice.sliceAdjust none (some b) 1 (n : Int) with | (lo, hi) => pure (lo, (1 : Int), Builtin.Slice.slicePlaces lo hi 1)) _ _ s
  rw [e1]
  show wpAny _ _ (pure ((0 : Int), (1 : Int), Builtin.Slice.slicePlaces 0 b 1)) _ _ s
  rw [e2]
  exact wpAny_pure h
theorem pick_to (xs : List Value) (b : Nat) : ((List.range b).filterMap fun (k : Nat) => xs.toArray[((0 : Int) + (k : Int) * 1).toNat]?).toArray = (xs.take b).toArray := by
  have e : (fun (k : Nat) => xs.toArray[((0 : Int) + (k : Int) * 1).toNat]?) = fun k => xs[k]? := by
    funext k
    have : ((0 : Int) + (k : Int) * 1).toNat = k := by omega
    rw [this]; simp
  rw [e]
  congr 1
  induction b with
  | zero => simp
  | succ n ih =>
    rw [List.range_succ, List.filterMap_append, ih, List.take_succ]
    cases h : xs[n]? <;> simp [h]
theorem tuple_slice {A : Around} {E : Value → Shared → Prop} {s : Shared} {t sl : Addr} {ws : List Value} {b : Int} {u : Tok} {Q : Value → Shared → Prop} (ht : s.heap.IsTuple t ws.toArray) (hs : s.heap.IsSliceOf sl .none (.int b u) .none) (h0 : 0 ≤ b) (hb : b < ws.length) (hz : ws.length ≤ 1000)
    (h : Q (.ref s.heap.objs.size) { s with heap := s.heap.push { cls := .type "tuple", data := .seq (ws.take b.toNat).toArray } }) : wpAny (model prog w) A (getItem (.ref t) (.ref sl)) Q E s := by
  obtain ⟨os, hos, hcs, hds⟩ := id hs
  have hTs : s.TypeIs (.ref sl) "slice" := ⟨os, hos, hcs⟩
  have hT : s.TypeIs (.ref t) "tuple" := by obtain ⟨o, ho, hc, _⟩ := ht; exact ⟨o, ho, hc⟩
  have hsz : sizeOk (.seq (ws.take b.toNat).toArray) := by
    show (ws.take b.toNat).toArray.size ≤ sizeLine
    rw [List.size_toArray, List.length_take, sizeLine_eq]
    omega
  unfold getItem
  try with_reducible refine wpAny_holding ?_
  first | refine wpAny_bind (wpAny_pure ?_) | skip
  refine wpAny_bind (wpAny_sequenceKey hT (by decide) ?_)
  refine wpAny_bind (wpAny_callSpecial?_slot (name := Str.ofString "__getitem__") hT slot_tuple_getitem (wpAny_call_entry slot_tuple_getitem hT entry_tuple_getitem ?_ (args_tuple_getitem _ _)))
  show wpAny _ _ (Builtin.Tuple.tupleItemsOf (.ref t) >>= _) _ _ s
  refine wpAny_bind (tupleItemsOf_ ht ?_)
  refine wpAny_bind (wpAny_typeOf hTs ?_)
  rw [if_pos (by decide)]
  refine wpAny_bind (applied_to (n := ws.toArray.size) hs h0 (by simp only [List.size_toArray]; omega) ?_)
  have hno : ¬ (((0 : Int) == 0 && (1 : Int) == 1 && b.toNat == ws.toArray.size) = true) := by
    have : (b.toNat == ws.toArray.size) = false := by rw [beq_eq_false_iff_ne]; simp only [List.size_toArray]; omega
    rw [this]; simp
  show wpAny _ _ (if ((0 : Int) == 0 && (1 : Int) == 1 && b.toNat == ws.toArray.size) = true then _ else _) _ _ s
  rw [if_neg hno, pick_to]
  first
    | exact wpAny_bind (m := Builtin.Tuple.tupleExact _) (wpAny_newObj_type (wpAny_pure ⟨_, rfl, wpAny_pure h⟩) hsz)
    | exact wpAny_bind (m := Builtin.Tuple.tupleExact _) (wpAny_newObj_type (wpAny_bind (wpAny_pure (wpAny_pure ⟨_, rfl, wpAny_pure h⟩))) hsz)
    | exact wpAny_bind (wpAny_bind (m := Builtin.Tuple.tupleExact _) (wpAny_newObj_type (wpAny_pure (wpAny_pure ⟨_, rfl, wpAny_pure h⟩)) hsz))
    | exact wpAny_bind (wpAny_bind (m := Builtin.Tuple.tupleExact _) (wpAny_newObj_type (wpAny_pure ⟨_, rfl, wpAny_pure h⟩) hsz))
theorem SP.none : SG ck prog w mg mb B0 true d sc vars (fun env => evalPart none env) (pC V.none) (fun h ρ v x => VR B0 h ρ v x) :=
  fun X env ρ σ m s Q E O Ek R nb ok ex => ax <| wpAny_evalPart_none (ok _ σ ρ _ s.heap s.toks rfl (Post.refl R) .none)
theorem SP.some {e : Expr} {f : Loc → List Cell → Res V} (he : SV ck prog w mg mb B0 q d sc vars e f) : SG ck prog w mg mb B0 q d sc vars (fun env => evalPart (some e) env) f (fun h ρ v x => VR B0 h ρ v x) :=
  fun X env ρ σ m s Q E O Ek R nb ok ex => he X env ρ σ m s Q E O Ek R nb ok ex
noncomputable def sliceR (σ : List Cell) (o l u : V) : Res V := match partV l, partV u with
  | some lo, some hi => (match sliceV σ o lo hi with | some (v, σ') => .ok v σ' | none => .bad)
  | _, _ => .bad
theorem sliceR_nb {σ : List Cell} {o l u : V} (nb : sliceR σ o l u ≠ .bad) : ∃ lo hi v σ', partV l = some lo ∧ partV u = some hi ∧ sliceV σ o lo hi = some (v, σ') ∧ sliceR σ o l u = .ok v σ' := by
  unfold sliceR at nb ⊢
  cases el : partV l with
  | none => rw [el] at nb; exact absurd rfl nb
  | some lo =>
  cases eu : partV u with
  | none => rw [el, eu] at nb; exact absurd rfl nb
  | some hi =>
  cases es : sliceV σ o lo hi with
  | none => rw [el, eu] at nb; dsimp only at nb; rw [es] at nb; exact absurd rfl nb
  | some r => exact ⟨lo, hi, r.1, r.2, rfl, rfl, es, by dsimp only; rw [es]⟩
theorem part_none {x : Value} (h : IsPart x none) : x = .none := by cases h; rfl
theorem part_int {x : Value} {k : Int} (h : IsPart x (some k)) : ∃ t, x = .int k t := by cases h; exact ⟨_, rfl⟩
noncomputable def pSlice (f fl fu : Loc → List Cell → Res V) : Loc → List Cell → Res V := pBind f fun o => pBind fl fun l => pBind fu fun u => fun _ σ => sliceR σ o l u
theorem isPart_of {h : Heap} {ρ : List Addr} {v : V} {x : Value} {k : Option Int} (r : VR B0 h ρ v x) (e : partV v = some k) : IsPart x k := by
  cases r <;> simp only [partV, Option.some.injEq, reduceCtorEq] at e
  · subst e; exact .none
  · subst e; exact .int _ _
set_option tactic.hygienic true in
theorem SV.slice {value : Expr} {lower upper : Option Expr} {p pos : Pos} {f fl fu : Loc → List Cell → Res V} (hv : SV ck prog w mg mb B0 q1 d sc vars value f)
    (hl : SG ck prog w mg mb B0 q2 d sc vars (fun env => evalPart lower env) fl (fun h ρ v x => VR B0 h ρ v x)) (hu : SG ck prog w mg mb B0 q3 d sc vars (fun env => evalPart upper env) fu (fun h ρ v x => VR B0 h ρ v x)) :
    SV ck prog w mg mb B0 false d sc vars (.Subscript value (.Slice lower upper none p) pos) (pSlice f fl fu) := by
  intro X env ρ σ m s Q E O Ek R nb ok ex
  refine X_Subscript (hv.step O Ek R nb ex fun a σ1 ρ1 wa h1 tk1 P1 va nb1 ex1 e1 => X_Slice (hl.step O Ek P1.rel nb1 ex1 fun l σ2 ρ2 wl h2 tk2 P2 vl nb2 ex2 e2 => hu.step O Ek P2.rel nb2 ex2 fun u σ3 ρ3 wu h3 tk3 P3 vu nb3 ex3 e3 => ax <| wpAny_evalPart_none ?_))
  obtain ⟨lo, hi, v, σ4, el, eu, es, er⟩ := sliceR_nb nb3
  have e4 : pSlice f fl fu m σ = .ok v σ4 := e1.trans (e2.trans (e3.trans er))
  have pl := isPart_of (vl.mono P3.imm P3.pre) el
  have pu := isPart_of vu eu
  have P03 := ((P1.trans P2).trans P3).weak (q2 := false) (by simp)
  have P04 := P03.then (push_keep { cls := .type "slice", data := .fields #[wl, wu, .none] })
  have va3 : VR B0 (h3.push { cls := .type "slice", data := .fields #[wl, wu, .none] }) ρ3 a wa := (va.mono (P2.imm.trans P3.imm) (P2.pre.trans P3.pre)).mono (Imm.of_keeps (push_keep _)) (Pre.refl _)
  have hsl := Heap.IsSliceOf.new h3 wl wu .none
  have hsub : ∀ o i, subscripted (.Slice lower upper none p) false o i = operate [i, o] (getItem o i) := fun o i => rfl
  unfold sliceV at es
  split at es
  · rename_i b
    split at es
    · rename_i hb
      obtain ⟨rfl, rfl⟩ := pair_inv es
      obtain ⟨tb, rfl⟩ := va3.bytes_inv
      refine ax <| tail_any (T := "bytes") rfl FB.slot_bytes_getitem.lookup ?_ (hsub _ _)
      refine getItem_meets (typeIs_bytes _ _ _) (by decide) FB.slot_bytes_getitem FB.entry_bytes_getitem (FB.args_bytes_getitem_2 _ _) (KBc.meets_slice2 b.toArray tb _ pl pu) ⟨hsl, ?_, fun t' k' => ?_⟩
      · refine Nat.le_trans (KBc.size_picked_le b.toArray lo hi) ?_
        simp only [List.size_toArray]; rw [sizeLine_eq]; omega
      · have e5 : KBy.picked b.toArray lo hi = (cut b lo hi).toArray := by rw [KBc.picked_eq]; unfold cut; simp
        rw [e5]
        exact ok _ σ3 ρ3 _ _ k' e4 P04 (.bytes _ _)
    · cases es
  · rename_i vs
    split at es
    · rename_i hb
      obtain ⟨rfl, rfl⟩ := pair_inv es
      obtain ⟨rfl, ⟨k, rfl, hk0, hk1⟩, hz⟩ := hb
      obtain rfl := part_none pl
      obtain ⟨tu, rfl⟩ := part_int pu
      obtain ⟨t, ws, rfl, ht, hlen, he⟩ := va3.tup_inv
      refine ax <| tail_any (T := "tuple") (by obtain ⟨o, ho, hc, _⟩ := ht; exact ⟨o, ho, hc⟩) slot_tuple_getitem.lookup ?_ (hsub _ _)
      refine tuple_slice ht hsl hk0 (by omega) (by omega) ?_
      have r0 : VRs B0 (h3.push { cls := .type "slice", data := .fields #[.none, .int k tu, .none] }) ρ3 vs ws := ⟨hlen, he⟩
      have e6 : cut ws none (some k) = ws.take k.toNat := by
        unfold cut
        simp only [Option.elim, List.drop_zero, Nat.sub_zero]
        congr 1
        unfold clipAt
        have : ¬ k < 0 := by omega
        simp only [this, if_false]
        omega
      have r1 := (r0.cut none (some k)).mono (Imm.of_keeps (push_keep { cls := .type "tuple", data := .seq (ws.take k.toNat).toArray })) (Pre.refl _)
      rw [e6] at r1
      exact ok _ σ3 ρ3 _ _ _ e4 (P04.then (push_keep _)) (.tup ⟨_, Heap.get?_push_size _ rfl, rfl, 0, rfl⟩ r1.1 r1.2)
    · cases es
  · rename_i vs
    split at es
    · rename_i hb
      obtain ⟨rfl, rfl⟩ := pair_inv es
      obtain ⟨t, ws, rfl, ht, hlen, he⟩ := va3.clist_inv
      have ht' := ht.at fun o e => P04.rel.b0 O _ o e
      refine ax <| tail_any (T := "list") (by obtain ⟨o, ho, hc, _⟩ := ht'; exact ⟨o, ho, hc⟩) slot_list_getitem.lookup ?_ (hsub _ _)
      refine wpAny_getItem_list_slice ht' hsl pl pu .none (by simp) ?_ (by simp only [List.size_toArray]; rw [← hlen, sizeLine_eq]; omega)
      have r0 : VRs B0 (h3.push { cls := .type "slice", data := .fields #[wl, wu, .none] }) ρ3 vs ws := ⟨hlen, he⟩
      have e6 : slicePick ws.toArray lo hi none = (cut ws lo hi).toArray := by rw [slicePick_plain]; unfold cut; simp
      rw [e6]
      obtain ⟨P5, v5⟩ := P04.newCell (c := .list (cut vs lo hi)) ⟨cut ws lo hi, 0, rfl, r0.cut lo hi⟩
      exact ok _ _ _ _ _ _ e4 P5 v5
    · cases es
  · cases es
end
end NZ
namespace NZ
open _root_.PySem _root_.PySem.W _root_.PySem.Calls PyProof.Rows _root_.PySem.SeqAt
noncomputable def intsOf : List V → Option (List Int)
  | [] => some []
  | .int i :: r => (intsOf r).map (i :: ·)
  | _ => none
theorem intsAre_of {B0 h : Heap} {ρ : List Addr} : ∀ {vs : List V} {ws : List Value} {ns : List Int}, VRs B0 h ρ vs ws → intsOf vs = some ns → IntsAre ws ns
  | [], ws, ns, r, e => by cases e; rw [r.inv_nil]; exact .nil
  | v :: vs, ws, ns, r, e => by
    obtain ⟨w, ws', rfl, rv, rs⟩ := r.inv_cons
    cases v with
    | int i =>
      simp only [intsOf, Option.map_eq_some_iff] at e
      obtain ⟨ns', e', rfl⟩ := e
      cases rv
      exact .cons i _ (intsAre_of rs e')
    | _ => cases e
noncomputable def lenV (σ : List Cell) : V → Option V
  | .bytes b => if b.length ≤ 1000000 then some (.int b.length) else none
  | .cell k => match σ[k]? with
    | some (.list vs) => if vs.length ≤ 1000000 then some (.int vs.length) else none
    | _ => none
  | _ => none
noncomputable def tupleV (σ : List Cell) : V → Option V
  | .cell k => match σ[k]? with
    | some (.list vs) => if vs.length ≤ 1000 then some (.tup vs) else none
    | _ => none
  | _ => none
noncomputable def sumV (σ : List Cell) : V → Option V
  | .cell k => match σ[k]? with
    | some (.list vs) => (intsOf vs).map fun ns => .int ns.sum
    | _ => none
  | _ => none
noncomputable def bytesV (σ : List Cell) : V → Option V
  | .cell k => match σ[k]? with
    | some (.list vs) => (intsOf vs).bind fun ns => if (∀ n ∈ ns, 0 ≤ n ∧ n < 256) ∧ ns.length ≤ 1000 then some (.bytes (ns.map fun n => n.toNat.toUInt8)) else none
    | some (.barr b) => if b.length ≤ 1000000 then some (.bytes b) else none
    | _ => none
  | .bytes b => if b.length ≤ 1000000 then some (.bytes b) else none
  | _ => none
section
variable {prog : Program} {w : World} {mg mb : Str → Option Value} {B0 : Heap}
set_option tactic.hygienic true in
theorem q_len : Q1 prog w mg mb B0 (fun v => call (.builtin "len") [v]) lenV := by
  intro A ρ σ s Q E a v wa OA G HB C va e k
  unfold lenV at e
  split at e
  · split at e
    · rename_i h
      cases va; cases e
      refine len_bytes (by simp only [List.size_toArray]; omega) ?_
      exact k _ s.heap _ (fun _ _ e => e) (.int _ _)
    · cases e
  · split at e
    · rename_i vs hk
      split at e
      · rename_i h
        obtain ⟨_, rfl, ha⟩ := va.cell_inv
        cases e
        obtain ⟨o, ho, ws, n, rfl, rs⟩ := C.at_ _ _ _ hk ha
        refine Calls.call_len_list ⟨_, ho, rfl, n, rfl⟩ (by simp only [List.size_toArray]; rw [← rs.1]; omega) ?_
        have e1 : ((ws.toArray.size : Nat) : Int) = (vs.length : Nat) := by simp only [List.size_toArray]; rw [← rs.1]
        rw [e1]
        exact k _ s.heap _ (fun _ _ e => e) (.int _ _)
      · cases e
    · cases e
  · cases e
set_option tactic.hygienic true in
theorem q_tuple : Q1 prog w mg mb B0 (fun v => call (.type "tuple") [v]) tupleV := by
  intro A ρ σ s Q E a v wa OA G HB C va e k
  unfold tupleV at e
  split at e
  · split at e
    · rename_i vs hk
      split at e
      · rename_i h
        obtain ⟨_, rfl, ha⟩ := va.cell_inv
        cases e
        obtain ⟨o, ho, ws, n, rfl, rs⟩ := C.at_ _ _ _ hk ha
        refine call_tuple_list ⟨_, ho, rfl, n, rfl⟩ (fun h' hk' => ?_) (by simp only [List.size_toArray]; rw [← rs.1, sizeLine_eq]; omega)
        have kp : ∀ b o, s.heap.get? b = some o → (h'.push { cls := .type "tuple", data := .seq ws.toArray }).get? b = some o := fun b o e => push_keep _ _ _ (hk' b o e)
        have r2 := rs.mono (Imm.of_keeps kp) (Pre.refl ρ)
        exact k _ _ s.toks kp (.tup ⟨_, Heap.get?_push_size h' rfl, rfl, 0, rfl⟩ r2.1 r2.2)
      · cases e
    · cases e
  · cases e
theorem preSum_ints {ws : List Value} {ns : List Int} (h : IntsAre ws ns) : preSum (fun i => ns.getD i 0) ws.length = ns.sum := by
  have hl : ws.length = ns.length := h.length
  rw [hl]
  clear hl h
  have key : ∀ (k : Nat), k ≤ ns.length → preSum (fun i => ns.getD i 0) k = (ns.take k).sum := by
    intro k
    induction k with
    | zero => intro _; simp [preSum]
    | succ k ih =>
      intro hk
      have e1 : ns[k]? = some (ns[k]) := List.getElem?_eq_getElem (by omega)
      have e2 : List.take (k + 1) ns = List.take k ns ++ [ns[k]] := by rw [List.take_add_one, e1]; rfl
      show preSum _ k + ns.getD k 0 = _
      rw [ih (by omega), e2, List.sum_append]
      simp [List.getD, e1]
  rw [key _ (Nat.le_refl _), List.take_length]
set_option tactic.hygienic true in
theorem q_sum : Q1 prog w mg mb B0 (fun v => call (.builtin "sum") [v]) sumV := by
  intro A ρ σ s Q E a v wa OA G HB C va e k
  unfold sumV at e
  split at e
  · split at e
    · rename_i vs hk
      obtain ⟨_, rfl, ha⟩ := va.cell_inv
      rename_i la
      simp only [Option.map_eq_some_iff] at e
      obtain ⟨ns, en, rfl⟩ := e
      obtain ⟨o, ho, ws, n, rfl, rs⟩ := C.at_ _ _ _ hk ha
      have hi := intsAre_of rs en
      have hl : s.heap.IsList la ws.toArray := ⟨_, ho, rfl, n, rfl⟩
      refine call_sum_walkG (wpAny_pyIter_list hl ?_)
      have hne : la ≠ s.heap.objs.size := Nat.ne_of_lt (Heap.lt_size ho)
      refine ⟨s.heap.objs.size, _, _, _, _, _, fun i => ns.getD i 0, rfl, Walks.list (A := A.in1) OA.hh s.heap.objs.size la hne ws.toArray, ⟨⟨_, Heap.get?_push_size _ rfl, rfl, rfl⟩, hl.push _⟩, ?_, ?_, ?_⟩
      · intro b hb
        show b < (s.heap.push _).objs.size
        rw [Heap.size_push]
        have hla := Heap.lt_size ho
        have hb' : b = s.heap.objs.size ∨ b = la := by simpa using hb
        rcases hb' with e | e
        · rw [e]; exact Nat.lt_succ_self _
        · rw [e]; exact Nat.lt_succ_of_lt hla
      · intro i v hv
        obtain ⟨m, t, rfl, hm⟩ := IntsAre.at hi i v (by simpa using hv)
        exact ⟨t, by simp [List.getD, hm]⟩
      · intro h' tk t' hkp
        have e1 : preSum (fun i => ns.getD i 0) ws.toArray.size = ns.sum := by rw [List.size_toArray]; exact preSum_ints hi
        rw [e1]
        refine k _ h' tk (fun b o e => hkp b o ?_ (push_keep _ _ _ e)) (.int _ _)
        have hbl := Heap.lt_size e
        intro hm
        have : b = s.heap.objs.size := by simpa using hm
        rw [this] at hbl
        exact absurd hbl (Nat.lt_irrefl _)
    · cases e
  · cases e
theorem isinst_bool {A : Around} {s : Shared} {E : Value → Shared → Prop} {b : Bool} {Q : Value → Shared → Prop} (h : Q (.bool true) s) : wpAny (model prog w) A (call (.builtin "isinstance") [.bool b, .type "bool"]) Q E s := IsiPair.bool_bool h
end
end NZ
namespace NZ
open _root_.PySem _root_.PySem.W _root_.PySem.Calls PyProof.Rows _root_.PySem.SeqAt
/-- cells made and turned behind a call -/
theorem OPost.newCell {P : Params} {B0 h h' : Heap} {ρ : List Addr} {σ : List Cell} {a : Addr} {c : Cell} {o : Obj} (C : CRel P B0 h ρ σ) (k : ∀ b o, h.get? b = some o → h'.get? b = some o) (hn : h.get? a = none) (ho : h'.get? a = some o)
    (hc : CR P B0 h' (ρ ++ [a]) c o) : OPost P B0 ρ h (σ ++ [c]) (ρ ++ [a]) h' := by
  have pre : Pre ρ (ρ ++ [a]) := ⟨_, rfl⟩
  have im := Imm.of_keeps k
  have hna : a ∉ ρ := fun hm => by
    obtain ⟨_, _, o', _, _, ho', _⟩ := C.cellOf hm
    rw [hn] at ho'; cases ho'
  refine ⟨⟨by simp [C.len], List.nodup_append.mpr ⟨C.nodup, by simp, fun x hx y hy e => ?_⟩, fun i c' x e1 e2 => ?_⟩, pre, fun b o' e _ => k b o' e, fun x hx => ?_⟩
  · simp at hy; subst hy; subst e; exact hna hx
  · by_cases hi : i < σ.length
    · rw [List.getElem?_append_left hi] at e1
      rw [List.getElem?_append_left (C.len ▸ hi)] at e2
      obtain ⟨o', ho', r⟩ := C.at_ i c' x e1 e2
      exact ⟨o', k _ _ ho', r.mono im pre⟩
    · have hlen := C.len
      have hi' : i = σ.length := by
        have := (List.getElem?_eq_some_iff.mp e1).1
        simp at this; omega
      subst hi'
      simp at e1
      rw [← hlen] at e2
      simp at e2
      subst e1; subst e2
      exact ⟨o, ho, hc⟩
  · rcases List.mem_append.mp hx with hx | hx
    · exact .inl hx
    · simp at hx; subst hx; exact .inr hn
theorem OPost.setCell {P : Params} {B0 h h' : Heap} {ρ : List Addr} {σ : List Cell} {k : Nat} {a : Addr} {c c' : Cell} {o' : Obj} (C : CRel P B0 h ρ σ) (hk : σ[k]? = some c) (ha : ρ[k]? = some a) (ho' : h'.get? a = some o') (hs : ∀ b o, b ≠ a → h.get? b = some o → h'.get? b = some o)
    (hc : CR P B0 h ρ c' o') : OPost P B0 ρ h (σ.set k c') ρ h' := by
  have hmem : a ∈ ρ := List.mem_of_getElem? ha
  have im : Imm h h' := C.imm fun b o e hb => hs b o (fun q => hb (q ▸ hmem)) e
  refine ⟨⟨by simp [C.len], C.nodup, fun i ci ai e1 e2 => ?_⟩, Pre.refl _, fun b o e hb => hs b o (fun q => hb (q ▸ hmem)) e, fun x hx => .inl hx⟩
  by_cases hik : i = k
  · subst hik
    rw [ha] at e2; cases e2
    rw [List.getElem?_set_self (List.getElem?_eq_some_iff.mp hk).1] at e1; cases e1
    exact ⟨o', ho', hc.mono im (Pre.refl _)⟩
  · rw [List.getElem?_set_ne (Ne.symm hik)] at e1
    obtain ⟨o2, ho2, r2⟩ := C.at_ i ci ai e1 e2
    have hne : ai ≠ a := fun q => by
      subst q
      obtain ⟨l1, g1⟩ := List.getElem?_eq_some_iff.mp e2
      obtain ⟨l2, g2⟩ := List.getElem?_eq_some_iff.mp ha
      exact hik ((List.getElem_inj C.nodup).mp (g1.trans g2.symm))
    exact ⟨o2, hs _ _ hne ho2, r2.mono im (Pre.refl _)⟩
/-- fields by name -/
noncomputable def getF (x : Str) : List (Str × V) → Option V
  | [] => none
  | (y, v) :: r => if y = x then some v else getF x r
noncomputable def putF (x : Str) (v : V) : List (Str × V) → List (Str × V)
  | [] => [(x, v)]
  | (y, u) :: r => if y = x then (y, v) :: r else (y, u) :: putF x v r
theorem FR.nil {P : Params} {B0 h : Heap} {ρ : List Addr} : FR P B0 h ρ [] [] := ⟨rfl, fun i x v e a _ => by simp at a⟩
theorem FR.cons {P : Params} {B0 h : Heap} {ρ : List Addr} {x : Str} {v : V} {e : DictEntry} {fs : List (Str × V)} {es : List DictEntry} (h1 : ∃ t, e.key = .str x t) (h2 : e.hash = PyData.keyHash P x) (h3 : VR B0 h ρ v e.val) (h4 : FR P B0 h ρ fs es) :
    FR P B0 h ρ ((x, v) :: fs) (e :: es) := ⟨congrArg (· + 1) h4.1, fun i x' v' e' a b => by
  cases i with
  | zero => simp at a b; obtain ⟨rfl, rfl⟩ := a; subst b; exact ⟨h1, h2, h3⟩
  | succ i => simp at a b; exact h4.2 i x' v' e' a b⟩
theorem FR.inv {P : Params} {B0 h : Heap} {ρ : List Addr} {x : Str} {v : V} {fs : List (Str × V)} {es : List DictEntry} (H : FR P B0 h ρ ((x, v) :: fs) es) :
    ∃ e es', es = e :: es' ∧ (∃ t, e.key = .str x t) ∧ e.hash = PyData.keyHash P x ∧ VR B0 h ρ v e.val ∧ FR P B0 h ρ fs es' := by
  cases es with
  | nil => have := H.1; simp at this
  | cons e es' =>
    obtain ⟨a, b, c⟩ := H.2 0 x v e rfl rfl
    refine ⟨e, es', rfl, a, b, c, ?_, fun i x' v' e' p q => H.2 (i + 1) x' v' e' (by simpa using p) (by simpa using q)⟩
    have := H.1; simpa using this
theorem FR.inv_nil {P : Params} {B0 h : Heap} {ρ : List Addr} {es : List DictEntry} (H : FR P B0 h ρ [] es) : es = [] := by
  cases es with
  | nil => rfl
  | cons e es' => have := H.1; simp at this
theorem FR.get {P : Params} {B0 h : Heap} {ρ : List Addr} {x : Str} : ∀ {fs : List (Str × V)} {es : List DictEntry}, FR P B0 h ρ fs es →
    es.any (·.refKey) = false ∧ (match getF x fs with | some v => ∃ w, getL x es = some (some w) ∧ VR B0 h ρ v w | none => getL x es = some none)
  | [], es, H => by rw [H.inv_nil]; exact ⟨rfl, rfl⟩
  | (y, v) :: fs, es, H => by
    obtain ⟨e, es', rfl, ⟨t, hk⟩, hh, hv, H'⟩ := H.inv
    obtain ⟨i1, i2⟩ := FR.get (x := x) H'
    have hr : e.refKey = false := by unfold DictEntry.refKey; rw [hk]
    refine ⟨by simp only [List.any_cons, hr, i1]; rfl, ?_⟩
    have hs : e.key.isStr x = (y == x) := by rw [hk]; rfl
    by_cases q : y = x
    · have qb : (y == x) = true := by rw [q]; exact beq_self_eq_true x
      have e1 : getF x ((y, v) :: fs) = some v := by show (if y = x then some v else _) = _; rw [if_pos q]
      rw [e1]
      refine ⟨e.val, ?_, hv⟩
      unfold getL
      rw [List.find?_cons, hs, qb]
    · have qb : (y == x) = false := by rw [beq_eq_false_iff_ne]; exact q
      have e1 : getF x ((y, v) :: fs) = getF x fs := by show (if y = x then some v else _) = _; rw [if_neg q]
      rw [e1]
      have e2 : getL x (e :: es') = getL x es' := by
        unfold getL
        rw [List.find?_cons, hs, qb, List.any_cons, hr]
        rfl
      rw [e2]; exact i2
theorem FR.put {P : Params} {B0 h : Heap} {ρ : List Addr} {x : Str} {v : V} {w : Value} {t : Tok} (r : VR B0 h ρ v w) : ∀ {fs : List (Str × V)} {es : List DictEntry}, FR P B0 h ρ fs es → FR P B0 h ρ (putF x v fs) (putL x (PyData.keyHash P x) (.str x t) w es)
  | [], es, H => by rw [H.inv_nil]; exact FR.cons ⟨t, rfl⟩ rfl r FR.nil
  | (y, u) :: fs, es, H => by
    obtain ⟨e, es', rfl, ⟨t', hk⟩, hh, hv, H'⟩ := H.inv
    have hs : e.key.isStr x = (y == x) := by rw [hk]; rfl
    by_cases q : y = x
    · have qb : (y == x) = true := by rw [q]; exact beq_self_eq_true x
      have e1 : putF x v ((y, u) :: fs) = (y, v) :: fs := by show (if y = x then _ else _) = _; rw [if_pos q]
      have e2 : putL x (PyData.keyHash P x) (.str x t) w (e :: es') = ⟨e.hash, e.key, w⟩ :: es' := by show (if e.key.isStr x then _ else _) = _; rw [hs, qb]; rfl
      rw [e1, e2]
      exact FR.cons ⟨t', hk⟩ hh r H'
    · have qb : (y == x) = false := by rw [beq_eq_false_iff_ne]; exact q
      have e1 : putF x v ((y, u) :: fs) = (y, u) :: putF x v fs := by show (if y = x then _ else _) = _; rw [if_neg q]
      have e2 : putL x (PyData.keyHash P x) (.str x t) w (e :: es') = e :: putL x (PyData.keyHash P x) (.str x t) w es' := by show (if e.key.isStr x then _ else _) = _; rw [hs, qb]; rfl
      rw [e1, e2]
      exact FR.cons ⟨t', hk⟩ hh hv (FR.put r H')
theorem putL_len (x : Str) (hsh : Int) (k v : Value) : ∀ es : List DictEntry, (putL x hsh k v es).length ≤ es.length + 1
  | [] => Nat.le_refl _
  | e :: r => by
    show (if e.key.isStr x then _ else _ : List DictEntry).length ≤ _
    split
    · simp
    · simp only [List.length_cons]; have := putL_len x hsh k v r; omega
section
variable {ck : Bool} {M : Model} {A : Around} {env : Env} {E : Value → Shared → Prop} {s : Shared}
theorem X_AttrName {x : Str} {xp pos : Pos} {attr : Str} {Q : Value → Shared → Prop} (h : wpX ck M A (eval (.Name x xp) env) (fun o s₁ => wpX ck M A (getAttr o attr true) Q E s₁) E s) : wpX ck M A (eval (.Attribute (.Name x xp) attr pos) env) Q E s := by
  rw [arm_eval_Attribute]
  show wpX ck M A (eval (.Name x xp) env >>= fun o => standAt pos.atName >>= fun _ => PySem.holding [o] (getAttr o attr true) >>= fun r => pure () >>= fun _ => pure r) Q E s
  exact X.bind (h.val fun o s₁ h₁ => X.stand (X.bind (X.holding (h₁.val fun r s₂ h₂ => X.pureb (X.pure h₂)))))
theorem X_AssignAttr {o value : Expr} {attr : Str} {pos' pos : Pos} {Q : Flow → Shared → Prop}
    (h : wpX ck M A (eval value env) (fun v s₁ => wpX ck M A (eval o env) (fun ov s₂ => wpX ck M A (setAttr ov attr v) (fun _ => Q .next) E s₂) E s₁) E s)
    (hs : swapsWith value (some (.Attribute o attr pos')) pos.line env = pure false) : wpX ck M A (exec (.Assign [.Attribute o attr pos'] value pos) env) Q E s := fun Γ p hΓ hC => by
  simp only [plainObj_exec_Assign_Attribute o attr pos' value pos hs, assign_Attribute, Sem.wp_bind', Sem.wp_holding, Sem.wp_cmd_standAt, Sem.wp_release, Sem.wp_pure']
  exact Sem.wp_mono M Γ _ (fun v p₁ s₁ h₁ => Sem.wp_mono M Γ _ (fun ov _ s₂ h₂ => h₂ Γ _ hΓ hC) (fun _ _ _ h' => h') _ _ (h₁ Γ p₁ hΓ hC)) (fun _ _ _ h' => h') _ _ (h Γ _ hΓ hC)
theorem X_AssignSub {o i value : Expr} {pos' pos : Pos} {Q : Flow → Shared → Prop}
    (h : wpX ck M A (eval value env) (fun v s₁ => wpX ck M A (eval o env) (fun ov s₂ => wpX ck M A (eval i env) (fun iv s₃ => wpX ck M A (setItem ov iv v) (fun _ => Q .next) E s₃) E s₂) E s₁) E s)
    (hs : swapsWith value (some (.Subscript o i pos')) pos.line env = pure false) : wpX ck M A (exec (.Assign [.Subscript o i pos'] value pos) env) Q E s := fun Γ p hΓ hC => by
  simp only [exec_Assign_Subscript o i pos' value pos hs, assign_Subscript, Sem.wp_bind', Sem.wp_holding, Sem.wp_cmd_standAt, Sem.wp_release, Sem.wp_pure']
  exact Sem.wp_mono M Γ _ (fun v p₁ s₁ h₁ => Sem.wp_mono M Γ _ (fun ov p₂ s₂ h₂ => Sem.wp_mono M Γ _ (fun iv _ s₃ h₃ => h₃ Γ _ hΓ hC) (fun _ _ _ h' => h') _ _ (h₂ Γ p₂ hΓ hC)) (fun _ _ _ h' => h') _ _ (h₁ Γ p₁ hΓ hC)) (fun _ _ _ h' => h') _ _ (h Γ _ hΓ hC)
end
end NZ
namespace NZ
open _root_.PySem _root_.PySem.W _root_.PySem.Calls PyProof.Rows _root_.PySem.SeqAt
/-- what is asked of a class -/
structure ClsOk (K : Frag) (C : Addr) : Prop where
  ga : findIn K (.ref C) "__getattribute__" = some (some (.builtin "object.__getattribute__"))
  gt : findIn K (.ref C) "__getattr__" = some none
  sa : findIn K (.ref C) "__setattr__" = some (some (.builtin "object.__setattr__"))
  po : plainOver K C = true
  hd : hasDictIn K C = true
noncomputable def attrV (C : Addr) (x : Str) (σ : List Cell) : V → Option V
  | .obj C' k => if C' = C then (match σ[k]? with
    | some (.flds fs) => getF x fs
    | _ => none) else none
  | _ => none
noncomputable def sSetAttr (C : Addr) (x : Str) (fo fe : Loc → List Cell → Res V) : Loc → List Cell → RS := sBind fe fun v => sBind fo fun o => fun m σ => match o with
  | .obj C' k => if C' = C then (match σ[k]? with
    | some (.flds fs) => if fs.length ≤ 100 then .next m (σ.set k (.flds (putF x v fs))) else .bad
    | _ => .bad) else .bad
  | _ => .bad
theorem VR.handed {B0 h : Heap} {ρ : List Addr} {v : V} {w : Value} (r : VR B0 h ρ v w) : handedIn w = true := by cases r <;> rfl
section
variable {ck : Bool} {prog : Program} {w : World} {mg mb : Str → Option Value} {B0 : Heap} {q q1 q2 : Bool} {d d' : Nat} {sc : Scope} {vars : List Str}
theorem obj_at {h : Heap} {ρ : List Addr} {σ : List Cell} {C : Addr} {k : Nat} {x : Value} {fs : List (Str × V)} (R : CRel w.params B0 h ρ σ) (r : VR B0 h ρ (.obj C k) x) (hk : σ[k]? = some (.flds fs)) :
    ∃ a dx es n, x = .ref a ∧ ρ[k]? = some dx ∧ h.get? a = some (instObj C dx) ∧ h.get? dx = some (dictOf es n) ∧ FR w.params B0 h ρ fs es := by
  cases r with
  | obj e hx =>
  obtain ⟨o, ho, es, n, rfl, fr⟩ := R.at_ _ _ _ hk e
  exact ⟨_, _, es, n, rfl, e, hx, ho, fr⟩
set_option tactic.hygienic true in
theorem q_attr {C : Addr} {x : Str} (hC : ClsOk (hd.heap_39 w.params) C) (hx : findIn (hd.heap_39 w.params) (.ref C) x = some none) : Q1 prog w mg mb B0 (fun o => getAttr o x true) (attrV C x) := by
  intro A ρ σ s Q E a v wa OA G HB R va e k
  unfold attrV at e
  split at e
  · split at e
    · rename_i hq
      subst hq
      split at e
      · rename_i fs hk
        obtain ⟨xa, dx, es, n, rfl, hdx, hxa, hD, fr⟩ := obj_at R va hk
        have X := G.kx.keeps HB
        obtain ⟨_, g⟩ := fr.get (x := x)
        rw [e] at g
        obtain ⟨wv, g1, g2⟩ := g
        have I : InstAt s.heap xa (instObj _ dx) _ (some (dictOf es n)) := ⟨hxa, rfl, rfl, hD⟩
        refine get_value X I hC.ga (findObj_own hC.hd hx rfl g1) g2.handed ?_
        exact k _ s.heap _ (fun _ _ e => e) g2
      · cases e
    · cases e
  · cases e
theorem SV.attr {n : Str} {np pos : Pos} {x : Str} {C : Addr} {f : Loc → List Cell → Res V} (ho : SV ck prog w mg mb B0 q d sc vars (.Name n np) f) (hC : ClsOk (hd.heap_39 w.params) C) (hx : findIn (hd.heap_39 w.params) (.ref C) x = some none) :
    SV ck prog w mg mb B0 q d sc vars (.Attribute (.Name n np) x pos) (pUn (attrV C x) f) := by
  intro X env ρ σ m s Q E O Ek R nb ok ex
  refine X_AttrName (ho.step O Ek R nb ex fun a σ1 ρ1 wa h1 tk1 P1 va nb1 ex1 e1 => ?_)
  obtain ⟨v, ev, e3⟩ := pOp_nb nb1
  exact ax <| q_attr hC hx X.A ρ1 σ1 _ Q E a v wa O.a O.gd (P1.rel.b0 O) P1.rel.c va ev fun x h3 tk3 k3 v3 => ok v σ1 ρ1 x h3 tk3 (e1.trans e3) (P1.then k3) v3
theorem set_at {A : Around} {E : Value → Shared → Prop} {s : Shared} {K : Frag} {C x dx : Addr} {name : Str} {v : Value} {es : List DictEntry} {n : Nat} {Q : Unit → Shared → Prop} (X : K.In s.heap) (hC : ClsOk K C) (ht : takerIn K C name = some none)
    (hx : s.heap.get? x = some (instObj C dx)) (D : s.heap.get? dx = some (dictOf es n)) (hany : es.any (·.refKey) = false) (hz : es.length ≤ 900)
    (h : ∀ h' t, Heap.SameBut dx s.heap h' → h'.get? dx = some (dictOf (putL name (PyData.keyHash w.params name) (.str name t) v es) (putN name es n)) → Q () { s with heap := h', toks := s.toks + 2 }) :
    wpAny (model prog w) A (setAttr (.ref x) name v) Q E s := by
  have I : InstAt s.heap x (instObj C dx) C (some (dictOf es n)) := ⟨hx, rfl, rfl, D⟩
  refine set_plain X I hC.sa (osa_open (s := { s with toks := s.toks + 1 }) X I hC.po ht fun b => ?_)
  obtain ⟨cd, hc, hd'⟩ := any_some hC.hd
  refine wpAny_bind (wpAny_pure (wpAny_bind (wpAny_bind (wpAny_loadPart hx (wpAny_bind (Looks.here (s := { s with toks := s.toks + 1 }) (looks_clsIn X hc) ?_))))))
  rw [hd']
  refine wpAny_pure (a := some dx) (wpAny_bind (wpAny_pure (wpAny_bind ?_)))
  unfold nsSet
  refine wpAny_bind (wpAny_bind (wpAny_askSetting (wpAny_pure (wpAny_bind (wpAny_mkText (wpAny_bind (wpAny_loadPart D ?_)))))))
  dsimp only
  have c : (!es.toArray.any (·.key.isStr name) && es.toArray.any (·.refKey)) = false := by
    have : es.toArray.any (·.refKey) = false := by rw [← Array.any_toList]; exact hany
    rw [this, Bool.and_false]
  rw [aRefKeyMayBeTheName_at, c]
  have D' := Heap.get?_update_self (Obj.putName name (PyData.keyHash w.params name) (.str name (s.toks + 1)) v) D (by rw [putName_dict]; rfl)
  rw [putName_dict] at D'
  refine wpAny_updatePart D ?_
  refine wpAny_bind (wpAny_lookBehind D' (pastItsLine_dict (by
    have := putL_len name (PyData.keyHash w.params name) (.str name (s.toks + 1)) v es
    rw [List.size_toArray, sizeLine_eq]; omega)) ?_)
  exact wpAny_pure (h _ _ (Heap.SameBut.update ..) D')
theorem S1.setattr {n : Str} {np tp pos : Pos} {x : Str} {C : Addr} {e : Expr} {fo fe : Loc → List Cell → Res V} (he : SV ck prog w mg mb B0 q1 d sc vars e fe) (ho : SV ck prog w mg mb B0 q2 d sc vars (.Name n np) fo)
    (hC : ClsOk (hd.heap_39 w.params) C) (hx : takerIn (hd.heap_39 w.params) C x = some none) (hs : ∀ env, swapsWith e (some (.Attribute (.Name n np) x tp)) pos.line env = pure false := by intro _; rfl) :
    S1 ck prog w mg mb B0 d sc vars (.Assign [.Attribute (.Name n np) x tp] e pos) (sSetAttr C x fo fe) := by
  intro X ρ σ m s Q E O Ek EL R nb nx rt ex
  refine X_AssignAttr (he.stepS O Ek R nb ex fun v σ1 ρ1 wv h1 tk1 P1 rv nb1 ex1 e1 => ho.stepS O Ek P1.rel nb1 ex1 fun o σ2 ρ2 wo h2 tk2 P2 ro nb2 ex2 e2 => ?_) (hs _)
  cases o with
  | obj C' k =>
    by_cases hq : C' = C
    · subst hq
      cases hk : σ2[k]? with
      | none => exact absurd (by show (if _ then (match σ2[k]? with | some (.flds fs) => _ | _ => _) else _) = _; rw [hk, if_pos rfl]) nb2
      | some c =>
      cases c with
      | flds fs =>
        by_cases hl : fs.length ≤ 100
        · obtain ⟨xa, dx, es, nn, rfl, hdx, hxa, hD, fr⟩ := obj_at P2.rel.c ro hk
          have hlen := fr.1
          have e3 : (fun m σ => match V.obj C' k with
            | .obj C' k => if C' = C' then (match σ[k]? with
              | some (.flds fs) => if fs.length ≤ 100 then RS.next m (σ.set k (.flds (putF x v fs))) else .bad
              | _ => .bad) else .bad
            | _ => .bad) m σ2 = RS.next m (σ2.set k (.flds (putF x v fs))) := by
            show (if C' = C' then (match σ2[k]? with | some (.flds fs) => _ | _ => _) else _) = _
            rw [if_pos rfl, hk]
            show (if fs.length ≤ 100 then _ else _) = _
            rw [if_pos hl]
          refine ax <| set_at (s := { s with heap := h2, toks := tk2 }) (O.gd.kx.keeps (P2.rel.b0 O)) hC hx hxa hD (fr.get (x := x)).1 (by omega) fun h' t hs' hD' => ?_
          have rv2 := rv.mono P2.imm P2.pre
          have op : OPost w.params B0 ρ2 h2 (σ2.set k (.flds (putF x v fs))) ρ2 h' :=
            OPost.setCell P2.rel.c hk hdx hD' (fun b o hb e => (hs'.2 b hb).trans e) ⟨_, _, rfl, FR.put rv2 fr⟩
          obtain ⟨R3, im3⟩ := P2.rel.of_op op
          exact nx m _ ρ2 h' _ (e1.trans (e2.trans e3)) (P1.back (P2.back (q2 := false) ⟨R3, im3, op.pre, fun z => by cases z⟩))
        · exact absurd (by show (if _ then (match σ2[k]? with | some (.flds fs) => _ | _ => _) else _) = _; rw [hk, if_pos rfl]; show (if fs.length ≤ 100 then _ else _) = _; rw [if_neg hl]) nb2
      | list _ => exact absurd (by show (if _ then (match σ2[k]? with | some (.flds fs) => _ | _ => _) else _) = _; rw [hk, if_pos rfl]) nb2
      | barr _ => exact absurd (by show (if _ then (match σ2[k]? with | some (.flds fs) => _ | _ => _) else _) = _; rw [hk, if_pos rfl]) nb2
    · exact absurd (by show (if C' = C then _ else _) = _; rw [if_neg hq]) nb2
  | _ => exact absurd rfl nb2
end
end NZ
namespace NZ
open _root_.PySem _root_.PySem.W _root_.PySem.Calls PyProof.Rows _root_.PySem.SeqAt
noncomputable abbrev Fn := List Cell → List V → Res V
noncomputable def appendφ : Fn := fun σ vs => match vs with
  | [.cell k, v] => match σ[k]? with
    | some (.list us) => if us.length ≤ 100000 then .ok .none (σ.set k (.list (us ++ [v]))) else .bad
    | _ => .bad
  | _ => .bad
noncomputable def bappendφ : Fn := fun σ vs => match vs with
  | [.cell k, .int n] => match σ[k]? with
    | some (.barr b) => if (0 ≤ n ∧ n < 256) ∧ b.length < 1000000 then .ok .none (σ.set k (.barr (b ++ [n.toNat.toUInt8]))) else .bad
    | _ => .bad
  | _ => .bad
noncomputable def extendφ : Fn := fun σ vs => match vs with
  | [.cell k, .bytes c] => match σ[k]? with
    | some (.barr b) => if b.length + c.length ≤ 1000000 then .ok .none (σ.set k (.barr (b ++ c))) else .bad
    | _ => .bad
  | _ => .bad
noncomputable def barrayφ : Fn := fun σ vs => match vs with
  | [] => .ok (.cell σ.length) (σ ++ [.barr []])
  | _ => .bad
noncomputable def fn1 (F : List Cell → V → Option V) : Fn := fun σ vs => match vs with
  | [a] => (match F σ a with | some v => .ok v σ | none => .bad)
  | _ => .bad
noncomputable abbrev MK := List Cell → V → Option Fn
noncomputable def pMeth (K : MK) (f : Loc → List Cell → Res V) (g : Loc → List Cell → Res (List V)) : Loc → List Cell → Res V := pBind f fun v => fun m σ => match K σ v with
  | some φ => pCall φ [] g m σ
  | none => .bad
section
variable (ck : Bool) (prog : Program) (w : World) (mg mb : Str → Option Value) (B0 : Heap)
/-- a method found -/
noncomputable def Meth (d : Nat) (name : Str) (K : MK) : Prop :=
  ∀ (A : Around) (ρ : List Addr) (σ : List Cell) (s : Shared) (v : V) (φ : Fn) (x : Value) (pl : Sem Bool) (Q : Value × List Value → Shared → Prop) (E : Value → Shared → Prop),
    AOk A → Gd w mg mb B0 → B0.StaysIn s.heap → CRel w.params B0 s.heap ρ σ → VR B0 s.heap ρ v x → K σ v = some φ →
    (∀ (fv : Value) (first : List Value) (vfirst : List V) (ψ : Fn), KOk (model prog w) B0 fv → VRs B0 s.heap ρ vfirst first → CF ck prog w mg mb B0 d (fun ws => call fv ws) ψ → (∀ σ vs, ψ σ (vfirst ++ vs) = φ σ vs) → Q (fv, first) s) →
    wpAny (model prog w) A (getMethod x name pl) Q E s
end
section
variable {ck : Bool} {prog : Program} {w : World} {mg mb : Str → Option Value} {B0 : Heap} {q q1 q2 : Bool} {d d' : Nat} {sc : Scope} {vars : List Str}
theorem SV.meth {o : Expr} {name : Str} {apos pos : Pos} {es : List Expr} {pl : Env → Sem Bool} {K : MK} {f : Loc → List Cell → Res V} {g : Loc → List Cell → Res (List V)} (ho : SV ck prog w mg mb B0 q1 d sc vars o f) (hm : Meth ck prog w mg mb B0 d' name K) (hd : d' ≤ d)
    (ha : SA ck prog w mg mb B0 q2 d sc vars pos es g)
    (he : ∀ env, eval (.Call (.Attribute o name apos) es [] pos) env = (do
      let ov ← eval o env
      standAt apos.atName
      let (f, first) ← PySem.holding [ov] (getMethod ov name (pl env))
      callWith pos f first (backTo pos (starEach es env)) []) := by intro _; rfl)
    (hs : ∀ env, (starEach es env).any (·.1) = false := by intro _; rfl) :
    SV ck prog w mg mb B0 false d sc vars (.Call (.Attribute o name apos) es [] pos) (pMeth K f g) := by
  intro X env ρ σ m s Q E O Ek R nb ok ex
  refine X_MethodCall (pl := pl env) (ho.step O Ek R nb ex fun v σ1 ρ1 wv h1 tk1 P1 rv nb1 ex1 e1 => ?_) (he env)
  cases hK : K σ1 v with
  | none => exact absurd (by show (match K σ1 v with | some φ => _ | none => _) = _; rw [hK]) nb1
  | some φ =>
  have e2 : (fun m σ => match K σ v with | some φ => pCall φ [] g m σ | none => Res.bad) m σ1 = pCall φ [] g m σ1 := by show (match K σ1 v with | some φ => _ | none => _) = _; rw [hK]
  have nb2 : pCall φ [] g m σ1 ≠ .bad := fun z => nb1 (e2.trans z)
  refine ax <| hm X.A ρ1 σ1 _ v φ wv (pl env) _ E O.a O.gd (P1.rel.b0 O) P1.rel.c rv hK fun fv first vfirst ψ hk hf hc hψ => ?_
  have e3 : pCall ψ vfirst g m σ1 = pCall φ [] g m σ1 := by
    unfold pCall pBind
    cases g m σ1 with
    | ok vs σ' => exact hψ σ' vs
    | exc c => rfl
    | bad => rfl
  refine call_run O Ek P1.rel (hs env) ha hk hd hc hf (fun z => nb2 (e3.symm.trans z)) (fun c z => ex1 c (e2.trans (e3.symm.trans z))) fun v' σ' ρ' x h' tk' z P2 r => ?_
  exact ok v' σ' ρ' x h' tk' (e1.trans (e2.trans (e3.symm.trans z))) ((P1.weak (q2 := false) (by simp)).trans P2 |>.weak (by simp)) r
set_option tactic.hygienic true in
theorem cf_append : CF ck prog w mg mb B0 d (fun ws => call (.builtin "list.append") ws) appendφ := by
  intro A base outer ρ σ vs ws s Q E O C rs nb ok ex
  unfold appendφ at nb ok
  split at nb
  · rename_i k v
    split at nb
    · rename_i us hk
      split at nb
      · rename_i hl
        obtain ⟨wc, ws', rfl, rc, rs'⟩ := rs.inv_cons
        obtain ⟨wv, ws'', rfl, rv, rs''⟩ := rs'.inv_cons
        obtain rfl := rs''.inv_nil
        obtain ⟨_, rfl, ha⟩ := rc.cell_inv
        obtain ⟨o, ho, zs, n, rfl, r⟩ := C.at_ _ _ _ hk ha
        refine ax <| append_at ho (fun h' hs ho' => ?_) (by simp only [List.size_toArray]; rw [← r.1, sizeLine_eq]; omega)
        refine ok .none _ ρ .none h' s.toks (by simp only [hk, hl, if_true]) (OPost.setCell (c' := .list (us ++ [v])) C hk ha ho' (fun b o hb e => (hs.2 b hb).trans e) ⟨zs ++ [wv], n + 1, by simp, r.snoc rv⟩) .none
      · exact absurd rfl nb
    · exact absurd rfl nb
  · exact absurd rfl nb
set_option tactic.hygienic true in
theorem cf_bappend : CF true prog w mg mb B0 d (fun ws => call (.builtin "bytearray.append") ws) bappendφ := by
  intro A base outer ρ σ vs ws s Q E O C rs nb ok ex
  unfold bappendφ at nb ok
  split at nb
  · rename_i k v
    split at nb
    · rename_i us hk
      split at nb
      · rename_i hl
        obtain ⟨wc, ws', rfl, rc, rs'⟩ := rs.inv_cons
        obtain ⟨wv, ws'', rfl, rv, rs''⟩ := rs'.inv_cons
        obtain rfl := rs''.inv_nil
        obtain ⟨_, rfl, ha⟩ := rc.cell_inv
        obtain ⟨tv, rfl⟩ := rv.int_inv
        obtain ⟨o, ho, r⟩ := C.at_ _ _ _ hk ha
        have r' : o = barrOf us := r
        subst r'
        refine ba_append O.gu ho hl.1 hl.2 fun h' hs ho' => ?_
        refine ok .none _ ρ .none h' s.toks (by simp only [hk]; rw [if_pos hl]) (OPost.setCell (c' := .barr _) C hk ha ho' (fun b o hb e => (hs.2 b hb).trans e) rfl) .none
      · exact absurd rfl nb
    · exact absurd rfl nb
  · exact absurd rfl nb
set_option tactic.hygienic true in
theorem cf_extend : CF true prog w mg mb B0 d (fun ws => call (.builtin "bytearray.extend") ws) extendφ := by
  intro A base outer ρ σ vs ws s Q E O C rs nb ok ex
  unfold extendφ at nb ok
  split at nb
  · rename_i k c
    split at nb
    · rename_i us hk
      split at nb
      · rename_i hl
        obtain ⟨wc, ws', rfl, rc, rs'⟩ := rs.inv_cons
        obtain ⟨wv, ws'', rfl, rv, rs''⟩ := rs'.inv_cons
        obtain rfl := rs''.inv_nil
        obtain ⟨_, rfl, ha⟩ := rc.cell_inv
        obtain ⟨tv, rfl⟩ := rv.bytes_inv
        obtain ⟨o, ho, r⟩ := C.at_ _ _ _ hk ha
        have r' : o = barrOf us := r
        subst r'
        refine ba_extend O.gu ho hl fun h' hs ho' => ?_
        refine ok .none _ ρ .none h' s.toks (by simp only [hk]; rw [if_pos hl]) (OPost.setCell (c' := .barr _) C hk ha ho' (fun b o hb e => (hs.2 b hb).trans e) rfl) .none
      · exact absurd rfl nb
    · exact absurd rfl nb
  · exact absurd rfl nb
theorem cf_barray : CF true prog w mg mb B0 d (fun ws => call (.type "bytearray") ws) barrayφ := by
  intro A base outer ρ σ vs ws s Q E O C rs nb ok ex
  unfold barrayφ at nb ok
  split at nb
  · obtain rfl := rs.inv_nil
    refine ba_make O.gu fun h' hk hlt ho => ?_
    have hn : s.heap.get? s.heap.objs.size = none := by
      cases e : s.heap.get? s.heap.objs.size with
      | none => rfl
      | some o => exact absurd (Heap.lt_size e) (Nat.lt_irrefl _)
    refine ok _ _ (ρ ++ [s.heap.objs.size]) _ h' s.toks rfl (OPost.newCell (c := .barr []) C hk hn ho rfl) (.cell ?_)
    rw [← C.len]; simp
  · exact absurd rfl nb
set_option tactic.hygienic true in
theorem q_bytes : Q1 prog w mg mb B0 (fun v => call (.type "bytes") [v]) bytesV := by
  intro A ρ σ s Q E a v wa OA G HB C va e k
  unfold bytesV at e
  split at e
  · split at e
    · rename_i vs hk
      obtain ⟨_, rfl, ha⟩ := va.cell_inv
      obtain ⟨ns, en, e⟩ := Option.bind_eq_some_iff.mp e
      split at e
      · rename_i h
        cases e
        obtain ⟨o, ho, ws, n, rfl, rs⟩ := C.at_ _ _ _ hk ha
        have hi := intsAre_of rs en
        refine call_bytes_ints (vs := ws) ⟨_, ho, rfl, n, rfl⟩ hi h.1 (by rw [hi.length, sizeLine_eq]; omega) OA.hh fun h' t kk hk' => ?_
        exact k _ h' kk hk' (.bytes _ _)
      · cases e
    · rename_i b hk
      split at e
      · rename_i h
        obtain ⟨_, rfl, ha⟩ := va.cell_inv
        cases e
        obtain ⟨o, ho, r⟩ := C.at_ _ _ _ hk ha
        have r' : o = barrOf b := r
        subst r'
        exact by_make (.inr ⟨_, rfl, ho⟩) h fun t kk => k _ s.heap kk (fun _ _ e => e) (.bytes _ _)
      · cases e
    · cases e
  · rename_i b
    split at e
    · rename_i h
      obtain ⟨t, rfl⟩ := va.bytes_inv
      cases e
      exact by_make (.inl ⟨t, rfl⟩) h fun t kk => k _ s.heap kk (fun _ _ e => e) (.bytes _ _)
    · cases e
  · cases e
noncomputable def appendK : MK := fun σ v => match v with
  | .cell k => match σ[k]? with
    | some (.list _) => some fun σ vs => appendφ σ (.cell k :: vs)
    | some (.barr _) => some fun σ vs => bappendφ σ (.cell k :: vs)
    | _ => none
  | _ => none
noncomputable def extendK : MK := fun σ v => match v with
  | .cell k => match σ[k]? with
    | some (.barr _) => some fun σ vs => extendφ σ (.cell k :: vs)
    | _ => none
  | _ => none
noncomputable def objK (C : Addr) (name : Str) (φ : Fn) : MK := fun σ v => match v with
  | .obj C' k => if C' = C then (match σ[k]? with
    | some (.flds fs) => if getF name fs = none then some fun σ vs => φ σ (.obj C' k :: vs) else none
    | _ => none) else none
  | _ => none
set_option tactic.hygienic true in
theorem meth_append : Meth true prog w mg mb B0 d (Str.ofString "append") appendK := by
  intro A ρ σ s v φ x pl Q E OA G HB C rv e k
  unfold appendK at e
  split at e
  · split at e
    · rename_i kk us hk
      cases e
      obtain ⟨_, rfl, ha⟩ := rv.cell_inv
      obtain ⟨o, ho, ws, n, rfl, rs⟩ := C.at_ _ _ _ hk ha
      refine getMethod_builtin (T := "list") ⟨_, ho, rfl⟩ _root_.PySem.F.plainAttrs_list _root_.PySem.F.slot_list_append _root_.PySem.F.type_list_append (fun a e => by cases e; exact ⟨_, ho, rfl⟩) ?_
      exact k _ _ _ appendφ kok_builtin (VRs.cons (.cell ha) VRs.nil) cf_append fun σ vs => rfl
    · rename_i kk us hk
      cases e
      obtain ⟨_, rfl, ha⟩ := rv.cell_inv
      obtain ⟨o, ho, r⟩ := C.at_ _ _ _ hk ha
      have r' : o = barrOf us := r
      subst r'
      refine getMethod_builtin (T := "bytearray") ⟨_, ho, rfl⟩ ba_plainAttrs ba_slot_append ba_type_append (fun a e => by cases e; exact ⟨_, ho, rfl⟩) ?_
      exact k _ _ _ bappendφ kok_builtin (VRs.cons (.cell ha) VRs.nil) cf_bappend fun σ vs => rfl
    · cases e
  · cases e
set_option tactic.hygienic true in
theorem meth_extend : Meth true prog w mg mb B0 d (Str.ofString "extend") extendK := by
  intro A ρ σ s v φ x pl Q E OA G HB C rv e k
  unfold extendK at e
  split at e
  · split at e
    · rename_i kk us hk
      cases e
      obtain ⟨_, rfl, ha⟩ := rv.cell_inv
      obtain ⟨o, ho, r⟩ := C.at_ _ _ _ hk ha
      have r' : o = barrOf us := r
      subst r'
      refine getMethod_builtin (T := "bytearray") ⟨_, ho, rfl⟩ ba_plainAttrs ba_slot_extend ba_type_extend (fun a e => by cases e; exact ⟨_, ho, rfl⟩) ?_
      exact k _ _ _ extendφ kok_builtin (VRs.cons (.cell ha) VRs.nil) cf_extend fun σ vs => rfl
    · cases e
  · cases e
set_option tactic.hygienic true in
theorem meth_obj {C f : Addr} {name : Str} {φ : Fn} (hC : ClsOk (hd.heap_39 w.params) C) (hf : findIn (hd.heap_39 w.params) (.ref C) name = some (some (.ref f))) (ht : typeIn (hd.heap_39 w.params) (.ref f) = some (.type "function"))
    (hkp : keepIn (hd.heap_39 w.params) (.ref f) = true) (hc : CF ck prog w mg mb B0 d (fun ws => call (.ref f) ws) φ) : Meth ck prog w mg mb B0 d name (objK C name φ) := by
  intro A ρ σ s v φ' x pl Q E OA G HB R rv e k
  unfold objK at e
  split at e
  · split at e
    · rename_i hq
      subst hq
      split at e
      · rename_i fs hk
        split at e
        · rename_i hn
          cases e
          obtain ⟨xa, dx, es, n, rfl, hdx, hxa, hD, fr⟩ := obj_at R rv hk
          have X := G.kx.keeps HB
          have I : InstAt s.heap xa (instObj _ dx) _ (some (dictOf es n)) := ⟨hxa, rfl, rfl, hD⟩
          have g := (fr.get (x := name)).2
          rw [hn] at g
          refine method_fn X I hC.ga hC.gt hf ht (by show (lookIn name (dictOf es n)).map _ = _; rw [lookIn_dict, g]; rfl) ?_
          exact k _ _ [_] φ (kok_K G.kx hkp) (VRs.cons rv VRs.nil) hc fun σ vs => rfl
        · cases e
      · cases e
    · cases e
  · cases e
end
end NZ
namespace NZ
open _root_.PySem _root_.PySem.W _root_.PySem.Calls PyProof.Rows _root_.PySem.SeqAt
noncomputable def makeφ (C : Addr) (φ : Fn) : Fn := fun σ vs => match φ (σ ++ [.flds []]) (.obj C σ.length :: vs) with
  | .ok .none σ' => .ok (.obj C σ.length) σ'
  | .ok _ _ => .bad
  | .exc c => .exc c
  | .bad => .bad
section
variable {ck : Bool} {prog : Program} {w : World} {mg mb : Str → Option Value} {B0 : Heap} {q q1 q2 : Bool} {d d' : Nat} {sc : Scope} {vars : List Str} {A : Around} {E : Value → Shared → Prop} {s : Shared}
theorem makeX {C fI : Addr} {rest : List Value} {Q : Value → Shared → Prop} (Y : Makes (model prog w) s.heap C) (hi : Looks (model prog w) s.heap (typeLookup (.ref C) "__init__") (some (.ref fI)))
    (hb : ∀ self, Looks (model prog w) s.heap (bindSpecial (.ref fI) self) (.ref fI, [self]))
    (hq : wpX ck (model prog w) (A.under (.builtin "type.__call__" ⟨.ref C :: rest, []⟩)) (call (.ref fI) (.ref (s.heap.objs.size + 1) :: rest)) (fun v s' => v = .none ∧ Q (.ref (s.heap.objs.size + 1)) s') E { s with heap := (s.heap.push emptyDict).push (instObj C s.heap.objs.size) }) :
    wpX ck (model prog w) A (call (.ref C) rest) Q E s := by
  have Y' := Y
  obtain ⟨⟨oc, od, cd, sl, hC, e1, e2, e4⟩, made, base, self, top, call, typ⟩ := Y
  refine X.call (codeX.tree rfl ?_)
  show wpX ck _ _ (callAny (.ref C) _) _ _ _
  simp only [callAny]
  refine X.bind (ax (wpAny_load hC ?_))
  show wpX ck _ _ (callAny.viaDunder (.ref C) _) _ _ _
  unfold callAny.viaDunder
  refine X.bind (ax (call.here ?_))
  dsimp only
  rw [tc_bind]
  refine X.pureb ?_
  refine X.pureb ?_
  refine X.pure (a := Fin.again (.call (.builtin "type.__call__") ⟨.ref C :: rest, []⟩)) (And.intro rfl ?_)
  refine codeX.tree rfl ?_
  show wpX ck _ _ (checkBuiltinCall "type.__call__" ⟨.ref C :: rest, []⟩ >>= fun _ => again (.builtin "type.__call__" ⟨.ref C :: rest, []⟩)) _ _ _
  refine X.bind (ax (check_slot tc_kind tc_split typ (tc_args _ _ _) ?_))
  refine X.pure ⟨Code.quiet_builtin _ (by decide +kernel), codeX.builtin (dec_no (by decide +kernel)) F.entry_type_call ?_⟩
  unfold Builtin.«type.__call__»
  dsimp only
  have hm : Looks (model prog w) s.heap (mroOf (.ref C)) cd.mro := ((Looks.ld (part := none) hC).andThen .now).andThen .now
  refine X_if_false rfl ?_
  refine X.bind (ax (hm.here ?_))
  rw [e4]
  refine X_if_false rfl ?_
  refine X.bind (ax (made.here ?_))
  dsimp only
  refine X.pureb ?_
  refine X.bind (X.holding (X.call (axc (new_K Y' hi (.inl rfl) ?_))))
  have k : ∀ b o, s.heap.get? b = some o → ((s.heap.push emptyDict).push (instObj C s.heap.objs.size)).get? b = some o := fun b o e => Heap.get?_push_of_some _ (Heap.get?_push_of_some _ e)
  have hx : ((s.heap.push emptyDict).push (instObj C s.heap.objs.size)).get? (s.heap.objs.size + 1) = some (instObj C s.heap.objs.size) := by
    have := Heap.get?_push_size (o := instObj C s.heap.objs.size) (s.heap.push emptyDict) rfl
    rw [Heap.size_push] at this; exact this
  have t1 : Looks (model prog w) ((s.heap.push emptyDict).push (instObj C s.heap.objs.size)) (typeOf (.ref (s.heap.objs.size + 1))) (.ref C) := (Looks.ld hx).andThen .now
  have s1 := self.keeps k
  have i1 := hi.keeps k
  have b1 := (hb (.ref (s.heap.objs.size + 1))).keeps k
  refine X.bind (ax (Looks.here (s := { s with heap := (s.heap.push emptyDict).push (instObj C s.heap.objs.size) }) (t1.andThen s1) ?_))
  refine X_if_false rfl ?_
  refine X.bind (X.holding ?_)
  unfold callSpecial?
  refine X.bind (ax (Looks.here (s := { s with heap := (s.heap.push emptyDict).push (instObj C s.heap.objs.size) }) (t1.andThen i1) ?_))
  dsimp only
  refine X.holding (X.bind (ax (Looks.here (s := { s with heap := (s.heap.push emptyDict).push (instObj C s.heap.objs.size) }) b1 ?_)))
  dsimp only
  refine X.bind (hq.mono (fun v s' z => ?_) fun _ _ z => z)
  obtain ⟨rfl, z⟩ := z
  exact X.pure (X.pure z)
theorem CF.make {C fI : Addr} {φ : Fn} (hm : makesIn (hd.heap_39 w.params) C = true) (hi : findIn (hd.heap_39 w.params) (.ref C) "__init__" = some (some (.ref fI))) (hf : typeIn (hd.heap_39 w.params) (.ref fI) = some (.type "function"))
    (hc : CF ck prog w mg mb B0 d (fun ws => call (.ref fI) ws) φ) (hd : d + 1 ≤ d') : CF ck prog w mg mb B0 d' (fun ws => call (.ref C) ws) (makeφ C φ) := by
  intro A base outer ρ σ vs ws s Q E O R rs nb ok ex
  have X := O.gd.kx.keeps O.hb
  refine makeX (makes_of X hm) (looks_findIn X hi) (fun self => bind_fn X self hf) ?_
  have hsz : (s.heap.push emptyDict).objs.size = s.heap.objs.size + 1 := Heap.size_push _ _
  have fresh : s.heap.get? s.heap.objs.size = none := by
    cases e : s.heap.get? s.heap.objs.size with
    | none => rfl
    | some o => exact absurd (Heap.lt_size e) (Nat.lt_irrefl _)
  have hdx : ((s.heap.push emptyDict).push (instObj C s.heap.objs.size)).get? s.heap.objs.size = some (dictOf [] 0) := Heap.get?_push_of_some _ (Heap.get?_push_size _ rfl)
  have hx : ((s.heap.push emptyDict).push (instObj C s.heap.objs.size)).get? (s.heap.objs.size + 1) = some (instObj C s.heap.objs.size) := by
    have := Heap.get?_push_size (o := instObj C s.heap.objs.size) (s.heap.push emptyDict) rfl
    rw [hsz] at this; exact this
  have k : ∀ b o, s.heap.get? b = some o → ((s.heap.push emptyDict).push (instObj C s.heap.objs.size)).get? b = some o := fun b o e => Heap.get?_push_of_some _ (Heap.get?_push_of_some _ e)
  have P1 : OPost w.params B0 ρ s.heap (σ ++ [.flds []]) (ρ ++ [s.heap.objs.size]) ((s.heap.push emptyDict).push (instObj C s.heap.objs.size)) := OPost.newCell R k fresh hdx ⟨[], 0, rfl, FR.nil⟩
  have vx : VR B0 ((s.heap.push emptyDict).push (instObj C s.heap.objs.size)) (ρ ++ [s.heap.objs.size]) (.obj C σ.length) (.ref (s.heap.objs.size + 1)) := .obj (by rw [← R.len]; simp) hx
  have rs1 := VRs.cons vx (rs.mono (Imm.of_keeps k) P1.pre)
  have O1 : COk w mg mb B0 (A.under (.builtin "type.__call__" ⟨.ref C :: ws, []⟩)) base outer d (ρ ++ [s.heap.objs.size]) ((s.heap.push emptyDict).push (instObj C s.heap.objs.size)) := {
    gd := O.gd
    hh := O.hh
    gu := O.gu
    fr := O.fr
    dep := by have := O.dep; show A.depth + 1 + d < recursionLimit; omega
    un := by have := O.un; show A.units + 1 + 8 * d + 200 < cLine; omega
    b0 := O.b0
    bh := fun b o e => k b o (O.bh b o e)
    bn := fun a ha => by
      rcases List.mem_append.mp ha with ha | ha
      · exact O.bn a ha
      · simp at ha; subst ha
        cases e : base.get? s.heap.objs.size with
        | none => rfl
        | some o => rw [O.bh _ o e] at fresh; cases fresh
    ff := O.ff.of_keeps fun b o e _ => ⟨o, k b o e, rfl⟩
    fn := fun env he a ha q => by
      rcases List.mem_append.mp ha with ha | ha
      · exact O.fn env he a ha q
      · simp at ha; subst ha
        obtain ⟨L, o, hL, ho⟩ := funFrames_in O.ff env he
        rw [hL] at q
        cases q
        rw [ho] at fresh; cases fresh }
  have nb1 : φ (σ ++ [.flds []]) (.obj C σ.length :: vs) ≠ .bad := fun z => nb (by unfold makeφ; rw [z])
  refine hc (A.under (.builtin "type.__call__" ⟨.ref C :: ws, []⟩)) base outer _ _ (.obj C σ.length :: vs) (.ref (s.heap.objs.size + 1) :: ws) { s with heap := (s.heap.push emptyDict).push (instObj C s.heap.objs.size) } _ E O1 P1.c rs1 nb1 (fun v σ' ρ' x h' tk' e P2 r => ?_) fun c e e' a0 h' tk' fl up => ?_
  · cases v with
    | none =>
      cases r
      refine ⟨rfl, ok _ σ' ρ' _ h' tk' (by unfold makeφ; rw [e]) ⟨P2.c, P1.pre.trans P2.pre, fun b o eb hb => ?_, fun a ha => ?_⟩ ?_⟩
      · refine P2.keep b o (k b o eb) fun hm => ?_
        rcases List.mem_append.mp hm with hm | hm
        · exact hb hm
        · simp at hm; subst hm; rw [fresh] at eb; cases eb
      · rcases P2.new a ha with h1 | h1
        · rcases List.mem_append.mp h1 with h2 | h2
          · exact .inl h2
          · simp at h2; subst h2; exact .inr fresh
        · refine .inr ?_
          cases e3 : s.heap.get? a with
          | none => rfl
          | some o => rw [k a o e3] at h1; cases h1
      · have im : Imm ((s.heap.push emptyDict).push (instObj C s.heap.objs.size)) h' := P1.c.imm P2.keep
        exact vx.mono im P2.pre
    | _ => exact absurd (by unfold makeφ; rw [e]) nb
  · refine ex c (by unfold makeφ; rw [e]) e' a0 h' tk' fl ((Heap.UpToSlots.of_keeps fun b o q => ?_).trans up)
    have q1 := of_hideAll _ q
    refine hideAll_get _ (k b o q1) fun hm => ?_
    rcases List.mem_append.mp hm with hm | hm
    · rw [hideAll_none _ hm] at q; cases q
    · simp at hm; subst hm; rw [fresh] at q1; cases q1
end
end NZ
namespace NZ
open _root_.PySem _root_.PySem.W _root_.PySem.Calls PyProof.Rows _root_.PySem.SeqAt
noncomputable def pFmt (f : Loc → List Cell → Res V) : Loc → List Cell → Res V := pBind f fun v => pOp fun _ => match v with
  | .int a => if a.natAbs.log2 < 1920 then some .none else none
  | _ => none
noncomputable def sRaise {α : Type} (C : Addr) (f : Loc → List Cell → Res α) : Loc → List Cell → RS := sBind f fun _ => fun _ _ => .exc C
section
variable (prog : Program) (w : World) (mg mb : Str → Option Value) (B0 : Heap)
/-- a part of a text -/
noncomputable abbrev SF (q : Bool) (d : Nat) (sc : Scope) (vars : List Str) (e : Expr) (f : Loc → List Cell → Res V) : Prop :=
  SG false prog w mg mb B0 q d sc vars (fun env => eval e env) f (fun _ _ _ x => ∃ y t, x = .str y t ∧ y.length ≤ 2000)
inductive SFs (d : Nat) (sc : Scope) (vars : List Str) : List Expr → List (Loc → List Cell → Res V) → Prop
  | nil : SFs d sc vars [] []
  | cons {q : Bool} {e : Expr} {f : Loc → List Cell → Res V} {es : List Expr} {fs : List (Loc → List Cell → Res V)} : SF prog w mg mb B0 q d sc vars e f → SFs d sc vars es fs → SFs d sc vars (e :: es) (f :: fs)
end
section
variable {ck : Bool} {prog : Program} {w : World} {mg mb : Str → Option Value} {B0 : Heap} {q q1 q2 : Bool} {d d' : Nat} {sc : Scope} {vars : List Str}
theorem SF.const {x : Str} {k : Nat} {pos : Pos} (hx : x.length ≤ 2000 := by decide) : SF prog w mg mb B0 true d sc vars (.Constant (.str x) k pos) (pC (.str x)) :=
  fun X env ρ σ m s Q E O Ek R nb ok ex => ax <| wpAny_Constant_str (ok _ σ ρ _ s.heap _ rfl (Post.refl R) ⟨_, _, rfl, hx⟩)
set_option tactic.hygienic true in
theorem SF.fmt {e : Expr} {f : Loc → List Cell → Res V} {pos : Pos} (he : SV false prog w mg mb B0 q d sc vars e f) : SF prog w mg mb B0 q d sc vars (.FormattedValue e (-1) none pos) (pFmt f) := by
  intro X env ρ σ m s Q E O Ek R nb ok ex
  refine ax <| FormattedValue_plain (ofX (he.step O Ek R nb ex fun a σ1 ρ1 wa h1 tk1 P1 va nb1 ex1 e1 => ?_))
  obtain ⟨v, ev, e3⟩ := pOp_nb nb1
  cases a with
  | int i =>
    obtain ⟨t, rfl⟩ := va.int_inv
    simp only at ev
    split at ev
    · rename_i hi
      refine formatField_int_small hi ?_
      refine ok v σ1 ρ1 _ h1 _ (e1.trans e3) P1 ⟨_, _, rfl, ?_⟩
      have := int_text_length_le (k := 1920) (by decide) hi
      show (Str.ofString (toString i)).length ≤ 2000
      rw [_root_.PySem.ofString_length]; omega
    · cases ev
  | _ => cases ev
theorem SJ {es : List Expr} {fs : List (Loc → List Cell → Res V)} (h : SFs prog w mg mb B0 d sc vars es fs) : ∀ acc : Str, acc.length + 2000 * es.length ≤ 1000000 →
    SG false prog w mg mb B0 false d sc vars (fun env => joinParts acc (evalEach es env)) (pList fs) (fun _ _ _ _ => True) := by
  induction h with
  | nil =>
    intro acc ha X env ρ σ m s Q E O Ek R nb ok ex
    refine ax <| joinParts_nil (ok _ σ ρ _ s.heap _ rfl (Post.refl R) trivial) (by rw [sizeLine_eq]; simp at ha; omega)
  | @cons q e f es fs h1 h2 ih =>
    intro acc ha X env ρ σ m s Q E O Ek R nb ok ex
    show wpX false _ _ (joinParts acc (eval e env :: evalEach es env)) Q E s
    refine ax <| joinParts_cons (ofX (h1.step O Ek R nb ex fun a σ1 ρ1 wa h1 tk1 P1 va nb1 ex1 e1 => ?_))
    obtain ⟨y, t, rfl, hy⟩ := va
    have hl : (acc ++ y).length ≤ acc.length + 2000 := by rw [strLen_append]; omega
    simp only [List.length_cons] at ha
    refine ⟨by rw [sizeLine_eq]; omega, ofX ((ih (acc ++ y) (by omega)).step O Ek P1.rel nb1 ex1 fun b σ2 ρ2 wb h2 tk2 P2 vb nb2 ex2 e2 => ?_)⟩
    exact ok (a :: b) σ2 ρ2 _ h2 tk2 (e1.trans e2) ((P1.trans P2).weak (by simp)) trivial
theorem SG.joined {e1 e2 : Expr} {es : List Expr} {pos : Pos} {fs : List (Loc → List Cell → Res V)} (h : SFs prog w mg mb B0 d sc vars (e1 :: e2 :: es) fs) (hl : (e1 :: e2 :: es).length ≤ 100) :
    SG false prog w mg mb B0 false d sc vars (fun env => eval (.JoinedStr (e1 :: e2 :: es) pos) env) (pList fs) (fun _ _ _ _ => True) :=
  fun X env ρ σ m s Q E O Ek R nb ok ex => SJ h Str.empty (by show 0 + _ ≤ _; omega) X env ρ σ m s Q E O Ek R nb ok ex
theorem SG.constStr {x : Str} {k : Nat} {pos : Pos} : SG false prog w mg mb B0 true d sc vars (fun env => eval (.Constant (.str x) k pos) env) (pC (V.str x)) (fun _ _ _ _ => True) :=
  fun X env ρ σ m s Q E O Ek R nb ok ex => ax <| wpAny_Constant_str (ok _ σ ρ _ s.heap _ rfl (Post.refl R) trivial)
theorem S1.raise {β : Type} {x : Str} {np cpos pos : Pos} {e : Expr} {f : Loc → List Cell → Res β} {C : Addr} {B newId initId : String} {bmB : List Value} (hx : sc.names.lookup x = some .globalImplicit)
    (hg : nsIn (hd.heap_39 w.params) mainGlobals x = some (some (.ref C))) (hq : excIn (hd.heap_39 w.params) C bmB newId = true) (FB : ExcBaseFacts B newId initId bmB)
    (he : SG false prog w mg mb B0 q d sc vars (fun env => eval e env) f (fun _ _ _ _ => True)) (hs : ∀ env, starEach [e] env = (false, eval e env) :: starEach [] env := by intro _; rfl) (hdb : (x == ("__debug__" : Str)) = false := by decide) :
    S1 ck prog w mg mb B0 d sc vars (.Raise (some (.Call (.Name x np) [e] [] cpos)) none pos) (sRaise C f) := by
  intro X ρ σ m s Q E O Ek EL R nb nx rt ex
  obtain ⟨p, loose, T⟩ := O.gd.top
  have OC := own_of_in O.gd.kx T hg hq
  obtain ⟨tl, N, nm, qq, bs, hdct, sn, sub, ab, col, dd, k0, k1, k2, k3, k5, mN, hC, hN, hni, TT⟩ := OC.obj
  refine ax <| wpAny_Raise_call_subT (C := C) (nm := nm) (q := qq) (N := N) (bs := bs) (bm := tl) (hdct := hdct) (sn := sn) (sub := sub) (ab := ab) (col := col) (dd := dd) (k0 := k0) (k1 := k1) (k2 := k2) (k3 := k3) (k5 := k5)
    FB (mN := mN) (TT.hasType FB.hasBase) O.hh (by rw [backTo_any, hs]; rfl) hni
    (Name_function_global (by rw [Ek.is]; exact Ek.k) (by unfold Env.kindOf; rw [Ek.is]; exact hx) (loadGlobal_global (by rw [Ek.gl]; exact O.gd.g.keeps (R.b0 O)) OC.bound ⟨rfl, ?_⟩) hdb)
  refine ofX (X_evalArgs (by rw [hs]; rfl) (X_items_cons (he.stepS O Ek R nb ex fun a σ1 ρ1 wa h1 tk1 P1 va nb1 ex1 e1 => X_items_nil ?_) (hs _)))
  have kp := P1.rel.b0 O
  refine ⟨rfl, by show 1 ≤ sizeLine; rw [sizeLine_eq]; decide, kp _ _ hC, hN.keeps kp, TT.keeps kp, fun h' e' hm => ?_⟩
  refine ex1 C rfl e' h' tk1 ⟨?_, .inl ⟨h1, _, hm, fun b o eb => P1.rel.stay b o (O.bg b o eb), (P1.rel.cok O (Nat.le_refl d)).ff⟩⟩
  exact Heap.UpToSlots.of_keeps fun b o eb => hm.keeps b o (P1.rel.stay b o eb)
end
end NZ
namespace NZ
open _root_.PySem _root_.PySem.W _root_.PySem.Calls PyProof.Rows _root_.PySem.SeqAt
section
variable {ck : Bool} {prog : Program} {w : World} {mg mb : Str → Option Value} {B0 : Heap} {d : Nat}
theorem all1 {α : Type} {P : List α → Prop} (h : ∀ a, P [a]) : ∀ ws : List α, ws.length = 1 → P ws
  | [a], _ => h a
theorem all2 {α : Type} {P : List α → Prop} (h : ∀ a b, P [a, b]) : ∀ ws : List α, ws.length = 2 → P ws
  | [a, b], _ => h a b
theorem len2 {α : Type} {ws : List α} (h : ws.length = 2) : ∃ a b, ws = [a, b] := all2 (P := fun ws => ∃ a b, ws = [a, b]) (fun a b => ⟨a, b, rfl⟩) ws h
theorem all4 {α : Type} {P : List α → Prop} (h : ∀ a b c d, P [a, b, c, d]) : ∀ ws : List α, ws.length = 4 → P ws
  | [a, b, c, d], _ => h a b c d
theorem all5 {α : Type} {P : List α → Prop} (h : ∀ a b c d e, P [a, b, c, d, e]) : ∀ ws : List α, ws.length = 5 → P ws
  | [a, b, c, d, e], _ => h a b c d e
theorem gl (G : Gd w mg mb B0) {x : Str} {v : Value} (e : nsIn (hd.heap_39 w.params) mainGlobals x = some (some v)) : mg x = some v := mg_of G.kx G.g e
theorem gn (G : Gd w mg mb B0) {x : Str} (e : nsIn (hd.heap_39 w.params) mainGlobals x = some none) : mg x = none := mg_none_of G.kx G.g e
theorem kk {M : Model} (G : Gd w mg mb B0) {f : Value} (e : keepIn (hd.heap_39 w.params) f = true) : KOk M B0 f := kok_K G.kx e
theorem CF.fn1 {t : Value → Sem Value} {F : List Cell → V → Option V} (h : Q1 prog w mg mb B0 t F) {u : List Value → Sem Value} (hu : ∀ a, u [a] = t a) : CF ck prog w mg mb B0 d u (NZ.fn1 F) := CF.ofQ1 h hu
end
theorem ok_Cursor (P : Params) : ClsOk (hd.heap_39 P) 212 := ⟨by kernel_rfl, by kernel_rfl, by kernel_rfl, by kernel_rfl, by kernel_rfl⟩
theorem ok_Sink (P : Params) : ClsOk (hd.heap_39 P) 289 := ⟨by kernel_rfl, by kernel_rfl, by kernel_rfl, by kernel_rfl, by kernel_rfl⟩
theorem ok_FileMeta (P : Params) : ClsOk (hd.heap_39 P) 317 := ⟨by kernel_rfl, by kernel_rfl, by kernel_rfl, by kernel_rfl, by kernel_rfl⟩
theorem ok_VersionEdit (P : Params) : ClsOk (hd.heap_39 P) 352 := ⟨by kernel_rfl, by kernel_rfl, by kernel_rfl, by kernel_rfl, by kernel_rfl⟩
theorem bb_len : bootBuiltins (Str.ofString "len") = some (.builtin "len") := by decide +kernel
theorem bb_sum : bootBuiltins (Str.ofString "sum") = some (.builtin "sum") := by decide +kernel
theorem bb_bytes : bootBuiltins (Str.ofString "bytes") = some (.type "bytes") := by decide +kernel
theorem bb_tuple : bootBuiltins (Str.ofString "tuple") = some (.type "tuple") := by decide +kernel
theorem bb_bytearray : bootBuiltins (Str.ofString "bytearray") = some (.type "bytearray") := by decide +kernel
theorem bb_isinstance : bootBuiltins (Str.ofString "isinstance") = some (.builtin "isinstance") := by decide +kernel
theorem bb_bool : bootBuiltins (Str.ofString "bool") = some (.type "bool") := by decide +kernel
noncomputable def lawTags : V := .clist [.int 1, .int 2, .int 3, .int 4, .int 5, .int 6, .int 7, .int 10]
section
variable {prog : Program} {w : World} {mg mb : Str → Option Value} {B0 : Heap}
theorem gl_tags (G : Gd w mg mb B0) : mg (Str.ofString "_law_tags") = some (.ref 378) := gl G rfl
theorem ints_vr {h : Heap} {ρ : List Addr} {ws : List Value} {ns : List Int} (r : IntsAre ws ns) : VRs B0 h ρ (ns.map V.int) ws := by
  induction r with
  | nil => exact VRs.nil
  | cons n t r ih => exact VRs.cons (.int n t) ih
theorem tags_vr (G : Gd w mg mb B0) : ∀ h ρ, VR B0 h ρ lawTags (.ref 378) := fun h ρ => by
  have key : ∃ ws, B0.IsList 378 (List.toArray ws) ∧ IntsAre ws [1, 2, 3, 4, 5, 6, 7, 10] := by
    refine ⟨_, ⟨_, G.kx _ _ rfl, rfl, _, rfl⟩, ?_⟩
    repeat first | exact .nil | refine .cons _ _ ?_
  obtain ⟨ws, h1, h2⟩ := key
  have r : VRs B0 h ρ [.int 1, .int 2, .int 3, .int 4, .int 5, .int 6, .int 7, .int 10] ws := ints_vr h2
  exact .clist h1 r.1 r.2
end
end NZ
namespace NZ
open _root_.PySem _root_.PySem.W _root_.PySem.Calls PyProof.Rows _root_.PySem.SeqAt
/-- values that hold no cell -/
inductive Closed : V → Prop
  | none : Closed .none
  | bool (b : Bool) : Closed (.bool b)
  | int (i : Int) : Closed (.int i)
  | str (x : Str) : Closed (.str x)
  | bytes (b : List UInt8) : Closed (.bytes b)
  | tup {vs : List V} (h : ∀ v ∈ vs, Closed v) : Closed (.tup vs)
  | clist {vs : List V} (h : ∀ v ∈ vs, Closed v) : Closed (.clist vs)
theorem VR.closed {B0 h : Heap} {ρ ρ' : List Addr} {v : V} {w : Value} (r : VR B0 h ρ v w) (c : Closed v) : VR B0 h ρ' v w := by
  induction r with
  | none => exact .none
  | bool b => exact .bool b
  | int i t => exact .int i t
  | str x t => exact .str x t
  | bytes b t => exact .bytes b t
  | tup ht hl he ih =>
    cases c with
    | tup hc => exact .tup ht hl fun i v w e1 e2 => ih i v w e1 e2 (hc v (List.mem_of_getElem? e1))
  | cell e => cases c
  | obj e hx => cases c
  | clist ht hl he ih =>
    cases c with
    | clist hc => exact .clist ht hl fun i v w e1 e2 => ih i v w e1 e2 (hc v (List.mem_of_getElem? e1))
theorem VRs.closed {B0 h : Heap} {ρ ρ' : List Addr} {vs : List V} {ws : List Value} (r : VRs B0 h ρ vs ws) (c : ∀ v ∈ vs, Closed v) : VRs B0 h ρ' vs ws :=
  ⟨r.1, fun i v w e1 e2 => (r.2 i v w e1 e2).closed (c v (List.mem_of_getElem? e1))⟩
open Classical in
/-- a function of closed things, run on no cells -/
noncomputable def frameφ (φ : Fn) : Fn := fun σ vs => if (∀ v ∈ vs, Closed v) then (match φ [] vs with
  | .ok v _ => if Closed v then .ok v σ else .bad
  | .exc c => .exc c
  | .bad => .bad) else .bad
section
variable {ck : Bool} {prog : Program} {w : World} {mg mb : Str → Option Value} {B0 : Heap} {q : Bool} {d d' : Nat} {sc : Scope} {vars : List Str}
theorem CF.frame {t : List Value → Sem Value} {φ : Fn} (hc : CF ck prog w mg mb B0 d t φ) : CF ck prog w mg mb B0 d t (frameφ φ) := by
  intro A base outer ρ σ vs ws s Q E O C rs nb ok ex
  unfold frameφ at nb ok ex
  by_cases hcl : ∀ v ∈ vs, Closed v
  · rw [if_pos hcl] at nb ok ex
    have O' : COk w mg mb B0 A base outer d [] s.heap := { O with bn := fun a ha => (by cases ha), fn := fun env he a ha => (by cases ha) }
    have C' : CRel w.params B0 s.heap [] [] := ⟨rfl, List.nodup_nil, fun k c a e => by simp at e⟩
    refine hc A base outer [] [] vs ws s Q E O' C' (rs.closed hcl) (fun z => nb (by rw [z])) (fun v σ' ρ' x h' tk' e P r => ?_) fun c e e' a0 h' tk' fl up => ?_
    · rw [e] at nb ok
      dsimp only at nb ok
      by_cases hv : Closed v
      · rw [if_pos hv] at ok
        exact ok v σ ρ x h' tk' rfl (OPost.of_keeps C fun b o eb => P.keep b o eb (by simp)) (r.closed hv)
      · rw [if_neg hv] at nb; exact absurd rfl nb
    · refine ex c (by rw [e]) e' a0 h' tk' fl fun b o eb hn => ?_
      exact up b o (of_hideAll _ eb) hn
  · rw [if_neg hcl] at nb; exact absurd rfl nb
set_option tactic.hygienic true in
theorem bindL_eq (k : Str → Option NameKind) (x : Str) : ∀ (binds : List (Str × Value)) (m : Str → Option Value), bindL k binds m x = if k x = some .local then (binds.reverse.lookup x).or (m x) else m x
  | [], m => by unfold bindL; split <;> simp
  | (n, v) :: r, m => by
    unfold bindL
    rw [bindL_eq k x r, List.reverse_cons, List.lookup_append]
    by_cases hk : k x = some .local
    · rw [if_pos hk, if_pos hk]
      by_cases hx : x = n
      · subst hx
        rw [if_pos hk]
        simp [List.lookup_cons]
      · have hb : (x == n) = false := by rw [beq_eq_false_iff_ne]; exact hx
        simp only [List.lookup_cons, hb, List.lookup_nil]
        split
        · simp [hx]
        · simp
    · rw [if_neg hk, if_neg hk]
      split
      · rename_i h
        have hx : x ≠ n := fun q => hk (q ▸ h)
        simp [hx]
      · rfl
set_option tactic.hygienic true in
theorem bindC_eq (k : Str → Option NameKind) (x : Str) : ∀ (binds : List (Str × Value)) (m : Str → Option Value), bindC k binds m x = if k x = some .local then m x else (binds.reverse.lookup x).or (m x)
  | [], m => by unfold bindC; split <;> simp
  | (n, v) :: r, m => by
    unfold bindC
    rw [bindC_eq k x r, List.reverse_cons, List.lookup_append]
    by_cases hk : k x = some .local
    · rw [if_pos hk, if_pos hk]
      split
      · rfl
      · rename_i h
        have hx : x ≠ n := fun q => h (q ▸ hk)
        simp [hx]
    · rw [if_neg hk, if_neg hk]
      by_cases hx : x = n
      · subst hx
        rw [if_neg hk]
        simp [List.lookup_cons]
      · have hb : (x == n) = false := by rw [beq_eq_false_iff_ne]; exact hx
        simp only [List.lookup_cons, hb, List.lookup_nil]
        split
        · simp
        · simp [hx]
set_option tactic.hygienic true in
theorem cellsFrom_has {x : Str} : ∀ (names : List (Str × NameKind)) (n : Nat) (acc : List (Str × Addr)), ((x, NameKind.cell) ∈ names ∨ (acc.lookup x).isSome = true) → ((cellsFrom n names acc).lookup x).isSome = true
  | [], n, acc, h => by
    rcases h with h | h
    · cases h
    · exact h
  | (y, k) :: r, n, acc, h => by
    unfold cellsFrom
    split
    · rename_i hk
      have hk := eq_of_beq hk
      refine cellsFrom_has r _ _ ?_
      rcases h with h | h
      · rcases List.mem_cons.mp h with e | h
        · cases e; right; simp [List.lookup_cons]
        · left; exact h
      · right
        rw [List.lookup_cons]
        split
        · rfl
        · exact h
    · rename_i hk
      refine cellsFrom_has r _ _ ?_
      rcases h with h | h
      · rcases List.mem_cons.mp h with e | h
        · cases e; exact absurd (beq_self_eq_true _) hk
        · left; exact h
      · right; exact h
theorem codeX_cells {A : Around} {s : Shared} {R : Result → Shared → Prop} {a : Addr} {o : Obj} {fd : FuncData} {body : List Stmt} {args : Args} {binds : List (Str × Value)}
    (hroom : A.depth < recursionLimit) (ho : s.heap.get? a = some o) (hdata : o.data = .func fd) (hlim : s.heap.NoLimit) (hcd : s.heap.CodeRec fd.code fd.qualname)
    (hbody : fd.body = .stmts body) (hbind : BindsTo s fd args binds) (hclo : fd.closure = [])
    (hkind : ∀ x ∈ binds, fd.scope.names.lookup x.1 = some .local ∨ (fd.scope.names.lookup x.1 = some .cell ∧ ((cellsFrom (s.heap.objs.size + 1) fd.scope.names []).lookup x.1).isSome = true))
    (h : ∀ s₁, InCallC s (callEnvC fd s.heap.objs.size a).locals (bindL (callEnvC fd s.heap.objs.size a).kindOf binds fun _ => none) (callEnvC fd s.heap.objs.size a).cells
        (bindC (callEnvC fd s.heap.objs.size a).kindOf binds fun _ => none) s₁ →
      wpX ck (model prog w) (A.deeper (callEnvC fd s.heap.objs.size a)) (execs body (callEnvC fd s.heap.objs.size a)) (fun f s' => R (.ok (.ret (match f with | .ret v => v | _ => .none))) s')
        (fun e s' => wpAny (model prog w) (A.deeper (callEnvC fd s.heap.objs.size a)) (leaving (callEnvC fd s.heap.objs.size a) e) (fun _ s'' => R (.error e) s'') (fun e' s'' => R (.error e') s'') s') s₁)
    (hco : fd.scope.isCoroutine = false) (hgen : fd.scope.isGenerator = false) (hk : fd.scope.kind = .function) :
    codeX ck (model prog w) A (.call (.ref a) args) R s := by
  refine codeX_function hroom ho hdata hco hgen hbody hcd (hbind _ _ _ _ ?_)
  rw [hclo]
  refine wpAny_newFunctionEnv_cells hk hkind fun env he s' x => ?_
  subst he
  exact ⟨hlim.keeps x.toInCall.keep, codeX_func (h s' x)⟩
/-- a def, entered, whose names may be captured -/
theorem CF.of_cells {a : Addr} {o : Obj} {fd : FuncData} {body : List Stmt} {names : List Str} {F : Loc → List Cell → RS}
    (ho : B0.get? a = some o) (hdata : o.data = .func fd) (hcd : B0.CodeRec fd.code fd.qualname) (hbody : fd.body = .stmts body) (hsc : fd.scope = sc)
    (hgl : fd.globals = mainGlobals) (hbi : fd.builtins = builtinsNs) (hcl : fd.closure = [])
    (hbind : ∀ ws : List Value, ws.length = names.length → bindArgs fd ⟨ws, []⟩ = pure (names.zip ws))
    (hpre : ∃ more, vars = names ++ more) (hnd : names.Nodup)
    (hpar : ∀ x ∈ names, sc.names.lookup x = some .local ∨ sc.names.lookup x = some .cell)
    (hsnd : (sc.names.map (·.1)).Nodup) (hco : sc.isCoroutine = false) (hgen : sc.isGenerator = false) (hk : sc.kind = .function)
    (hS : SL ck prog w mg mb B0 d sc vars body F) (hdd : d + 2 ≤ d') (h50 : d < 50 := by decide) :
    CF ck prog w mg mb B0 d' (fun ws => call (.ref a) ws) (fun σ vs => if vs.length = names.length then bodyOf F (fun i => vs[i]?) σ else .bad) := by
  intro A base outer ρ σ vs ws s Q E O C rs nb ok ex
  have hn : vs.length = names.length := by
    by_cases q : vs.length = names.length
    · exact q
    · simp [q] at nb
  simp only [hn, if_true] at nb ok ex
  have hw : ws.length = names.length := rs.1 ▸ hn
  subst hsc
  have hcells : ∀ (n : Nat) (x : Str), fd.scope.names.lookup x = some .cell → ((cellsFrom n fd.scope.names []).lookup x).isSome = true := fun n x e => cellsFrom_has _ _ _ (.inl (mem_of_lookup e))
  have hkind : ∀ x ∈ names.zip ws, fd.scope.names.lookup x.1 = some .local ∨ (fd.scope.names.lookup x.1 = some .cell ∧ ((cellsFrom (s.heap.objs.size + 1) fd.scope.names []).lookup x.1).isSome = true) := fun x hx => by
    obtain ⟨y, z⟩ := x
    rcases hpar y (List.of_mem_zip hx).1 with h | h
    · exact .inl h
    · exact .inr ⟨h, hcells _ _ h⟩
  refine NZ.X.call (codeX_cells (fd := fd) (body := body) (binds := names.zip ws) (by have := O.dep; omega) (O.hb _ _ ho) hdata (O.gd.nolimit.keeps O.hb) (hcd.keeps O.hb) hbody (BindsTo.of_eq (hbind ws hw)) hcl hkind (fun s₁ x => ?_) hco hgen hk)
  obtain ⟨h0, tk0, rfl, kp⟩ := x.done
  have hns := x.toInCall.ns
  have hcell := x.cell
  have hapart := x.apart
  have habove := x.above
  -- the new activation
  have hnew : s.heap.objs.size ∉ ρ := fun hm => by
    obtain ⟨_, _, o', _, _, ho', _⟩ := C.cellOf hm
    exact absurd (Heap.lt_size ho') (Nat.lt_irrefl _)
  have hge : ∀ b, s.heap.objs.size ≤ b → (hideAll s.heap ρ).get? b = none := fun b hb => by
    cases e : (hideAll s.heap ρ).get? b with
    | none => rfl
    | some o' => exact absurd (Heap.lt_size (of_hideAll _ e)) (Nat.not_lt.mpr hb)
  let X : Act := ⟨A.deeper (callEnvC fd s.heap.objs.size a), base, hideAll s.heap ρ, outer, callEnvC fd s.heap.objs.size a, s.heap.objs.size⟩
  have env : X.fenv = { scope := fd.scope, locals := s.heap.objs.size, globals := mainGlobals, cells := cellsFrom (s.heap.objs.size + 1) fd.scope.names [], qual := fd.qualname ++ ".<locals>.", func := some a, code := fd.code, frame := some s.heap.objs.size, builtins := builtinsNs } := by
    show callEnvC fd s.heap.objs.size a = _
    unfold callEnvC newEnv
    rw [hgl, hbi]
  have OX : X.Ok w mg mb B0 d := {
    gd := O.gd
    hh := O.hh
    gu := O.gu
    fr := Around.frames_deeper O.fr
    dep := by have := O.dep; show A.depth + 1 + d < recursionLimit; omega
    un := by have := O.un; show A.units + 3 + 8 * d + 200 < cLine; omega
    b0 := O.b0
    bg := fun b o' e => hideAll_get _ (O.bh b o' e) fun hm => by rw [O.bn b hm] at e; cases e
    ff := funFrames_hideAll O.ff O.fn
    fL := by rw [env]
    fk := by rw [env]; exact hk
    gL := hge _ (Nat.le_refl _)
    top := fun h => absurd h (by omega) }
  have ecells : (callEnvC fd s.heap.objs.size a).cells = cellsFrom (s.heap.objs.size + 1) fd.scope.names [] := rfl
  have eloc : (callEnvC fd s.heap.objs.size a).locals = s.heap.objs.size := rfl
  have ekind : ∀ y, (callEnvC fd s.heap.objs.size a).kindOf y = fd.scope.names.lookup y := fun y => rfl
  have fcells : X.fenv.cells = cellsFrom (s.heap.objs.size + 1) fd.scope.names [] := by rw [env]
  have EX : EOk fd.scope X X.fenv := by
    refine ⟨by rw [env], by rw [env], by rw [env], hk, by rw [env], fun p hp => ?_, fun y hy => ?_⟩
    · rw [fcells] at hp ⊢
      have hnd2 : ((cellsFrom (s.heap.objs.size + 1) fd.scope.names []).map (·.1)).Nodup := by
        have key : ∀ (names : List (Str × NameKind)) (n : Nat) (acc : List (Str × Addr)), (names.map (·.1)).Nodup → (acc.map (·.1)).Nodup → (∀ y ∈ acc.map (·.1), y ∉ names.map (·.1)) → ((cellsFrom n names acc).map (·.1)).Nodup := by
          intro names
          induction names with
          | nil => intro n acc _ h2 _; exact h2
          | cons p r ih =>
            obtain ⟨y, k⟩ := p
            intro n acc h1 h2 h3
            simp only [List.map_cons, List.nodup_cons] at h1
            unfold cellsFrom
            split
            · refine ih _ _ h1.2 ?_ fun z hz => ?_
              · simp only [List.map_cons, List.nodup_cons]
                exact ⟨fun hm => h3 y hm (by simp), h2⟩
              · simp only [List.map_cons, List.mem_cons] at hz
                rcases hz with rfl | hz
                · exact h1.1
                · exact fun hm => h3 z hz (by simp only [List.map_cons, List.mem_cons]; exact .inr hm)
            · exact ih _ _ h1.2 h2 fun z hz hm => h3 z hz (by simp only [List.map_cons, List.mem_cons]; exact .inr hm)
        exact key _ _ _ hsnd (by simp) (by simp)
      obtain ⟨y, c⟩ := p
      exact lookup_nodup hnd2 hp
    · rw [fcells]
      exact Option.isSome_iff_exists.mp (hcells _ _ hy)
  have EL : X.fenv.locals = X.L := by rw [env]
  have im : Imm s.heap h0 := Imm.of_keeps kp
  have RX : Rel w.params B0 X X.fenv vars ρ σ (fun i => vs[i]?) h0 := {
    stay := fun b o' e => kp b o' (of_hideAll _ e)
    c := C.keeps im fun a' _ o' e => kp a' o' e
    out := fun a' ha => ⟨hideAll_none _ ha, fun q => by rw [EL] at q; exact hnew ((show a' = s.heap.objs.size from q) ▸ ha), fun q => hnew ((show a' = s.heap.objs.size from q) ▸ ha)⟩
    abv := by rw [EL]; exact hge _ (Nat.le_refl _)
    fn := by
      obtain ⟨o', es, ep, h1, h2, _⟩ := hns
      exact ⟨o', es, ep, h1, h2⟩
    cl := fun y c e => by
      rw [fcells] at e
      have hab := habove y c (mem_of_lookup e)
      rw [eloc] at hab
      refine ⟨fun hm => ?_, hge _ (Nat.le_of_lt hab), fun q => ?_, _, hcell y c e⟩
      · obtain ⟨_, _, o', _, _, ho', _⟩ := C.cellOf hm
        exact absurd (Nat.lt_trans hab (Heap.lt_size ho')) (Nat.lt_irrefl _)
      · rw [EL] at q
        exact absurd (show c = s.heap.objs.size from q) (Nat.ne_of_gt hab)
    ci := fun y z c e1 e2 => by
      rw [fcells] at e1 e2
      exact name_of_addr hapart (mem_of_lookup e1) (mem_of_lookup e2)
    ns := by
      refine ⟨_, by rw [EL]; exact hns, fun i y v e1 e2 => ?_⟩
      obtain ⟨more, rfl⟩ := hpre
      have hi : i < names.length := by
        have := (List.getElem?_eq_some_iff.mp e2).1
        rw [hn] at this; exact this
      rw [List.getElem?_append_left hi] at e1
      obtain ⟨w', h2, r⟩ := bind_zip rs hw.symm hnd e1 e2
      refine ⟨w', ?_, r.mono im (Pre.refl _)⟩
      rcases hpar y (List.mem_of_getElem? e1) with h | h
      · refine .inl ⟨by unfold Env.kindOf; rw [env]; exact h, ?_⟩
        rw [bindL_eq, ekind, if_pos h, h2]; rfl
      · obtain ⟨c, hc⟩ := Option.isSome_iff_exists.mp (hcells (s.heap.objs.size + 1) y h)
        refine .inr ⟨.inl (by unfold Env.kindOf; rw [env]; exact h), c, by rw [fcells]; exact hc, ?_⟩
        have hcc := hcell y c hc
        rw [bindC_eq, ekind, if_neg (by rw [h]; decide), h2] at hcc
        exact hcc }
  have post : ∀ {σ' : List Cell} {ρ' : List Addr} {h' : Heap} {m' : Loc}, Post w.params B0 X X.fenv vars ρ m' h0 false σ' ρ' h' → OPost w.params B0 ρ s.heap σ' ρ' h' := fun P => by
    refine ⟨P.rel.c, P.pre, fun b o' e hb => P.rel.stay b o' (hideAll_get _ e hb), fun a' ha => ?_⟩
    by_cases q : a' ∈ ρ
    · exact .inl q
    · refine .inr ?_
      cases e : s.heap.get? a' with
      | none => rfl
      | some o' => have := (P.rel.out a' ha).1; rw [show X.g = hideAll s.heap ρ from rfl, hideAll_get _ e q] at this; cases this
  refine hS X ρ σ (fun i => vs[i]?) _ _ _ OX EX EL RX (fun e => nb (by unfold bodyOf; rw [e])) (fun m' σ' ρ' h' tk' e P => ?_) (fun v σ' ρ' x h' tk' e P r => ?_) fun c e => ?_
  · exact ok .none σ' ρ' .none h' tk' (by unfold bodyOf; rw [e]) (post P) .none
  · exact ok v σ' ρ' x h' tk' (by unfold bodyOf; rw [e]) (post P) r
  · intro e' h' tk' I
    refine I.leave OX (s := { s with heap := h', toks := tk' }) fun h2 a0 up fl => ?_
    exact ex c (by unfold bodyOf; rw [e]) e' a0 h2 tk' fl up
/-- a def whose last argument stands at its default, an int -/
theorem CF.of_dflt1 {a : Addr} {o : Obj} {fd : FuncData} {body : List Stmt} {names : List Str} {F : Loc → List Cell → RS} {k : Int} {t : Tok}
    (ho : B0.get? a = some o) (hdata : o.data = .func fd) (hcd : B0.CodeRec fd.code fd.qualname) (hbody : fd.body = .stmts body) (hsc : fd.scope = sc)
    (hgl : fd.globals = mainGlobals) (hbi : fd.builtins = builtinsNs) (hcl : fd.closure = [])
    (hbind : ∀ (s : Shared) (ws : List Value), B0.StaysIn s.heap → ws.length + 1 = names.length → BindsTo s fd ⟨ws, []⟩ (names.zip (ws ++ [.int k t])))
    (hpre : ∃ more, vars = names ++ more) (hnd : names.Nodup)
    (hloc : ∀ x ∈ names, sc.names.lookup x = some .local) (h0 : 0 < names.length)
    (hcell : ∀ x ∈ sc.names, x.2 ≠ .cell) (hco : sc.isCoroutine = false) (hgen : sc.isGenerator = false) (hk : sc.kind = .function)
    (hS : SL ck prog w mg mb B0 d sc vars body F) (hdd : d + 2 ≤ d') (h50 : d < 50 := by decide) :
    CF ck prog w mg mb B0 d' (fun ws => call (.ref a) ws) (fun σ vs => if vs.length = names.length - 1 then bodyOf F (fun i => (vs ++ [.int k])[i]?) σ else .bad) := by
  refine CF.of_def (n := names.length - 1) (bnd := fun ws => names.zip (ws ++ [.int k t])) (m0 := fun vs i => (vs ++ [.int k])[i]?) ho hdata hcd hbody hsc hgl hbi hcl (fun s ws hB hw => hbind s ws hB (by omega)) (fun ws hw x hx => ?_) (fun h ρ vs ws rs hw i x v e1 e2 => ?_) hcell hco hgen hk hS hdd h50
  · obtain ⟨y, z⟩ := x
    exact hloc y (List.of_mem_zip hx).1
  · obtain ⟨more, rfl⟩ := hpre
    have rs' : VRs B0 h ρ (vs ++ [.int k]) (ws ++ [.int k t]) := rs.snoc (.int k t)
    have hi : i < names.length := by
      have := (List.getElem?_eq_some_iff.mp e2).1
      rw [rs'.1, List.length_append, hw] at this
      simp at this; omega
    rw [List.getElem?_append_left hi] at e1
    exact ⟨hloc x (List.mem_of_getElem? e1), bind_zip rs' (by rw [List.length_append, hw]; simp; omega) hnd e1 e2⟩
end
end NZ
namespace NZ
open _root_.PySem _root_.PySem.W _root_.PySem.Calls PyProof.Rows _root_.PySem.SeqAt
section
variable {P : Params} {B0 : Heap} {X : Act} {env : Env} {vars : List Str} {ρ : List Addr} {σ : List Cell} {m : Loc} {h h' : Heap}
theorem Rel.away (R : Rel P B0 X env vars ρ σ m h) {z : Addr} (z1 : z ∉ ρ) (z2 : z ≠ env.locals) (z3 : z ≠ X.L) (z4 : ∀ y c, env.cells.lookup y = some c → c ≠ z) (z5 : X.g.get? z = none) (im : Imm h h')
    (k : ∀ b o, b ≠ z → h.get? b = some o → h'.get? b = some o) : Rel P B0 X env vars ρ σ m h' := by
  refine ⟨fun b o e => k b o (fun q => by rw [q, z5] at e; cases e) (R.stay b o e), R.c.keeps im fun a ha o e => k a o (fun q => z1 (q ▸ ha)) e, R.out, R.abv, ?_, fun x c e => ?_, R.ci, ?_⟩
  · obtain ⟨o, es, n, h1, h2⟩ := R.fn
    exact ⟨o, es, n, k _ _ (Ne.symm z3) h1, h2⟩
  · obtain ⟨a, b, c', v, o, h1, h2⟩ := R.cl x c e
    exact ⟨a, b, c', v, o, k _ _ (z4 x c e) h1, h2⟩
  · obtain ⟨mr, hn, hv⟩ := R.ns
    refine ⟨mr, hn.at fun o e => k _ o (Ne.symm z2) e, fun i x v e1 e2 => ?_⟩
    obtain ⟨w', hw, r⟩ := hv i x v e1 e2
    refine ⟨w', ?_, r.mono im (Pre.refl _)⟩
    rcases hw with hw | ⟨hk, c, hc, o, h1, h2⟩
    · exact .inl hw
    · exact .inr ⟨hk, c, hc, o, k _ _ (z4 x c hc) h1, h2⟩
/-- a thing that stands already becomes a cell -/
theorem Rel.addCell (R : Rel P B0 X env vars ρ σ m h) {z : Addr} {c : Cell} {o : Obj} (ho : h.get? z = some o) (hc : CR P B0 h ρ c o) (z1 : z ∉ ρ) (z2 : z ≠ env.locals) (z3 : z ≠ X.L) (z4 : ∀ y c, env.cells.lookup y = some c → c ≠ z) (z5 : X.g.get? z = none) :
    Rel P B0 X env vars (ρ ++ [z]) (σ ++ [c]) m h := by
  have pre : Pre ρ (ρ ++ [z]) := ⟨_, rfl⟩
  refine ⟨R.stay, ⟨by simp [R.c.len], List.nodup_append.mpr ⟨R.c.nodup, by simp, fun a ha b hb e => ?_⟩, fun i c' a e1 e2 => ?_⟩, fun a ha => ?_, R.abv, R.fn, fun x c' e => ?_, R.ci, ?_⟩
  · simp at hb; subst hb; subst e; exact z1 ha
  · by_cases hi : i < σ.length
    · rw [List.getElem?_append_left hi] at e1
      rw [List.getElem?_append_left (R.c.len ▸ hi)] at e2
      obtain ⟨o', ho', r⟩ := R.c.at_ i c' a e1 e2
      exact ⟨o', ho', r.mono (Imm.refl _) pre⟩
    · have hlen := R.c.len
      have hi' : i = σ.length := by
        have := (List.getElem?_eq_some_iff.mp e1).1
        simp at this; omega
      subst hi'
      simp at e1
      rw [← hlen] at e2
      simp at e2
      subst e1; subst e2
      exact ⟨o, ho, hc.mono (Imm.refl _) pre⟩
  · rcases List.mem_append.mp ha with ha | ha
    · exact R.out a ha
    · simp at ha; subst ha; exact ⟨z5, z2, z3⟩
  · obtain ⟨a, b, c1, d⟩ := R.cl x c' e
    refine ⟨fun hm => ?_, b, c1, d⟩
    rcases List.mem_append.mp hm with hm | hm
    · exact a hm
    · simp at hm; exact z4 x c' e hm
  · obtain ⟨mr, hn, hv⟩ := R.ns
    exact ⟨mr, hn, fun i x v a b => let ⟨w', hw, r⟩ := hv i x v a b; ⟨w', hw, r.mono (Imm.refl _) pre⟩⟩
theorem Rel.cells (R : Rel P B0 X env vars ρ σ m h) {σ' : List Cell} (C : CRel P B0 h ρ σ') : Rel P B0 X env vars ρ σ' m h := ⟨R.stay, C, R.out, R.abv, R.fn, R.cl, R.ci, R.ns⟩
end
theorem iter_self {prog : Program} {w : World} {A : Around} {E : Value → Shared → Prop} {s : Shared} {I : Addr} {o : Obj} {n : String} {Q : Value → Shared → Prop} (ho : s.heap.get? I = some o) (hc : o.cls = .type n)
    (hn : n ∈ ["list_iterator", "tuple_iterator", "range_iterator", "str_ascii_iterator"]) (h : Q (.ref I) s) : wpAny (model prog w) A (pyIter (.ref I)) Q E s := by
  have hT : s.TypeIs (.ref I) n := ⟨_, ho, hc⟩
  simp only [List.mem_cons, List.not_mem_nil, or_false] at hn
  rcases hn with rfl | rfl | rfl | rfl
  · refine wpAny_pyIter_slot hT slot_listiter_iter (wpAny_call_entry slot_listiter_iter hT entry_listiter_iter ?_ (args_listiter_iter _))
    show wpAny _ _ (ret (.ref I)) _ _ s
    exact wpAny_pure ⟨_, rfl, "list_iterator", _, hT, slot_listiter_next.lookup, h⟩
  · refine wpAny_pyIter_slot hT _root_.PySem.F.slot_tuple_iterator_iter (wpAny_call_entry _root_.PySem.F.slot_tuple_iterator_iter hT _root_.PySem.F.entry_tuple_iterator_iter ?_ (_root_.PySem.F.args_tuple_iterator_iter_1 _))
    show wpAny _ _ (ret (.ref I)) _ _ s
    exact wpAny_pure ⟨_, rfl, "tuple_iterator", _, hT, _root_.PySem.F.slot_tuple_iterator_next.lookup, h⟩
  · refine wpAny_pyIter_slot hT _root_.PySem.F.slot_range_iterator_iter (wpAny_call_entry _root_.PySem.F.slot_range_iterator_iter hT _root_.PySem.F.entry_range_iterator_iter ?_ (_root_.PySem.F.args_range_iterator_iter_1 _))
    show wpAny _ _ (ret (.ref I)) _ _ s
    exact wpAny_pure ⟨_, rfl, "range_iterator", _, hT, _root_.PySem.F.slot_range_iterator_next.lookup, h⟩
  · refine wpAny_pyIter_slot hT _root_.PySem.F.slot_str_ascii_iterator_iter (wpAny_call_entry _root_.PySem.F.slot_str_ascii_iterator_iter hT _root_.PySem.F.entry_str_ascii_iterator_iter ?_ (_root_.PySem.F.args_str_ascii_iterator_iter_1 _))
    show wpAny _ _ (ret (.ref I)) _ _ s
    exact wpAny_pure ⟨_, rfl, "str_ascii_iterator", _, hT, _root_.PySem.F.slot_str_ascii_iterator_next.lookup, h⟩
/-- a comprehension's own scope, its captured names turned -/
noncomputable def relabelS (scope sc : Scope) : Scope := { scope with names := scope.names.map fun (n, k) => if (k == .free && sc.kind == .function && sc.names.lookup n == some .cell) then (n, .cell) else (n, k) }
theorem relabel_eq {scope sc : Scope} {env : Env} (h : env.scope = sc) : relabel scope env = relabelS scope sc := by subst h; rfl
noncomputable def clGo (env : Env) : List (Str × NameKind) → List (Str × Addr) → List (Str × Addr)
  | [], acc => acc
  | (n, k) :: r, acc => if k == .free then clGo env r ((n, (env.cells.lookup n).getD 0) :: acc) else clGo env r acc
set_option tactic.hygienic true in
theorem clGo_run {env : Env} (f : Str × NameKind → List (Str × Addr) → Sem (ForInStep (List (Str × Addr)))) (hf : ∀ n k acc, f (n, k) acc = if k == NameKind.free then (do let c ← cellOf env n; pure (.yield ((n, c) :: acc))) else pure (.yield acc)) :
    ∀ (names : List (Str × NameKind)) (acc : List (Str × Addr)), (∀ p ∈ names, p.2 = .free → ∃ c, env.cells.lookup p.1 = some c) → forIn names acc f = pure (clGo env names acc)
  | [], acc, _ => rfl
  | (n, k) :: r, acc, h => by
    rw [List.forIn_cons, hf]
    unfold clGo
    split
    · rename_i hk
      obtain ⟨c, hc⟩ := h (n, k) List.mem_cons_self (eq_of_beq hk)
      have e : cellOf env n = pure c := by unfold cellOf; rw [show env.cells.lookup n = some c from hc]
      rw [e]
      simp only [pure_bind]
      rw [show env.cells.lookup n = some c from hc]
      exact clGo_run f hf r _ fun p hp => h p (List.mem_cons_of_mem _ hp)
    · simp only [pure_bind]
      exact clGo_run f hf r _ fun p hp => h p (List.mem_cons_of_mem _ hp)
theorem closure_eq {scope : Scope} {env : Env} (h : ∀ p ∈ scope.names, p.2 = .free → ∃ c, env.cells.lookup p.1 = some c) : closureFor scope env = pure (clGo env scope.names []) := by
  simp only [closureFor]
  rw [clGo_run _ (fun n k acc => ?_) _ _ h]
  · rfl
  · cases hk : k == NameKind.free <;> simp [hk]
set_option tactic.hygienic true in
theorem clGo_mem {env : Env} {y : Str} {c : Addr} : ∀ (names : List (Str × NameKind)) (acc : List (Str × Addr)), (y, c) ∈ clGo env names acc → (y, c) ∈ acc ∨ ((y, NameKind.free) ∈ names ∧ c = (env.cells.lookup y).getD 0)
  | [], acc, h => .inl h
  | (n, k) :: r, acc, h => by
    unfold clGo at h
    split at h
    · rename_i hk
      rcases clGo_mem r _ h with h | ⟨h1, h2⟩
      · rcases List.mem_cons.mp h with e | h
        · cases e; exact .inr ⟨by rw [← eq_of_beq hk]; exact List.mem_cons_self, rfl⟩
        · exact .inl h
      · exact .inr ⟨List.mem_cons_of_mem _ h1, h2⟩
    · rcases clGo_mem r _ h with h | ⟨h1, h2⟩
      · exact .inl h
      · exact .inr ⟨List.mem_cons_of_mem _ h1, h2⟩
set_option tactic.hygienic true in
theorem clGo_has {env : Env} {y : Str} : ∀ (names : List (Str × NameKind)) (acc : List (Str × Addr)), ((y, NameKind.free) ∈ names ∨ (acc.lookup y).isSome = true) → ((clGo env names acc).lookup y).isSome = true
  | [], acc, h => by
    rcases h with h | h
    · cases h
    · exact h
  | (n, k) :: r, acc, h => by
    unfold clGo
    split
    · rename_i hk
      refine clGo_has r _ ?_
      rcases h with h | h
      · rcases List.mem_cons.mp h with e | h
        · cases e; right; simp [List.lookup_cons]
        · exact .inl h
      · right
        rw [List.lookup_cons]
        split
        · rfl
        · exact h
    · rename_i hk
      refine clGo_has r _ ?_
      rcases h with h | h
      · rcases List.mem_cons.mp h with e | h
        · cases e; exact absurd (beq_self_eq_true _) hk
        · exact .inl h
      · exact .inr h
theorem clGo_at {env : Env} {names : List (Str × NameKind)} (h : ∀ p ∈ names, p.2 = .free → ∃ c, env.cells.lookup p.1 = some c) {y : Str} {c : Addr} (e : (y, c) ∈ clGo env names []) : env.cells.lookup y = some c := by
  rcases clGo_mem names [] e with e | ⟨e1, e2⟩
  · cases e
  · obtain ⟨c', hc⟩ := h _ e1 rfl
    rw [show env.cells.lookup y = some c' from hc] at e2 ⊢
    rw [e2]; rfl
noncomputable def locC (js : List Nat) (m : Loc) (v : V) : Loc := fun i => match i with
  | 0 => some v
  | i + 1 => (js[i]?).bind m
/-- what a comprehension's scope must be -/
structure CompScope (scope sc : Scope) (vars : List Str) (x : Str) (frees : List Str) (js : List Nat) : Prop where
  k : scope.kind = .function
  nocell : ∀ y ∈ scope.names, y.2 ≠ .cell
  locs : ∀ y ∈ scope.names, y.2 = .local → scope.names.lookup y.1 = some .local
  hx : scope.names.lookup x = some .local
  all : ∀ p ∈ scope.names, p.2 = .free → sc.names.lookup p.1 = some .cell
  fr : ∀ (i : Nat) (y : Str), frees[i]? = some y → ∃ j : Nat, js[i]? = some j ∧ vars[j]? = some y ∧ (relabelS scope sc).names.lookup y = some .cell ∧ (y, NameKind.free) ∈ scope.names
section
variable {w : World} {mg mb : Str → Option Value} {B0 : Heap} {X : Act} {env : Env} {vars frees : List Str} {ρ : List Addr} {σ : List Cell} {m : Loc} {h : Heap} {scope sc : Scope} {x : Str} {js : List Nat} {P : Params}
theorem CompScope.cells (S : CompScope scope sc vars x frees js) (Ek : EOk sc X env) : ∀ p ∈ scope.names, p.2 = .free → ∃ c, env.cells.lookup p.1 = some c := fun p hp hk => Ek.ce p.1 (S.all p hp hk)
set_option tactic.hygienic true in
theorem comp_eok (S : CompScope scope sc vars x frees js) (Ek : EOk sc X env) (C : Addr) : EOk (relabelS scope sc) X (compEnvC scope (clGo env scope.names []) C env) where
  is := relabel_eq Ek.is
  gl := Ek.gl
  bi := Ek.bi
  k := S.k
  fr := Ek.fr
  cm := fun p hp => by
    obtain ⟨y, c⟩ := p
    have h1 := clGo_at (S.cells Ek) hp
    have hfree : (y, NameKind.free) ∈ scope.names := by
      rcases clGo_mem scope.names [] hp with e | ⟨e1, _⟩
      · cases e
      · exact e1
    obtain ⟨c', hc'⟩ := Option.isSome_iff_exists.mp (clGo_has (env := env) scope.names [] (.inl hfree))
    have h2 := clGo_at (S.cells Ek) (mem_of_lookup hc')
    rw [h1] at h2; cases h2
    exact hc'
  ce := fun y hy => by
    refine Option.isSome_iff_exists.mp (clGo_has (env := env) scope.names [] (.inl ?_))
    have hm := mem_of_lookup hy
    obtain ⟨⟨n, k⟩, hp, e⟩ := List.mem_map.mp hm
    dsimp only at e
    split at e
    · rename_i hc
      cases e
      simp only [Bool.and_eq_true, beq_iff_eq] at hc
      rw [← hc.1.1]; exact hp
    · cases e
      exact absurd rfl (S.nocell _ hp)
theorem comp_rel (S : CompScope scope sc vars x frees js) (Ek : EOk sc X env) (R : Rel P B0 X env vars ρ σ m h) {C : Addr} {mC : Str → Option Value} {v : V} {xv : Value} (hC : C ∉ ρ) (hgC : X.g.get? C = none) (hns : h.Ns C mC) (hx : mC x = some xv) (rv : VR B0 h ρ v xv) :
    Rel P B0 X (compEnvC scope (clGo env scope.names []) C env) (x :: frees) ρ σ (locC js m v) h := by
  have cellOf : ∀ y c, (clGo env scope.names []).lookup y = some c → env.cells.lookup y = some c := fun y c e => clGo_at (S.cells Ek) (mem_of_lookup e)
  have notC : ∀ c v', h.IsCell c v' → c ≠ C := fun c v' hc q => by
    obtain ⟨o, ho, hd⟩ := hc
    obtain ⟨o', es, ep, ho', hd', _⟩ := hns
    rw [q, ho'] at ho; cases ho
    rw [hd'] at hd; cases hd
  refine ⟨R.stay, R.c, fun a ha => ⟨(R.out a ha).1, fun q => hC ((show a = C from q) ▸ ha), (R.out a ha).2.2⟩, hgC, R.fn, fun y c e => ?_, fun y z c e1 e2 => R.ci y z c (cellOf y c e1) (cellOf z c e2), mC, hns, fun i y v' e1 e2 => ?_⟩
  · obtain ⟨a, b, _, v', hv⟩ := R.cl y c (cellOf y c e)
    exact ⟨a, b, notC c _ hv, v', hv⟩
  · cases i with
    | zero =>
      simp at e1
      subst e1
      have e2 : some v = some v' := e2
      cases e2
      refine ⟨xv, .inl ⟨?_, hx⟩, rv⟩
      exact lookup_relabel_local (env := env) S.hx
    | succ i =>
      have e1 : frees[i]? = some y := by simpa using e1
      obtain ⟨j, hj, hv, hk, hf⟩ := S.fr i y e1
      have e2 : m j = some v' := by
        have : (js[i]?).bind m = some v' := e2
        rw [hj] at this; exact this
      obtain ⟨mr, _, hvs⟩ := R.ns
      obtain ⟨w', hw, r⟩ := hvs j y v' hv e2
      have hcell : sc.names.lookup y = some .cell := S.all _ hf rfl
      refine ⟨w', ?_, r⟩
      rcases hw with ⟨hl, _⟩ | ⟨_, c, hc, hcv⟩
      · unfold Env.kindOf at hl; rw [Ek.is, hcell] at hl; cases hl
      · obtain ⟨c', hc'⟩ := Option.isSome_iff_exists.mp (clGo_has (env := env) scope.names [] (.inl hf))
        have := cellOf y c' hc'
        rw [hc] at this; cases this
        refine .inr ⟨.inl ?_, c, hc', hcv⟩
        show (relabel scope env).names.lookup y = some .cell
        rw [relabel_eq Ek.is]; exact hk
end
end NZ
namespace NZ
open _root_.PySem _root_.PySem.W _root_.PySem.Calls PyProof.Rows _root_.PySem.SeqAt
open Classical in
noncomputable def compGo (js : List Nat) (ft : Loc → List Cell → Res Bool) (fe : Loc → List Cell → Res V) (chk : List Cell → Prop) (m : Loc) : List V → List Cell → Res (List V)
  | [], σ => .ok [] σ
  | v :: r, σ => match ft (locC js m v) σ with
    | .ok true σ1 => (match fe (locC js m v) σ1 with
      | .ok u σ2 => if chk σ2 then (match compGo js ft fe chk m r σ2 with
        | .ok us σ3 => .ok (u :: us) σ3
        | _ => .bad) else .bad
      | _ => .bad)
    | .ok false σ1 => if chk σ1 then compGo js ft fe chk m r σ1 else .bad
    | _ => .bad
noncomputable def pComp (f : Loc → List Cell → Res (List V × (List Cell → Prop))) (js : List Nat) (ft : Loc → List Cell → Res Bool) (fe : Loc → List Cell → Res V) : Loc → List Cell → Res V := pBind f fun p => fun m σ => match compGo js ft fe p.2 m p.1 σ with
  | .ok us σ' => if us.length ≤ 100000 then .ok (.cell σ'.length) (σ' ++ [.list us]) else .bad
  | _ => .bad
section
variable (prog : Program) (w : World) (mg mb : Str → Option Value) (B0 : Heap)
/-- a comprehension's tests -/
inductive STs (d : Nat) (sc : Scope) (vars : List Str) : List Expr → (Loc → List Cell → Res Bool) → Prop
  | nil : STs d sc vars [] (pC true)
  | one {c : Expr} {ft : Loc → List Cell → Res Bool} (h : ST false prog w mg mb B0 true d sc vars c ft) : STs d sc vars [c] ft
end
section
variable {ck : Bool} {prog : Program} {w : World} {mg mb : Str → Option Value} {B0 : Heap} {q : Bool} {d d' : Nat} {sc scope : Scope} {vars frees : List Str} {x : Str} {js : List Nat}
theorem STs.run {ifs : List Expr} {ft : Loc → List Cell → Res Bool} (T : STs prog w mg mb B0 d sc vars ifs ft) {X : Act} {env : Env} {ρ : List Addr} {σ : List Cell} {m : Loc} {s : Shared} {Q : Bool → Shared → Prop} {E : Value → Shared → Prop}
    (O : X.Ok w mg mb B0 d) (Ek : EOk sc X env) (R : Rel w.params B0 X env vars ρ σ m s.heap) {b : Bool} {σ1 : List Cell} (e : ft m σ = .ok b σ1)
    (k : ∀ h' tk', CRel w.params B0 h' ρ σ1 → (∀ b o, s.heap.get? b = some o → h'.get? b = some o) → Q b { s with heap := h', toks := tk' }) :
    wpAny (model prog w) X.A (forIn ifs true fun c r => if r = true then do let ok ← isTrue c env (eval c env); pure (ForInStep.yield ok) else pure (ForInStep.yield r)) Q E s := by
  cases T with
  | nil =>
    cases e
    rw [List.forIn_nil]
    exact wpAny_pure (k s.heap s.toks R.c fun _ _ e => e)
  | @one c ft h =>
    rw [List.forIn_cons]
    refine wpAny_bind ?_
    rw [if_pos rfl]
    refine wpAny_bind (ofX (h X env ρ σ m s _ E O Ek R (by rw [e]; intro z; cases z) (fun v σ' ρ' x h' tk' e1 P r => ?_) fun c' e1 => by rw [e] at e1; cases e1))
    rw [e] at e1; cases e1
    obtain ⟨rfl, kp⟩ := P.quiet rfl
    have r : x = b := r
    subst r
    refine wpAny_pure ?_
    show wpAny _ _ (forIn [] x _) _ _ _
    rw [List.forIn_nil]
    exact wpAny_pure (k h' tk' P.rel.c kp)
inductive CompInv (w : World) (B0 : Heap) (s₂ : Shared) (ρ : List Addr) (go : List V → List Cell → Res (List V)) (chk : List Cell → Prop) (items all : List V) (σf : List Cell) (I D C : Addr) (St : Nat → Heap → List Addr → Prop) (k : Nat) : Shared → Prop
  | mk (j : Nat) (σ2 : List Cell) (h2 : Heap) (tk2 : Nat) (ys : List Value) (acc : List V) (mC : Str → Option Value) (cnt : Nat) (us : List V) (hk : k = items.length - j) (hj : j ≤ items.length) (hst : St j h2 ρ) (hck : chk σ2)
    (hcr : CRel w.params B0 h2 ρ σ2) (hDo : h2.get? D = some (listOf (List.toArray ys) cnt)) (hvr : VRs B0 h2 ρ acc ys) (hnC : h2.Ns C mC) (hkp : ∀ b o, b ≠ I → s₂.heap.get? b = some o → h2.get? b = some o)
    (hgo : go (items.drop j) σ2 = .ok us σf) (hall : acc ++ us = all) : CompInv w B0 s₂ ρ go chk items all σf I D C St k { s₂ with heap := h2, toks := tk2 }
set_option tactic.hygienic true in
/-- the loop, its list and its names known -/
theorem comp_main {elt iter : Expr} {px : Pos} {ifs : List Expr} {pos : Pos} {ft : Loc → List Cell → Res Bool} {fe : Loc → List Cell → Res V} {chk : List Cell → Prop} {items all : List V} {σ0 σf : List Cell} {I : Addr} {St : Nat → Heap → List Addr → Prop}
    {X : Act} {env : Env} {ρ : List Addr} {m : Loc} {s₂ : Shared} {RR : Result → Shared → Prop} {D C : Addr} {h₁ : Heap} {m₁ : Str → Option Value}
    (S : CompScope scope sc vars x frees js) (hT : STs prog w mg mb B0 d (relabelS scope sc) (x :: frees) ifs ft) (hE : SV false prog w mg mb B0 true d (relabelS scope sc) (x :: frees) elt fe)
    (O : X.Ok w mg mb B0 d) (Ek : EOk sc X env) (R : Rel w.params B0 X env vars ρ σ0 m s₂.heap) (src : Src prog w B0 X.A I items chk St) (st0 : St 0 s₂.heap ρ) (c0 : chk σ0) (gI : X.g.get? I = none)
    (tot : compGo js ft fe chk m items σ0 = .ok all σf) (hlen : all.length ≤ 100000)
    (hDn : s₂.heap.get? D = none) (hCn : s₂.heap.get? C = none) (hDC : D ≠ C) (old : ∀ b o, s₂.heap.get? b = some o → h₁.get? b = some o) (hacc : h₁.get? D = some (listOf (List.toArray ([] : List Value)) 0)) (hns₁ : h₁.Ns C m₁)
    (hRR : ∀ h' tk mC ys n, h'.Ns C mC → h'.get? D = some (listOf (List.toArray ys) n) → VRs B0 h' ρ all ys → CRel w.params B0 h' ρ σf →
      (∀ b o, b ≠ I → s₂.heap.get? b = some o → h'.get? b = some o) → RR (.ok .next) { s₂ with heap := h', toks := tk }) :
    codeAny (model prog w) X.A (.compLoop (.ListComp elt [⟨.Name x px, iter, ifs, 0⟩] scope pos) 0 (.ref I) (.ref D) (compEnvC scope (clGo env scope.names []) C env)) RR { s₂ with heap := h₁, toks := s₂.toks + ([] : List (Str × Value)).length } := by
  have inρ : ∀ a ∈ ρ, ∃ o, s₂.heap.get? a = some o := fun a ha => by obtain ⟨_, _, o, _, _, ho, _⟩ := R.c.cellOf ha; exact ⟨o, ho⟩
  have hCρ : C ∉ ρ := fun hm => by obtain ⟨o, ho⟩ := inρ _ hm; rw [hCn] at ho; cases ho
  have hDρ : D ∉ ρ := fun hm => by obtain ⟨o, ho⟩ := inρ _ hm; rw [hDn] at ho; cases ho
  have gC : X.g.get? C = none := by
    cases e : X.g.get? C with
    | none => rfl
    | some o => rw [R.stay _ _ e] at hCn; cases hCn
  obtain ⟨oI, vI, nI, hoI, hdI, hcI, hnI⟩ := src.there _ _ _ st0
  have hIC : I ≠ C := fun q => by rw [q, hCn] at hoI; cases hoI
  have hID : I ≠ D := fun q => by rw [q, hDn] at hoI; cases hoI
  have hIρ : I ∉ ρ := R.c.no_it hoI hdI
  have hnoD : ∀ {h : Heap} {ys : List Value} {n : Nat}, h.get? D = some (listOf (List.toArray ys) n) → ∀ o, h.get? D = some o → ¬ immut o := fun e o e2 i => by
    rw [e] at e2; cases e2
    have q' : (Value.type "list") = Value.type "tuple" := i
    simp at q'
  have hnoC : ∀ {h : Heap} {mC : Str → Option Value}, h.Ns C mC → ∀ o, h.get? C = some o → ¬ immut o := fun hn o e i => by
    obtain ⟨o', es, ep, ho', hd', _⟩ := hn
    rw [ho'] at e; cases e
    unfold immut at i; rw [hd'] at i; exact i.elim
  have hsub : ∀ {s' : Shared}, letOwnedTupleGo (.Name x px) (.ref I) = fun _ => pure () := fun {_} => rfl
  have Ek' := comp_eok S Ek C
  refine codeAny_compLoop_tests (CompInv w B0 s₂ ρ (compGo js ft fe chk m) chk items all σf I D C St) ?_ items.length
    ⟨0, σ0, h₁, s₂.toks, [], [], _, 0, all, rfl, Nat.zero_le _, src.frame _ _ _ _ _ st0 (fun o e => old _ _ e) (Imm.of_keeps old) (Pre.refl _), c0, R.c.keeps (Imm.of_keeps old) (fun a _ o e => old a o e), hacc, VRs.nil, hns₁, fun b o _ e => old b o e, tot, rfl⟩
  rintro k s' ⟨j, σ2, h2, tk2, ys, acc, mC, cnt, us, hk, hj, hst, hck, hcr, hDo, hvr, hnC, hkp, hgo, hall⟩
  by_cases hjl : j < items.length
  · have hv : items[j]? = some items[j] := List.getElem?_eq_getElem hjl
    have hdrop : items.drop j = items[j] :: items.drop (j + 1) := List.drop_eq_getElem_cons hjl
    obtain ⟨oJ, vJ, nJ, hoJ, hdJ, hcJ, hnJ⟩ := src.there _ _ _ hst
    refine src.item j items[j] ρ σ2 _ _ _ hst hcr hck hv fun xv h3 tk3 kp3 rv3 st3 => ?_
    dsimp only at kp3
    have im3 : Imm h2 h3 := imm_but hoJ hdJ kp3
    have hcr3 : CRel w.params B0 h3 ρ σ2 := hcr.keeps im3 fun a ha o e => kp3 a o (fun q => hIρ (q ▸ ha)) e
    have hDo3 := kp3 _ _ (Ne.symm hID) hDo
    have hvr3 := hvr.mono im3 (Pre.refl ρ)
    have hnC3 : h3.Ns C mC := hnC.at fun o e => kp3 _ o (Ne.symm hIC) e
    have hkp3 : ∀ b o, b ≠ I → s₂.heap.get? b = some o → h3.get? b = some o := fun b o hb e => kp3 b o hb (hkp b o hb e)
    -- the target
    have hkx : (compEnvC scope (clGo env scope.names []) C env).kindOf x = some .local := lookup_relabel_local (env := env) S.hx
    refine wpAny_assign_Name (wpAny_storeName_local hkx hnC3 (fun h4 hn4 hs4 => ?_) (by show (scope.kind == ScopeKind.class || _) = false; simp [compEnvC, relabel, S.k]))
    dsimp only at hs4
    have kp4 : ∀ b o, b ≠ C → h3.get? b = some o → h4.get? b = some o := fun b o hb e => (hs4.2 b hb).trans e
    have im4 : Imm h3 h4 := fun b o e i => by
      by_cases q : b = C
      · subst q; exact absurd i (hnoC hnC3 _ e)
      · exact kp4 b o q e
    have hcr4 : CRel w.params B0 h4 ρ σ2 := hcr3.keeps im4 fun a ha o e => kp4 a o (fun q => hCρ (q ▸ ha)) e
    have hDo4 := kp4 _ _ hDC hDo3
    have hkp4 : ∀ b o, b ≠ I → s₂.heap.get? b = some o → h4.get? b = some o := fun b o hb e => kp4 b o (fun q => by rw [q, hCn] at e; cases e) (hkp3 b o hb e)
    have R4 : Rel w.params B0 X env vars ρ σ2 m h4 := (R.but hoI hdI hkp4 gI).cells hcr4
    have rel4 : Rel w.params B0 X (compEnvC scope (clGo env scope.names []) C env) (x :: frees) ρ σ2 (locC js m items[j]) h4 := comp_rel S Ek R4 hCρ gC hn4 (by simp) (rv3.mono im4 (Pre.refl _))
    have st4 : St (j + 1) h4 ρ := src.frame _ _ _ _ _ st3 (fun o e => kp4 _ o hIC e) im4 (Pre.refl _)
    -- the pure step
    rw [hdrop] at hgo
    unfold compGo at hgo
    cases et : ft (locC js m items[j]) σ2 with
    | exc c => rw [et] at hgo; cases hgo
    | bad => rw [et] at hgo; cases hgo
    | ok b σ3 =>
    rw [et] at hgo
    refine STs.run hT (s := { s₂ with heap := h4, toks := tk3 + 1 }) O Ek' rel4 et fun h5 tk5 hcr5 kp5 => ?_
    dsimp only at kp5
    have im5 := Imm.of_keeps kp5
    have hkp5 : ∀ b o, b ≠ I → s₂.heap.get? b = some o → h5.get? b = some o := fun b o hb e => kp5 b o (hkp4 b o hb e)
    have st5 := src.frame _ _ _ _ _ st4 (fun o e => kp5 _ o e) im5 (Pre.refl _)
    cases b with
    | false =>
      rw [if_neg (by decide)]
      dsimp only at hgo
      split at hgo
      · rename_i hck3
        exact ⟨items.length - (j + 1), by omega, j + 1, σ3, h5, tk5, ys, acc, _, cnt, us, rfl, hjl, st5, hck3, hcr5, kp5 _ _ hDo4, (hvr3.mono im4 (Pre.refl _)).mono im5 (Pre.refl _), hn4.keeps kp5, hkp5, hgo, hall⟩
      · cases hgo
    | true =>
      rw [if_pos rfl]
      dsimp only at hgo
      cases ee : fe (locC js m items[j]) σ3 with
      | exc c => rw [ee] at hgo; cases hgo
      | bad => rw [ee] at hgo; cases hgo
      | ok u σ4 =>
      rw [ee] at hgo
      dsimp only at hgo
      have rel5 : Rel w.params B0 X (compEnvC scope (clGo env scope.names []) C env) (x :: frees) ρ σ3 (locC js m items[j]) h5 := (rel4.keeps kp5).cells hcr5
      refine ofX (hE X _ ρ σ3 (locC js m items[j]) { s₂ with heap := h5, toks := tk5 } _ _ O Ek' rel5 (by rw [ee]; intro z; cases z) (fun v σ' ρ' y h6 tk6 e6 P6 r6 => ?_) fun c' e1 => by rw [ee] at e1; cases e1)
      rw [ee] at e6; cases e6
      obtain ⟨rfl, kp6⟩ := P6.quiet rfl
      dsimp only at kp6
      have im6 := Imm.of_keeps kp6
      split at hgo
      · rename_i hck4
        cases er : compGo js ft fe chk m (items.drop (j + 1)) σ4 with
        | exc c => rw [er] at hgo; cases hgo
        | bad => rw [er] at hgo; cases hgo
        | ok us' σ5 =>
        rw [er] at hgo
        cases hgo
        have hDo6 := kp6 _ _ (kp5 _ _ hDo4)
        have hyl : ys.length ≤ 100000 := by rw [← hvr.1]; have := congrArg List.length hall; simp at this; omega
        refine append_at (s := { s₂ with heap := h6, toks := tk6 }) hDo6 (fun h7 hs7 ho7 => ?_) (by simp only [List.size_toArray]; rw [sizeLine_eq]; omega)
        dsimp only at hs7
        have kp7 : ∀ b o, b ≠ D → h6.get? b = some o → h7.get? b = some o := fun b o hb e => (hs7.2 b hb).trans e
        have im7 : Imm h6 h7 := fun b o e i => by
          by_cases q : b = D
          · subst q; exact absurd i (hnoD hDo6 _ e)
          · exact kp7 b o q e
        have hkp7 : ∀ b o, b ≠ I → s₂.heap.get? b = some o → h7.get? b = some o := fun b o hb e => kp7 b o (fun q => by rw [q, hDn] at e; cases e) (kp6 b o (hkp5 b o hb e))
        refine ⟨items.length - (j + 1), by omega, j + 1, σ4, h7, tk6, ys ++ [y], acc ++ [u], _, cnt + 1, us', rfl, hjl, src.frame _ _ _ _ _ (src.frame _ _ _ _ _ st5 (fun o e => kp6 _ o e) im6 (Pre.refl _)) (fun o e => kp7 _ o hID e) im7 (Pre.refl _), hck4,
          P6.rel.c.keeps im7 fun a ha o e => kp7 a o (fun q => hDρ (q ▸ ha)) e, by simpa using ho7, ((((hvr3.mono im4 (Pre.refl _)).mono im5 (Pre.refl _)).mono im6 (Pre.refl _)).snoc r6).mono im7 (Pre.refl _), ((hn4.keeps kp5).keeps kp6).at fun o e => kp7 _ o (Ne.symm hDC) e, hkp7, er, by rw [← hall]; simp⟩
      · cases hgo
  · have hj' : j = items.length := by omega
    subst hj'
    refine src.done _ ρ σ2 _ _ _ hst hcr hck (by simp) fun h3 tk3 kp3 => ?_
    dsimp only at kp3
    obtain ⟨oJ, vJ, nJ, hoJ, hdJ, hcJ, hnJ⟩ := src.there _ _ _ hst
    have im3 : Imm h2 h3 := imm_but hoJ hdJ kp3
    rw [List.drop_length] at hgo
    cases hgo
    rw [List.append_nil] at hall
    subst hall
    exact hRR h3 tk3 mC ys cnt (hnC.at fun o e => kp3 _ o (Ne.symm hIC) e) (kp3 _ _ (Ne.symm hID) hDo) (hvr.mono im3 (Pre.refl _)) (hcr.keeps im3 fun a ha o e => kp3 a o (fun q => hIρ (q ▸ ha)) e) fun b o hb e => kp3 b o hb (hkp b o hb e)
/-- the loop and what it makes -/
theorem comp_block {elt iter : Expr} {px : Pos} {ifs : List Expr} {pos : Pos} {ft : Loc → List Cell → Res Bool} {fe : Loc → List Cell → Res V} {chk : List Cell → Prop} {items all : List V} {σ0 σf : List Cell} {I : Addr} {St : Nat → Heap → List Addr → Prop}
    {X : Act} {env : Env} {ρ : List Addr} {m : Loc} {s₂ : Shared} {E : Value → Shared → Prop} {RR : Value → Addr → Result → Shared → Prop}
    (S : CompScope scope sc vars x frees js) (hT : STs prog w mg mb B0 d (relabelS scope sc) (x :: frees) ifs ft) (hE : SV false prog w mg mb B0 true d (relabelS scope sc) (x :: frees) elt fe)
    (O : X.Ok w mg mb B0 d) (Ek : EOk sc X env) (R : Rel w.params B0 X env vars ρ σ0 m s₂.heap) (src : Src prog w B0 X.A I items chk St) (st0 : St 0 s₂.heap ρ) (c0 : chk σ0) (gI : X.g.get? I = none)
    (tot : compGo js ft fe chk m items σ0 = .ok all σf) (hlen : all.length ≤ 100000)
    (hRR : ∀ D C h' tk mC ys n, s₂.heap.get? D = none → s₂.heap.get? C = none → D ≠ C → h'.Ns C mC → h'.get? D = some (listOf (List.toArray ys) n) → VRs B0 h' ρ all ys → CRel w.params B0 h' ρ σf →
      (∀ b o, b ≠ I → s₂.heap.get? b = some o → h'.get? b = some o) → RR (.ref D) C (.ok .next) { s₂ with heap := h', toks := tk }) :
    wpAny (model prog w) X.A (newList []) (fun acc s₃ => wpAny (model prog w) X.A (newFunctionEnv scope env.globals (clGo env scope.names []) [] env.qual none .none (some env)) (fun cenv s₄ =>
      codeAny (model prog w) X.A (.compStart (.ListComp elt [⟨.Name x px, iter, ifs, 0⟩] scope pos) 0 (.ref I) acc { cenv with scope := relabel scope env }) (RR acc cenv.locals) s₄) E s₃) E s₂ := by
  refine wpAny_newObj_type (wpAny_newFunctionEnv S.nocell (by intro y hy; simp at hy) (fun h₁ hns₁ hsb₁ => ?_) S.k)
  dsimp only at hns₁ hsb₁ ⊢
  generalize hH2 : s₂.heap.push { cls := .type "list", dict := none, data := .seq ([] : List Value).toArray } = H2 at hns₁ hsb₁ ⊢
  have hC : H2.objs.size = s₂.heap.objs.size + 1 := by rw [← hH2, Heap.size_push]
  have hDC : s₂.heap.objs.size ≠ H2.objs.size := by rw [hC]; exact Nat.ne_of_lt (Nat.lt_succ_self _)
  have below : ∀ b, b < s₂.heap.objs.size → b ≠ H2.objs.size ∧ b ≠ s₂.heap.objs.size := fun b hb => ⟨by rw [hC]; exact Nat.ne_of_lt (Nat.lt_succ_of_lt hb), Nat.ne_of_lt hb⟩
  have old : ∀ b o, s₂.heap.get? b = some o → h₁.get? b = some o := fun b o e => hsb₁.extBut b o (below b (Heap.lt_size e)).1 (Heap.get?_push_of_some _ (hH2 ▸ Heap.get?_push_of_some _ e))
  have hacc : h₁.get? s₂.heap.objs.size = some (listOf (List.toArray ([] : List Value)) 0) := hsb₁.extBut _ _ hDC (Heap.get?_push_of_some _ (hH2 ▸ Heap.get?_push_size _ rfl))
  have fresh : ∀ a, s₂.heap.objs.size ≤ a → s₂.heap.get? a = none := fun a ha => by
    cases e : s₂.heap.get? a with
    | none => rfl
    | some o' => exact absurd (Heap.lt_size e) (Nat.not_lt.mpr ha)
  have hDn : s₂.heap.get? s₂.heap.objs.size = none := fresh _ (Nat.le_refl _)
  have hCn : s₂.heap.get? H2.objs.size = none := fresh _ (by rw [hC]; exact Nat.le_succ _)
  obtain ⟨oI, vI, nI, hoI, hdI, hcI, hnI⟩ := src.there _ _ _ st0
  have main : codeAny (model prog w) X.A (.compLoop (.ListComp elt [⟨.Name x px, iter, ifs, 0⟩] scope pos) 0 (.ref I) (.ref s₂.heap.objs.size) (compEnvC scope (clGo env scope.names []) H2.objs.size env)) (RR (.ref s₂.heap.objs.size) H2.objs.size) { s₂ with heap := h₁, toks := s₂.toks + ([] : List (Str × Value)).length } :=
    comp_main S hT hE O Ek R src st0 c0 gI tot hlen hDn hCn hDC old hacc hns₁ (fun h' tk mC ys n => hRR _ _ h' tk mC ys n hDn hCn hDC)
  have hoI1 := old _ _ hoI
  exact codeAny_compStart_list main (iter_self (s := { s₂ with heap := h₁, toks := s₂.toks + ([] : List (Str × Value)).length }) hoI1 hcI hnI main)
end
end NZ
namespace NZ
open _root_.PySem _root_.PySem.W _root_.PySem.Calls PyProof.Rows _root_.PySem.SeqAt
section
variable {ck : Bool} {prog : Program} {w : World} {mg mb : Str → Option Value} {B0 : Heap} {q : Bool} {d d' : Nat} {sc scope : Scope} {vars frees : List Str} {x : Str} {js : List Nat}
theorem comp_nb {f : Loc → List Cell → Res (List V × (List Cell → Prop))} {ft : Loc → List Cell → Res Bool} {fe : Loc → List Cell → Res V} {m : Loc} {σ σ1 : List Cell} {items : List V} {chk : List Cell → Prop} (e : f m σ = .ok (items, chk) σ1) (nb : pComp f js ft fe m σ ≠ .bad) :
    ∃ all σf, compGo js ft fe chk m items σ1 = .ok all σf ∧ all.length ≤ 100000 ∧ pComp f js ft fe m σ = .ok (.cell σf.length) (σf ++ [.list all]) := by
  have e1 : pComp f js ft fe m σ = (match compGo js ft fe chk m items σ1 with
    | .ok us σ' => if us.length ≤ 100000 then .ok (.cell σ'.length) (σ' ++ [.list us]) else .bad
    | _ => .bad) := pBind_ok e
  rw [e1] at nb ⊢
  cases h : compGo js ft fe chk m items σ1 with
  | ok all σf =>
    rw [h] at nb
    dsimp only at nb
    by_cases hl : all.length ≤ 100000
    · exact ⟨all, σf, rfl, hl, by dsimp only; rw [if_pos hl]⟩
    · rw [if_neg hl] at nb; exact absurd rfl nb
  | exc c => rw [h] at nb; exact absurd rfl nb
  | bad => rw [h] at nb; exact absurd rfl nb
theorem SV.comp {elt iter : Expr} {px : Pos} {ifs : List Expr} {pos : Pos} {f : Loc → List Cell → Res (List V × (List Cell → Prop))} {ft : Loc → List Cell → Res Bool} {fe : Loc → List Cell → Res V}
    (hi : SI false prog w mg mb B0 d sc vars iter f) (S : CompScope scope sc vars x frees js) (hT : STs prog w mg mb B0 d (relabelS scope sc) (x :: frees) ifs ft) (hE : SV false prog w mg mb B0 true d (relabelS scope sc) (x :: frees) elt fe)
    (hs : ∀ env v, foldedSetIterable iter env v = pure v := by intro _ _; rfl) :
    SV ck prog w mg mb B0 false d sc vars (.ListComp elt [⟨.Name x px, iter, ifs, 0⟩] scope pos) (pComp f js ft fe) := by
  intro X env ρ σ m s Q E O Ek R nb ok ex
  refine ax ?_
  show wpAny _ _ (eval (.ListComp elt [⟨.Name x px, iter, ifs, 0⟩] scope pos) env) Q E s
  rw [eval_ListComp]
  refine wpAny_comprehension_free (use := none) rfl (hs env) (closure_eq (S.cells Ek)) S.k S.locs ?_
  show wpAny _ _ (eval iter env) _ _ _
  refine wpAny_mono (ofX (hi X env ρ σ m s _ E O Ek R (fun z => nb (by unfold pComp pBind; rw [z])) (fun items chk σ1 ρ1 I St h1 tk1 e1 P1 src st0 c0 g0 => ?_) fun c e => ex c (by unfold pComp pBind; rw [e]))) (fun v s1 z => ofX z) fun _ _ z => z
  obtain ⟨all, σf, tot, hlen, etot⟩ := comp_nb e1 nb
  refine comp_block (s₂ := { s with heap := h1, toks := tk1 }) (RR := fun acc C => compPost (model prog w) X.A E none Q acc C) S hT hE O Ek P1.rel (src X.A O.hh) st0 c0 g0 tot hlen fun D C h' tk mC ys n hD hC hDC hnC hDo hvr hcr hkp => ?_
  dsimp only at hD hC hkp
  refine ⟨mC, hnC, fun h2 hs2 => ?_⟩
  dsimp only at hs2
  obtain ⟨oI, vI, nI, hoI, hdI, hcI, hnI⟩ := (src X.A O.hh).there _ _ _ st0
  have kp2 : ∀ b o, b ≠ C → h'.get? b = some o → h2.get? b = some o := fun b o hb e => (hs2.2 b hb).trans e
  have im2 : Imm h' h2 := fun b o e i => by
    by_cases hb : b = C
    · subst hb
      obtain ⟨o', es, ep, ho', hd', _⟩ := hnC
      rw [ho'] at e; cases e
      unfold immut at i; rw [hd'] at i; exact i.elim
    · exact kp2 b o hb e
  have hkp2 : ∀ b o, b ≠ I → h1.get? b = some o → h2.get? b = some o := fun b o hb e => kp2 b o (fun q => by rw [q, hC] at e; cases e) (hkp b o hb e)
  have inρ : ∀ a ∈ ρ1, ∃ o, h1.get? a = some o := fun a ha => by obtain ⟨_, _, o, _, _, ho, _⟩ := P1.rel.c.cellOf ha; exact ⟨o, ho⟩
  have hcr2 : CRel w.params B0 h2 ρ1 σf := hcr.keeps im2 fun a ha o e => kp2 a o (fun q => by obtain ⟨o', ho'⟩ := inρ a ha; rw [q, hC] at ho'; cases ho') e
  have R2 : Rel w.params B0 X env vars ρ1 σf m h2 := (P1.rel.but hoI hdI hkp2 g0).cells hcr2
  have hDo2 := kp2 _ _ hDC hDo
  have R3 := R2.addCell (c := .list all) hDo2 ⟨ys, n, rfl, hvr.mono im2 (Pre.refl _)⟩ (fun hm => by obtain ⟨o', ho'⟩ := inρ _ hm; rw [hD] at ho'; cases ho')
    (fun q => by obtain ⟨mr, ⟨o, _, _, ho, _⟩, _⟩ := P1.rel.ns; rw [← q, hD] at ho; cases ho) (fun q => by obtain ⟨o, _, _, ho, _⟩ := P1.rel.fn; rw [← q, hD] at ho; cases ho)
    (fun y c e q => by obtain ⟨_, _, _, v, o, ho, _⟩ := P1.rel.cl y c e; rw [q, hD] at ho; cases ho) (by
      cases e : X.g.get? D with
      | none => rfl
      | some o => rw [P1.rel.stay _ _ e] at hD; cases hD)
  have im : Imm h1 h2 := imm_but hoI hdI hkp2
  exact ok (.cell σf.length) (σf ++ [.list all]) (ρ1 ++ [D]) (.ref D) h2 tk etot ⟨R3, P1.imm.trans im, P1.pre.trans ⟨_, rfl⟩, fun z => by cases z⟩ (.cell (by rw [← R2.c.len]; simp))
theorem S1.setcomp {y : Str} {py spos : Pos} {i : Nat} {elt iter : Expr} {px : Pos} {ifs : List Expr} {pos : Pos} {f : Loc → List Cell → Res (List V × (List Cell → Prop))} {ft : Loc → List Cell → Res Bool} {fe : Loc → List Cell → Res V}
    (hi : SI false prog w mg mb B0 d sc vars iter f) (S : CompScope scope sc vars x frees js) (hT : STs prog w mg mb B0 d (relabelS scope sc) (x :: frees) ifs ft) (hE : SV false prog w mg mb B0 true d (relabelS scope sc) (x :: frees) elt fe)
    (hiy : vars[i]? = some y) (hnd : vars.Nodup) (hky : sc.names.lookup y = some .local) (hsck : sc.kind = .function) (hln : (py.line == pos.line) = true) (hny : (scope.names.any fun (n, k) => n == y && (k == .local || k == .cell)) = false)
    (hs : ∀ env v, foldedSetIterable iter env v = pure v := by intro _ _; rfl) :
    S1 ck prog w mg mb B0 d sc vars (.Assign [.Name y py] (.ListComp elt [⟨.Name x px, iter, ifs, 0⟩] scope pos) spos) (sSet i (pComp f js ft fe)) := by
  intro X ρ σ m s Q E O Ek EL R nb nx rt ex
  have env0 : X.fenv.scope = sc := Ek.is
  have hsw : swapsWith (.ListComp elt [⟨.Name x px, iter, ifs, 0⟩] scope pos) (some (.Name y py)) spos.line X.fenv = pure true := by
    have hb : X.fenv.blockKind = .function := by unfold Env.blockKind; rw [env0, hsck]; rfl
    have hk : X.fenv.kindOf y = some .local := by unfold Env.kindOf; rw [env0]; exact hky
    show (pure (X.fenv.blockKind == .function && X.fenv.kindOf y == some .local && py.line == pos.line && !(scope.names.any fun (n, k) => n == y && (k == .local || k == .cell))) : Sem Bool) = pure true
    rw [hb, hk, hln, hny]; rfl
  refine ax ?_
  show wpAny _ _ (exec (.Assign [.Name y py] (.ListComp elt [⟨.Name x px, iter, ifs, 0⟩] scope pos) spos) X.fenv) Q E s
  rw [exec_Assign_Name_used _ _ _ _ hsw]
  refine wpAny_bind (wpAny_standAt (wpAny_bind ?_))
  show wpAny _ X.A (do let _ ← comprehension (.ListComp elt [⟨.Name x px, iter, ifs, 0⟩] scope pos) scope X.fenv _ (newList []) false (eval iter X.fenv) (some (assign (.Name y py) X.fenv))) _ _ s
  refine wpAny_bind (wpAny_mono (wpAny_comprehension_free (use := some (assign (.Name y py) X.fenv)) (Q := fun _ s' => Q .next s') rfl (hs X.fenv) (closure_eq (S.cells Ek)) S.k S.locs ?_) (fun _ s' hq => wpAny_pure (wpAny_pure hq)) fun _ _ e => e)
  have nbC : pComp f js ft fe m σ ≠ .bad := sBind_nb nb
  refine wpAny_mono (ofX (hi X X.fenv ρ σ m s _ E O Ek R (fun z => nbC (by unfold pComp pBind; rw [z])) (fun items chk σ1 ρ1 I St h1 tk1 e1 P1 src st0 c0 g0 => ?_) fun c e => ex c (sBind_exc (by unfold pComp pBind; rw [e])))) (fun v s1 z => ofX z) fun _ _ z => z
  obtain ⟨all, σf, tot, hlen, etot⟩ := comp_nb e1 nbC
  refine comp_block (s₂ := { s with heap := h1, toks := tk1 }) (RR := fun acc C => compPost (model prog w) X.A E (some (assign (.Name y py) X.fenv)) (fun _ s' => Q .next s') acc C) S hT hE O Ek P1.rel (src X.A O.hh) st0 c0 g0 tot hlen fun D C h' tk mC ys n hD hC hDC hnC hDo hvr hcr hkp => ?_
  dsimp only at hD hC hkp
  obtain ⟨oI, vI, nI, hoI, hdI, hcI, hnI⟩ := (src X.A O.hh).there _ _ _ st0
  have inρ : ∀ a ∈ ρ1, ∃ o, h1.get? a = some o := fun a ha => by obtain ⟨_, _, o, _, _, ho, _⟩ := P1.rel.c.cellOf ha; exact ⟨o, ho⟩
  have R2 : Rel w.params B0 X X.fenv vars ρ1 σf m h' := (P1.rel.but hoI hdI hkp g0).cells hcr
  have hDl : D ≠ X.fenv.locals := fun q => by obtain ⟨mr, ⟨o, _, _, ho, _⟩, _⟩ := P1.rel.ns; rw [← q, hD] at ho; cases ho
  have hCl : C ≠ X.fenv.locals := fun q => by obtain ⟨mr, ⟨o, _, _, ho, _⟩, _⟩ := P1.rel.ns; rw [← q, hC] at ho; cases ho
  have hDL : D ≠ X.L := fun q => by obtain ⟨o, _, _, ho, _⟩ := P1.rel.fn; rw [← q, hD] at ho; cases ho
  have hCL : C ≠ X.L := fun q => by obtain ⟨o, _, _, ho, _⟩ := P1.rel.fn; rw [← q, hC] at ho; cases ho
  have ofn : ∀ z, h1.get? z = none → X.g.get? z = none := fun z hz => by
    cases e : X.g.get? z with
    | none => rfl
    | some o => rw [P1.rel.stay _ _ e] at hz; cases hz
  have ocl : ∀ z, h1.get? z = none → ∀ y c, X.fenv.cells.lookup y = some c → c ≠ z := fun z hz y c e q => by obtain ⟨_, _, _, v, o, ho, _⟩ := P1.rel.cl y c e; rw [q, hz] at ho; cases ho
  have hDρ : D ∉ ρ1 := fun hm => by obtain ⟨o', ho'⟩ := inρ _ hm; rw [hD] at ho'; cases ho'
  have hCρ : C ∉ ρ1 := fun hm => by obtain ⟨o', ho'⟩ := inρ _ hm; rw [hC] at ho'; cases ho'
  have R3 := R2.addCell (c := .list all) hDo ⟨ys, n, rfl, hvr⟩ hDρ hDl hDL (ocl D hD) (ofn D hD)
  have im : Imm h1 h' := imm_but hoI hdI hkp
  have P3 : Post w.params B0 X X.fenv vars ρ m s.heap false (σf ++ [.list all]) (ρ1 ++ [D]) h' := ⟨R3, P1.imm.trans im, P1.pre.trans ⟨_, rfl⟩, fun z => by cases z⟩
  show wpAny _ X.A (assign (.Name y py) X.fenv (.ref D)) _ _ _
  refine wpAny_assign_Name (store_local (s := { s with heap := h', toks := tk }) Ek EL R3 hiy hnd hky (v := .cell σf.length) (.cell (by rw [← R2.c.len]; simp)) fun h2 P4 kp4 => ?_)
  dsimp only at kp4
  refine ⟨mC, hnC.at fun o e => kp4 _ o hCL e, fun h3 hs3 => ?_⟩
  dsimp only at hs3
  have kp3 : ∀ b o, b ≠ C → h2.get? b = some o → h3.get? b = some o := fun b o hb e => (hs3.2 b hb).trans e
  have hnC2 := hnC.at fun o e => kp4 _ o hCL e
  have im3 : Imm h2 h3 := fun b o e i => by
    by_cases hb : b = C
    · subst hb
      obtain ⟨o', es, ep, ho', hd', _⟩ := hnC2
      rw [ho'] at e; cases e
      unfold immut at i; rw [hd'] at i; exact i.elim
    · exact kp3 b o hb e
  have hCρ' : C ∉ ρ1 ++ [D] := fun hm => by
    rcases List.mem_append.mp hm with hm | hm
    · exact hCρ hm
    · simp at hm; exact hDC hm.symm
  have R5 := P4.rel.away hCρ' hCl hCL (ocl C hC) (ofn C hC) im3 kp3
  exact nx _ (σf ++ [.list all]) (ρ1 ++ [D]) h3 _ (sBind_ok etot) (P3.back (Post.mk R5 (P4.imm.trans im3) P4.pre (fun z => by cases z) : Post w.params B0 X X.fenv vars _ _ _ false _ _ _))
end
end NZ
namespace NZ
open _root_.PySem _root_.PySem.W _root_.PySem.Calls PyProof.Rows _root_.PySem.SeqAt
/-- the table of fields -/
noncomputable def formS (k : Int) : Option Str :=
  if k = 1 then some (Str.ofString "t") else if k = 2 then some (Str.ofString "n") else if k = 3 then some (Str.ofString "n") else if k = 4 then some (Str.ofString "n")
  else if k = 5 then some (Str.ofString "lk") else if k = 6 then some (Str.ofString "ln") else if k = 7 then some (Str.ofString "lnnkk") else if k = 10 then some (Str.ofString "") else none
noncomputable def formV (_ : List Cell) : V → Option V
  | .int k => (formS k).map .str
  | _ => none
noncomputable def notInForm : V → Option Bool
  | .int k => some (formS k).isNone
  | _ => none
section
variable {ck : Bool} {prog : Program} {w : World} {mg mb : Str → Option Value} {B0 : Heap} {q q1 q2 : Bool} {d d' : Nat} {sc : Scope} {vars : List Str}
noncomputable abbrev KS := List (Int × Str × Pos × Pos)
noncomputable def ksKeys (ks : KS) : List (Option Expr) := ks.map fun p => some (.Constant (.int p.1) 0 p.2.2.1)
noncomputable def ksVals (ks : KS) : List Expr := ks.map fun p => .Constant (.str p.2.1) 0 p.2.2.2
noncomputable def ksAt (k : Int) : KS → Option Str
  | [] => none
  | p :: r => if p.1 = k then some p.2.1 else ksAt k r
inductive KsOf : KS → List (Int × Value) → Prop
  | nil : KsOf [] []
  | cons {p : Int × Str × Pos × Pos} {ks : KS} {kvs : List (Int × Value)} (t : Tok) : KsOf ks kvs → KsOf (p :: ks) ((p.1, .str p.2.1 t) :: kvs)
theorem KsOf.at {ks : KS} {kvs : List (Int × Value)} (h : KsOf ks kvs) (k : Int) : match ksAt k ks with | some x => ∃ t, valueAt kvs k = some (.str x t) | none => valueAt kvs k = none := by
  induction h with
  | nil => rfl
  | @cons p ks kvs t h ih =>
    unfold ksAt valueAt
    by_cases q : p.1 = k
    · rw [if_pos q]
      exact ⟨t, by simp [List.find?_cons, q]⟩
    · rw [if_neg q]
      simp only [List.find?_cons, q, decide_false]
      exact ih
theorem KsOf.keys {ks : KS} {kvs : List (Int × Value)} (h : KsOf ks kvs) : kvs.map (·.1) = ks.map (·.1) := by
  induction h with
  | nil => rfl
  | cons t h ih => simp [ih]
theorem merged_nodup : ∀ (kvs acc : List (Int × Value)), ((acc ++ kvs).map (·.1)).Nodup → merged acc kvs = acc ++ kvs
  | [], acc, _ => by simp [merged]
  | p :: r, acc, h => by
    have e1 : stored acc p.1 p.2 = acc ++ [p] := by
      unfold stored
      rw [if_neg]
      simp only [List.any_eq_true, decide_eq_true_eq, not_exists, not_and]
      intro x hx q
      simp only [List.map_append, List.map_cons] at h
      have := (List.nodup_append.mp h).2.2 x.1 (List.mem_map_of_mem hx) p.1 (by simp)
      exact this q
    have : merged acc (p :: r) = merged (stored acc p.1 p.2) r := rfl
    rw [this, e1, merged_nodup r (acc ++ [p]) (by simpa using h)]
    simp
theorem evalPairs_consts {A : Around} {E : Value → Shared → Prop} {env : Env} {pos : Pos} : ∀ (ks : KS) (s : Shared) (Q : List (Value × Value) → Shared → Prop),
    (∀ kvs vs tk, Carries (intKind prog w) vs kvs → KsOf ks kvs → Q vs { s with toks := tk }) → wpAny (model prog w) A (evalPairs (pairTrees (ksKeys ks) (ksVals ks) env pos)) Q E s
  | [], s, Q, h => pairTrees_nil_walk (h [] [] s.toks trivial .nil)
  | p :: ks, s, Q, h => by
    show wpAny _ _ (evalPairs (pairTrees (some (.Constant (.int p.1) 0 p.2.2.1) :: ksKeys ks) (.Constant (.str p.2.1) 0 p.2.2.2 :: ksVals ks) env pos)) Q E s
    refine pairTrees_cons_walk (wpAny_Constant_int (wpAny_Constant_str (evalPairs_consts ks _ _ fun kvs vs tk hc hk => ?_)))
    exact h ((p.1, .str p.2.1 _) :: kvs) _ tk ⟨intKind_is _ _ _ _, rfl, hc⟩ (.cons _ hk)
theorem dict_consts {A : Around} {E : Value → Shared → Prop} {env : Env} {pos : Pos} {s : Shared} {Q : Value → Shared → Prop} (ks : KS) (h0 : ks ≠ []) (hlen : ks.length ≤ 15) (hnd : (ks.map (·.1)).Nodup)
    (h : ∀ h' tk kvs, h'.DictOf (intKind prog w) s.heap.objs.size kvs → KsOf ks kvs → (∀ b o, s.heap.get? b = some o → h'.get? b = some o) → Q (.ref s.heap.objs.size) { s with heap := h', toks := tk }) :
    wpAny (model prog w) A (eval (.Dict (ksKeys ks) (ksVals ks) pos) env) Q E s := by
  refine wpAny_Dict_walk (knd := intKind prog w) (by simp [ksKeys]) (by simp [ksKeys, ksVals]) (by intro z; exact h0 (by simpa [ksKeys] using z)) (by simpa [ksKeys] using hlen) ?_
  refine evalPairs_consts ks _ _ fun kvs vs tk hc hk => ⟨kvs, hc, Heap.DictOf.new (knd := intKind prog w) s.heap, fun h' hd hs => ?_⟩
  rw [merged_nodup kvs [] (by simpa [hk.keys] using hnd)] at hd
  exact h h' _ kvs hd hk fun b o e => (hs.2 b (Nat.ne_of_lt (Heap.lt_size e))).trans (Heap.get?_push_of_some _ e)
noncomputable def formKs : KS := [(1, Str.ofString "t", ⟨260, 12, 260, 13⟩, ⟨260, 15, 260, 18⟩), (2, Str.ofString "n", ⟨260, 20, 260, 21⟩, ⟨260, 23, 260, 26⟩), (3, Str.ofString "n", ⟨260, 28, 260, 29⟩, ⟨260, 31, 260, 34⟩), (4, Str.ofString "n", ⟨260, 36, 260, 37⟩, ⟨260, 39, 260, 42⟩), (5, Str.ofString "lk", ⟨260, 44, 260, 45⟩, ⟨260, 47, 260, 51⟩), (6, Str.ofString "ln", ⟨260, 53, 260, 54⟩, ⟨260, 56, 260, 60⟩), (7, Str.ofString "lnnkk", ⟨260, 62, 260, 63⟩, ⟨260, 65, 260, 72⟩), (10, Str.ofString "", ⟨260, 74, 260, 76⟩, ⟨260, 78, 260, 80⟩)]
theorem formKs_ne : formKs ≠ [] := by simp [formKs]
theorem formKs_len : formKs.length ≤ 15 := by simp [formKs]
theorem formKs_nd : (formKs.map (·.1)).Nodup := by simp [formKs]
theorem formKs_at (k : Int) : ksAt k formKs = formS k := by
  simp only [formKs, ksAt, formS, eq_comm]
theorem form_call (G : Gd w mg mb B0) {A : Around} {s : Shared} {Q : Value → Shared → Prop} {E : Value → Shared → Prop} (hdep : A.depth < recursionLimit) (HB : B0.StaysIn s.heap)
    (k : ∀ D h' tk' kvs, (∀ b o, s.heap.get? b = some o → h'.get? b = some o) → (D == sysModules) = false → h'.DictOf (intKind prog w) D kvs →
      (∀ k, match formS k with | some x => ∃ t, valueAt kvs k = some (.str x t) | none => valueAt kvs k = none) → Q (.ref D) { s with heap := h', toks := tk' }) :
    wpAny (model prog w) A (call (.ref 385) []) Q E s := by
  refine ofX (X.call (codeX_def (o := _) (fd := _) (binds := []) hdep (HB _ _ (G.kx 385 _ rfl)) rfl (G.nolimit.keeps HB) (Heap.CodeRec.keeps ⟨_, _, _, _, rfl, G.kx _ _ rfl, rfl, rfl⟩ HB) rfl (BindsTo.of_eq rfl) (by decide) (by simp) (fun h₀ hns kp => ?_) rfl rfl rfl))
  show wpX _ _ _ (execs [Stmt.Return (some (Expr.Dict (ksKeys formKs)
    (ksVals formKs) _)) _] _) _ _ _
  generalize hks : formKs = ks
  generalize callEnv _ _ _ = env
  generalize A.deeper env = A'
  refine X_execs_cons ?_
  refine X_Return ?_
  refine ax ?_
  refine dict_consts ks (hks ▸ formKs_ne) (hks ▸ formKs_len) (hks ▸ formKs_nd) fun h' tk kvs hd hk kp' => ?_
  show Q (.ref h₀.objs.size) _
  dsimp only at kp'
  have hlt : s.heap.objs.size < h₀.objs.size := hns.lt
  refine k _ h' _ _ (fun b o e => kp' b o (kp b o e)) ?_ hd fun k => ?_
  · have := modules_low (G.nolimit.keeps HB)
    rw [beq_eq_false_iff_ne]
    exact Nat.ne_of_gt (Nat.lt_trans this hlt)
  · have := hk.at k
    rw [← hks, formKs_at] at this
    exact this
end
end NZ
namespace NZ
open _root_.PySem _root_.PySem.W _root_.PySem.Calls PyProof.Rows _root_.PySem.SeqAt
noncomputable def isboolV (_ : List Cell) : V → Option V
  | .bool _ => some (.bool true)
  | _ => none
noncomputable def setItemR (v o i : V) (m : Loc) (σ : List Cell) : RS := match o, i with
  | .cell k, .int j => (match σ[k]? with
    | some (.list vs) => if 0 ≤ j ∧ j < vs.length ∧ vs.length ≤ 1000000 then .next m (σ.set k (.list (vs.set j.toNat v))) else .bad
    | _ => .bad)
  | _, _ => .bad
noncomputable def sSetItem (fo fi fe : Loc → List Cell → Res V) : Loc → List Cell → RS := sBind fe fun v => sBind fo fun o => sBind fi fun i => setItemR v o i
theorem setItemR_nb {v o i : V} {m : Loc} {σ : List Cell} (nb : setItemR v o i m σ ≠ .bad) : ∃ k j vs, o = .cell k ∧ i = .int j ∧ σ[k]? = some (.list vs) ∧ (0 ≤ j ∧ j < vs.length ∧ vs.length ≤ 1000000) ∧ setItemR v o i m σ = .next m (σ.set k (.list (vs.set j.toNat v))) := by
  cases o with
  | cell k =>
    cases i with
    | int j =>
      cases hk : σ[k]? with
      | none => exact absurd (by show (match σ[k]? with | some (.list vs) => _ | _ => _) = _; rw [hk]) nb
      | some c =>
        cases c with
        | list vs =>
          have e : setItemR v (.cell k) (.int j) m σ = if 0 ≤ j ∧ j < vs.length ∧ vs.length ≤ 1000000 then .next m (σ.set k (.list (vs.set j.toNat v))) else .bad := by
            show (match σ[k]? with | some (.list vs) => _ | _ => _) = _; rw [hk]
          by_cases hc : 0 ≤ j ∧ j < vs.length ∧ vs.length ≤ 1000000
          · exact ⟨k, j, vs, rfl, rfl, hk, hc, by rw [e, if_pos hc]⟩
          · exact absurd (by rw [e, if_neg hc]) nb
        | _ => exact absurd (by show (match σ[k]? with | some (.list vs) => _ | _ => _) = _; rw [hk]) nb
    | _ => exact absurd rfl nb
  | _ => exact absurd rfl nb
theorem formV_inv {σ : List Cell} {a v : V} (e : formV σ a = some v) : ∃ k x, a = .int k ∧ formS k = some x ∧ v = .str x := by
  cases a with
  | int k => obtain ⟨x, hxk, rfl⟩ := Option.map_eq_some_iff.mp (show (formS k).map V.str = some v from e); exact ⟨k, x, rfl, hxk, rfl⟩
  | _ => cases e
theorem notInForm_inv {a : V} {b : Bool} (e : notInForm a = some b) : ∃ k, a = .int k ∧ b = (formS k).isNone := by
  cases a with
  | int k => exact ⟨k, rfl, (Option.some.inj e).symm⟩
  | _ => cases e
theorem isboolV_inv {σ : List Cell} {a v : V} (e : isboolV σ a = some v) : ∃ b, a = .bool b ∧ v = .bool true := by
  cases a with
  | bool b => exact ⟨b, rfl, (Option.some.inj e).symm⟩
  | _ => cases e
section
variable {ck : Bool} {prog : Program} {w : World} {mg mb : Str → Option Value} {B0 : Heap} {q q1 q2 q3 : Bool} {d d' : Nat} {sc : Scope} {vars : List Str}
theorem form_eval (G : Gd w mg mb B0) {np p : Pos} {X : Act} {env : Env} {s : Shared} {Q : Value → Shared → Prop} {E : Value → Shared → Prop} (O : X.Ok w mg mb B0 d) (Ek : EOk sc X env) (HB : B0.StaysIn s.heap)
    (hx : sc.names.lookup (Str.ofString "_law_form") = some .globalImplicit)
    (k : ∀ D h' tk' kvs, (∀ b o, s.heap.get? b = some o → h'.get? b = some o) → (D == sysModules) = false → h'.DictOf (intKind prog w) D kvs →
      (∀ k, match formS k with | some x => ∃ t, valueAt kvs k = some (.str x t) | none => valueAt kvs k = none) → Q (.ref D) { s with heap := h', toks := tk' }) :
    wpX ck (model prog w) X.A (eval (.Call (.Name (Str.ofString "_law_form") np) [] [] p) env) Q E s := by
  refine X_Call_NameR (ax <| Name_function_global (by rw [Ek.is]; exact Ek.k) (by unfold Env.kindOf; rw [Ek.is]; exact hx) (loadGlobal_global (by rw [Ek.gl]; exact O.gd.g.keeps HB) (gl G (v := .ref 385) rfl) ?_) (by decide))
  refine X_callWith (P := fun h => B0.StaysIn h) rfl (kk (M := model prog w) G (f := .ref 385) rfl) ?_
  refine X_evalArgs rfl (X_items_nil ⟨HB, ?_⟩)
  exact ax (form_call G (by have := O.dep; omega) HB k)
theorem SV.form_item (G : Gd w mg mb B0) {np p pos : Pos} {slice : Expr} {f : Loc → List Cell → Res V} (hi : SV ck prog w mg mb B0 true d sc vars slice f) (hx : sc.names.lookup (Str.ofString "_law_form") = some .globalImplicit := by rfl)
    (hs : ∀ o i, subscripted slice false o i = operate [o, i] (getItem o i) := by intro _ _; rfl) :
    SV ck prog w mg mb B0 false d sc vars (.Subscript (.Call (.Name (Str.ofString "_law_form") np) [] [] p) slice pos) (pUn formV f) := by
  intro X env ρ σ m s Q E O Ek R nb ok ex
  refine X_Subscript (form_eval G O Ek (R.b0 O) hx fun D h0 tk0 kvs kp0 lo hD hat => ?_)
  refine hi.step (k := fun a => pOp fun σ => formV σ a) (s := { s with heap := h0, toks := tk0 }) O Ek (R.keeps kp0) nb ex fun a σ1 ρ1 wa h1 tk1 P1 va nb1 ex1 e1 => ?_
  obtain ⟨v, ev, e3⟩ := pOp_nb nb1
  obtain ⟨hρ, kp1⟩ := P1.quiet rfl
  dsimp only at kp1
  obtain ⟨k, x, rfl, hxk, rfl⟩ := formV_inv ev
  obtain ⟨t, rfl⟩ := va.int_inv
  have hk := hat k
  rw [hxk] at hk
  obtain ⟨t', hv⟩ := hk
  have hD1 : h1.DictOf (intKind prog w) D kvs := hD.keep kp1
  refine ax (tail_any (T := "dict") hD1.typeIs slot_dict_getitem.lookup (wpAny_getItem_of (knd := intKind prog w) (intKind_is _ _ _ _) hD1.mapOf hv ?_) (hs _ _))
  have P0 : Post w.params B0 X env vars ρ m s.heap false σ ρ h0 := Post.of_keeps R kp0
  exact ok _ σ1 ρ1 _ h1 _ (e1.trans e3) ((P0.trans P1).weak (by simp)) (.str _ _)
theorem ST.not_in_form (G : Gd w mg mb B0) {np p pos : Pos} {e : Expr} {f : Loc → List Cell → Res V} (he : SV ck prog w mg mb B0 q d sc vars e f) (hx : sc.names.lookup (Str.ofString "_law_form") = some .globalImplicit := by rfl)
    (hm : behindInMarks .NotIn (.Call (.Name (Str.ofString "_law_form") np) [] [] p) = false := by with_unfolding_all rfl) :
    ST ck prog w mg mb B0 false d sc vars (.Compare e [.NotIn] [.Call (.Name (Str.ofString "_law_form") np) [] [] p] pos) (pBind f fun a => pOp fun σ => notInForm a) := by
  intro X env ρ σ m s Q E O Ek R nb ok ex
  refine X_isTrue_Compare1 (he.step O Ek R nb ex fun a σ1 ρ1 wa h1 tk1 P1 va nb1 ex1 e1 => ?_) hm
  refine form_eval G O Ek (P1.rel.b0 O) hx fun D h0 tk0 kvs kp0 lo hD hat => ?_
  dsimp only at kp0
  obtain ⟨v, ev, e3⟩ := pOp_nb nb1
  obtain ⟨k, rfl, rfl⟩ := notInForm_inv ev
  obtain ⟨t, rfl⟩ := va.int_inv
  have hk := hat k
  have hb : (!(valueAt kvs k).isSome) = (formS k).isNone := by
    cases hf : formS k with
    | none => rw [hf] at hk; rw [hk]; rfl
    | some x => rw [hf] at hk; obtain ⟨t', hv⟩ := hk; rw [hv]; rfl
  refine ax (wpAny_notIn_of (knd := intKind prog w) (intKind_is _ _ _ _) lo hD.mapOf ?_)
  rw [hb]
  exact ax (wpAny_truthy_bool (ok _ σ1 ρ1 _ h0 _ (e1.trans e3) (P1.then kp0 |>.weak (by simp)) rfl))
theorem SV.isbool (G : Gd w mg mb B0) {np bp pos : Pos} {e : Expr} {f : Loc → List Cell → Res V} (he : SV ck prog w mg mb B0 q d sc vars e f)
    (h1 : sc.names.lookup (Str.ofString "isinstance") = some .globalImplicit := by rfl) (h2 : sc.names.lookup (Str.ofString "bool") = some .globalImplicit := by rfl)
    (hs : ∀ (env : Env) (bp : Pos), starEach [e, .Name (Str.ofString "bool") bp] env = (false, eval e env) :: starEach [.Name (Str.ofString "bool") bp] env := by intro _ _; rfl)
    (hs2 : ∀ env, (starEach [e, .Name (Str.ofString "bool") bp] env).any (·.1) = false := by intro _; rfl) :
    SV ck prog w mg mb B0 false d sc vars (.Call (.Name (Str.ofString "isinstance") np) [e, .Name (Str.ofString "bool") bp] [] pos) (pUn isboolV f) := by
  intro X env ρ σ m s Q E O Ek R nb ok ex
  have hmg : ∀ x : Str, nsIn (hd.heap_39 w.params) mainGlobals x = some none → mg x = none := fun x e => gn G e
  refine X_Call_NameR (ax <| Name_function_global (by rw [Ek.is]; exact Ek.k) (by unfold Env.kindOf; rw [Ek.is]; exact h1)
    (loadGlobal_builtin (by rw [Ek.gl]; exact O.gd.g.keeps (R.b0 O)) (hmg _ rfl) (by rw [Ek.bi]; exact O.gd.b.keeps (R.b0 O)) ((O.gd.builtins _ (by decide)).trans bb_isinstance) ?_) (by decide))
  refine X_callWith (P := fun h => B0.StaysIn h) (by rw [backTo_any, hs2]) kok_builtin ?_
  refine X_evalArgs (hs2 env) (X_items_cons (he.step O Ek R nb ex fun a σ1 ρ1 wa h1' tk1 P1 va nb1 ex1 e1 => X_items_cons ?_ rfl) (hs env bp))
  refine ax <| Name_function_global (by rw [Ek.is]; exact Ek.k) (by unfold Env.kindOf; rw [Ek.is]; exact h2)
    (loadGlobal_builtin (by rw [Ek.gl]; exact O.gd.g.keeps (P1.rel.b0 O)) (hmg _ rfl) (by rw [Ek.bi]; exact O.gd.b.keeps (P1.rel.b0 O)) ((O.gd.builtins _ (by decide)).trans bb_bool) ?_) (by decide)
  refine X_items_nil ⟨P1.rel.b0 O, ?_⟩
  obtain ⟨v, ev, e3⟩ := pOp_nb nb1
  obtain ⟨b, rfl, rfl⟩ := isboolV_inv ev
  obtain rfl := va.bool_inv
  exact ax (isinst_bool (ok _ σ1 ρ1 _ h1' tk1 (e1.trans e3) (P1.weak (by simp)) (.bool _)))
theorem setitem_at {A : Around} {E : Value → Shared → Prop} {s : Shared} {l : Addr} {ws : List Value} {n : Nat} {k : Int} {t : Tok} {v : Value} {Q : Unit → Shared → Prop} (ho : s.heap.get? l = some (listOf (List.toArray ws) n))
    (h0 : 0 ≤ k) (hfit : k < 2 ^ 63) (hn : k < ws.length)
    (hQ : ∀ h' n', h'.get? l = some (listOf (List.toArray (ws.set k.toNat v)) n') → Heap.SameBut l s.heap h' → Q () { s with heap := h' }) :
    wpAny (model prog w) A (setItem (.ref l) (.int k t) v) Q E s := by
  have hT : s.TypeIs (.ref l) "list" := ⟨_, ho, rfl⟩
  unfold setItem
  try with_reducible refine wpAny_holding ?_
  first | refine wpAny_bind (wpAny_pure ?_) | skip
  refine wpAny_bind (wpAny_sequenceKey hT (by decide) ?_)
  refine wpAny_bind (wpAny_callSpecial?_slot (name := Str.ofString "__setitem__") hT slot_list_setitem
    (wpAny_call_entry slot_list_setitem hT entry_list_setitem ?_ (args_list_setitem _ _ _)))
  show wpAny _ _ (Builtin.List.listSubscript? (.int k t) >>= _) _ _ s
  refine wpAny_bind (wpAny_listSubscript_int (fitsIndex_of h0 hfit) ?_)
  clear hfit
  obtain ⟨j, rfl⟩ := Int.eq_ofNat_of_zero_le h0
  have hj : j < ws.length := by omega
  have hx' : (List.toArray ws)[j]? = some ws[j] := by simp [hj]
  show wpAny _ _ ((seqItemAt l j >>= fun r => pure (r.map (j, ·))) >>= _) _ _ s
  refine wpAny_bind (wpAny_bind (wpAny_seqItemAt ho rfl (wpAny_pure ?_)))
  rw [hx']
  show wpAny _ _ (setSeqItemAt l j v >>= _) _ _ s
  have key : ∃ n', (s.heap.update l (Obj.mapSeq (·.setIfInBounds j v))).get? l = some (listOf (List.toArray (ws.set j v)) n') := by
    obtain ⟨n', hd'⟩ := Obj.data_mapSeq (o := listOf (List.toArray ws) n) rfl (·.setIfInBounds j v)
    refine ⟨n', ?_⟩
    rw [Heap.get?_update_self _ ho (Obj.isFreed_of_seq hd')]
    have : (Obj.mapSeq (·.setIfInBounds j v) (listOf (List.toArray ws) n)) = { cls := .type "list", dict := none, data := (Obj.mapSeq (·.setIfInBounds j v) (listOf (List.toArray ws) n)).data, slots := #[] } := rfl
    rw [this, hd']
    simp
  obtain ⟨n', hfin⟩ := key
  refine wpAny_bind (wpAny_setSeqItemAt ho rfl ?_)
  first
    | exact wpAny_bind (wpAny_pure (wpAny_pure ⟨.none, rfl, wpAny_pure (hQ _ n' hfin (Heap.SameBut.update ..))⟩))
    | exact wpAny_pure ⟨.none, rfl, wpAny_pure (hQ _ n' hfin (Heap.SameBut.update ..))⟩
theorem S1.setitem {o i e : Expr} {tp pos : Pos} {fo fi fe : Loc → List Cell → Res V} (he : SV ck prog w mg mb B0 q1 d sc vars e fe) (ho : SV ck prog w mg mb B0 q2 d sc vars o fo) (hi : SV ck prog w mg mb B0 q3 d sc vars i fi)
    (hs : ∀ env, swapsWith e (some (.Subscript o i tp)) pos.line env = pure false := by intro _; rfl) :
    S1 ck prog w mg mb B0 d sc vars (.Assign [.Subscript o i tp] e pos) (sSetItem fo fi fe) := by
  intro X ρ σ m s Q E O Ek EL R nb nx rt ex
  refine X_AssignSub (he.stepS O Ek R nb ex fun v σ1 ρ1 wv h1 tk1 P1 rv nb1 ex1 e1 => ho.stepS O Ek P1.rel nb1 ex1 fun o' σ2 ρ2 wo h2 tk2 P2 ro nb2 ex2 e2 => hi.stepS O Ek P2.rel nb2 ex2 fun i' σ3 ρ3 wi h3 tk3 P3 ri nb3 ex3 e3 => ?_) (hs _)
  obtain ⟨k, j, vs, rfl, rfl, hk, hc, er⟩ := setItemR_nb nb3
  have ro' := ro.mono P3.imm P3.pre
  obtain ⟨ca, rfl, ha⟩ := ro'.cell_inv
  obtain ⟨t, rfl⟩ := ri.int_inv
  obtain ⟨ob, hob, ws, n, rfl, rs⟩ := P3.rel.c.at_ _ _ _ hk ha
  refine ax <| setitem_at (s := { s with heap := h3, toks := tk3 }) hob hc.1 (by omega) (by rw [← rs.1]; exact hc.2.1) fun h' n' hob' hs' => ?_
  have rv3 := rv.mono (P2.imm.trans P3.imm) (P2.pre.trans P3.pre)
  have rs' : VRs B0 h3 ρ3 (vs.set j.toNat v) (ws.set j.toNat wv) := ⟨by simp [rs.1], fun z v' w' a1 a2 => by
    by_cases q : j.toNat = z
    · subst q
      have hl : j.toNat < vs.length := by omega
      rw [List.getElem?_set_self hl] at a1
      rw [List.getElem?_set_self (rs.1 ▸ hl)] at a2
      cases a1; cases a2; exact rv3
    · rw [List.getElem?_set_ne q] at a1 a2
      exact rs.2 z v' w' a1 a2⟩
  have op : OPost w.params B0 ρ3 h3 (σ3.set k (.list (vs.set j.toNat v))) ρ3 h' := by
    have kp : ∀ b o, b ≠ _ → h3.get? b = some o → h'.get? b = some o := fun b o hb e => (hs'.2 b hb).trans e
    have im : Imm h3 h' := P3.rel.c.imm fun b o e hb => kp b o (fun z => hb (z ▸ List.mem_of_getElem? ha)) e
    exact OPost.setCell P3.rel.c hk ha hob' (fun b o hb e => kp b o hb e) ⟨_, n', rfl, rs'⟩
  obtain ⟨R3, im3⟩ := P3.rel.of_op op
  exact nx m _ ρ3 h' _ (e1.trans (e2.trans (e3.trans er))) (P1.back (P2.back (P3.back (q2 := false) ⟨R3, im3, op.pre, fun z => by cases z⟩)))
end
end NZ
namespace NZ
open _root_.PySem _root_.PySem.W _root_.PySem.Calls PyProof.Rows _root_.PySem.SeqAt
noncomputable def frsOf (outer : List Env) : List Addr := outer.filterMap (·.frame)
theorem funFrames_base {h base base' : Heap} : ∀ {l : List Env}, h.FunFrames base l → (∀ b ∈ frsOf l, base'.get? b = none) → h.FunFrames base' l
  | [], _, _ => trivial
  | env :: rest, ⟨k, ⟨L, o, hf, hn, ho, hd⟩, r⟩, hb => by
    refine ⟨k, ⟨L, o, hf, hb L ?_, ho, hd⟩, funFrames_base r fun b hm => hb b ?_⟩
    · unfold frsOf; rw [List.filterMap_cons, hf]; exact List.mem_cons_self
    · unfold frsOf at hm ⊢
      rw [List.filterMap_cons, hf]
      exact List.mem_cons_of_mem _ hm
section
variable (ck : Bool) (prog : Program) (w : World) (mg mb : Str → Option Value) (B0 : Heap)
/-- a callable of closed things that may catch inside: the frames around it stay but for their slots -/
noncomputable def CT (d : Nat) (t : List Value → Sem Value) (φ : List V → Option V) : Prop :=
  ∀ (A : Around) (base : Heap) (outer : List Env) (vs : List V) (ws : List Value) (s : Shared) (Q E : Value → Shared → Prop) (v : V),
    COk w mg mb B0 A base outer d [] s.heap → VRs B0 s.heap [] vs ws → φ vs = some v →
    (∀ x h' tk', (∀ b o, s.heap.get? b = some o → b ∉ frsOf outer → h'.get? b = some o) → s.heap.UpToSlots h' → VR B0 h' [] v x → Q x { s with heap := h', toks := tk' }) →
    wpX ck (model prog w) A (t ws) Q E s
/-- a handler's answer -/
noncomputable def CTup (t : Expr) (v : V) : Prop := ∀ (A : Around) (env : Env) (s : Shared) (Q : Value → Shared → Prop) (E : Value → Shared → Prop),
  (∀ x h' tk', (∀ b o, s.heap.get? b = some o → h'.get? b = some o) → VR B0 h' [] v x → Q x { s with heap := h', toks := tk' }) → wpAny (model prog w) A (eval t env) Q E s
end
open Classical in
noncomputable def toldφ (F1 F2 : Loc → List Cell → RS) (v1 v2 : V) (C1 C2 : Addr) (vs : List V) : Option V :=
  if vs.length = 1 then (match F1 (fun i => vs[i]?) [] with
    | .next m σ => (match F2 m σ with
      | .ret v _ => if Closed v then some v else none
      | _ => none)
    | .exc c => if c = C1 then some v1 else if c = C2 then some v2 else none
    | _ => none) else none
open Classical in
noncomputable def pCallT (φ : List V → Option V) (f : Loc → List Cell → Res (List V)) : Loc → List Cell → Res V := pBind f fun vs => fun _ σ => if (∀ v ∈ vs, Closed v) then (match φ vs with
  | some v => if Closed v then .ok v σ else .bad
  | none => .bad) else .bad
section
variable {ck : Bool} {prog : Program} {w : World} {mg mb : Str → Option Value} {B0 : Heap} {q : Bool} {d d' : Nat} {sc : Scope} {vars : List Str}
theorem X_Try_except {A : Around} {env : Env} {E : Value → Shared → Prop} {s : Shared} {body orelse : List Stmt} {h₀ : ExceptHandler} {hs : List ExceptHandler} {pos : Pos} {Q : Flow → Shared → Prop}
    (h : wpX ck (model prog w) A (execs body env) (fun f s₁ => match f with | .next => wpX ck (model prog w) A (execs orelse env) Q E s₁ | f => Q f s₁)
      (fun e s₁ => wpAny (model prog w) A (noteFrame e env) (fun _ s₂ => wpAny (model prog w) A (setFlight e none) (fun _ s₃ => wpAny (model prog w) A (handleBy e env (h₀ :: hs)) Q E s₃) E s₂) E s₁) s) :
    wpX ck (model prog w) A (exec (.Try body (h₀ :: hs) orelse [] pos) env) Q E s := by
  rw [arm_exec_Try]
  refine X.stand ?_
  show wpX ck (model prog w) A (tryStmt false (execs body env) (h₀ :: hs) (execs orelse env) [] env) Q E s
  unfold tryStmt
  simp only [List.isEmpty_nil, if_true, List.isEmpty_cons, Bool.false_and, Bool.false_eq_true, if_false]
  refine X.bind (X.attempt (h.mono (fun f s₁ h₁ => ?_) fun e s₁ h₁ => ?_))
  · cases f <;> first | exact h₁ | exact X.pure h₁
  · exact ax (wpAny_bind (wpAny_mono h₁ (fun _ _ h₂ => wpAny_bind h₂) fun _ _ x => x))
theorem CTup.int_none_bytes {i : Int} {b : List UInt8} {k1 k2 k3 k : Nat} {p1 p2 p3 p : Pos} : CTup prog w B0 (.Tuple [.Constant (.int i) k1 p1, .Constant .none k2 p2, .Constant (.bytes b) k3 p3] k p) (.tup [.int i, .none, .bytes b]) := by
  intro A env s Q E h
  refine ofX (X_Tuple (X_items_cons (ax (wpAny_Constant_int (X_items_cons (ax (wpAny_Constant_none (X_items_cons (ax (Constant_bytes (X_items_nil ?_))) rfl))) rfl))) rfl))
  refine ax (wpAny_newObj_type ?_ (by show 3 ≤ sizeLine; rw [sizeLine_eq]; decide))
  refine h _ _ _ (push_keep _) (.tup (ws := [_, _, _]) ⟨_, Heap.get?_push_size _ rfl, rfl, 0, rfl⟩ rfl ?_)
  exact (VRs.cons (.int _ _) (VRs.cons .none (VRs.cons (.bytes _ _) VRs.nil))).2
set_option tactic.hygienic true in
theorem CT.of_told {a : Addr} {o : Obj} {fd : FuncData} {names : List Str} {st rest : Stmt} {t1 t2 : Expr} {x1 x2 : Str} {np1 np2 rp1 rp2 p1 p2 tp : Pos} {F1 F2 : Loc → List Cell → RS} {v1 v2 : V} {C1 C2 : Addr}
    (ho : B0.get? a = some o) (hdata : o.data = .func fd) (hcd : B0.CodeRec fd.code fd.qualname)
    (hbody : fd.body = .stmts [.Try [st] [.ExceptHandler (some (.Name x1 np1)) none [.Return (some t1) rp1] p1, .ExceptHandler (some (.Name x2 np2)) none [.Return (some t2) rp2] p2] [] [] tp, rest]) (hsc : fd.scope = sc)
    (hgl : fd.globals = mainGlobals) (hbi : fd.builtins = builtinsNs) (hcl : fd.closure = [])
    (hbind : ∀ ws : List Value, ws.length = names.length → bindArgs fd ⟨ws, []⟩ = pure (names.zip ws))
    (hpre : ∃ more, vars = names ++ more) (hnd : names.Nodup) (hn1 : names.length = 1)
    (hloc : ∀ x ∈ names, sc.names.lookup x = some .local)
    (hcell : ∀ x ∈ sc.names, x.2 ≠ .cell) (hco : sc.isCoroutine = false) (hgen : sc.isGenerator = false) (hk : sc.kind = .function)
    (hx1 : sc.names.lookup x1 = some .globalImplicit) (hx2 : sc.names.lookup x2 = some .globalImplicit) (hg1 : mg x1 = some (.ref C1)) (hg2 : mg x2 = some (.ref C2))
    (hd1 : (x1 == ("__debug__" : Str)) = false) (hd2 : (x2 == ("__debug__" : Str)) = false)
    (e11 : exmOne (hd.heap_39 w.params) (.ref C1) (.ref C1) = some true) (e21 : exmOne (hd.heap_39 w.params) (.ref C2) (.ref C1) = some false) (e22 : exmOne (hd.heap_39 w.params) (.ref C2) (.ref C2) = some true)
    (hst : S1 ck prog w mg mb B0 d sc vars st F1) (hrest : SL ck prog w mg mb B0 d sc vars [rest] F2) (ht1 : CTup prog w B0 t1 v1) (ht2 : CTup prog w B0 t2 v2) (hdd : d + 2 ≤ d') (h50 : d < 50 := by decide) :
    CT ck prog w mg mb B0 d' (fun ws => call (.ref a) ws) (toldφ F1 F2 v1 v2 C1 C2) := by
  intro A base outer vs ws s Q E v O rs hφ ok
  unfold toldφ at hφ
  by_cases hn : vs.length = 1
  rotate_left
  · rw [if_neg hn] at hφ; cases hφ
  rw [if_pos hn] at hφ
  have hw : ws.length = names.length := by rw [← rs.1, hn, hn1]
  subst hsc
  refine NZ.X.call (codeX_def (fd := fd) (binds := names.zip ws) (by have := O.dep; omega) (O.hb _ _ ho) hdata (O.gd.nolimit.keeps O.hb) (hcd.keeps O.hb) hbody (BindsTo.of_eq (hbind ws hw)) hcell
    (fun x hx => by obtain ⟨y, z⟩ := x; exact hloc y (List.of_mem_zip hx).1) (fun h0 hns kp => ?_) hco hgen hk)
  have hge : ∀ b, s.heap.objs.size ≤ b → s.heap.get? b = none := fun b hb => by
    cases e : s.heap.get? b with
    | none => rfl
    | some o' => exact absurd (Heap.lt_size e) (Nat.not_lt.mpr hb)
  let base' := hideAll s.heap (frsOf outer)
  have nofr : ∀ b o, base.get? b = some o → b ∉ frsOf outer := fun b o e hm => by
    have := (O.ff.mem hm).1
    rw [e] at this; cases this
  let X : Act := ⟨A.deeper (callEnv fd s.heap.objs.size a), base', s.heap, outer, callEnv fd s.heap.objs.size a, s.heap.objs.size⟩
  have env : X.fenv = { scope := fd.scope, locals := s.heap.objs.size, globals := mainGlobals, cells := [], qual := fd.qualname ++ ".<locals>.", func := some a, code := fd.code, frame := some s.heap.objs.size, builtins := builtinsNs } := by
    show callEnv fd s.heap.objs.size a = _
    unfold callEnv newEnv
    rw [hgl, hbi, hcl]
  have hb0' : B0.StaysIn base' := fun b o e => hideAll_get _ (O.hb b o e) (nofr b o (O.b0 b o e))
  have OX : X.Ok w mg mb B0 d := {
    gd := O.gd
    hh := O.hh
    gu := O.gu
    fr := Around.frames_deeper O.fr
    dep := by have := O.dep; show A.depth + 1 + d < recursionLimit; omega
    un := by have := O.un; show A.units + 3 + 8 * d + 200 < cLine; omega
    b0 := hb0'
    bg := fun b o' e => of_hideAll _ e
    ff := funFrames_base O.ff fun b hm => hideAll_none _ hm
    fL := by rw [env]
    fk := by rw [env]; exact hk
    gL := hge _ (Nat.le_refl _)
    top := fun h => absurd h (by omega) }
  have EX : EOk fd.scope X X.fenv := ⟨by rw [env], by rw [env], by rw [env], hk, by rw [env], fun p hp => (by rw [env] at hp; cases hp), fun x hx => absurd rfl (hcell (x, .cell) (mem_of_lookup hx))⟩
  have EL : X.fenv.locals = X.L := by rw [env]
  have im : Imm s.heap h0 := Imm.of_keeps kp
  have RX : Rel w.params B0 X X.fenv vars [] [] (fun i => vs[i]?) h0 := {
    stay := fun b o' e => kp b o' e
    c := ⟨rfl, List.nodup_nil, fun k c a e => by simp at e⟩
    out := fun a' ha => by cases ha
    abv := by rw [EL]; exact hge _ (Nat.le_refl _)
    fn := by
      obtain ⟨o', es, ep, h1, h2, _⟩ := hns
      exact ⟨o', es, ep, h1, h2⟩
    cl := fun x c e => by rw [env] at e; cases e
    ci := fun x y c e => by rw [env] at e; cases e
    ns := by
      refine ⟨_, by rw [EL]; exact hns, fun i x v' e1 e2 => ?_⟩
      obtain ⟨more, rfl⟩ := hpre
      have hi : i < names.length := by
        have := (List.getElem?_eq_some_iff.mp e2).1
        rw [hn] at this; omega
      rw [List.getElem?_append_left hi] at e1
      obtain ⟨w', h2, r⟩ := bind_zip rs hw.symm hnd e1 e2
      exact ⟨w', .inl ⟨by unfold Env.kindOf; rw [env]; exact hloc x (List.mem_of_getElem? e1), h2⟩, r.mono im (Pre.refl _)⟩ }
  have nb1 : F1 (fun i => vs[i]?) [] ≠ .bad := fun z => by rw [z] at hφ; cases hφ
  refine X_execs_cons (X_Try_except (X_execs_cons (hst X [] [] (fun i => vs[i]?) { s with heap := h0, toks := s.toks + (names.zip ws).length } _ _ OX EX EL RX nb1 (fun m' σ' ρ' h' tk' e P => ?_) (fun v' σ' ρ' x h' tk' e P r => ?_) fun c e => ?_)))
  · -- the whole edit is read
    rw [e] at hφ
    dsimp only at hφ
    refine X_execs_nil (X_execs_nil ?_)
    have nb2 : F2 m' σ' ≠ .bad := fun z => by rw [z] at hφ; cases hφ
    refine hrest X ρ' σ' m' { s with heap := h', toks := tk' } _ _ OX EX EL P.rel nb2 (fun m2 σ2 ρ2 h2 tk2 e2 P2 => ?_) (fun v2' σ2 ρ2 x h2 tk2 e2 P2 r2 => ?_) fun c e2 => ?_
    · rw [e2] at hφ; cases hφ
    · rw [e2] at hφ
      dsimp only at hφ
      split at hφ
      · rename_i hcl'
        cases hφ
        exact ok x h2 tk2 (fun b o' eb _ => P2.rel.stay b o' eb) (Heap.UpToSlots.of_keeps fun b o' eb => P2.rel.stay b o' eb) (r2.closed hcl')
      · cases hφ
    · rw [e2] at hφ; cases hφ
  · rw [e] at hφ; cases hφ
  · rw [e] at hφ
    dsimp only at hφ
    intro e' h' tk' I
    refine I.note OX (s := { s with heap := h', toks := tk' }) fun h2 a0 up2 H2 => ?_
    refine wpAny_landsW (s := { s with heap := h2, toks := tk' }) H2 fun h3 H3 up3' => ?_
    dsimp only at up3'
    have up3 : s.heap.UpToSlots h3 := Heap.UpToSlots.trans up2 up3'
    have hB3 : B0.StaysIn h3 := fun b o' eb => H3.1 b o' (hb0' b o' eb)
    have tyE : Looks (model prog w) h3 (typeOf (.ref e')) (.ref c) := by
      obtain ⟨ob, hob, hc⟩ := H3.there
      have : Looks (model prog w) h3 (typeOf (.ref e')) ob.cls := (Looks.ld hob).andThen .now
      rw [hc] at this
      exact this
    have nameEv : ∀ {A' : Around} {x : Str} {np : Pos} {C : Addr} {Q' : Value → Shared → Prop} {E' : Value → Shared → Prop}, fd.scope.names.lookup x = some .globalImplicit → mg x = some (.ref C) → (x == ("__debug__" : Str)) = false → Q' (.ref C) { s with heap := h3, toks := tk' } →
        wpAny (model prog w) A' (eval (.Name x np) X.fenv) Q' E' { s with heap := h3, toks := tk' } := fun {A' x np C Q' E'} hx hg hd hq =>
      Name_function_global (by rw [EX.is]; exact hk) (by unfold Env.kindOf; rw [EX.is]; exact hx) (loadGlobal_global (by rw [EX.gl]; exact O.gd.g.keeps hB3) hg hq) hd
    have finish : ∀ {A' : Around} {t : Expr} {v' : V} {rp pp : Pos} {R : Result → Shared → Prop}, CTup prog w B0 t v' → v' = v → (∀ x h4 tk4, (∀ b o', s.heap.get? b = some o' → b ∉ frsOf outer → h4.get? b = some o') → s.heap.UpToSlots h4 → VR B0 h4 [] v x → R (.ok (.ret x)) { s with heap := h4, toks := tk4 }) →
        codeAny (model prog w) A' (.handlers (.ref e') [.ExceptHandler none none [.Return (some t) rp] pp] X.fenv) R { s with heap := h3, toks := tk' } := fun {A' t v' rp pp R} ht hv hR => by
      subst hv
      refine codeAny_handlers_suite (lands_againW (s := { s with heap := h3, toks := tk' }) H3 fun h4 H4 up4 => ?_)
      dsimp only at up4
      refine ofX (X_execs_cons (X_Return (ax (ht _ _ _ _ _ fun x h5 tk5 kp5 r5 => ?_))))
      dsimp only at kp5
      refine hR x h5 tk5 (fun b o' eb hb => kp5 b o' (H4.1 b o' (hideAll_get _ eb hb))) (Heap.UpToSlots.trans (Heap.UpToSlots.trans up3 up4) (Heap.UpToSlots.of_keeps kp5)) r5
    by_cases hc1 : c = C1
    · rw [if_pos hc1] at hφ
      cases hφ
      subst hc1
      refine wpAny_handleBy_cons (codeAny_handlers_test (nameEv hx1 hg1 hd1 ((exm_one (O.gd.kx.keeps hB3) tyE e11).here ?_))) (by intro z; cases z)
      exact finish ht1 rfl ok
    · rw [if_neg hc1] at hφ
      by_cases hc2 : c = C2
      · rw [if_pos hc2] at hφ
        cases hφ
        subst hc2
        refine wpAny_handleBy_cons (codeAny_handlers_test (nameEv hx1 hg1 hd1 ((exm_one (O.gd.kx.keeps hB3) tyE e21).here ?_))) (by intro z; cases z)
        refine wpAny_handleBy_cons (codeAny_handlers_test (nameEv hx2 hg2 hd2 ((exm_one (O.gd.kx.keeps hB3) tyE e22).here ?_))) (by intro z; cases z)
        exact finish ht2 rfl ok
      · rw [if_neg hc2] at hφ; cases hφ
theorem Rel.slots {P : Params} {X : Act} {env : Env} {ρ : List Addr} {σ : List Cell} {m : Loc} {h h' : Heap} (gL : X.g.get? X.L = none) (R : Rel P B0 X env vars ρ σ m h) (k : ∀ b o, h.get? b = some o → b ≠ X.L → h'.get? b = some o) (u : h.UpToSlots h') :
    Rel P B0 X env vars ρ σ m h' ∧ Imm h h' := by
  obtain ⟨oL, esL, nL, hoL, hdL⟩ := R.fn
  have im : Imm h h' := fun b o e i => k b o e fun q => by
    rw [q, hoL] at e; cases e
    unfold immut at i; rw [hdL] at i; exact i.elim
  have nc : ∀ c v, h.IsCell c v → c ≠ X.L := fun c v hc q => by
    obtain ⟨o, ho, hd⟩ := hc
    rw [q, hoL] at ho; cases ho
    rw [hdL] at hd; cases hd
  refine ⟨⟨fun b o e => k b o (R.stay b o e) fun q => (by rw [q, gL] at e; cases e), R.c.keeps im fun a ha o e => k a o e (R.out a ha).2.2, R.out, R.abv, ?_, fun x c e => ?_, R.ci, ?_⟩, im⟩
  · obtain ⟨sl, hs⟩ := u _ _ hoL fun vs q => by rw [hdL] at q; cases q
    exact ⟨_, esL, nL, hs, hdL⟩
  · obtain ⟨a, b, c', v, hv⟩ := R.cl x c e
    have hne := nc c v hv
    obtain ⟨o, ho, hd⟩ := hv
    exact ⟨a, b, c', v, o, k _ _ ho hne, hd⟩
  · obtain ⟨mr, hn, hv⟩ := R.ns
    refine ⟨mr, u.ns hn, fun i x v e1 e2 => ?_⟩
    obtain ⟨w', hw, r⟩ := hv i x v e1 e2
    refine ⟨w', ?_, r.mono im (Pre.refl _)⟩
    rcases hw with hw | ⟨hk, c, hc, hcv⟩
    · exact .inl hw
    · have hne := nc c _ hcv
      obtain ⟨o, ho, hd⟩ := hcv
      exact .inr ⟨hk, c, hc, o, k _ _ ho hne, hd⟩
/-- a call of such a thing, from a frame with none around it -/
theorem SV.call_ct {x : Str} {np pos : Pos} {es : List Expr} {fv : Value} {f : Loc → List Cell → Res (List V)} {φ : List V → Option V}
    (hx : sc.names.lookup x = some .globalImplicit) (hg : mg x = some fv) (hk : KOk (model prog w) B0 fv) (hc : CT ck prog w mg mb B0 d' (fun ws => call fv ws) φ) (hd : d' ≤ d) (h50 : 50 ≤ d)
    (ha : SA ck prog w mg mb B0 q d sc vars pos es f) (hs : ∀ env, (starEach es env).any (·.1) = false := by intro _; rfl) (hdb : (x == ("__debug__" : Str)) = false := by decide) :
    SV ck prog w mg mb B0 false d sc vars (.Call (.Name x np) es [] pos) (pCallT φ f) := by
  intro X env ρ σ m s Q E O Ek R nb ok ex
  refine X_Call_NameR (ax <| Name_function_global (by rw [Ek.is]; exact Ek.k) (by unfold Env.kindOf; rw [Ek.is]; exact hx) (loadGlobal_global (by rw [Ek.gl]; exact O.gd.g.keeps (R.b0 O)) hg ?_) hdb)
  refine X_callWith (P := fun h => B0.StaysIn h) (by rw [backTo_any, hs]) hk ?_
  refine X_evalArgs (hs env) (ha.step O Ek R nb ex fun vs σ1 ρ1 ws h1 tk1 P1 rs nb1 ex1 e1 => ⟨P1.rel.b0 O, ?_⟩)
  by_cases hcl : ∀ v ∈ vs, Closed v
  rotate_left
  · rw [if_neg hcl] at nb1; exact absurd rfl nb1
  rw [if_pos hcl] at nb1 e1
  cases hφ : φ vs with
  | none => rw [hφ] at nb1; exact absurd rfl nb1
  | some v =>
  rw [hφ] at nb1 e1
  dsimp only at nb1 e1
  by_cases hv : Closed v
  rotate_left
  · rw [if_neg hv] at nb1; exact absurd rfl nb1
  rw [if_pos hv] at e1
  have hout := O.top h50
  have O1 : COk w mg mb B0 X.A X.base (X.fenv :: X.outer) d' [] h1 := { P1.rel.cok O hd with bn := fun a ha => (by cases ha), fn := fun env he a ha => (by cases ha) }
  refine hc X.A X.base (X.fenv :: X.outer) vs ws _ Q E v O1 (rs.closed hcl) hφ fun x h2 tk2 k2 u2 r2 => ?_
  dsimp only at k2 u2
  have hfrs : frsOf (X.fenv :: X.outer) = [X.L] := by unfold frsOf; rw [hout, List.filterMap_cons, O.fL]; rfl
  obtain ⟨R2, im2⟩ := P1.rel.slots O.gL (fun b o e hb => k2 b o e (by rw [hfrs]; simpa using hb)) u2
  exact ok v σ1 ρ1 x h2 tk2 e1 ⟨R2, P1.imm.trans im2, P1.pre, fun z => by cases z⟩ (r2.closed hv)
end
end NZ
namespace NZ
open _root_.PySem _root_.PySem.W _root_.PySem.Calls PyProof.Rows _root_.PySem.SeqAt
section
variable {prog : Program} {w : World} {mg mb : Str → Option Value} {B0 : Heap} {d : Nat} {sc : Scope} {vars : List Str}
/-- the law's own call, from the caller -/
theorem top_call (G : Gd w mg mb B0) {a : Addr} {o : Obj} {fd : FuncData} {body : List Stmt} {names : List Str} {F : Loc → List Cell → RS}
    (ho : B0.get? a = some o) (hdata : o.data = .func fd) (hcd : B0.CodeRec fd.code fd.qualname) (hbody : fd.body = .stmts body) (hsc : fd.scope = sc)
    (hgl : fd.globals = mainGlobals) (hbi : fd.builtins = builtinsNs) (hcl : fd.closure = [])
    (hbind : ∀ ws : List Value, ws.length = names.length → bindArgs fd ⟨ws, []⟩ = pure (names.zip ws))
    (hpre : ∃ more, vars = names ++ more) (hnd : names.Nodup)
    (hloc : ∀ x ∈ names, sc.names.lookup x = some .local)
    (hcell : ∀ x ∈ sc.names, x.2 ≠ .cell) (hco : sc.isCoroutine = false) (hgen : sc.isGenerator = false) (hk : sc.kind = .function)
    (hS : SL true prog w mg mb B0 60 sc vars body F)
    {s : Shared} {vs : List V} {ws : List Value} {v : V} {σ' : List Cell} {Q E : Value → Shared → Prop} (hs : s.heap = B0) (rs : VRs B0 B0 [] vs ws) (hn : vs.length = names.length) (hF : F (fun i => vs[i]?) [] = .ret v σ')
    (ok : ∀ ρ' x h' tk', (∀ b o, s.heap.get? b = some o → h'.get? b = some o) → VR B0 h' ρ' v x → Q x { s with heap := h', toks := tk' }) :
    wpX true (model prog w) callerA (call (.ref a) ws) Q E s := by
  subst hs
  have hw : ws.length = names.length := by rw [← rs.1, hn]
  subst hsc
  refine NZ.X.call (codeX_def (fd := fd) (body := body) (binds := names.zip ws) (by decide) ho hdata G.nolimit hcd hbody (BindsTo.of_eq (hbind ws hw)) hcell
    (fun x hx => by obtain ⟨y, z⟩ := x; exact hloc y (List.of_mem_zip hx).1) (fun h0 hns kp => ?_) hco hgen hk)
  have hge : ∀ b, s.heap.objs.size ≤ b → s.heap.get? b = none := fun b hb => by
    cases e : s.heap.get? b with
    | none => rfl
    | some o' => exact absurd (Heap.lt_size e) (Nat.not_lt.mpr hb)
  let X : Act := ⟨callerA.deeper (callEnv fd s.heap.objs.size a), s.heap, s.heap, [], callEnv fd s.heap.objs.size a, s.heap.objs.size⟩
  have env : X.fenv = { scope := fd.scope, locals := s.heap.objs.size, globals := mainGlobals, cells := [], qual := fd.qualname ++ ".<locals>.", func := some a, code := fd.code, frame := some s.heap.objs.size, builtins := builtinsNs } := by
    show callEnv fd s.heap.objs.size a = _
    unfold callEnv newEnv
    rw [hgl, hbi, hcl]
  have OX : X.Ok w mg mb s.heap 60 := {
    gd := G
    hh := rfl
    gu := rfl
    fr := Around.frames_deeper rfl
    dep := by show callerA.depth + 1 + 60 < recursionLimit; decide
    un := by show callerA.units + 3 + 8 * 60 + 200 < cLine; decide
    b0 := fun b o e => e
    bg := fun b o' e => e
    ff := trivial
    fL := by rw [env]
    fk := by rw [env]; exact hk
    gL := hge _ (Nat.le_refl _)
    top := fun h => rfl }
  have EX : EOk fd.scope X X.fenv := ⟨by rw [env], by rw [env], by rw [env], hk, by rw [env], fun p hp => (by rw [env] at hp; cases hp), fun x hx => absurd rfl (hcell (x, .cell) (mem_of_lookup hx))⟩
  have EL : X.fenv.locals = X.L := by rw [env]
  have im : Imm s.heap h0 := Imm.of_keeps kp
  have RX : Rel w.params s.heap X X.fenv vars [] [] (fun i => vs[i]?) h0 := {
    stay := fun b o' e => kp b o' e
    c := ⟨rfl, List.nodup_nil, fun k c a e => by simp at e⟩
    out := fun a' ha => by cases ha
    abv := by rw [EL]; exact hge _ (Nat.le_refl _)
    fn := by
      obtain ⟨o', es, ep, h1, h2, _⟩ := hns
      exact ⟨o', es, ep, h1, h2⟩
    cl := fun x c e => by rw [env] at e; cases e
    ci := fun x y c e => by rw [env] at e; cases e
    ns := by
      refine ⟨_, by rw [EL]; exact hns, fun i x v' e1 e2 => ?_⟩
      obtain ⟨more, rfl⟩ := hpre
      have hi : i < names.length := by
        have := (List.getElem?_eq_some_iff.mp e2).1
        rw [hn] at this; exact this
      rw [List.getElem?_append_left hi] at e1
      obtain ⟨w', h2, r⟩ := bind_zip rs hw.symm hnd e1 e2
      exact ⟨w', .inl ⟨by unfold Env.kindOf; rw [env]; exact hloc x (List.mem_of_getElem? e1), h2⟩, r.mono im (Pre.refl _)⟩ }
  refine hS X [] [] (fun i => vs[i]?) _ _ _ OX EX EL RX (fun z => by rw [hF] at z; cases z) (fun m' σ1 ρ' h' tk' e P => by rw [hF] at e; cases e) (fun v' σ1 ρ' x h' tk' e P r => ?_) (fun c e => by rw [hF] at e; cases e)
  rw [hF] at e; cases e
  exact ok ρ' x h' tk' (fun b o' eb => P.rel.stay b o' eb) r
end
end NZ
namespace NZ
open _root_.PySem _root_.PySem.W _root_.PySem.Calls PyProof.Rows _root_.PySem.SeqAt
section
variable {prog : Program} {w : World} {mg mb : Str → Option Value} {B0 : Heap}
noncomputable def F_write_groups : Loc → List Cell → RS := (sSeq (sIf (pIf (pBind (pVar 0) fun a => pBind (pC (V.int 0)) fun b => pOp fun σ => (ltV σ a b).bind boolV) (pC true) (pIf (pBind (pVar 0) fun a => pBind (pVar 1) fun b => pOp fun σ => (gtV σ a b).bind boolV) (pC true) (pC false)))
  sBad
  sNil)
  (sSeq (sSet 2 (pCall barrayφ [] (pList [])))
  (sSeq (sWhile (pBind (pVar 0) fun a => pBind (pC (V.int 128)) fun b => pOp fun σ => (geV σ a b).bind boolV)
  (sSeq (sExpr (pMeth appendK (pVar 2) (pList [(pBin orV (pBin andV (pVar 0) (pC (V.int 127))) (pC (V.int 128)))])))
  (sSeq (sAug 0 shrV (pC (V.int 7)))
  sNil)))
  (sSeq (sExpr (pMeth appendK (pVar 2) (pList [(pVar 0)])))
  (sSeq (sRet (pCall (fn1 bytesV) [] (pList [(pVar 2)])))
  sNil)))))
noncomputable def ψ_write_groups : Fn := fun σ vs => if vs.length = 2 then bodyOf F_write_groups (fun i => vs[i]?) σ else .bad
theorem cg_write_groups (G : Gd w mg mb B0) : CF true prog w mg mb B0 3 (fun ws => call (.ref 89) ws) ψ_write_groups := by
  refine CF.of_plain (d := 1) (names := [(Str.ofString "n"), (Str.ofString "most")]) (vars := [(Str.ofString "n"), (Str.ofString "most"), (Str.ofString "out")]) (F := F_write_groups) (G.kx 89 _ rfl) rfl ⟨_, _, _, _, rfl, G.kx _ _ rfl, rfl, rfl⟩ rfl rfl rfl rfl rfl
    (all2 fun a0 a1 => by rfl) ⟨_, rfl⟩ (by decide) (by decide) (by decide) rfl rfl rfl ?_ (by decide)
  unfold F_write_groups
  exact (SL.cons (S1.if_ (ST.boolop (SB.or_cons (ST.cmp (SV.var (i := 0) rfl) SV.const_int q_lt) (SB.or_cons (ST.cmp (SV.var (i := 0) rfl) (SV.var (i := 1) rfl) q_gt) SB.or_nil)))
  SL.bad
  SL.nil)
  (SL.cons (S1.set (SV.call_builtin rfl (gn G rfl) bb_bytearray (by decide) kok_type (cf_barray (d := 0)) (by decide) SA.nil) (i := 2) rfl (by decide) rfl)
  (SL.cons (S1.while_ (ST.cmp (SV.var (i := 0) rfl) SV.const_int q_ge)
  (SL.cons (S1.expr (SV.meth (SV.var (i := 2) rfl) (meth_append (d := 0)) (by decide) (SA.cons (SV.bin (SV.bin (SV.var (i := 0) rfl) SV.const_int q_and) SV.const_int q_or) SA.nil)))
  (SL.cons (S1.aug SV.const_int q_ishr (i := 0) rfl (by decide) rfl)
  SL.nil)))
  (SL.cons (S1.expr (SV.meth (SV.var (i := 2) rfl) (meth_append (d := 0)) (by decide) (SA.cons (SV.var (i := 0) rfl) SA.nil)))
  (SL.cons (S1.ret (SV.call_builtin rfl (gn G rfl) bb_bytes (by decide) kok_type (CF.fn1 (d := 0) q_bytes (fun _ => rfl)) (by decide) (SA.cons (SV.var (i := 2) rfl) SA.nil)))
  SL.nil)))))
noncomputable def φ_write_groups : Fn := frameφ ψ_write_groups
theorem cf_write_groups (G : Gd w mg mb B0) : CF true prog w mg mb B0 3 (fun ws => call (.ref 89) ws) φ_write_groups := CF.frame (cg_write_groups G)
noncomputable def F_read_groups : Loc → List Cell → RS := (sSeq (sIf (pBind (pVar 1) fun a => pBind (pC (V.int 0)) fun b => pOp fun σ => (ltV σ a b).bind boolV)
  sBad
  sNil)
  (sSeq (sSet 4 (pC (V.int 0)))
  (sSeq (sSet 5 (pC (V.int 0)))
  (sSeq (sForE (stName 6) (pRange (pList [(pVar 2)]))
  (sSeq (sIf (pBind (pVar 1) fun a => pBind (pCall (fn1 lenV) [] (pList [(pVar 0)])) fun b => pOp fun σ => (geV σ a b).bind boolV)
  (sSeq (sRaise 68 (pC (V.str (Str.ofString "the octets end within a varint"))))
  sNil)
  sNil)
  (sSeq (sSet 7 (pBin itemV (pVar 0) (pVar 1)))
  (sSeq (sAug 1 iaddV (pC (V.int 1)))
  (sSeq (sAug 4 orV (pBin shlV (pBin andV (pVar 7) (pC (V.int 127))) (pVar 5)))
  (sSeq (sIf (pBind (pVar 7) fun a => pBind (pC (V.int 128)) fun b => pOp fun σ => (ltV σ a b).bind boolV)
  (sSeq (sIf (pBind (pVar 4) fun a => pBind (pVar 3) fun b => pOp fun σ => (gtV σ a b).bind boolV)
  (sSeq (sRaise 56 (pList [(pC (V.str (Str.ofString "a varint holds "))), (pFmt (pVar 4)), (pC (V.str (Str.ofString ", over "))), (pFmt (pVar 3))]))
  sNil)
  sNil)
  (sSeq (sRet (pTup (pList [(pVar 4), (pVar 1)])))
  sNil))
  sNil)
  (sSeq (sAug 5 iaddV (pC (V.int 7)))
  sNil)))))))
  (sSeq (sRaise 56 (pList [(pC (V.str (Str.ofString "a varint goes on behind "))), (pFmt (pVar 2)), (pC (V.str (Str.ofString " octets")))]))
  sNil)))))
noncomputable def ψ_read_groups : Fn := fun σ vs => if vs.length = 4 then bodyOf F_read_groups (fun i => vs[i]?) σ else .bad
theorem cg_read_groups (G : Gd w mg mb B0) : CF true prog w mg mb B0 3 (fun ws => call (.ref 96) ws) ψ_read_groups := by
  refine CF.of_plain (d := 1) (names := [(Str.ofString "data"), (Str.ofString "at"), (Str.ofString "octets"), (Str.ofString "most")]) (vars := [(Str.ofString "data"), (Str.ofString "at"), (Str.ofString "octets"), (Str.ofString "most"), (Str.ofString "n"), (Str.ofString "shift"), (Str.ofString "turn"), (Str.ofString "octet")]) (F := F_read_groups) (G.kx 96 _ rfl) rfl ⟨_, _, _, _, rfl, G.kx _ _ rfl, rfl, rfl⟩ rfl rfl rfl rfl rfl
    (all4 fun a0 a1 a2 a3 => by rfl) ⟨_, rfl⟩ (by decide) (by decide) (by decide) rfl rfl rfl ?_ (by decide)
  unfold F_read_groups
  exact (SL.cons (S1.if_ (ST.cmp (SV.var (i := 1) rfl) SV.const_int q_lt)
  SL.bad
  SL.nil)
  (SL.cons (S1.set SV.const_int (i := 4) rfl (by decide) rfl)
  (SL.cons (S1.set SV.const_int (i := 5) rfl (by decide) rfl)
  (SL.cons (S1.for_ (SI.range rfl (gn G rfl) (SA.cons (SV.var (i := 2) rfl) SA.nil)) (TgtOk.name (i := 6) rfl (by decide) rfl)
  (SL.cons (S1.if_ (ST.cmp (SV.var (i := 1) rfl) (SV.call_builtin rfl (gn G rfl) bb_len (by decide) kok_builtin (CF.fn1 (d := 0) q_len (fun _ => rfl)) (by decide) (SA.cons (SV.var (i := 0) rfl) SA.nil)) q_ge)
  (SL.cons (S1.raise rfl rfl (by kernel_rfl) _root_.PySem.F.excBase_Exception SG.constStr)
  SL.nil)
  SL.nil)
  (SL.cons (S1.set (SV.item (SV.var (i := 0) rfl) (SV.var (i := 1) rfl)) (i := 7) rfl (by decide) rfl)
  (SL.cons (S1.aug SV.const_int q_iadd (i := 1) rfl (by decide) rfl)
  (SL.cons (S1.aug (SV.bin (SV.bin (SV.var (i := 7) rfl) SV.const_int q_and) (SV.var (i := 5) rfl) q_shl) q_ior (i := 4) rfl (by decide) rfl)
  (SL.cons (S1.if_ (ST.cmp (SV.var (i := 7) rfl) SV.const_int q_lt)
  (SL.cons (S1.if_ (ST.cmp (SV.var (i := 4) rfl) (SV.var (i := 3) rfl) q_gt)
  (SL.cons (S1.raise rfl rfl (by kernel_rfl) _root_.PySem.F.excBase_Exception (SG.joined (.cons SF.const (.cons (SF.fmt (SV.var (i := 4) rfl)) (.cons SF.const (.cons (SF.fmt (SV.var (i := 3) rfl)) .nil)))) (by decide)))
  SL.nil)
  SL.nil)
  (SL.cons (S1.ret (SV.tuple (SA.cons (SV.var (i := 4) rfl) (SA.cons (SV.var (i := 1) rfl) SA.nil))))
  SL.nil))
  SL.nil)
  (SL.cons (S1.aug SV.const_int q_iadd (i := 5) rfl (by decide) rfl)
  SL.nil)))))))
  (SL.cons (S1.raise rfl rfl (by kernel_rfl) _root_.PySem.F.excBase_Exception (SG.joined (.cons SF.const (.cons (SF.fmt (SV.var (i := 2) rfl)) (.cons SF.const .nil))) (by decide)))
  SL.nil)))))
noncomputable def φ_read_groups : Fn := frameφ ψ_read_groups
theorem cf_read_groups (G : Gd w mg mb B0) : CF true prog w mg mb B0 3 (fun ws => call (.ref 96) ws) φ_read_groups := CF.frame (cg_read_groups G)
noncomputable def F_put_varint : Loc → List Cell → RS := (sSeq (sIf (pIf (pBind (pVar 0) fun a => pBind (pC (V.int 0)) fun b => pOp fun σ => (geV σ a b).bind boolV) (pIf (pBind (pVar 0) fun a => pBind (pC (V.int 128)) fun b => pOp fun σ => (ltV σ a b).bind boolV) (pC true) (pC false)) (pC false))
  (sSeq (sRet (pCall (fn1 bytesV) [] (pList [(pNewList (pList [(pVar 0)]))])))
  sNil)
  sNil)
  (sSeq (sRet (pCall φ_write_groups [] (pList [(pVar 0), (pC (V.int 18446744073709551615))])))
  sNil))
noncomputable def ψ_put_varint : Fn := fun σ vs => if vs.length = 1 then bodyOf F_put_varint (fun i => vs[i]?) σ else .bad
theorem cg_put_varint (G : Gd w mg mb B0) : CF true prog w mg mb B0 5 (fun ws => call (.ref 103) ws) ψ_put_varint := by
  refine CF.of_plain (d := 3) (names := [(Str.ofString "n")]) (vars := [(Str.ofString "n")]) (F := F_put_varint) (G.kx 103 _ rfl) rfl ⟨_, _, _, _, rfl, G.kx _ _ rfl, rfl, rfl⟩ rfl rfl rfl rfl rfl
    (all1 fun a0 => by rfl) ⟨_, rfl⟩ (by decide) (by decide) (by decide) rfl rfl rfl ?_ (by decide)
  unfold F_put_varint
  exact (SL.cons (S1.if_ (ST.boolop (SB.and_cons (ST.cmp (SV.var (i := 0) rfl) SV.const_int q_ge) (SB.and_cons (ST.cmp (SV.var (i := 0) rfl) SV.const_int q_lt) SB.and_nil)))
  (SL.cons (S1.ret (SV.call_builtin rfl (gn G rfl) bb_bytes (by decide) kok_type (CF.fn1 (d := 0) q_bytes (fun _ => rfl)) (by decide) (SA.cons (SV.list (SA.cons (SV.var (i := 0) rfl) SA.nil)) SA.nil)))
  SL.nil)
  SL.nil)
  (SL.cons (S1.ret (SV.call_glob rfl (gl G rfl) (kk G rfl) (cf_write_groups G) (by decide) (SA.cons (SV.var (i := 0) rfl) (SA.cons (SV.glob (v := .int 18446744073709551615) rfl (gl G rfl) (fun _ _ => .int _ _)) SA.nil))))
  SL.nil))
noncomputable def φ_put_varint : Fn := frameφ ψ_put_varint
theorem cf_put_varint (G : Gd w mg mb B0) : CF true prog w mg mb B0 5 (fun ws => call (.ref 103) ws) φ_put_varint := CF.frame (cg_put_varint G)
noncomputable def F_read_varint : Loc → List Cell → RS := (sSeq (sIf (pIf (pBind (pVar 1) fun a => pBind (pC (V.int 0)) fun b => pOp fun σ => (geV σ a b).bind boolV) (pIf (pBind (pVar 1) fun a => pBind (pCall (fn1 lenV) [] (pList [(pVar 0)])) fun b => pOp fun σ => (ltV σ a b).bind boolV) (pIf (pBind (pBin itemV (pVar 0) (pVar 1)) fun a => pBind (pC (V.int 128)) fun b => pOp fun σ => (ltV σ a b).bind boolV) (pC true) (pC false)) (pC false)) (pC false))
  (sSeq (sRet (pTup (pList [(pBin itemV (pVar 0) (pVar 1)), (pBin addV (pVar 1) (pC (V.int 1)))])))
  sNil)
  sNil)
  (sSeq (sRet (pCall φ_read_groups [] (pList [(pVar 0), (pVar 1), (pC (V.int 10)), (pC (V.int 18446744073709551615))])))
  sNil))
noncomputable def ψ_read_varint : Fn := fun σ vs => if vs.length = 2 then bodyOf F_read_varint (fun i => vs[i]?) σ else .bad
theorem cg_read_varint (G : Gd w mg mb B0) : CF true prog w mg mb B0 5 (fun ws => call (.ref 110) ws) ψ_read_varint := by
  refine CF.of_plain (d := 3) (names := [(Str.ofString "data"), (Str.ofString "at")]) (vars := [(Str.ofString "data"), (Str.ofString "at")]) (F := F_read_varint) (G.kx 110 _ rfl) rfl ⟨_, _, _, _, rfl, G.kx _ _ rfl, rfl, rfl⟩ rfl rfl rfl rfl rfl
    (all2 fun a0 a1 => by rfl) ⟨_, rfl⟩ (by decide) (by decide) (by decide) rfl rfl rfl ?_ (by decide)
  unfold F_read_varint
  exact (SL.cons (S1.if_ (ST.boolop (SB.and_cons (ST.cmp (SV.var (i := 1) rfl) SV.const_int q_ge) (SB.and_cons (ST.cmp (SV.var (i := 1) rfl) (SV.call_builtin rfl (gn G rfl) bb_len (by decide) kok_builtin (CF.fn1 (d := 0) q_len (fun _ => rfl)) (by decide) (SA.cons (SV.var (i := 0) rfl) SA.nil)) q_lt) (SB.and_cons (ST.cmp (SV.item (SV.var (i := 0) rfl) (SV.var (i := 1) rfl)) SV.const_int q_lt) SB.and_nil))))
  (SL.cons (S1.ret (SV.tuple (SA.cons (SV.item (SV.var (i := 0) rfl) (SV.var (i := 1) rfl)) (SA.cons (SV.bin (SV.var (i := 1) rfl) SV.const_int q_add) SA.nil))))
  SL.nil)
  SL.nil)
  (SL.cons (S1.ret (SV.call_glob rfl (gl G rfl) (kk G rfl) (cf_read_groups G) (by decide) (SA.cons (SV.var (i := 0) rfl) (SA.cons (SV.var (i := 1) rfl) (SA.cons SV.const_int (SA.cons (SV.glob (v := .int 18446744073709551615) rfl (gl G rfl) (fun _ _ => .int _ _)) SA.nil))))))
  SL.nil))
noncomputable def φ_read_varint : Fn := frameφ ψ_read_varint
theorem cf_read_varint (G : Gd w mg mb B0) : CF true prog w mg mb B0 5 (fun ws => call (.ref 110) ws) φ_read_varint := CF.frame (cg_read_varint G)
noncomputable def F_put_varint32 : Loc → List Cell → RS := (sSeq (sIf (pIf (pBind (pVar 0) fun a => pBind (pC (V.int 0)) fun b => pOp fun σ => (geV σ a b).bind boolV) (pIf (pBind (pVar 0) fun a => pBind (pC (V.int 128)) fun b => pOp fun σ => (ltV σ a b).bind boolV) (pC true) (pC false)) (pC false))
  (sSeq (sRet (pCall (fn1 bytesV) [] (pList [(pNewList (pList [(pVar 0)]))])))
  sNil)
  sNil)
  (sSeq (sRet (pCall φ_write_groups [] (pList [(pVar 0), (pC (V.int 4294967295))])))
  sNil))
noncomputable def ψ_put_varint32 : Fn := fun σ vs => if vs.length = 1 then bodyOf F_put_varint32 (fun i => vs[i]?) σ else .bad
theorem cg_put_varint32 (G : Gd w mg mb B0) : CF true prog w mg mb B0 5 (fun ws => call (.ref 117) ws) ψ_put_varint32 := by
  refine CF.of_plain (d := 3) (names := [(Str.ofString "n")]) (vars := [(Str.ofString "n")]) (F := F_put_varint32) (G.kx 117 _ rfl) rfl ⟨_, _, _, _, rfl, G.kx _ _ rfl, rfl, rfl⟩ rfl rfl rfl rfl rfl
    (all1 fun a0 => by rfl) ⟨_, rfl⟩ (by decide) (by decide) (by decide) rfl rfl rfl ?_ (by decide)
  unfold F_put_varint32
  exact (SL.cons (S1.if_ (ST.boolop (SB.and_cons (ST.cmp (SV.var (i := 0) rfl) SV.const_int q_ge) (SB.and_cons (ST.cmp (SV.var (i := 0) rfl) SV.const_int q_lt) SB.and_nil)))
  (SL.cons (S1.ret (SV.call_builtin rfl (gn G rfl) bb_bytes (by decide) kok_type (CF.fn1 (d := 0) q_bytes (fun _ => rfl)) (by decide) (SA.cons (SV.list (SA.cons (SV.var (i := 0) rfl) SA.nil)) SA.nil)))
  SL.nil)
  SL.nil)
  (SL.cons (S1.ret (SV.call_glob rfl (gl G rfl) (kk G rfl) (cf_write_groups G) (by decide) (SA.cons (SV.var (i := 0) rfl) (SA.cons (SV.glob (v := .int 4294967295) rfl (gl G rfl) (fun _ _ => .int _ _)) SA.nil))))
  SL.nil))
noncomputable def φ_put_varint32 : Fn := frameφ ψ_put_varint32
theorem cf_put_varint32 (G : Gd w mg mb B0) : CF true prog w mg mb B0 5 (fun ws => call (.ref 117) ws) φ_put_varint32 := CF.frame (cg_put_varint32 G)
noncomputable def F_read_varint32 : Loc → List Cell → RS := (sSeq (sIf (pIf (pBind (pVar 1) fun a => pBind (pC (V.int 0)) fun b => pOp fun σ => (geV σ a b).bind boolV) (pIf (pBind (pVar 1) fun a => pBind (pCall (fn1 lenV) [] (pList [(pVar 0)])) fun b => pOp fun σ => (ltV σ a b).bind boolV) (pIf (pBind (pBin itemV (pVar 0) (pVar 1)) fun a => pBind (pC (V.int 128)) fun b => pOp fun σ => (ltV σ a b).bind boolV) (pC true) (pC false)) (pC false)) (pC false))
  (sSeq (sRet (pTup (pList [(pBin itemV (pVar 0) (pVar 1)), (pBin addV (pVar 1) (pC (V.int 1)))])))
  sNil)
  sNil)
  (sSeq (sRet (pCall φ_read_groups [] (pList [(pVar 0), (pVar 1), (pC (V.int 5)), (pC (V.int 4294967295))])))
  sNil))
noncomputable def ψ_read_varint32 : Fn := fun σ vs => if vs.length = 2 then bodyOf F_read_varint32 (fun i => vs[i]?) σ else .bad
theorem cg_read_varint32 (G : Gd w mg mb B0) : CF true prog w mg mb B0 5 (fun ws => call (.ref 124) ws) ψ_read_varint32 := by
  refine CF.of_plain (d := 3) (names := [(Str.ofString "data"), (Str.ofString "at")]) (vars := [(Str.ofString "data"), (Str.ofString "at")]) (F := F_read_varint32) (G.kx 124 _ rfl) rfl ⟨_, _, _, _, rfl, G.kx _ _ rfl, rfl, rfl⟩ rfl rfl rfl rfl rfl
    (all2 fun a0 a1 => by rfl) ⟨_, rfl⟩ (by decide) (by decide) (by decide) rfl rfl rfl ?_ (by decide)
  unfold F_read_varint32
  exact (SL.cons (S1.if_ (ST.boolop (SB.and_cons (ST.cmp (SV.var (i := 1) rfl) SV.const_int q_ge) (SB.and_cons (ST.cmp (SV.var (i := 1) rfl) (SV.call_builtin rfl (gn G rfl) bb_len (by decide) kok_builtin (CF.fn1 (d := 0) q_len (fun _ => rfl)) (by decide) (SA.cons (SV.var (i := 0) rfl) SA.nil)) q_lt) (SB.and_cons (ST.cmp (SV.item (SV.var (i := 0) rfl) (SV.var (i := 1) rfl)) SV.const_int q_lt) SB.and_nil))))
  (SL.cons (S1.ret (SV.tuple (SA.cons (SV.item (SV.var (i := 0) rfl) (SV.var (i := 1) rfl)) (SA.cons (SV.bin (SV.var (i := 1) rfl) SV.const_int q_add) SA.nil))))
  SL.nil)
  SL.nil)
  (SL.cons (S1.ret (SV.call_glob rfl (gl G rfl) (kk G rfl) (cf_read_groups G) (by decide) (SA.cons (SV.var (i := 0) rfl) (SA.cons (SV.var (i := 1) rfl) (SA.cons SV.const_int (SA.cons (SV.glob (v := .int 4294967295) rfl (gl G rfl) (fun _ _ => .int _ _)) SA.nil))))))
  SL.nil))
noncomputable def φ_read_varint32 : Fn := frameφ ψ_read_varint32
theorem cf_read_varint32 (G : Gd w mg mb B0) : CF true prog w mg mb B0 5 (fun ws => call (.ref 124) ws) φ_read_varint32 := CF.frame (cg_read_varint32 G)
noncomputable def F_read_lengthed : Loc → List Cell → RS := (sSeq (sUnpack [2, 1] (pCall φ_read_varint32 [] (pList [(pVar 0), (pVar 1)])))
  (sSeq (sIf (pBind (pBin addV (pVar 1) (pVar 2)) fun a => pBind (pCall (fn1 lenV) [] (pList [(pVar 0)])) fun b => pOp fun σ => (gtV σ a b).bind boolV)
  (sSeq (sRaise 68 (pList [(pFmt (pVar 2)), (pC (V.str (Str.ofString " octets are told, "))), (pFmt (pBin subV (pCall (fn1 lenV) [] (pList [(pVar 0)])) (pVar 1))), (pC (V.str (Str.ofString " are there")))]))
  sNil)
  sNil)
  (sSeq (sRet (pTup (pList [(pCall (fn1 bytesV) [] (pList [(pSlice (pVar 0) (pVar 1) (pBin addV (pVar 1) (pVar 2)))])), (pBin addV (pVar 1) (pVar 2))])))
  sNil)))
noncomputable def ψ_read_lengthed : Fn := fun σ vs => if vs.length = 2 then bodyOf F_read_lengthed (fun i => vs[i]?) σ else .bad
theorem cg_read_lengthed (G : Gd w mg mb B0) : CF true prog w mg mb B0 7 (fun ws => call (.ref 131) ws) ψ_read_lengthed := by
  refine CF.of_plain (d := 5) (names := [(Str.ofString "data"), (Str.ofString "at")]) (vars := [(Str.ofString "data"), (Str.ofString "at"), (Str.ofString "count")]) (F := F_read_lengthed) (G.kx 131 _ rfl) rfl ⟨_, _, _, _, rfl, G.kx _ _ rfl, rfl, rfl⟩ rfl rfl rfl rfl rfl
    (all2 fun a0 a1 => by rfl) ⟨_, rfl⟩ (by decide) (by decide) (by decide) rfl rfl rfl ?_ (by decide)
  unfold F_read_lengthed
  exact (SL.cons (S1.unpack (SV.call_glob rfl (gl G rfl) (kk G rfl) (cf_read_varint32 G) (by decide) (SA.cons (SV.var (i := 0) rfl) (SA.cons (SV.var (i := 1) rfl) SA.nil))) (.cons (i := 2) rfl rfl (.cons (i := 1) rfl rfl .nil)) (by decide))
  (SL.cons (S1.if_ (ST.cmp (SV.bin (SV.var (i := 1) rfl) (SV.var (i := 2) rfl) q_add) (SV.call_builtin rfl (gn G rfl) bb_len (by decide) kok_builtin (CF.fn1 (d := 0) q_len (fun _ => rfl)) (by decide) (SA.cons (SV.var (i := 0) rfl) SA.nil)) q_gt)
  (SL.cons (S1.raise rfl rfl (by kernel_rfl) _root_.PySem.F.excBase_Exception (SG.joined (.cons (SF.fmt (SV.var (i := 2) rfl)) (.cons SF.const (.cons (SF.fmt (SV.bin (SV.call_builtin rfl (gn G rfl) bb_len (by decide) kok_builtin (CF.fn1 (d := 0) q_len (fun _ => rfl)) (by decide) (SA.cons (SV.var (i := 0) rfl) SA.nil)) (SV.var (i := 1) rfl) q_sub)) (.cons SF.const .nil)))) (by decide)))
  SL.nil)
  SL.nil)
  (SL.cons (S1.ret (SV.tuple (SA.cons (SV.call_builtin rfl (gn G rfl) bb_bytes (by decide) kok_type (CF.fn1 (d := 0) q_bytes (fun _ => rfl)) (by decide) (SA.cons (SV.slice (SV.var (i := 0) rfl) (SP.some (SV.var (i := 1) rfl)) (SP.some (SV.bin (SV.var (i := 1) rfl) (SV.var (i := 2) rfl) q_add))) SA.nil)) (SA.cons (SV.bin (SV.var (i := 1) rfl) (SV.var (i := 2) rfl) q_add) SA.nil))))
  SL.nil)))
noncomputable def φ_read_lengthed : Fn := frameφ ψ_read_lengthed
theorem cf_read_lengthed (G : Gd w mg mb B0) : CF true prog w mg mb B0 7 (fun ws => call (.ref 131) ws) φ_read_lengthed := CF.frame (cg_read_lengthed G)
end
end NZ
namespace NZ
open _root_.PySem _root_.PySem.W _root_.PySem.Calls PyProof.Rows _root_.PySem.SeqAt
section
variable {prog : Program} {w : World} {mg mb : Str → Option Value} {B0 : Heap}
noncomputable def F_Cursor___init__ : Loc → List Cell → RS := (sSeq (sIf (pIf (pBind (pVar 2) fun a => pBind (pC (V.int 0)) fun b => pOp fun σ => (ltV σ a b).bind boolV) (pC true) (pIf (pBind (pVar 2) fun a => pBind (pCall (fn1 lenV) [] (pList [(pVar 1)])) fun b => pOp fun σ => (gtV σ a b).bind boolV) (pC true) (pC false)))
  (sSeq (sRaise 68 (pList [(pC (V.str (Str.ofString "place "))), (pFmt (pVar 2)), (pC (V.str (Str.ofString " is not within "))), (pFmt (pCall (fn1 lenV) [] (pList [(pVar 1)]))), (pC (V.str (Str.ofString " octets")))]))
  sNil)
  sNil)
  (sSeq (sSetAttr 212 (Str.ofString "data") (pVar 0) (pVar 1))
  (sSeq (sSetAttr 212 (Str.ofString "at") (pVar 0) (pVar 2))
  sNil)))
noncomputable def φ_Cursor___init__ : Fn := fun σ vs => if vs.length = 2 then bodyOf F_Cursor___init__ (fun i => (vs ++ [.int 0])[i]?) σ else .bad
theorem cf_Cursor___init__ (G : Gd w mg mb B0) : CF true prog w mg mb B0 3 (fun ws => call (.ref 146) ws) φ_Cursor___init__ := by
  refine CF.of_dflt1 (d := 1) (names := [(Str.ofString "self"), (Str.ofString "data"), (Str.ofString "at")]) (vars := [(Str.ofString "self"), (Str.ofString "data"), (Str.ofString "at")]) (F := F_Cursor___init__) (k := 0) (t := _) (G.kx 146 _ rfl) rfl ⟨_, _, _, _, rfl, G.kx _ _ rfl, rfl, rfl⟩ rfl rfl rfl rfl rfl
    (fun s ws hB hw => by obtain ⟨a0, a1, rfl⟩ := len2 (Nat.succ.inj hw); exact BindsTo.of_defaults rfl (hB _ _ (G.kx 139 _ rfl)) rfl rfl rfl) ⟨_, rfl⟩ (by decide) (by decide) (by decide) (by decide) rfl rfl rfl ?_ (by decide)
  unfold F_Cursor___init__
  exact (SL.cons (S1.if_ (ST.boolop (SB.or_cons (ST.cmp (SV.var (i := 2) rfl) SV.const_int q_lt) (SB.or_cons (ST.cmp (SV.var (i := 2) rfl) (SV.call_builtin rfl (gn G rfl) bb_len (by decide) kok_builtin (CF.fn1 (d := 0) q_len (fun _ => rfl)) (by decide) (SA.cons (SV.var (i := 1) rfl) SA.nil)) q_gt) SB.or_nil)))
  (SL.cons (S1.raise rfl rfl (by kernel_rfl) _root_.PySem.F.excBase_Exception (SG.joined (.cons SF.const (.cons (SF.fmt (SV.var (i := 2) rfl)) (.cons SF.const (.cons (SF.fmt (SV.call_builtin rfl (gn G rfl) bb_len (by decide) kok_builtin (CF.fn1 (d := 0) q_len (fun _ => rfl)) (by decide) (SA.cons (SV.var (i := 1) rfl) SA.nil))) (.cons SF.const .nil))))) (by decide)))
  SL.nil)
  SL.nil)
  (SL.cons (S1.setattr (SV.var (i := 1) rfl) (SV.var (i := 0) rfl) (ok_Cursor _) rfl)
  (SL.cons (S1.setattr (SV.var (i := 2) rfl) (SV.var (i := 0) rfl) (ok_Cursor _) rfl)
  SL.nil)))
noncomputable def φ_Cursor : Fn := makeφ 212 φ_Cursor___init__
theorem cf_Cursor (G : Gd w mg mb B0) : CF true prog w mg mb B0 4 (fun ws => call (.ref 212) ws) φ_Cursor := CF.make (fI := 146) (by kernel_rfl) rfl rfl (cf_Cursor___init__ G) (by decide)
noncomputable def F_Cursor_left : Loc → List Cell → RS := (sSeq (sRet (pBin subV (pCall (fn1 lenV) [] (pList [(pUn (attrV 212 (Str.ofString "data")) (pVar 0))])) (pUn (attrV 212 (Str.ofString "at")) (pVar 0))))
  sNil)
noncomputable def φ_Cursor_left : Fn := fun σ vs => if vs.length = 1 then bodyOf F_Cursor_left (fun i => vs[i]?) σ else .bad
theorem cf_Cursor_left (G : Gd w mg mb B0) : CF true prog w mg mb B0 3 (fun ws => call (.ref 153) ws) φ_Cursor_left := by
  refine CF.of_plain (d := 1) (names := [(Str.ofString "self")]) (vars := [(Str.ofString "self")]) (F := F_Cursor_left) (G.kx 153 _ rfl) rfl ⟨_, _, _, _, rfl, G.kx _ _ rfl, rfl, rfl⟩ rfl rfl rfl rfl rfl
    (all1 fun a0 => by rfl) ⟨_, rfl⟩ (by decide) (by decide) (by decide) rfl rfl rfl ?_ (by decide)
  unfold F_Cursor_left
  exact (SL.cons (S1.ret (SV.bin (SV.call_builtin rfl (gn G rfl) bb_len (by decide) kok_builtin (CF.fn1 (d := 0) q_len (fun _ => rfl)) (by decide) (SA.cons (SV.attr (SV.var (i := 0) rfl) (ok_Cursor _) rfl) SA.nil)) (SV.attr (SV.var (i := 0) rfl) (ok_Cursor _) rfl) q_sub))
  SL.nil)
noncomputable def F_Cursor_varint : Loc → List Cell → RS := (sSeq (sSet 1 (pUn (attrV 212 (Str.ofString "at")) (pVar 0)))
  (sSeq (sIf (pIf (pBind (pVar 1) fun a => pBind (pCall (fn1 lenV) [] (pList [(pUn (attrV 212 (Str.ofString "data")) (pVar 0))])) fun b => pOp fun σ => (ltV σ a b).bind boolV) (pIf (pBind (pBin itemV (pUn (attrV 212 (Str.ofString "data")) (pVar 0)) (pVar 1)) fun a => pBind (pC (V.int 128)) fun b => pOp fun σ => (ltV σ a b).bind boolV) (pC true) (pC false)) (pC false))
  (sSeq (sSetAttr 212 (Str.ofString "at") (pVar 0) (pBin addV (pVar 1) (pC (V.int 1))))
  (sSeq (sRet (pBin itemV (pUn (attrV 212 (Str.ofString "data")) (pVar 0)) (pVar 1)))
  sNil))
  sNil)
  (sSeq (sUnpack [2, 1] (pCall φ_read_varint [] (pList [(pUn (attrV 212 (Str.ofString "data")) (pVar 0)), (pVar 1)])))
  (sSeq (sSetAttr 212 (Str.ofString "at") (pVar 0) (pVar 1))
  (sSeq (sRet (pVar 2))
  sNil)))))
noncomputable def φ_Cursor_varint : Fn := fun σ vs => if vs.length = 1 then bodyOf F_Cursor_varint (fun i => vs[i]?) σ else .bad
theorem cf_Cursor_varint (G : Gd w mg mb B0) : CF true prog w mg mb B0 7 (fun ws => call (.ref 160) ws) φ_Cursor_varint := by
  refine CF.of_plain (d := 5) (names := [(Str.ofString "self")]) (vars := [(Str.ofString "self"), (Str.ofString "at"), (Str.ofString "n")]) (F := F_Cursor_varint) (G.kx 160 _ rfl) rfl ⟨_, _, _, _, rfl, G.kx _ _ rfl, rfl, rfl⟩ rfl rfl rfl rfl rfl
    (all1 fun a0 => by rfl) ⟨_, rfl⟩ (by decide) (by decide) (by decide) rfl rfl rfl ?_ (by decide)
  unfold F_Cursor_varint
  exact (SL.cons (S1.set (SV.attr (SV.var (i := 0) rfl) (ok_Cursor _) rfl) (i := 1) rfl (by decide) rfl)
  (SL.cons (S1.if_ (ST.boolop (SB.and_cons (ST.cmp (SV.var (i := 1) rfl) (SV.call_builtin rfl (gn G rfl) bb_len (by decide) kok_builtin (CF.fn1 (d := 0) q_len (fun _ => rfl)) (by decide) (SA.cons (SV.attr (SV.var (i := 0) rfl) (ok_Cursor _) rfl) SA.nil)) q_lt) (SB.and_cons (ST.cmp (SV.item (SV.attr (SV.var (i := 0) rfl) (ok_Cursor _) rfl) (SV.var (i := 1) rfl)) SV.const_int q_lt) SB.and_nil)))
  (SL.cons (S1.setattr (SV.bin (SV.var (i := 1) rfl) SV.const_int q_add) (SV.var (i := 0) rfl) (ok_Cursor _) rfl)
  (SL.cons (S1.ret (SV.item (SV.attr (SV.var (i := 0) rfl) (ok_Cursor _) rfl) (SV.var (i := 1) rfl)))
  SL.nil))
  SL.nil)
  (SL.cons (S1.unpack (SV.call_glob rfl (gl G rfl) (kk G rfl) (cf_read_varint G) (by decide) (SA.cons (SV.attr (SV.var (i := 0) rfl) (ok_Cursor _) rfl) (SA.cons (SV.var (i := 1) rfl) SA.nil))) (.cons (i := 2) rfl rfl (.cons (i := 1) rfl rfl .nil)) (by decide))
  (SL.cons (S1.setattr (SV.var (i := 1) rfl) (SV.var (i := 0) rfl) (ok_Cursor _) rfl)
  (SL.cons (S1.ret (SV.var (i := 2) rfl))
  SL.nil)))))
noncomputable def F_Cursor_lengthed : Loc → List Cell → RS := (sSeq (sUnpack [1, 2] (pCall φ_read_lengthed [] (pList [(pUn (attrV 212 (Str.ofString "data")) (pVar 0)), (pUn (attrV 212 (Str.ofString "at")) (pVar 0))])))
  (sSeq (sSetAttr 212 (Str.ofString "at") (pVar 0) (pVar 2))
  (sSeq (sRet (pVar 1))
  sNil)))
noncomputable def φ_Cursor_lengthed : Fn := fun σ vs => if vs.length = 1 then bodyOf F_Cursor_lengthed (fun i => vs[i]?) σ else .bad
theorem cf_Cursor_lengthed (G : Gd w mg mb B0) : CF true prog w mg mb B0 9 (fun ws => call (.ref 181) ws) φ_Cursor_lengthed := by
  refine CF.of_plain (d := 7) (names := [(Str.ofString "self")]) (vars := [(Str.ofString "self"), (Str.ofString "b"), (Str.ofString "at")]) (F := F_Cursor_lengthed) (G.kx 181 _ rfl) rfl ⟨_, _, _, _, rfl, G.kx _ _ rfl, rfl, rfl⟩ rfl rfl rfl rfl rfl
    (all1 fun a0 => by rfl) ⟨_, rfl⟩ (by decide) (by decide) (by decide) rfl rfl rfl ?_ (by decide)
  unfold F_Cursor_lengthed
  exact (SL.cons (S1.unpack (SV.call_glob rfl (gl G rfl) (kk G rfl) (cf_read_lengthed G) (by decide) (SA.cons (SV.attr (SV.var (i := 0) rfl) (ok_Cursor _) rfl) (SA.cons (SV.attr (SV.var (i := 0) rfl) (ok_Cursor _) rfl) SA.nil))) (.cons (i := 1) rfl rfl (.cons (i := 2) rfl rfl .nil)) (by decide))
  (SL.cons (S1.setattr (SV.var (i := 2) rfl) (SV.var (i := 0) rfl) (ok_Cursor _) rfl)
  (SL.cons (S1.ret (SV.var (i := 1) rfl))
  SL.nil)))
noncomputable def F_Sink___init__ : Loc → List Cell → RS := (sSeq (sSetAttr 289 (Str.ofString "parts") (pVar 0) (pCall barrayφ [] (pList [])))
  sNil)
noncomputable def φ_Sink___init__ : Fn := fun σ vs => if vs.length = 1 then bodyOf F_Sink___init__ (fun i => vs[i]?) σ else .bad
theorem cf_Sink___init__ (G : Gd w mg mb B0) : CF true prog w mg mb B0 3 (fun ws => call (.ref 230) ws) φ_Sink___init__ := by
  refine CF.of_plain (d := 1) (names := [(Str.ofString "self")]) (vars := [(Str.ofString "self")]) (F := F_Sink___init__) (G.kx 230 _ rfl) rfl ⟨_, _, _, _, rfl, G.kx _ _ rfl, rfl, rfl⟩ rfl rfl rfl rfl rfl
    (all1 fun a0 => by rfl) ⟨_, rfl⟩ (by decide) (by decide) (by decide) rfl rfl rfl ?_ (by decide)
  unfold F_Sink___init__
  exact (SL.cons (S1.setattr (SV.call_builtin rfl (gn G rfl) bb_bytearray (by decide) kok_type (cf_barray (d := 0)) (by decide) SA.nil) (SV.var (i := 0) rfl) (ok_Sink _) rfl)
  SL.nil)
noncomputable def φ_Sink : Fn := makeφ 289 φ_Sink___init__
theorem cf_Sink (G : Gd w mg mb B0) : CF true prog w mg mb B0 4 (fun ws => call (.ref 289) ws) φ_Sink := CF.make (fI := 230) (by kernel_rfl) rfl rfl (cf_Sink___init__ G) (by decide)
noncomputable def F_Sink_varint : Loc → List Cell → RS := (sSeq (sIf (pIf (pBind (pVar 1) fun a => pBind (pC (V.int 0)) fun b => pOp fun σ => (geV σ a b).bind boolV) (pIf (pBind (pVar 1) fun a => pBind (pC (V.int 128)) fun b => pOp fun σ => (ltV σ a b).bind boolV) (pC true) (pC false)) (pC false))
  (sSeq (sExpr (pMeth appendK (pUn (attrV 289 (Str.ofString "parts")) (pVar 0)) (pList [(pVar 1)])))
  sNil)
  (sSeq (sExpr (pMeth extendK (pUn (attrV 289 (Str.ofString "parts")) (pVar 0)) (pList [(pCall φ_put_varint [] (pList [(pVar 1)]))])))
  sNil))
  sNil)
noncomputable def φ_Sink_varint : Fn := fun σ vs => if vs.length = 2 then bodyOf F_Sink_varint (fun i => vs[i]?) σ else .bad
theorem cf_Sink_varint (G : Gd w mg mb B0) : CF true prog w mg mb B0 7 (fun ws => call (.ref 237) ws) φ_Sink_varint := by
  refine CF.of_plain (d := 5) (names := [(Str.ofString "self"), (Str.ofString "n")]) (vars := [(Str.ofString "self"), (Str.ofString "n")]) (F := F_Sink_varint) (G.kx 237 _ rfl) rfl ⟨_, _, _, _, rfl, G.kx _ _ rfl, rfl, rfl⟩ rfl rfl rfl rfl rfl
    (all2 fun a0 a1 => by rfl) ⟨_, rfl⟩ (by decide) (by decide) (by decide) rfl rfl rfl ?_ (by decide)
  unfold F_Sink_varint
  exact (SL.cons (S1.if_ (ST.boolop (SB.and_cons (ST.cmp (SV.var (i := 1) rfl) SV.const_int q_ge) (SB.and_cons (ST.cmp (SV.var (i := 1) rfl) SV.const_int q_lt) SB.and_nil)))
  (SL.cons (S1.expr (SV.meth (SV.attr (SV.var (i := 0) rfl) (ok_Sink _) rfl) (meth_append (d := 0)) (by decide) (SA.cons (SV.var (i := 1) rfl) SA.nil)))
  SL.nil)
  (SL.cons (S1.expr (SV.meth (SV.attr (SV.var (i := 0) rfl) (ok_Sink _) rfl) (meth_extend (d := 0)) (by decide) (SA.cons (SV.call_glob rfl (gl G rfl) (kk G rfl) (cf_put_varint G) (by decide) (SA.cons (SV.var (i := 1) rfl) SA.nil)) SA.nil)))
  SL.nil))
  SL.nil)
noncomputable def F_Sink_lengthed : Loc → List Cell → RS := (sSeq (sExpr (pMeth extendK (pUn (attrV 289 (Str.ofString "parts")) (pVar 0)) (pList [(pCall φ_put_varint32 [] (pList [(pCall (fn1 lenV) [] (pList [(pVar 1)]))]))])))
  (sSeq (sExpr (pMeth extendK (pUn (attrV 289 (Str.ofString "parts")) (pVar 0)) (pList [(pVar 1)])))
  sNil))
noncomputable def φ_Sink_lengthed : Fn := fun σ vs => if vs.length = 2 then bodyOf F_Sink_lengthed (fun i => vs[i]?) σ else .bad
theorem cf_Sink_lengthed (G : Gd w mg mb B0) : CF true prog w mg mb B0 7 (fun ws => call (.ref 258) ws) φ_Sink_lengthed := by
  refine CF.of_plain (d := 5) (names := [(Str.ofString "self"), (Str.ofString "b")]) (vars := [(Str.ofString "self"), (Str.ofString "b")]) (F := F_Sink_lengthed) (G.kx 258 _ rfl) rfl ⟨_, _, _, _, rfl, G.kx _ _ rfl, rfl, rfl⟩ rfl rfl rfl rfl rfl
    (all2 fun a0 a1 => by rfl) ⟨_, rfl⟩ (by decide) (by decide) (by decide) rfl rfl rfl ?_ (by decide)
  unfold F_Sink_lengthed
  exact (SL.cons (S1.expr (SV.meth (SV.attr (SV.var (i := 0) rfl) (ok_Sink _) rfl) (meth_extend (d := 0)) (by decide) (SA.cons (SV.call_glob rfl (gl G rfl) (kk G rfl) (cf_put_varint32 G) (by decide) (SA.cons (SV.call_builtin rfl (gn G rfl) bb_len (by decide) kok_builtin (CF.fn1 (d := 0) q_len (fun _ => rfl)) (by decide) (SA.cons (SV.var (i := 1) rfl) SA.nil)) SA.nil)) SA.nil)))
  (SL.cons (S1.expr (SV.meth (SV.attr (SV.var (i := 0) rfl) (ok_Sink _) rfl) (meth_extend (d := 0)) (by decide) (SA.cons (SV.var (i := 1) rfl) SA.nil)))
  SL.nil))
noncomputable def F_Sink_done : Loc → List Cell → RS := (sSeq (sRet (pCall (fn1 bytesV) [] (pList [(pUn (attrV 289 (Str.ofString "parts")) (pVar 0))])))
  sNil)
noncomputable def φ_Sink_done : Fn := fun σ vs => if vs.length = 1 then bodyOf F_Sink_done (fun i => vs[i]?) σ else .bad
theorem cf_Sink_done (G : Gd w mg mb B0) : CF true prog w mg mb B0 3 (fun ws => call (.ref 286) ws) φ_Sink_done := by
  refine CF.of_plain (d := 1) (names := [(Str.ofString "self")]) (vars := [(Str.ofString "self")]) (F := F_Sink_done) (G.kx 286 _ rfl) rfl ⟨_, _, _, _, rfl, G.kx _ _ rfl, rfl, rfl⟩ rfl rfl rfl rfl rfl
    (all1 fun a0 => by rfl) ⟨_, rfl⟩ (by decide) (by decide) (by decide) rfl rfl rfl ?_ (by decide)
  unfold F_Sink_done
  exact (SL.cons (S1.ret (SV.call_builtin rfl (gn G rfl) bb_bytes (by decide) kok_type (CF.fn1 (d := 0) q_bytes (fun _ => rfl)) (by decide) (SA.cons (SV.attr (SV.var (i := 0) rfl) (ok_Sink _) rfl) SA.nil)))
  SL.nil)
end
end NZ
namespace NZ
open _root_.PySem _root_.PySem.W _root_.PySem.Calls PyProof.Rows _root_.PySem.SeqAt
section
variable {prog : Program} {w : World} {mg mb : Str → Option Value} {B0 : Heap}
noncomputable def F_FileMeta___init__ : Loc → List Cell → RS := (sSeq (sSetAttr 317 (Str.ofString "number") (pVar 0) (pVar 1))
  (sSeq (sSetAttr 317 (Str.ofString "size") (pVar 0) (pVar 2))
  (sSeq (sSetAttr 317 (Str.ofString "smallest") (pVar 0) (pVar 3))
  (sSeq (sSetAttr 317 (Str.ofString "largest") (pVar 0) (pVar 4))
  sNil))))
noncomputable def φ_FileMeta___init__ : Fn := fun σ vs => if vs.length = 5 then bodyOf F_FileMeta___init__ (fun i => vs[i]?) σ else .bad
theorem cf_FileMeta___init__ (G : Gd w mg mb B0) : CF true prog w mg mb B0 3 (fun ws => call (.ref 307) ws) φ_FileMeta___init__ := by
  refine CF.of_plain (d := 1) (names := [(Str.ofString "self"), (Str.ofString "number"), (Str.ofString "size"), (Str.ofString "smallest"), (Str.ofString "largest")]) (vars := [(Str.ofString "self"), (Str.ofString "number"), (Str.ofString "size"), (Str.ofString "smallest"), (Str.ofString "largest")]) (F := F_FileMeta___init__) (G.kx 307 _ rfl) rfl ⟨_, _, _, _, rfl, G.kx _ _ rfl, rfl, rfl⟩ rfl rfl rfl rfl rfl
    (all5 fun a0 a1 a2 a3 a4 => by rfl) ⟨_, rfl⟩ (by decide) (by decide) (by decide) rfl rfl rfl ?_ (by decide)
  unfold F_FileMeta___init__
  exact (SL.cons (S1.setattr (SV.var (i := 1) rfl) (SV.var (i := 0) rfl) (ok_FileMeta _) rfl)
  (SL.cons (S1.setattr (SV.var (i := 2) rfl) (SV.var (i := 0) rfl) (ok_FileMeta _) rfl)
  (SL.cons (S1.setattr (SV.var (i := 3) rfl) (SV.var (i := 0) rfl) (ok_FileMeta _) rfl)
  (SL.cons (S1.setattr (SV.var (i := 4) rfl) (SV.var (i := 0) rfl) (ok_FileMeta _) rfl)
  SL.nil))))
noncomputable def φ_FileMeta : Fn := makeφ 317 φ_FileMeta___init__
theorem cf_FileMeta (G : Gd w mg mb B0) : CF true prog w mg mb B0 4 (fun ws => call (.ref 317) ws) φ_FileMeta := CF.make (fI := 307) (by kernel_rfl) rfl rfl (cf_FileMeta___init__ G) (by decide)
noncomputable def F_FileMeta_row : Loc → List Cell → RS := (sSeq (sRet (pTup (pList [(pUn (attrV 317 (Str.ofString "number")) (pVar 0)), (pUn (attrV 317 (Str.ofString "size")) (pVar 0)), (pUn (attrV 317 (Str.ofString "smallest")) (pVar 0)), (pUn (attrV 317 (Str.ofString "largest")) (pVar 0))])))
  sNil)
noncomputable def φ_FileMeta_row : Fn := fun σ vs => if vs.length = 1 then bodyOf F_FileMeta_row (fun i => vs[i]?) σ else .bad
theorem cf_FileMeta_row (G : Gd w mg mb B0) : CF true prog w mg mb B0 3 (fun ws => call (.ref 314) ws) φ_FileMeta_row := by
  refine CF.of_plain (d := 1) (names := [(Str.ofString "self")]) (vars := [(Str.ofString "self")]) (F := F_FileMeta_row) (G.kx 314 _ rfl) rfl ⟨_, _, _, _, rfl, G.kx _ _ rfl, rfl, rfl⟩ rfl rfl rfl rfl rfl
    (all1 fun a0 => by rfl) ⟨_, rfl⟩ (by decide) (by decide) (by decide) rfl rfl rfl ?_ (by decide)
  unfold F_FileMeta_row
  exact (SL.cons (S1.ret (SV.tuple (SA.cons (SV.attr (SV.var (i := 0) rfl) (ok_FileMeta _) rfl) (SA.cons (SV.attr (SV.var (i := 0) rfl) (ok_FileMeta _) rfl) (SA.cons (SV.attr (SV.var (i := 0) rfl) (ok_FileMeta _) rfl) (SA.cons (SV.attr (SV.var (i := 0) rfl) (ok_FileMeta _) rfl) SA.nil))))))
  SL.nil)
noncomputable def F_VersionEdit___init__ : Loc → List Cell → RS := (sSeq (sSetAttr 352 (Str.ofString "comparator") (pVar 0) (pC V.none))
  (sSeq (sSetAttr 352 (Str.ofString "log_number") (pVar 0) (pC V.none))
  (sSeq (sSetAttr 352 (Str.ofString "next_file") (pVar 0) (pC V.none))
  (sSeq (sSetAttr 352 (Str.ofString "last_seq") (pVar 0) (pC V.none))
  (sSeq (sSetAttr 352 (Str.ofString "compact_pointers") (pVar 0) (pNewList (pList [])))
  (sSeq (sSetAttr 352 (Str.ofString "deleted") (pVar 0) (pNewList (pList [])))
  (sSeq (sSetAttr 352 (Str.ofString "added") (pVar 0) (pNewList (pList [])))
  (sSeq (sSetAttr 352 (Str.ofString "reset") (pVar 0) (pC (V.bool false)))
  sNil))))))))
noncomputable def φ_VersionEdit___init__ : Fn := fun σ vs => if vs.length = 1 then bodyOf F_VersionEdit___init__ (fun i => vs[i]?) σ else .bad
theorem cf_VersionEdit___init__ (G : Gd w mg mb B0) : CF true prog w mg mb B0 3 (fun ws => call (.ref 335) ws) φ_VersionEdit___init__ := by
  refine CF.of_plain (d := 1) (names := [(Str.ofString "self")]) (vars := [(Str.ofString "self")]) (F := F_VersionEdit___init__) (G.kx 335 _ rfl) rfl ⟨_, _, _, _, rfl, G.kx _ _ rfl, rfl, rfl⟩ rfl rfl rfl rfl rfl
    (all1 fun a0 => by rfl) ⟨_, rfl⟩ (by decide) (by decide) (by decide) rfl rfl rfl ?_ (by decide)
  unfold F_VersionEdit___init__
  exact (SL.cons (S1.setattr SV.const_none (SV.var (i := 0) rfl) (ok_VersionEdit _) rfl)
  (SL.cons (S1.setattr SV.const_none (SV.var (i := 0) rfl) (ok_VersionEdit _) rfl)
  (SL.cons (S1.setattr SV.const_none (SV.var (i := 0) rfl) (ok_VersionEdit _) rfl)
  (SL.cons (S1.setattr SV.const_none (SV.var (i := 0) rfl) (ok_VersionEdit _) rfl)
  (SL.cons (S1.setattr (SV.list SA.nil) (SV.var (i := 0) rfl) (ok_VersionEdit _) rfl)
  (SL.cons (S1.setattr (SV.list SA.nil) (SV.var (i := 0) rfl) (ok_VersionEdit _) rfl)
  (SL.cons (S1.setattr (SV.list SA.nil) (SV.var (i := 0) rfl) (ok_VersionEdit _) rfl)
  (SL.cons (S1.setattr SV.const_bool (SV.var (i := 0) rfl) (ok_VersionEdit _) rfl)
  SL.nil))))))))
noncomputable def φ_VersionEdit : Fn := makeφ 352 φ_VersionEdit___init__
theorem cf_VersionEdit (G : Gd w mg mb B0) : CF true prog w mg mb B0 4 (fun ws => call (.ref 352) ws) φ_VersionEdit := CF.make (fI := 335) (by kernel_rfl) rfl rfl (cf_VersionEdit___init__ G) (by decide)
noncomputable def F_VersionEdit_row : Loc → List Cell → RS := (sSeq (sSet 1 (pNewList (pList [])))
  (sSeq (sForE (stTup [2, 3]) (pOver (pUn (attrV 352 (Str.ofString "added")) (pVar 0)))
  (sSeq (sExpr (pMeth appendK (pVar 1) (pList [(pTup (pList [(pVar 2), (pMeth (objK 317 (Str.ofString "row") φ_FileMeta_row) (pVar 3) (pList []))]))])))
  sNil))
  (sSeq (sRet (pTup (pList [(pUn (attrV 352 (Str.ofString "comparator")) (pVar 0)), (pUn (attrV 352 (Str.ofString "log_number")) (pVar 0)), (pUn (attrV 352 (Str.ofString "next_file")) (pVar 0)), (pUn (attrV 352 (Str.ofString "last_seq")) (pVar 0)), (pCall (fn1 tupleV) [] (pList [(pUn (attrV 352 (Str.ofString "compact_pointers")) (pVar 0))])), (pCall (fn1 tupleV) [] (pList [(pUn (attrV 352 (Str.ofString "deleted")) (pVar 0))])), (pCall (fn1 tupleV) [] (pList [(pVar 1)])), (pUn (attrV 352 (Str.ofString "reset")) (pVar 0))])))
  sNil)))
noncomputable def φ_VersionEdit_row : Fn := fun σ vs => if vs.length = 1 then bodyOf F_VersionEdit_row (fun i => vs[i]?) σ else .bad
theorem cf_VersionEdit_row (G : Gd w mg mb B0) : CF true prog w mg mb B0 5 (fun ws => call (.ref 342) ws) φ_VersionEdit_row := by
  refine CF.of_plain (d := 3) (names := [(Str.ofString "self")]) (vars := [(Str.ofString "self"), (Str.ofString "added"), (Str.ofString "level"), (Str.ofString "meta")]) (F := F_VersionEdit_row) (G.kx 342 _ rfl) rfl ⟨_, _, _, _, rfl, G.kx _ _ rfl, rfl, rfl⟩ rfl rfl rfl rfl rfl
    (all1 fun a0 => by rfl) ⟨_, rfl⟩ (by decide) (by decide) (by decide) rfl rfl rfl ?_ (by decide)
  unfold F_VersionEdit_row
  exact (SL.cons (S1.set (SV.list SA.nil) (i := 1) rfl (by decide) rfl)
  (SL.cons (S1.for_ (SI.value (SV.attr (SV.var (i := 0) rfl) (ok_VersionEdit _) rfl)) (TgtOk.tup (.cons (i := 2) rfl rfl (.cons (i := 3) rfl rfl .nil)) (by decide))
  (SL.cons (S1.expr (SV.meth (SV.var (i := 1) rfl) (meth_append (d := 0)) (by decide) (SA.cons (SV.tuple (SA.cons (SV.var (i := 2) rfl) (SA.cons (SV.meth (SV.var (i := 3) rfl) (meth_obj (ok_FileMeta _) rfl rfl rfl (cf_FileMeta_row G)) (by decide) SA.nil) SA.nil))) SA.nil)))
  SL.nil))
  (SL.cons (S1.ret (SV.tuple (SA.cons (SV.attr (SV.var (i := 0) rfl) (ok_VersionEdit _) rfl) (SA.cons (SV.attr (SV.var (i := 0) rfl) (ok_VersionEdit _) rfl) (SA.cons (SV.attr (SV.var (i := 0) rfl) (ok_VersionEdit _) rfl) (SA.cons (SV.attr (SV.var (i := 0) rfl) (ok_VersionEdit _) rfl) (SA.cons (SV.call_builtin rfl (gn G rfl) bb_tuple (by decide) kok_type (CF.fn1 (d := 0) q_tuple (fun _ => rfl)) (by decide) (SA.cons (SV.attr (SV.var (i := 0) rfl) (ok_VersionEdit _) rfl) SA.nil)) (SA.cons (SV.call_builtin rfl (gn G rfl) bb_tuple (by decide) kok_type (CF.fn1 (d := 0) q_tuple (fun _ => rfl)) (by decide) (SA.cons (SV.attr (SV.var (i := 0) rfl) (ok_VersionEdit _) rfl) SA.nil)) (SA.cons (SV.call_builtin rfl (gn G rfl) bb_tuple (by decide) kok_type (CF.fn1 (d := 0) q_tuple (fun _ => rfl)) (by decide) (SA.cons (SV.var (i := 1) rfl) SA.nil)) (SA.cons (SV.attr (SV.var (i := 0) rfl) (ok_VersionEdit _) rfl) SA.nil))))))))))
  SL.nil)))
noncomputable def F_VersionEdit_encode : Loc → List Cell → RS := (sSeq (sSet 1 (pCall φ_Sink [] (pList [])))
  (sSeq (sIf (pTest (pUn (attrV 352 (Str.ofString "reset")) (pVar 0)))
  (sSeq (sExpr (pMeth (objK 289 (Str.ofString "varint") φ_Sink_varint) (pVar 1) (pList [(pC (V.int 10))])))
  sNil)
  sNil)
  (sSeq (sIf (pBind (pUn (attrV 352 (Str.ofString "comparator")) (pVar 0)) fun a => pBind (pC V.none) fun b => pOp fun σ => (isNotV σ a b).bind boolV)
  (sSeq (sExpr (pMeth (objK 289 (Str.ofString "varint") φ_Sink_varint) (pVar 1) (pList [(pC (V.int 1))])))
  (sSeq (sExpr (pMeth (objK 289 (Str.ofString "lengthed") φ_Sink_lengthed) (pVar 1) (pList [(pUn (attrV 352 (Str.ofString "comparator")) (pVar 0))])))
  sNil))
  sNil)
  (sSeq (sIf (pBind (pUn (attrV 352 (Str.ofString "log_number")) (pVar 0)) fun a => pBind (pC V.none) fun b => pOp fun σ => (isNotV σ a b).bind boolV)
  (sSeq (sExpr (pMeth (objK 289 (Str.ofString "varint") φ_Sink_varint) (pVar 1) (pList [(pC (V.int 2))])))
  (sSeq (sExpr (pMeth (objK 289 (Str.ofString "varint") φ_Sink_varint) (pVar 1) (pList [(pUn (attrV 352 (Str.ofString "log_number")) (pVar 0))])))
  sNil))
  sNil)
  (sSeq (sIf (pBind (pUn (attrV 352 (Str.ofString "next_file")) (pVar 0)) fun a => pBind (pC V.none) fun b => pOp fun σ => (isNotV σ a b).bind boolV)
  (sSeq (sExpr (pMeth (objK 289 (Str.ofString "varint") φ_Sink_varint) (pVar 1) (pList [(pC (V.int 3))])))
  (sSeq (sExpr (pMeth (objK 289 (Str.ofString "varint") φ_Sink_varint) (pVar 1) (pList [(pUn (attrV 352 (Str.ofString "next_file")) (pVar 0))])))
  sNil))
  sNil)
  (sSeq (sIf (pBind (pUn (attrV 352 (Str.ofString "last_seq")) (pVar 0)) fun a => pBind (pC V.none) fun b => pOp fun σ => (isNotV σ a b).bind boolV)
  (sSeq (sExpr (pMeth (objK 289 (Str.ofString "varint") φ_Sink_varint) (pVar 1) (pList [(pC (V.int 4))])))
  (sSeq (sExpr (pMeth (objK 289 (Str.ofString "varint") φ_Sink_varint) (pVar 1) (pList [(pUn (attrV 352 (Str.ofString "last_seq")) (pVar 0))])))
  sNil))
  sNil)
  (sSeq (sForE (stTup [2, 3]) (pOver (pUn (attrV 352 (Str.ofString "compact_pointers")) (pVar 0)))
  (sSeq (sExpr (pMeth (objK 289 (Str.ofString "varint") φ_Sink_varint) (pVar 1) (pList [(pC (V.int 5))])))
  (sSeq (sExpr (pMeth (objK 289 (Str.ofString "varint") φ_Sink_varint) (pVar 1) (pList [(pVar 2)])))
  (sSeq (sExpr (pMeth (objK 289 (Str.ofString "lengthed") φ_Sink_lengthed) (pVar 1) (pList [(pVar 3)])))
  sNil))))
  (sSeq (sForE (stTup [2, 4]) (pOver (pUn (attrV 352 (Str.ofString "deleted")) (pVar 0)))
  (sSeq (sExpr (pMeth (objK 289 (Str.ofString "varint") φ_Sink_varint) (pVar 1) (pList [(pC (V.int 6))])))
  (sSeq (sExpr (pMeth (objK 289 (Str.ofString "varint") φ_Sink_varint) (pVar 1) (pList [(pVar 2)])))
  (sSeq (sExpr (pMeth (objK 289 (Str.ofString "varint") φ_Sink_varint) (pVar 1) (pList [(pVar 4)])))
  sNil))))
  (sSeq (sForE (stTup [2, 5]) (pOver (pUn (attrV 352 (Str.ofString "added")) (pVar 0)))
  (sSeq (sExpr (pMeth (objK 289 (Str.ofString "varint") φ_Sink_varint) (pVar 1) (pList [(pC (V.int 7))])))
  (sSeq (sExpr (pMeth (objK 289 (Str.ofString "varint") φ_Sink_varint) (pVar 1) (pList [(pVar 2)])))
  (sSeq (sExpr (pMeth (objK 289 (Str.ofString "varint") φ_Sink_varint) (pVar 1) (pList [(pUn (attrV 317 (Str.ofString "number")) (pVar 5))])))
  (sSeq (sExpr (pMeth (objK 289 (Str.ofString "varint") φ_Sink_varint) (pVar 1) (pList [(pUn (attrV 317 (Str.ofString "size")) (pVar 5))])))
  (sSeq (sExpr (pMeth (objK 289 (Str.ofString "lengthed") φ_Sink_lengthed) (pVar 1) (pList [(pUn (attrV 317 (Str.ofString "smallest")) (pVar 5))])))
  (sSeq (sExpr (pMeth (objK 289 (Str.ofString "lengthed") φ_Sink_lengthed) (pVar 1) (pList [(pUn (attrV 317 (Str.ofString "largest")) (pVar 5))])))
  sNil)))))))
  (sSeq (sRet (pMeth (objK 289 (Str.ofString "done") φ_Sink_done) (pVar 1) (pList [])))
  sNil))))))))))
noncomputable def φ_VersionEdit_encode : Fn := fun σ vs => if vs.length = 1 then bodyOf F_VersionEdit_encode (fun i => vs[i]?) σ else .bad
theorem cf_VersionEdit_encode (G : Gd w mg mb B0) : CF true prog w mg mb B0 9 (fun ws => call (.ref 349) ws) φ_VersionEdit_encode := by
  refine CF.of_plain (d := 7) (names := [(Str.ofString "self")]) (vars := [(Str.ofString "self"), (Str.ofString "sink"), (Str.ofString "level"), (Str.ofString "ikey"), (Str.ofString "number"), (Str.ofString "meta")]) (F := F_VersionEdit_encode) (G.kx 349 _ rfl) rfl ⟨_, _, _, _, rfl, G.kx _ _ rfl, rfl, rfl⟩ rfl rfl rfl rfl rfl
    (all1 fun a0 => by rfl) ⟨_, rfl⟩ (by decide) (by decide) (by decide) rfl rfl rfl ?_ (by decide)
  unfold F_VersionEdit_encode
  exact (SL.cons (S1.set (SV.call_glob rfl (gl G rfl) (kk G rfl) (cf_Sink G) (by decide) SA.nil) (i := 1) rfl (by decide) rfl)
  (SL.cons (S1.if_ (ST.of (SV.attr (SV.var (i := 0) rfl) (ok_VersionEdit _) rfl))
  (SL.cons (S1.expr (SV.meth (SV.var (i := 1) rfl) (meth_obj (ok_Sink _) rfl rfl rfl (cf_Sink_varint G)) (by decide) (SA.cons (SV.glob (v := .int 10) rfl (gl G rfl) (fun _ _ => .int _ _)) SA.nil)))
  SL.nil)
  SL.nil)
  (SL.cons (S1.if_ (ST.cmp (SV.attr (SV.var (i := 0) rfl) (ok_VersionEdit _) rfl) SV.const_none q_isNot)
  (SL.cons (S1.expr (SV.meth (SV.var (i := 1) rfl) (meth_obj (ok_Sink _) rfl rfl rfl (cf_Sink_varint G)) (by decide) (SA.cons (SV.glob (v := .int 1) rfl (gl G rfl) (fun _ _ => .int _ _)) SA.nil)))
  (SL.cons (S1.expr (SV.meth (SV.var (i := 1) rfl) (meth_obj (ok_Sink _) rfl rfl rfl (cf_Sink_lengthed G)) (by decide) (SA.cons (SV.attr (SV.var (i := 0) rfl) (ok_VersionEdit _) rfl) SA.nil)))
  SL.nil))
  SL.nil)
  (SL.cons (S1.if_ (ST.cmp (SV.attr (SV.var (i := 0) rfl) (ok_VersionEdit _) rfl) SV.const_none q_isNot)
  (SL.cons (S1.expr (SV.meth (SV.var (i := 1) rfl) (meth_obj (ok_Sink _) rfl rfl rfl (cf_Sink_varint G)) (by decide) (SA.cons (SV.glob (v := .int 2) rfl (gl G rfl) (fun _ _ => .int _ _)) SA.nil)))
  (SL.cons (S1.expr (SV.meth (SV.var (i := 1) rfl) (meth_obj (ok_Sink _) rfl rfl rfl (cf_Sink_varint G)) (by decide) (SA.cons (SV.attr (SV.var (i := 0) rfl) (ok_VersionEdit _) rfl) SA.nil)))
  SL.nil))
  SL.nil)
  (SL.cons (S1.if_ (ST.cmp (SV.attr (SV.var (i := 0) rfl) (ok_VersionEdit _) rfl) SV.const_none q_isNot)
  (SL.cons (S1.expr (SV.meth (SV.var (i := 1) rfl) (meth_obj (ok_Sink _) rfl rfl rfl (cf_Sink_varint G)) (by decide) (SA.cons (SV.glob (v := .int 3) rfl (gl G rfl) (fun _ _ => .int _ _)) SA.nil)))
  (SL.cons (S1.expr (SV.meth (SV.var (i := 1) rfl) (meth_obj (ok_Sink _) rfl rfl rfl (cf_Sink_varint G)) (by decide) (SA.cons (SV.attr (SV.var (i := 0) rfl) (ok_VersionEdit _) rfl) SA.nil)))
  SL.nil))
  SL.nil)
  (SL.cons (S1.if_ (ST.cmp (SV.attr (SV.var (i := 0) rfl) (ok_VersionEdit _) rfl) SV.const_none q_isNot)
  (SL.cons (S1.expr (SV.meth (SV.var (i := 1) rfl) (meth_obj (ok_Sink _) rfl rfl rfl (cf_Sink_varint G)) (by decide) (SA.cons (SV.glob (v := .int 4) rfl (gl G rfl) (fun _ _ => .int _ _)) SA.nil)))
  (SL.cons (S1.expr (SV.meth (SV.var (i := 1) rfl) (meth_obj (ok_Sink _) rfl rfl rfl (cf_Sink_varint G)) (by decide) (SA.cons (SV.attr (SV.var (i := 0) rfl) (ok_VersionEdit _) rfl) SA.nil)))
  SL.nil))
  SL.nil)
  (SL.cons (S1.for_ (SI.value (SV.attr (SV.var (i := 0) rfl) (ok_VersionEdit _) rfl)) (TgtOk.tup (.cons (i := 2) rfl rfl (.cons (i := 3) rfl rfl .nil)) (by decide))
  (SL.cons (S1.expr (SV.meth (SV.var (i := 1) rfl) (meth_obj (ok_Sink _) rfl rfl rfl (cf_Sink_varint G)) (by decide) (SA.cons (SV.glob (v := .int 5) rfl (gl G rfl) (fun _ _ => .int _ _)) SA.nil)))
  (SL.cons (S1.expr (SV.meth (SV.var (i := 1) rfl) (meth_obj (ok_Sink _) rfl rfl rfl (cf_Sink_varint G)) (by decide) (SA.cons (SV.var (i := 2) rfl) SA.nil)))
  (SL.cons (S1.expr (SV.meth (SV.var (i := 1) rfl) (meth_obj (ok_Sink _) rfl rfl rfl (cf_Sink_lengthed G)) (by decide) (SA.cons (SV.var (i := 3) rfl) SA.nil)))
  SL.nil))))
  (SL.cons (S1.for_ (SI.value (SV.attr (SV.var (i := 0) rfl) (ok_VersionEdit _) rfl)) (TgtOk.tup (.cons (i := 2) rfl rfl (.cons (i := 4) rfl rfl .nil)) (by decide))
  (SL.cons (S1.expr (SV.meth (SV.var (i := 1) rfl) (meth_obj (ok_Sink _) rfl rfl rfl (cf_Sink_varint G)) (by decide) (SA.cons (SV.glob (v := .int 6) rfl (gl G rfl) (fun _ _ => .int _ _)) SA.nil)))
  (SL.cons (S1.expr (SV.meth (SV.var (i := 1) rfl) (meth_obj (ok_Sink _) rfl rfl rfl (cf_Sink_varint G)) (by decide) (SA.cons (SV.var (i := 2) rfl) SA.nil)))
  (SL.cons (S1.expr (SV.meth (SV.var (i := 1) rfl) (meth_obj (ok_Sink _) rfl rfl rfl (cf_Sink_varint G)) (by decide) (SA.cons (SV.var (i := 4) rfl) SA.nil)))
  SL.nil))))
  (SL.cons (S1.for_ (SI.value (SV.attr (SV.var (i := 0) rfl) (ok_VersionEdit _) rfl)) (TgtOk.tup (.cons (i := 2) rfl rfl (.cons (i := 5) rfl rfl .nil)) (by decide))
  (SL.cons (S1.expr (SV.meth (SV.var (i := 1) rfl) (meth_obj (ok_Sink _) rfl rfl rfl (cf_Sink_varint G)) (by decide) (SA.cons (SV.glob (v := .int 7) rfl (gl G rfl) (fun _ _ => .int _ _)) SA.nil)))
  (SL.cons (S1.expr (SV.meth (SV.var (i := 1) rfl) (meth_obj (ok_Sink _) rfl rfl rfl (cf_Sink_varint G)) (by decide) (SA.cons (SV.var (i := 2) rfl) SA.nil)))
  (SL.cons (S1.expr (SV.meth (SV.var (i := 1) rfl) (meth_obj (ok_Sink _) rfl rfl rfl (cf_Sink_varint G)) (by decide) (SA.cons (SV.attr (SV.var (i := 5) rfl) (ok_FileMeta _) rfl) SA.nil)))
  (SL.cons (S1.expr (SV.meth (SV.var (i := 1) rfl) (meth_obj (ok_Sink _) rfl rfl rfl (cf_Sink_varint G)) (by decide) (SA.cons (SV.attr (SV.var (i := 5) rfl) (ok_FileMeta _) rfl) SA.nil)))
  (SL.cons (S1.expr (SV.meth (SV.var (i := 1) rfl) (meth_obj (ok_Sink _) rfl rfl rfl (cf_Sink_lengthed G)) (by decide) (SA.cons (SV.attr (SV.var (i := 5) rfl) (ok_FileMeta _) rfl) SA.nil)))
  (SL.cons (S1.expr (SV.meth (SV.var (i := 1) rfl) (meth_obj (ok_Sink _) rfl rfl rfl (cf_Sink_lengthed G)) (by decide) (SA.cons (SV.attr (SV.var (i := 5) rfl) (ok_FileMeta _) rfl) SA.nil)))
  SL.nil)))))))
  (SL.cons (S1.ret (SV.meth (SV.var (i := 1) rfl) (meth_obj (ok_Sink _) rfl rfl rfl (cf_Sink_done G)) (by decide) SA.nil))
  SL.nil))))))))))
noncomputable def F_read_level : Loc → List Cell → RS := (sSeq (sSet 1 (pMeth (objK 212 (Str.ofString "varint") φ_Cursor_varint) (pVar 0) (pList [])))
  (sSeq (sIf (pBind (pVar 1) fun a => pBind (pC (V.int 12)) fun b => pOp fun σ => (geV σ a b).bind boolV)
  (sSeq (sRaise 56 (pList [(pC (V.str (Str.ofString "edit: level "))), (pFmt (pVar 1)), (pC (V.str (Str.ofString " is out of reach")))]))
  sNil)
  sNil)
  (sSeq (sRet (pVar 1))
  sNil)))
noncomputable def φ_read_level : Fn := fun σ vs => if vs.length = 1 then bodyOf F_read_level (fun i => vs[i]?) σ else .bad
theorem cf_read_level (G : Gd w mg mb B0) : CF true prog w mg mb B0 9 (fun ws => call (.ref 363) ws) φ_read_level := by
  refine CF.of_plain (d := 7) (names := [(Str.ofString "cursor")]) (vars := [(Str.ofString "cursor"), (Str.ofString "level")]) (F := F_read_level) (G.kx 363 _ rfl) rfl ⟨_, _, _, _, rfl, G.kx _ _ rfl, rfl, rfl⟩ rfl rfl rfl rfl rfl
    (all1 fun a0 => by rfl) ⟨_, rfl⟩ (by decide) (by decide) (by decide) rfl rfl rfl ?_ (by decide)
  unfold F_read_level
  exact (SL.cons (S1.set (SV.meth (SV.var (i := 0) rfl) (meth_obj (ok_Cursor _) rfl rfl rfl (cf_Cursor_varint G)) (by decide) SA.nil) (i := 1) rfl (by decide) rfl)
  (SL.cons (S1.if_ (ST.cmp (SV.var (i := 1) rfl) (SV.glob (v := .int 12) rfl (gl G rfl) (fun _ _ => .int _ _)) q_ge)
  (SL.cons (S1.raise rfl rfl (by kernel_rfl) _root_.PySem.F.excBase_Exception (SG.joined (.cons SF.const (.cons (SF.fmt (SV.var (i := 1) rfl)) (.cons SF.const .nil))) (by decide)))
  SL.nil)
  SL.nil)
  (SL.cons (S1.ret (SV.var (i := 1) rfl))
  SL.nil)))
noncomputable def F_read_ikey : Loc → List Cell → RS := (sSeq (sSet 1 (pMeth (objK 212 (Str.ofString "lengthed") φ_Cursor_lengthed) (pVar 0) (pList [])))
  (sSeq (sIf (pBind (pCall (fn1 lenV) [] (pList [(pVar 1)])) fun a => pBind (pC (V.int 0)) fun b => pOp fun σ => (eqV σ a b).bind boolV)
  (sSeq (sRaise 56 (pC (V.str (Str.ofString "edit: an empty internal key"))))
  sNil)
  sNil)
  (sSeq (sRet (pVar 1))
  sNil)))
noncomputable def φ_read_ikey : Fn := fun σ vs => if vs.length = 1 then bodyOf F_read_ikey (fun i => vs[i]?) σ else .bad
theorem cf_read_ikey (G : Gd w mg mb B0) : CF true prog w mg mb B0 11 (fun ws => call (.ref 370) ws) φ_read_ikey := by
  refine CF.of_plain (d := 9) (names := [(Str.ofString "cursor")]) (vars := [(Str.ofString "cursor"), (Str.ofString "ikey")]) (F := F_read_ikey) (G.kx 370 _ rfl) rfl ⟨_, _, _, _, rfl, G.kx _ _ rfl, rfl, rfl⟩ rfl rfl rfl rfl rfl
    (all1 fun a0 => by rfl) ⟨_, rfl⟩ (by decide) (by decide) (by decide) rfl rfl rfl ?_ (by decide)
  unfold F_read_ikey
  exact (SL.cons (S1.set (SV.meth (SV.var (i := 0) rfl) (meth_obj (ok_Cursor _) rfl rfl rfl (cf_Cursor_lengthed G)) (by decide) SA.nil) (i := 1) rfl (by decide) rfl)
  (SL.cons (S1.if_ (ST.cmp (SV.call_builtin rfl (gn G rfl) bb_len (by decide) kok_builtin (CF.fn1 (d := 0) q_len (fun _ => rfl)) (by decide) (SA.cons (SV.var (i := 1) rfl) SA.nil)) SV.const_int q_eq)
  (SL.cons (S1.raise rfl rfl (by kernel_rfl) _root_.PySem.F.excBase_Exception SG.constStr)
  SL.nil)
  SL.nil)
  (SL.cons (S1.ret (SV.var (i := 1) rfl))
  SL.nil)))
end
end NZ
namespace NZ
open _root_.PySem _root_.PySem.W _root_.PySem.Calls PyProof.Rows _root_.PySem.SeqAt
section
variable {prog : Program} {w : World} {mg mb : Str → Option Value} {B0 : Heap}
noncomputable def F_decode_edit : Loc → List Cell → RS := (sSeq (sSet 1 (pCall φ_VersionEdit [] (pList [])))
  (sSeq (sSet 2 (pCall φ_Cursor [] (pList [(pVar 0)])))
  (sSeq (sWhile (pBind (pMeth (objK 212 (Str.ofString "left") φ_Cursor_left) (pVar 2) (pList [])) fun a => pBind (pC (V.int 0)) fun b => pOp fun σ => (gtV σ a b).bind boolV)
  (sSeq (sSet 3 (pMeth (objK 212 (Str.ofString "varint") φ_Cursor_varint) (pVar 2) (pList [])))
  (sSeq (sIf (pBind (pVar 3) fun a => pBind (pC (V.int 1)) fun b => pOp fun σ => (eqV σ a b).bind boolV)
  (sSeq (sSetAttr 352 (Str.ofString "comparator") (pVar 1) (pMeth (objK 212 (Str.ofString "lengthed") φ_Cursor_lengthed) (pVar 2) (pList [])))
  sNil)
  (sSeq (sIf (pBind (pVar 3) fun a => pBind (pC (V.int 2)) fun b => pOp fun σ => (eqV σ a b).bind boolV)
  (sSeq (sSetAttr 352 (Str.ofString "log_number") (pVar 1) (pMeth (objK 212 (Str.ofString "varint") φ_Cursor_varint) (pVar 2) (pList [])))
  sNil)
  (sSeq (sIf (pBind (pVar 3) fun a => pBind (pC (V.int 3)) fun b => pOp fun σ => (eqV σ a b).bind boolV)
  (sSeq (sSetAttr 352 (Str.ofString "next_file") (pVar 1) (pMeth (objK 212 (Str.ofString "varint") φ_Cursor_varint) (pVar 2) (pList [])))
  sNil)
  (sSeq (sIf (pBind (pVar 3) fun a => pBind (pC (V.int 4)) fun b => pOp fun σ => (eqV σ a b).bind boolV)
  (sSeq (sSetAttr 352 (Str.ofString "last_seq") (pVar 1) (pMeth (objK 212 (Str.ofString "varint") φ_Cursor_varint) (pVar 2) (pList [])))
  sNil)
  (sSeq (sIf (pBind (pVar 3) fun a => pBind (pC (V.int 5)) fun b => pOp fun σ => (eqV σ a b).bind boolV)
  (sSeq (sSet 4 (pCall φ_read_level [] (pList [(pVar 2)])))
  (sSeq (sExpr (pMeth appendK (pUn (attrV 352 (Str.ofString "compact_pointers")) (pVar 1)) (pList [(pTup (pList [(pVar 4), (pCall φ_read_ikey [] (pList [(pVar 2)]))]))])))
  sNil))
  (sSeq (sIf (pBind (pVar 3) fun a => pBind (pC (V.int 6)) fun b => pOp fun σ => (eqV σ a b).bind boolV)
  (sSeq (sSet 4 (pCall φ_read_level [] (pList [(pVar 2)])))
  (sSeq (sExpr (pMeth appendK (pUn (attrV 352 (Str.ofString "deleted")) (pVar 1)) (pList [(pTup (pList [(pVar 4), (pMeth (objK 212 (Str.ofString "varint") φ_Cursor_varint) (pVar 2) (pList []))]))])))
  sNil))
  (sSeq (sIf (pBind (pVar 3) fun a => pBind (pC (V.int 7)) fun b => pOp fun σ => (eqV σ a b).bind boolV)
  (sSeq (sSet 4 (pCall φ_read_level [] (pList [(pVar 2)])))
  (sSeq (sSet 5 (pMeth (objK 212 (Str.ofString "varint") φ_Cursor_varint) (pVar 2) (pList [])))
  (sSeq (sSet 6 (pMeth (objK 212 (Str.ofString "varint") φ_Cursor_varint) (pVar 2) (pList [])))
  (sSeq (sSet 7 (pCall φ_read_ikey [] (pList [(pVar 2)])))
  (sSeq (sSet 8 (pCall φ_read_ikey [] (pList [(pVar 2)])))
  (sSeq (sExpr (pMeth appendK (pUn (attrV 352 (Str.ofString "added")) (pVar 1)) (pList [(pTup (pList [(pVar 4), (pCall φ_FileMeta [] (pList [(pVar 5), (pVar 6), (pVar 7), (pVar 8)]))]))])))
  sNil))))))
  (sSeq (sIf (pBind (pVar 3) fun a => pBind (pC (V.int 10)) fun b => pOp fun σ => (eqV σ a b).bind boolV)
  (sSeq (sSetAttr 352 (Str.ofString "reset") (pVar 1) (pC (V.bool true)))
  sNil)
  (sSeq (sRaise 56 (pList [(pC (V.str (Str.ofString "edit: unknown tag "))), (pFmt (pVar 3))]))
  sNil))
  sNil))
  sNil))
  sNil))
  sNil))
  sNil))
  sNil))
  sNil))
  sNil)))
  (sSeq (sRet (pVar 1))
  sNil))))
noncomputable def φ_decode_edit : Fn := fun σ vs => if vs.length = 1 then bodyOf F_decode_edit (fun i => vs[i]?) σ else .bad
theorem cf_decode_edit (G : Gd w mg mb B0) : CF true prog w mg mb B0 13 (fun ws => call (.ref 377) ws) φ_decode_edit := by
  refine CF.of_plain (d := 11) (names := [(Str.ofString "data")]) (vars := [(Str.ofString "data"), (Str.ofString "edit"), (Str.ofString "cursor"), (Str.ofString "tag"), (Str.ofString "level"), (Str.ofString "number"), (Str.ofString "size"), (Str.ofString "smallest"), (Str.ofString "largest")]) (F := F_decode_edit) (G.kx 377 _ rfl) rfl ⟨_, _, _, _, rfl, G.kx _ _ rfl, rfl, rfl⟩ rfl rfl rfl rfl rfl
    (all1 fun a0 => by rfl) ⟨_, rfl⟩ (by decide) (by decide) (by decide) rfl rfl rfl ?_ (by decide)
  unfold F_decode_edit
  exact (SL.cons (S1.set (SV.call_glob rfl (gl G rfl) (kk G rfl) (cf_VersionEdit G) (by decide) SA.nil) (i := 1) rfl (by decide) rfl)
  (SL.cons (S1.set (SV.call_glob rfl (gl G rfl) (kk G rfl) (cf_Cursor G) (by decide) (SA.cons (SV.var (i := 0) rfl) SA.nil)) (i := 2) rfl (by decide) rfl)
  (SL.cons (S1.while_ (ST.cmp (SV.meth (SV.var (i := 2) rfl) (meth_obj (ok_Cursor _) rfl rfl rfl (cf_Cursor_left G)) (by decide) SA.nil) SV.const_int q_gt)
  (SL.cons (S1.set (SV.meth (SV.var (i := 2) rfl) (meth_obj (ok_Cursor _) rfl rfl rfl (cf_Cursor_varint G)) (by decide) SA.nil) (i := 3) rfl (by decide) rfl)
  (SL.cons (S1.if_ (ST.cmp (SV.var (i := 3) rfl) (SV.glob (v := .int 1) rfl (gl G rfl) (fun _ _ => .int _ _)) q_eq)
  (SL.cons (S1.setattr (SV.meth (SV.var (i := 2) rfl) (meth_obj (ok_Cursor _) rfl rfl rfl (cf_Cursor_lengthed G)) (by decide) SA.nil) (SV.var (i := 1) rfl) (ok_VersionEdit _) rfl)
  SL.nil)
  (SL.cons (S1.if_ (ST.cmp (SV.var (i := 3) rfl) (SV.glob (v := .int 2) rfl (gl G rfl) (fun _ _ => .int _ _)) q_eq)
  (SL.cons (S1.setattr (SV.meth (SV.var (i := 2) rfl) (meth_obj (ok_Cursor _) rfl rfl rfl (cf_Cursor_varint G)) (by decide) SA.nil) (SV.var (i := 1) rfl) (ok_VersionEdit _) rfl)
  SL.nil)
  (SL.cons (S1.if_ (ST.cmp (SV.var (i := 3) rfl) (SV.glob (v := .int 3) rfl (gl G rfl) (fun _ _ => .int _ _)) q_eq)
  (SL.cons (S1.setattr (SV.meth (SV.var (i := 2) rfl) (meth_obj (ok_Cursor _) rfl rfl rfl (cf_Cursor_varint G)) (by decide) SA.nil) (SV.var (i := 1) rfl) (ok_VersionEdit _) rfl)
  SL.nil)
  (SL.cons (S1.if_ (ST.cmp (SV.var (i := 3) rfl) (SV.glob (v := .int 4) rfl (gl G rfl) (fun _ _ => .int _ _)) q_eq)
  (SL.cons (S1.setattr (SV.meth (SV.var (i := 2) rfl) (meth_obj (ok_Cursor _) rfl rfl rfl (cf_Cursor_varint G)) (by decide) SA.nil) (SV.var (i := 1) rfl) (ok_VersionEdit _) rfl)
  SL.nil)
  (SL.cons (S1.if_ (ST.cmp (SV.var (i := 3) rfl) (SV.glob (v := .int 5) rfl (gl G rfl) (fun _ _ => .int _ _)) q_eq)
  (SL.cons (S1.set (SV.call_glob rfl (gl G rfl) (kk G rfl) (cf_read_level G) (by decide) (SA.cons (SV.var (i := 2) rfl) SA.nil)) (i := 4) rfl (by decide) rfl)
  (SL.cons (S1.expr (SV.meth (SV.attr (SV.var (i := 1) rfl) (ok_VersionEdit _) rfl) (meth_append (d := 0)) (by decide) (SA.cons (SV.tuple (SA.cons (SV.var (i := 4) rfl) (SA.cons (SV.call_glob rfl (gl G rfl) (kk G rfl) (cf_read_ikey G) (by decide) (SA.cons (SV.var (i := 2) rfl) SA.nil)) SA.nil))) SA.nil)))
  SL.nil))
  (SL.cons (S1.if_ (ST.cmp (SV.var (i := 3) rfl) (SV.glob (v := .int 6) rfl (gl G rfl) (fun _ _ => .int _ _)) q_eq)
  (SL.cons (S1.set (SV.call_glob rfl (gl G rfl) (kk G rfl) (cf_read_level G) (by decide) (SA.cons (SV.var (i := 2) rfl) SA.nil)) (i := 4) rfl (by decide) rfl)
  (SL.cons (S1.expr (SV.meth (SV.attr (SV.var (i := 1) rfl) (ok_VersionEdit _) rfl) (meth_append (d := 0)) (by decide) (SA.cons (SV.tuple (SA.cons (SV.var (i := 4) rfl) (SA.cons (SV.meth (SV.var (i := 2) rfl) (meth_obj (ok_Cursor _) rfl rfl rfl (cf_Cursor_varint G)) (by decide) SA.nil) SA.nil))) SA.nil)))
  SL.nil))
  (SL.cons (S1.if_ (ST.cmp (SV.var (i := 3) rfl) (SV.glob (v := .int 7) rfl (gl G rfl) (fun _ _ => .int _ _)) q_eq)
  (SL.cons (S1.set (SV.call_glob rfl (gl G rfl) (kk G rfl) (cf_read_level G) (by decide) (SA.cons (SV.var (i := 2) rfl) SA.nil)) (i := 4) rfl (by decide) rfl)
  (SL.cons (S1.set (SV.meth (SV.var (i := 2) rfl) (meth_obj (ok_Cursor _) rfl rfl rfl (cf_Cursor_varint G)) (by decide) SA.nil) (i := 5) rfl (by decide) rfl)
  (SL.cons (S1.set (SV.meth (SV.var (i := 2) rfl) (meth_obj (ok_Cursor _) rfl rfl rfl (cf_Cursor_varint G)) (by decide) SA.nil) (i := 6) rfl (by decide) rfl)
  (SL.cons (S1.set (SV.call_glob rfl (gl G rfl) (kk G rfl) (cf_read_ikey G) (by decide) (SA.cons (SV.var (i := 2) rfl) SA.nil)) (i := 7) rfl (by decide) rfl)
  (SL.cons (S1.set (SV.call_glob rfl (gl G rfl) (kk G rfl) (cf_read_ikey G) (by decide) (SA.cons (SV.var (i := 2) rfl) SA.nil)) (i := 8) rfl (by decide) rfl)
  (SL.cons (S1.expr (SV.meth (SV.attr (SV.var (i := 1) rfl) (ok_VersionEdit _) rfl) (meth_append (d := 0)) (by decide) (SA.cons (SV.tuple (SA.cons (SV.var (i := 4) rfl) (SA.cons (SV.call_glob rfl (gl G rfl) (kk G rfl) (cf_FileMeta G) (by decide) (SA.cons (SV.var (i := 5) rfl) (SA.cons (SV.var (i := 6) rfl) (SA.cons (SV.var (i := 7) rfl) (SA.cons (SV.var (i := 8) rfl) SA.nil))))) SA.nil))) SA.nil)))
  SL.nil))))))
  (SL.cons (S1.if_ (ST.cmp (SV.var (i := 3) rfl) (SV.glob (v := .int 10) rfl (gl G rfl) (fun _ _ => .int _ _)) q_eq)
  (SL.cons (S1.setattr SV.const_bool (SV.var (i := 1) rfl) (ok_VersionEdit _) rfl)
  SL.nil)
  (SL.cons (S1.raise rfl rfl (by kernel_rfl) _root_.PySem.F.excBase_Exception (SG.joined (.cons SF.const (.cons (SF.fmt (SV.var (i := 3) rfl)) .nil)) (by decide)))
  SL.nil))
  SL.nil))
  SL.nil))
  SL.nil))
  SL.nil))
  SL.nil))
  SL.nil))
  SL.nil))
  SL.nil)))
  (SL.cons (S1.ret (SV.var (i := 1) rfl))
  SL.nil))))
noncomputable def F_told1 : Loc → List Cell → RS := (sSet 1 (pCall φ_decode_edit [] (pList [(pVar 0)])))
noncomputable def F_told2 : Loc → List Cell → RS := (sSeq (sRet (pTup (pList [(pC (V.int 0)), (pMeth (objK 352 (Str.ofString "row") φ_VersionEdit_row) (pVar 1) (pList [])), (pMeth (objK 352 (Str.ofString "encode") φ_VersionEdit_encode) (pVar 1) (pList []))])))
  sNil)
noncomputable def φ_told : List V → Option V := toldφ F_told1 F_told2 (.tup [.int 1, .none, .bytes []]) (.tup [.int 2, .none, .bytes []]) 68 56
theorem ct_told (G : Gd w mg mb B0) : CT true prog w mg mb B0 15 (fun ws => call (.ref 449) ws) φ_told := by
  refine CT.of_told (d := 13) (names := [(Str.ofString "data")]) (vars := [(Str.ofString "data"), (Str.ofString "edit")]) (F1 := F_told1) (F2 := F_told2) (G.kx 449 _ rfl) rfl ⟨_, _, _, _, rfl, G.kx _ _ rfl, rfl, rfl⟩ rfl rfl rfl rfl rfl
    (all1 fun a0 => by rfl) ⟨_, rfl⟩ (by decide) rfl (by decide) (by decide) rfl rfl rfl rfl rfl (gl G rfl) (gl G rfl) (by decide) (by decide) (by kernel_rfl) (by kernel_rfl) (by kernel_rfl) ?_ ?_ CTup.int_none_bytes CTup.int_none_bytes (by decide)
  · unfold F_told1
    exact (S1.set (SV.call_glob rfl (gl G rfl) (kk G rfl) (cf_decode_edit G) (by decide) (SA.cons (SV.var (i := 0) rfl) SA.nil)) (i := 1) rfl (by decide) rfl)
  · unfold F_told2
    exact (SL.cons (S1.ret (SV.tuple (SA.cons SV.const_int (SA.cons (SV.meth (SV.var (i := 1) rfl) (meth_obj (ok_VersionEdit _) rfl rfl rfl (cf_VersionEdit_row G)) (by decide) SA.nil) (SA.cons (SV.meth (SV.var (i := 1) rfl) (meth_obj (ok_VersionEdit _) rfl rfl rfl (cf_VersionEdit_encode G)) (by decide) SA.nil) SA.nil)))))
  SL.nil)
end
end NZ
namespace NZ
open _root_.PySem _root_.PySem.W _root_.PySem.Calls PyProof.Rows _root_.PySem.SeqAt
section
variable {prog : Program} {w : World} {mg mb : Str → Option Value} {B0 : Heap}
noncomputable def F__law_draw : Loc → List Cell → RS := (sSeq (sRet (pBin addV (pBin itemV (pVar 0) (pBin modV (pVar 1) (pCall (fn1 lenV) [] (pList [(pVar 0)])))) (pBin mulV (pC (V.int 31)) (pBin fdivV (pVar 1) (pCall (fn1 lenV) [] (pList [(pVar 0)]))))))
  sNil)
noncomputable def φ__law_draw : Fn := fun σ vs => if vs.length = 2 then bodyOf F__law_draw (fun i => vs[i]?) σ else .bad
theorem cf__law_draw (G : Gd w mg mb B0) : CF true prog w mg mb B0 3 (fun ws => call (.ref 392) ws) φ__law_draw := by
  refine CF.of_plain (d := 1) (names := [(Str.ofString "nums"), (Str.ofString "i")]) (vars := [(Str.ofString "nums"), (Str.ofString "i")]) (F := F__law_draw) (G.kx 392 _ rfl) rfl ⟨_, _, _, _, rfl, G.kx _ _ rfl, rfl, rfl⟩ rfl rfl rfl rfl rfl
    (all2 fun a0 a1 => by rfl) ⟨_, rfl⟩ (by decide) (by decide) (by decide) rfl rfl rfl ?_ (by decide)
  unfold F__law_draw
  exact (SL.cons (S1.ret (SV.bin (SV.item (SV.var (i := 0) rfl) (SV.bin (SV.var (i := 1) rfl) (SV.call_builtin rfl (gn G rfl) bb_len (by decide) kok_builtin (CF.fn1 (d := 0) q_len (fun _ => rfl)) (by decide) (SA.cons (SV.var (i := 0) rfl) SA.nil)) q_mod)) (SV.bin SV.const_int (SV.bin (SV.var (i := 1) rfl) (SV.call_builtin rfl (gn G rfl) bb_len (by decide) kok_builtin (CF.fn1 (d := 0) q_len (fun _ => rfl)) (by decide) (SA.cons (SV.var (i := 0) rfl) SA.nil)) q_fdiv) q_mul) q_add))
  SL.nil)
noncomputable def F__law_varint : Loc → List Cell → RS := (sSeq (sSet 1 (pC (V.bytes [])))
  (sSeq (sWhile (pBind (pVar 0) fun a => pBind (pC (V.int 128)) fun b => pOp fun σ => (geV σ a b).bind boolV)
  (sSeq (sSet 1 (pBin addV (pVar 1) (pCall (fn1 bytesV) [] (pList [(pNewList (pList [(pBin addV (pBin modV (pVar 0) (pC (V.int 128))) (pC (V.int 128)))]))]))))
  (sSeq (sSet 0 (pBin fdivV (pVar 0) (pC (V.int 128))))
  sNil)))
  (sSeq (sRet (pBin addV (pVar 1) (pCall (fn1 bytesV) [] (pList [(pNewList (pList [(pVar 0)]))]))))
  sNil)))
noncomputable def ψ__law_varint : Fn := fun σ vs => if vs.length = 1 then bodyOf F__law_varint (fun i => vs[i]?) σ else .bad
theorem cg__law_varint (G : Gd w mg mb B0) : CF true prog w mg mb B0 3 (fun ws => call (.ref 399) ws) ψ__law_varint := by
  refine CF.of_plain (d := 1) (names := [(Str.ofString "n")]) (vars := [(Str.ofString "n"), (Str.ofString "out")]) (F := F__law_varint) (G.kx 399 _ rfl) rfl ⟨_, _, _, _, rfl, G.kx _ _ rfl, rfl, rfl⟩ rfl rfl rfl rfl rfl
    (all1 fun a0 => by rfl) ⟨_, rfl⟩ (by decide) (by decide) (by decide) rfl rfl rfl ?_ (by decide)
  unfold F__law_varint
  exact (SL.cons (S1.set SV.const_bytes (i := 1) rfl (by decide) rfl)
  (SL.cons (S1.while_ (ST.cmp (SV.var (i := 0) rfl) SV.const_int q_ge)
  (SL.cons (S1.set (SV.bin (SV.var (i := 1) rfl) (SV.call_builtin rfl (gn G rfl) bb_bytes (by decide) kok_type (CF.fn1 (d := 0) q_bytes (fun _ => rfl)) (by decide) (SA.cons (SV.list (SA.cons (SV.bin (SV.bin (SV.var (i := 0) rfl) SV.const_int q_mod) SV.const_int q_add) SA.nil)) SA.nil)) q_add) (i := 1) rfl (by decide) rfl)
  (SL.cons (S1.set (SV.bin (SV.var (i := 0) rfl) SV.const_int q_fdiv) (i := 0) rfl (by decide) rfl)
  SL.nil)))
  (SL.cons (S1.ret (SV.bin (SV.var (i := 1) rfl) (SV.call_builtin rfl (gn G rfl) bb_bytes (by decide) kok_type (CF.fn1 (d := 0) q_bytes (fun _ => rfl)) (by decide) (SA.cons (SV.list (SA.cons (SV.var (i := 0) rfl) SA.nil)) SA.nil)) q_add))
  SL.nil)))
noncomputable def φ__law_varint : Fn := frameφ ψ__law_varint
theorem cf__law_varint (G : Gd w mg mb B0) : CF true prog w mg mb B0 3 (fun ws => call (.ref 399) ws) φ__law_varint := CF.frame (cg__law_varint G)
noncomputable def F__law_lengthed : Loc → List Cell → RS := (sSeq (sRet (pBin addV (pCall φ__law_varint [] (pList [(pCall (fn1 lenV) [] (pList [(pVar 0)]))])) (pVar 0)))
  sNil)
noncomputable def ψ__law_lengthed : Fn := fun σ vs => if vs.length = 1 then bodyOf F__law_lengthed (fun i => vs[i]?) σ else .bad
theorem cg__law_lengthed (G : Gd w mg mb B0) : CF true prog w mg mb B0 5 (fun ws => call (.ref 406) ws) ψ__law_lengthed := by
  refine CF.of_plain (d := 3) (names := [(Str.ofString "word")]) (vars := [(Str.ofString "word")]) (F := F__law_lengthed) (G.kx 406 _ rfl) rfl ⟨_, _, _, _, rfl, G.kx _ _ rfl, rfl, rfl⟩ rfl rfl rfl rfl rfl
    (all1 fun a0 => by rfl) ⟨_, rfl⟩ (by decide) (by decide) (by decide) rfl rfl rfl ?_ (by decide)
  unfold F__law_lengthed
  exact (SL.cons (S1.ret (SV.bin (SV.call_glob rfl (gl G rfl) (kk G rfl) (cf__law_varint G) (by decide) (SA.cons (SV.call_builtin rfl (gn G rfl) bb_len (by decide) kok_builtin (CF.fn1 (d := 0) q_len (fun _ => rfl)) (by decide) (SA.cons (SV.var (i := 0) rfl) SA.nil)) SA.nil)) (SV.var (i := 0) rfl) q_add))
  SL.nil)
noncomputable def φ__law_lengthed : Fn := frameφ ψ__law_lengthed
theorem cf__law_lengthed (G : Gd w mg mb B0) : CF true prog w mg mb B0 5 (fun ws => call (.ref 406) ws) φ__law_lengthed := CF.frame (cg__law_lengthed G)
noncomputable def F__law_token : Loc → List Cell → RS := (sSeq (sSet 1 (pBin modV (pVar 0) (pC (V.int 11))))
  (sSeq (sSet 2 (pBin fdivV (pVar 0) (pC (V.int 11))))
  (sSeq (sIf (pBind (pVar 1) fun a => pBind (pC (V.int 8)) fun b => pOp fun σ => (eqV σ a b).bind boolV)
  (sSeq (sRet (pCall (fn1 bytesV) [] (pList [(pNewList (pList [(pBin modV (pVar 2) (pC (V.int 256)))]))])))
  sNil)
  sNil)
  (sSeq (sIf (pIf (pBind (pVar 1) fun a => pBind (pC (V.int 9)) fun b => pOp fun σ => (eqV σ a b).bind boolV) (pIf (pBind (pBin modV (pBin fdivV (pVar 2) (pC (V.int 384))) (pC (V.int 4))) fun a => pBind (pC (V.int 3)) fun b => pOp fun σ => (eqV σ a b).bind boolV) (pC true) (pC false)) (pC false))
  (sSeq (sRet (pBin addV (pBin mulV (pCall (fn1 bytesV) [] (pList [(pNewList (pList [(pC (V.int 128))]))])) (pC (V.int 4))) (pCall (fn1 bytesV) [] (pList [(pNewList (pList [(pBin modV (pVar 2) (pC (V.int 128)))]))]))))
  sNil)
  sNil)
  (sSeq (sIf (pBind (pVar 1) fun a => pBind (pC (V.int 9)) fun b => pOp fun σ => (eqV σ a b).bind boolV)
  (sSeq (sRet (pCall (fn1 bytesV) [] (pList [(pNewList (pList [(pBin addV (pC (V.int 128)) (pBin modV (pVar 2) (pC (V.int 128)))), (pBin modV (pBin fdivV (pVar 2) (pC (V.int 128))) (pC (V.int 3)))]))])))
  sNil)
  sNil)
  (sSeq (sIf (pBind (pVar 1) fun a => pBind (pC (V.int 10)) fun b => pOp fun σ => (eqV σ a b).bind boolV)
  (sSeq (sRet (pBin addV (pBin mulV (pCall (fn1 bytesV) [] (pList [(pNewList (pList [(pC (V.int 255))]))])) (pC (V.int 9))) (pCall (fn1 bytesV) [] (pList [(pNewList (pList [(pBin modV (pVar 2) (pC (V.int 4)))]))]))))
  sNil)
  sNil)
  (sSeq (sSet 3 (pCall (fn1 bytesV) [] (pList [(pNewList (pList [(pBin itemV (pC lawTags) (pVar 1))]))])))
  (sSeq (sForE (stName 4) (pOver (pUn formV (pBin itemV (pC lawTags) (pVar 1))))
  (sSeq (sIf (pBind (pVar 4) fun a => pBind (pC (V.str (Str.ofString "l"))) fun b => pOp fun σ => (eqV σ a b).bind boolV)
  (sSeq (sSet 3 (pBin addV (pVar 3) (pCall (fn1 bytesV) [] (pList [(pNewList (pList [(pBin modV (pVar 2) (pC (V.int 13)))]))]))))
  sNil)
  (sSeq (sIf (pBind (pVar 4) fun a => pBind (pC (V.str (Str.ofString "n"))) fun b => pOp fun σ => (eqV σ a b).bind boolV)
  (sSeq (sSet 5 (pBin modV (pVar 2) (pC (V.int 200))))
  (sSeq (sIf (pBind (pBin modV (pVar 2) (pC (V.int 23))) fun a => pBind (pC (V.int 22)) fun b => pOp fun σ => (eqV σ a b).bind boolV)
  (sSeq (sSet 5 (pBin addV (pBin subV (pBin powV (pC (V.int 2)) (pC (V.int 64))) (pC (V.int 1))) (pBin modV (pBin fdivV (pVar 2) (pC (V.int 23))) (pC (V.int 2)))))
  sNil)
  sNil)
  (sSeq (sSet 3 (pBin addV (pVar 3) (pCall φ__law_varint [] (pList [(pVar 5)]))))
  sNil)))
  (sSeq (sSet 3 (pBin addV (pVar 3) (pCall φ__law_lengthed [] (pList [(pSlice (pC (V.bytes [255, 0, 5])) (pC V.none) (pBin modV (pVar 2) (pC (V.int 4))))]))))
  sNil))
  sNil))
  (sSeq (sSet 2 (pBin addV (pBin fdivV (pVar 2) (pC (V.int 7))) (pC (V.int 2))))
  sNil)))
  (sSeq (sRet (pVar 3))
  sNil)))))))))
noncomputable def ψ__law_token : Fn := fun σ vs => if vs.length = 1 then bodyOf F__law_token (fun i => vs[i]?) σ else .bad
theorem cg__law_token (G : Gd w mg mb B0) : CF true prog w mg mb B0 7 (fun ws => call (.ref 413) ws) ψ__law_token := by
  refine CF.of_plain (d := 5) (names := [(Str.ofString "y")]) (vars := [(Str.ofString "y"), (Str.ofString "what"), (Str.ofString "q"), (Str.ofString "out"), (Str.ofString "letter"), (Str.ofString "n")]) (F := F__law_token) (G.kx 413 _ rfl) rfl ⟨_, _, _, _, rfl, G.kx _ _ rfl, rfl, rfl⟩ rfl rfl rfl rfl rfl
    (all1 fun a0 => by rfl) ⟨_, rfl⟩ (by decide) (by decide) (by decide) rfl rfl rfl ?_ (by decide)
  unfold F__law_token
  exact (SL.cons (S1.set (SV.bin (SV.var (i := 0) rfl) SV.const_int q_mod) (i := 1) rfl (by decide) rfl)
  (SL.cons (S1.set (SV.bin (SV.var (i := 0) rfl) SV.const_int q_fdiv) (i := 2) rfl (by decide) rfl)
  (SL.cons (S1.if_ (ST.cmp (SV.var (i := 1) rfl) SV.const_int q_eq)
  (SL.cons (S1.ret (SV.call_builtin rfl (gn G rfl) bb_bytes (by decide) kok_type (CF.fn1 (d := 0) q_bytes (fun _ => rfl)) (by decide) (SA.cons (SV.list (SA.cons (SV.bin (SV.var (i := 2) rfl) SV.const_int q_mod) SA.nil)) SA.nil)))
  SL.nil)
  SL.nil)
  (SL.cons (S1.if_ (ST.boolop (SB.and_cons (ST.cmp (SV.var (i := 1) rfl) SV.const_int q_eq) (SB.and_cons (ST.cmp (SV.bin (SV.bin (SV.var (i := 2) rfl) SV.const_int q_fdiv) SV.const_int q_mod) SV.const_int q_eq) SB.and_nil)))
  (SL.cons (S1.ret (SV.bin (SV.bin (SV.call_builtin rfl (gn G rfl) bb_bytes (by decide) kok_type (CF.fn1 (d := 0) q_bytes (fun _ => rfl)) (by decide) (SA.cons (SV.list (SA.cons SV.const_int SA.nil)) SA.nil)) SV.const_int q_mul) (SV.call_builtin rfl (gn G rfl) bb_bytes (by decide) kok_type (CF.fn1 (d := 0) q_bytes (fun _ => rfl)) (by decide) (SA.cons (SV.list (SA.cons (SV.bin (SV.var (i := 2) rfl) SV.const_int q_mod) SA.nil)) SA.nil)) q_add))
  SL.nil)
  SL.nil)
  (SL.cons (S1.if_ (ST.cmp (SV.var (i := 1) rfl) SV.const_int q_eq)
  (SL.cons (S1.ret (SV.call_builtin rfl (gn G rfl) bb_bytes (by decide) kok_type (CF.fn1 (d := 0) q_bytes (fun _ => rfl)) (by decide) (SA.cons (SV.list (SA.cons (SV.bin SV.const_int (SV.bin (SV.var (i := 2) rfl) SV.const_int q_mod) q_add) (SA.cons (SV.bin (SV.bin (SV.var (i := 2) rfl) SV.const_int q_fdiv) SV.const_int q_mod) SA.nil))) SA.nil)))
  SL.nil)
  SL.nil)
  (SL.cons (S1.if_ (ST.cmp (SV.var (i := 1) rfl) SV.const_int q_eq)
  (SL.cons (S1.ret (SV.bin (SV.bin (SV.call_builtin rfl (gn G rfl) bb_bytes (by decide) kok_type (CF.fn1 (d := 0) q_bytes (fun _ => rfl)) (by decide) (SA.cons (SV.list (SA.cons SV.const_int SA.nil)) SA.nil)) SV.const_int q_mul) (SV.call_builtin rfl (gn G rfl) bb_bytes (by decide) kok_type (CF.fn1 (d := 0) q_bytes (fun _ => rfl)) (by decide) (SA.cons (SV.list (SA.cons (SV.bin (SV.var (i := 2) rfl) SV.const_int q_mod) SA.nil)) SA.nil)) q_add))
  SL.nil)
  SL.nil)
  (SL.cons (S1.set (SV.call_builtin rfl (gn G rfl) bb_bytes (by decide) kok_type (CF.fn1 (d := 0) q_bytes (fun _ => rfl)) (by decide) (SA.cons (SV.list (SA.cons (SV.item (SV.glob (v := lawTags) rfl (gl_tags G) (tags_vr G)) (SV.var (i := 1) rfl)) SA.nil)) SA.nil)) (i := 3) rfl (by decide) rfl)
  (SL.cons (S1.for_ (SI.value (SV.form_item G (SV.item (SV.glob (v := lawTags) rfl (gl_tags G) (tags_vr G)) (SV.var (i := 1) rfl)))) (TgtOk.name (i := 4) rfl (by decide) rfl)
  (SL.cons (S1.if_ (ST.cmp (SV.var (i := 4) rfl) SV.const_str q_eq)
  (SL.cons (S1.set (SV.bin (SV.var (i := 3) rfl) (SV.call_builtin rfl (gn G rfl) bb_bytes (by decide) kok_type (CF.fn1 (d := 0) q_bytes (fun _ => rfl)) (by decide) (SA.cons (SV.list (SA.cons (SV.bin (SV.var (i := 2) rfl) SV.const_int q_mod) SA.nil)) SA.nil)) q_add) (i := 3) rfl (by decide) rfl)
  SL.nil)
  (SL.cons (S1.if_ (ST.cmp (SV.var (i := 4) rfl) SV.const_str q_eq)
  (SL.cons (S1.set (SV.bin (SV.var (i := 2) rfl) SV.const_int q_mod) (i := 5) rfl (by decide) rfl)
  (SL.cons (S1.if_ (ST.cmp (SV.bin (SV.var (i := 2) rfl) SV.const_int q_mod) SV.const_int q_eq)
  (SL.cons (S1.set (SV.bin (SV.bin (SV.bin SV.const_int SV.const_int q_pow) SV.const_int q_sub) (SV.bin (SV.bin (SV.var (i := 2) rfl) SV.const_int q_fdiv) SV.const_int q_mod) q_add) (i := 5) rfl (by decide) rfl)
  SL.nil)
  SL.nil)
  (SL.cons (S1.set (SV.bin (SV.var (i := 3) rfl) (SV.call_glob rfl (gl G rfl) (kk G rfl) (cf__law_varint G) (by decide) (SA.cons (SV.var (i := 5) rfl) SA.nil)) q_add) (i := 3) rfl (by decide) rfl)
  SL.nil)))
  (SL.cons (S1.set (SV.bin (SV.var (i := 3) rfl) (SV.call_glob rfl (gl G rfl) (kk G rfl) (cf__law_lengthed G) (by decide) (SA.cons (SV.slice SV.const_bytes SP.none (SP.some (SV.bin (SV.var (i := 2) rfl) SV.const_int q_mod))) SA.nil)) q_add) (i := 3) rfl (by decide) rfl)
  SL.nil))
  SL.nil))
  (SL.cons (S1.set (SV.bin (SV.bin (SV.var (i := 2) rfl) SV.const_int q_fdiv) SV.const_int q_add) (i := 2) rfl (by decide) rfl)
  SL.nil)))
  (SL.cons (S1.ret (SV.var (i := 3) rfl))
  SL.nil)))))))))
noncomputable def φ__law_token : Fn := frameφ ψ__law_token
theorem cf__law_token (G : Gd w mg mb B0) : CF true prog w mg mb B0 7 (fun ws => call (.ref 413) ws) φ__law_token := CF.frame (cg__law_token G)
noncomputable def F__law_number : Loc → List Cell → RS := (sSeq (sSet 4 (pSlice (pVar 0) (pVar 1) (pBin addV (pVar 1) (pVar 2))))
  (sSeq (sSet 5 (pComp (pRange (pList [(pCall (fn1 lenV) [] (pList [(pVar 4)]))])) [4] (pBind (pBin itemV (pVar 1) (pVar 0)) fun a => pBind (pC (V.int 128)) fun b => pOp fun σ => (ltV σ a b).bind boolV) (pVar 0)))
  (sSeq (sIf (pBind (pCall (fn1 lenV) [] (pList [(pVar 5)])) fun a => pBind (pC (V.int 0)) fun b => pOp fun σ => (eqV σ a b).bind boolV)
  (sSeq (sRet (pTup (pList [(pIf (pBind (pCall (fn1 lenV) [] (pList [(pVar 4)])) fun a => pBind (pVar 2) fun b => pOp fun σ => (eqV σ a b).bind boolV) (pC (V.int 2)) (pC (V.int 1))), (pC (V.int 0)), (pVar 1)])))
  sNil)
  sNil)
  (sSeq (sSet 6 (pCall (fn1 sumV) [] (pList [(pComp (pRange (pList [(pBin addV (pBin itemV (pVar 5) (pC (V.int 0))) (pC (V.int 1)))])) [4] (pC true) (pBin mulV (pBin modV (pBin itemV (pVar 1) (pVar 0)) (pC (V.int 128))) (pBin powV (pC (V.int 128)) (pVar 0))))])))
  (sSeq (sIf (pBind (pVar 6) fun a => pBind (pBin powV (pC (V.int 2)) (pVar 3)) fun b => pOp fun σ => (geV σ a b).bind boolV)
  (sSeq (sRet (pTup (pList [(pC (V.int 2)), (pC (V.int 0)), (pVar 1)])))
  sNil)
  sNil)
  (sSeq (sRet (pTup (pList [(pC (V.int 0)), (pVar 6), (pBin addV (pBin addV (pVar 1) (pBin itemV (pVar 5) (pC (V.int 0)))) (pC (V.int 1)))])))
  sNil))))))
noncomputable def ψ__law_number : Fn := fun σ vs => if vs.length = 4 then bodyOf F__law_number (fun i => vs[i]?) σ else .bad
theorem cg__law_number (G : Gd w mg mb B0) : CF true prog w mg mb B0 3 (fun ws => call (.ref 418) ws) ψ__law_number := by
  refine CF.of_cells (d := 1) (names := [(Str.ofString "data"), (Str.ofString "at"), (Str.ofString "most"), (Str.ofString "bits")]) (vars := [(Str.ofString "data"), (Str.ofString "at"), (Str.ofString "most"), (Str.ofString "bits"), (Str.ofString "run"), (Str.ofString "ends"), (Str.ofString "n")]) (F := F__law_number) (G.kx 418 _ rfl) rfl ⟨_, _, _, _, rfl, G.kx _ _ rfl, rfl, rfl⟩ rfl rfl rfl rfl rfl
    (all4 fun a0 a1 a2 a3 => by rfl) ⟨_, rfl⟩ (by decide) (by decide) (by decide) rfl rfl rfl ?_ (by decide)
  unfold F__law_number
  exact (SL.cons (S1.setc (SV.slice (SV.var (i := 0) rfl) (SP.some (SV.var (i := 1) rfl)) (SP.some (SV.bin (SV.var (i := 1) rfl) (SV.var (i := 2) rfl) q_add))) (i := 4) rfl (by decide) rfl)
  (SL.cons (S1.setcomp (SI.range rfl (gn G rfl) (SA.cons (SV.call_builtin rfl (gn G rfl) bb_len (by decide) kok_builtin (CF.fn1 (d := 0) q_len (fun _ => rfl)) (by decide) (SA.cons (SV.var (i := 4) rfl) SA.nil)) SA.nil)) (CompScope.mk (frees := [(Str.ofString "run")]) (js := [4]) rfl (by decide) (by decide) rfl (by decide) (fun i y h => by (rcases i with _ | _) <;> (simp at h) <;> (try subst h) <;> exact ⟨_, rfl, rfl, rfl, by decide⟩)) (.one (ST.cmp (SV.item (SV.var (i := 1) rfl) (SV.var (i := 0) rfl)) SV.const_int q_lt)) (SV.var (i := 0) rfl) (i := 5) rfl (by decide) rfl rfl rfl (by decide))
  (SL.cons (S1.if_ (ST.cmp (SV.call_builtin rfl (gn G rfl) bb_len (by decide) kok_builtin (CF.fn1 (d := 0) q_len (fun _ => rfl)) (by decide) (SA.cons (SV.var (i := 5) rfl) SA.nil)) SV.const_int q_eq)
  (SL.cons (S1.ret (SV.tuple (SA.cons (SV.ifexp (ST.cmp (SV.call_builtin rfl (gn G rfl) bb_len (by decide) kok_builtin (CF.fn1 (d := 0) q_len (fun _ => rfl)) (by decide) (SA.cons (SV.var (i := 4) rfl) SA.nil)) (SV.var (i := 2) rfl) q_eq) SV.const_int SV.const_int) (SA.cons SV.const_int (SA.cons (SV.var (i := 1) rfl) SA.nil)))))
  SL.nil)
  SL.nil)
  (SL.cons (S1.set (SV.call_builtin rfl (gn G rfl) bb_sum (by decide) kok_builtin (CF.fn1 (d := 0) q_sum (fun _ => rfl)) (by decide) (SA.cons (SV.comp (SI.range rfl (gn G rfl) (SA.cons (SV.bin (SV.item (SV.var (i := 5) rfl) SV.const_int) SV.const_int q_add) SA.nil)) (CompScope.mk (frees := [(Str.ofString "run")]) (js := [4]) rfl (by decide) (by decide) rfl (by decide) (fun i y h => by (rcases i with _ | _) <;> (simp at h) <;> (try subst h) <;> exact ⟨_, rfl, rfl, rfl, by decide⟩)) .nil (SV.bin (SV.bin (SV.item (SV.var (i := 1) rfl) (SV.var (i := 0) rfl)) SV.const_int q_mod) (SV.bin SV.const_int (SV.var (i := 0) rfl) q_pow) q_mul)) SA.nil)) (i := 6) rfl (by decide) rfl)
  (SL.cons (S1.if_ (ST.cmp (SV.var (i := 6) rfl) (SV.bin SV.const_int (SV.var (i := 3) rfl) q_pow) q_ge)
  (SL.cons (S1.ret (SV.tuple (SA.cons SV.const_int (SA.cons SV.const_int (SA.cons (SV.var (i := 1) rfl) SA.nil)))))
  SL.nil)
  SL.nil)
  (SL.cons (S1.ret (SV.tuple (SA.cons SV.const_int (SA.cons (SV.var (i := 6) rfl) (SA.cons (SV.bin (SV.bin (SV.var (i := 1) rfl) (SV.item (SV.var (i := 5) rfl) SV.const_int) q_add) SV.const_int q_add) SA.nil)))))
  SL.nil))))))
noncomputable def φ__law_number : Fn := frameφ ψ__law_number
theorem cf__law_number (G : Gd w mg mb B0) : CF true prog w mg mb B0 3 (fun ws => call (.ref 418) ws) φ__law_number := CF.frame (cg__law_number G)
noncomputable def F__law_parts : Loc → List Cell → RS := (sSeq (sSet 1 (pNewList (pList [])))
  (sSeq (sSet 2 (pC (V.int 0)))
  (sSeq (sWhile (pBind (pVar 2) fun a => pBind (pCall (fn1 lenV) [] (pList [(pVar 0)])) fun b => pOp fun σ => (ltV σ a b).bind boolV)
  (sSeq (sUnpack [3, 4, 2] (pCall φ__law_number [] (pList [(pVar 0), (pVar 2), (pC (V.int 10)), (pC (V.int 64))])))
  (sSeq (sIf (pIf (pBind (pVar 3) fun a => pBind (pC (V.int 0)) fun b => pOp fun σ => (eqV σ a b).bind boolV) (pIf (pBind (pVar 4) fun a => pOp fun σ => notInForm a) (pC true) (pC false)) (pC false))
  (sSeq (sSet 3 (pC (V.int 2)))
  sNil)
  sNil)
  (sSeq (sIf (pBind (pVar 3) fun a => pBind (pC (V.int 0)) fun b => pOp fun σ => (gtV σ a b).bind boolV)
  (sSeq (sRet (pTup (pList [(pVar 3), (pNewList (pList []))])))
  sNil)
  sNil)
  (sSeq (sSet 5 (pNewList (pList [(pVar 4)])))
  (sSeq (sForE (stName 6) (pOver (pUn formV (pVar 4)))
  (sSeq (sSet 7 (pOr (pBin eqV (pVar 6) (pC (V.str (Str.ofString "t")))) (pBin eqV (pVar 6) (pC (V.str (Str.ofString "k"))))))
  (sSeq (sUnpack [3, 8, 2] (pCall φ__law_number [] (pList [(pVar 0), (pVar 2), (pIf (pTest (pVar 7)) (pC (V.int 5)) (pC (V.int 10))), (pIf (pTest (pVar 7)) (pC (V.int 32)) (pC (V.int 64)))])))
  (sSeq (sIf (pIf (pBind (pVar 3) fun a => pBind (pC (V.int 0)) fun b => pOp fun σ => (eqV σ a b).bind boolV) (pIf (pBind (pVar 6) fun a => pBind (pC (V.str (Str.ofString "l"))) fun b => pOp fun σ => (eqV σ a b).bind boolV) (pIf (pBind (pVar 8) fun a => pBind (pC (V.int 11)) fun b => pOp fun σ => (gtV σ a b).bind boolV) (pC true) (pC false)) (pC false)) (pC false))
  (sSeq (sSet 3 (pC (V.int 2)))
  sNil)
  sNil)
  (sSeq (sIf (pIf (pBind (pVar 3) fun a => pBind (pC (V.int 0)) fun b => pOp fun σ => (eqV σ a b).bind boolV) (pIf (pTest (pVar 7)) (pIf (pBind (pBin addV (pVar 2) (pVar 8)) fun a => pBind (pCall (fn1 lenV) [] (pList [(pVar 0)])) fun b => pOp fun σ => (gtV σ a b).bind boolV) (pC true) (pC false)) (pC false)) (pC false))
  (sSeq (sSet 3 (pC (V.int 1)))
  sNil)
  sNil)
  (sSeq (sIf (pIf (pBind (pVar 3) fun a => pBind (pC (V.int 0)) fun b => pOp fun σ => (eqV σ a b).bind boolV) (pIf (pBind (pVar 6) fun a => pBind (pC (V.str (Str.ofString "k"))) fun b => pOp fun σ => (eqV σ a b).bind boolV) (pIf (pBind (pVar 8) fun a => pBind (pC (V.int 0)) fun b => pOp fun σ => (eqV σ a b).bind boolV) (pC true) (pC false)) (pC false)) (pC false))
  (sSeq (sSet 3 (pC (V.int 2)))
  sNil)
  sNil)
  (sSeq (sIf (pBind (pVar 3) fun a => pBind (pC (V.int 0)) fun b => pOp fun σ => (gtV σ a b).bind boolV)
  (sSeq (sRet (pTup (pList [(pVar 3), (pNewList (pList []))])))
  sNil)
  sNil)
  (sSeq (sIf (pTest (pVar 7))
  (sSeq (sExpr (pMeth appendK (pVar 5) (pList [(pSlice (pVar 0) (pVar 2) (pBin addV (pVar 2) (pVar 8)))])))
  (sSeq (sSet 2 (pBin addV (pVar 2) (pVar 8)))
  sNil))
  (sSeq (sExpr (pMeth appendK (pVar 5) (pList [(pVar 8)])))
  sNil))
  sNil))))))))
  (sSeq (sExpr (pMeth appendK (pVar 1) (pList [(pVar 5)])))
  sNil)))))))
  (sSeq (sRet (pTup (pList [(pC (V.int 0)), (pVar 1)])))
  sNil))))
noncomputable def φ__law_parts : Fn := fun σ vs => if vs.length = 1 then bodyOf F__law_parts (fun i => vs[i]?) σ else .bad
theorem cf__law_parts (G : Gd w mg mb B0) : CF true prog w mg mb B0 5 (fun ws => call (.ref 425) ws) φ__law_parts := by
  refine CF.of_plain (d := 3) (names := [(Str.ofString "data")]) (vars := [(Str.ofString "data"), (Str.ofString "parts"), (Str.ofString "at"), (Str.ofString "fault"), (Str.ofString "tag"), (Str.ofString "part"), (Str.ofString "letter"), (Str.ofString "worded"), (Str.ofString "n")]) (F := F__law_parts) (G.kx 425 _ rfl) rfl ⟨_, _, _, _, rfl, G.kx _ _ rfl, rfl, rfl⟩ rfl rfl rfl rfl rfl
    (all1 fun a0 => by rfl) ⟨_, rfl⟩ (by decide) (by decide) (by decide) rfl rfl rfl ?_ (by decide)
  unfold F__law_parts
  exact (SL.cons (S1.set (SV.list SA.nil) (i := 1) rfl (by decide) rfl)
  (SL.cons (S1.set SV.const_int (i := 2) rfl (by decide) rfl)
  (SL.cons (S1.while_ (ST.cmp (SV.var (i := 2) rfl) (SV.call_builtin rfl (gn G rfl) bb_len (by decide) kok_builtin (CF.fn1 (d := 0) q_len (fun _ => rfl)) (by decide) (SA.cons (SV.var (i := 0) rfl) SA.nil)) q_lt)
  (SL.cons (S1.unpack (SV.call_glob rfl (gl G rfl) (kk G rfl) (cf__law_number G) (by decide) (SA.cons (SV.var (i := 0) rfl) (SA.cons (SV.var (i := 2) rfl) (SA.cons SV.const_int (SA.cons SV.const_int SA.nil))))) (.cons (i := 3) rfl rfl (.cons (i := 4) rfl rfl (.cons (i := 2) rfl rfl .nil))) (by decide))
  (SL.cons (S1.if_ (ST.boolop (SB.and_cons (ST.cmp (SV.var (i := 3) rfl) SV.const_int q_eq) (SB.and_cons (ST.not_in_form G (SV.var (i := 4) rfl)) SB.and_nil)))
  (SL.cons (S1.set SV.const_int (i := 3) rfl (by decide) rfl)
  SL.nil)
  SL.nil)
  (SL.cons (S1.if_ (ST.cmp (SV.var (i := 3) rfl) SV.const_int q_gt)
  (SL.cons (S1.ret (SV.tuple (SA.cons (SV.var (i := 3) rfl) (SA.cons (SV.list SA.nil) SA.nil))))
  SL.nil)
  SL.nil)
  (SL.cons (S1.set (SV.list (SA.cons (SV.var (i := 4) rfl) SA.nil)) (i := 5) rfl (by decide) rfl)
  (SL.cons (S1.for_ (SI.value (SV.form_item G (SV.var (i := 4) rfl))) (TgtOk.name (i := 6) rfl (by decide) rfl)
  (SL.cons (S1.set (SV.or2 (SV.cmp (SV.var (i := 6) rfl) SV.const_str q_eq) (SV.cmp (SV.var (i := 6) rfl) SV.const_str q_eq)) (i := 7) rfl (by decide) rfl)
  (SL.cons (S1.unpack (SV.call_glob rfl (gl G rfl) (kk G rfl) (cf__law_number G) (by decide) (SA.cons (SV.var (i := 0) rfl) (SA.cons (SV.var (i := 2) rfl) (SA.cons (SV.ifexp (ST.of (SV.var (i := 7) rfl)) SV.const_int SV.const_int) (SA.cons (SV.ifexp (ST.of (SV.var (i := 7) rfl)) SV.const_int SV.const_int) SA.nil))))) (.cons (i := 3) rfl rfl (.cons (i := 8) rfl rfl (.cons (i := 2) rfl rfl .nil))) (by decide))
  (SL.cons (S1.if_ (ST.boolop (SB.and_cons (ST.cmp (SV.var (i := 3) rfl) SV.const_int q_eq) (SB.and_cons (ST.cmp (SV.var (i := 6) rfl) SV.const_str q_eq) (SB.and_cons (ST.cmp (SV.var (i := 8) rfl) SV.const_int q_gt) SB.and_nil))))
  (SL.cons (S1.set SV.const_int (i := 3) rfl (by decide) rfl)
  SL.nil)
  SL.nil)
  (SL.cons (S1.if_ (ST.boolop (SB.and_cons (ST.cmp (SV.var (i := 3) rfl) SV.const_int q_eq) (SB.and_cons (ST.of (SV.var (i := 7) rfl)) (SB.and_cons (ST.cmp (SV.bin (SV.var (i := 2) rfl) (SV.var (i := 8) rfl) q_add) (SV.call_builtin rfl (gn G rfl) bb_len (by decide) kok_builtin (CF.fn1 (d := 0) q_len (fun _ => rfl)) (by decide) (SA.cons (SV.var (i := 0) rfl) SA.nil)) q_gt) SB.and_nil))))
  (SL.cons (S1.set SV.const_int (i := 3) rfl (by decide) rfl)
  SL.nil)
  SL.nil)
  (SL.cons (S1.if_ (ST.boolop (SB.and_cons (ST.cmp (SV.var (i := 3) rfl) SV.const_int q_eq) (SB.and_cons (ST.cmp (SV.var (i := 6) rfl) SV.const_str q_eq) (SB.and_cons (ST.cmp (SV.var (i := 8) rfl) SV.const_int q_eq) SB.and_nil))))
  (SL.cons (S1.set SV.const_int (i := 3) rfl (by decide) rfl)
  SL.nil)
  SL.nil)
  (SL.cons (S1.if_ (ST.cmp (SV.var (i := 3) rfl) SV.const_int q_gt)
  (SL.cons (S1.ret (SV.tuple (SA.cons (SV.var (i := 3) rfl) (SA.cons (SV.list SA.nil) SA.nil))))
  SL.nil)
  SL.nil)
  (SL.cons (S1.if_ (ST.of (SV.var (i := 7) rfl))
  (SL.cons (S1.expr (SV.meth (SV.var (i := 5) rfl) (meth_append (d := 0)) (by decide) (SA.cons (SV.slice (SV.var (i := 0) rfl) (SP.some (SV.var (i := 2) rfl)) (SP.some (SV.bin (SV.var (i := 2) rfl) (SV.var (i := 8) rfl) q_add))) SA.nil)))
  (SL.cons (S1.set (SV.bin (SV.var (i := 2) rfl) (SV.var (i := 8) rfl) q_add) (i := 2) rfl (by decide) rfl)
  SL.nil))
  (SL.cons (S1.expr (SV.meth (SV.var (i := 5) rfl) (meth_append (d := 0)) (by decide) (SA.cons (SV.var (i := 8) rfl) SA.nil)))
  SL.nil))
  SL.nil))))))))
  (SL.cons (S1.expr (SV.meth (SV.var (i := 1) rfl) (meth_append (d := 0)) (by decide) (SA.cons (SV.var (i := 5) rfl) SA.nil)))
  SL.nil)))))))
  (SL.cons (S1.ret (SV.tuple (SA.cons SV.const_int (SA.cons (SV.var (i := 1) rfl) SA.nil))))
  SL.nil))))
noncomputable def F__law_row : Loc → List Cell → RS := (sSeq (sSet 1 (pNewList (pList [])))
  (sSeq (sForE (stName 2) (pRange (pList [(pC (V.int 1)), (pC (V.int 5))]))
  (sSeq (sSet 3 (pComp (pOver (pVar 0)) [2] (pBind (pBin itemV (pVar 0) (pC (V.int 0))) fun a => pBind (pVar 1) fun b => pOp fun σ => (eqV σ a b).bind boolV) (pBin itemV (pVar 0) (pC (V.int 1)))))
  (sSeq (sExpr (pMeth appendK (pVar 1) (pList [(pIf (pBind (pCall (fn1 lenV) [] (pList [(pVar 3)])) fun a => pBind (pC (V.int 0)) fun b => pOp fun σ => (gtV σ a b).bind boolV) (pBin itemV (pVar 3) (pUn negV (pC (V.int 1)))) (pC V.none))])))
  sNil)))
  (sSeq (sSet 4 (pComp (pOver (pVar 0)) [] (pBind (pBin itemV (pVar 0) (pC (V.int 0))) fun a => pBind (pC (V.int 5)) fun b => pOp fun σ => (eqV σ a b).bind boolV) (pTup (pList [(pBin itemV (pVar 0) (pC (V.int 1))), (pBin itemV (pVar 0) (pC (V.int 2)))]))))
  (sSeq (sSet 5 (pComp (pOver (pVar 0)) [] (pBind (pBin itemV (pVar 0) (pC (V.int 0))) fun a => pBind (pC (V.int 6)) fun b => pOp fun σ => (eqV σ a b).bind boolV) (pTup (pList [(pBin itemV (pVar 0) (pC (V.int 1))), (pBin itemV (pVar 0) (pC (V.int 2)))]))))
  (sSeq (sSet 6 (pComp (pOver (pVar 0)) [] (pBind (pBin itemV (pVar 0) (pC (V.int 0))) fun a => pBind (pC (V.int 7)) fun b => pOp fun σ => (eqV σ a b).bind boolV) (pTup (pList [(pBin itemV (pVar 0) (pC (V.int 1))), (pTup (pList [(pBin itemV (pVar 0) (pC (V.int 2))), (pBin itemV (pVar 0) (pC (V.int 3))), (pBin itemV (pVar 0) (pC (V.int 4))), (pBin itemV (pVar 0) (pC (V.int 5)))]))]))))
  (sSeq (sSet 7 (pBin gtV (pCall (fn1 lenV) [] (pList [(pComp (pOver (pVar 0)) [] (pBind (pBin itemV (pVar 0) (pC (V.int 0))) fun a => pBind (pC (V.int 10)) fun b => pOp fun σ => (eqV σ a b).bind boolV) (pVar 0))])) (pC (V.int 0))))
  (sSeq (sRet (pTup (pList [(pBin itemV (pVar 1) (pC (V.int 0))), (pBin itemV (pVar 1) (pC (V.int 1))), (pBin itemV (pVar 1) (pC (V.int 2))), (pBin itemV (pVar 1) (pC (V.int 3))), (pCall (fn1 tupleV) [] (pList [(pVar 4)])), (pCall (fn1 tupleV) [] (pList [(pVar 5)])), (pCall (fn1 tupleV) [] (pList [(pVar 6)])), (pVar 7)])))
  sNil)))))))
noncomputable def φ__law_row : Fn := fun σ vs => if vs.length = 1 then bodyOf F__law_row (fun i => vs[i]?) σ else .bad
theorem cf__law_row (G : Gd w mg mb B0) : CF true prog w mg mb B0 3 (fun ws => call (.ref 430) ws) φ__law_row := by
  refine CF.of_cells (d := 1) (names := [(Str.ofString "parts")]) (vars := [(Str.ofString "parts"), (Str.ofString "said"), (Str.ofString "tag"), (Str.ofString "words"), (Str.ofString "moved"), (Str.ofString "gone"), (Str.ofString "come"), (Str.ofString "anew")]) (F := F__law_row) (G.kx 430 _ rfl) rfl ⟨_, _, _, _, rfl, G.kx _ _ rfl, rfl, rfl⟩ rfl rfl rfl rfl rfl
    (all1 fun a0 => by rfl) ⟨_, rfl⟩ (by decide) (by decide) (by decide) rfl rfl rfl ?_ (by decide)
  unfold F__law_row
  exact (SL.cons (S1.set (SV.list SA.nil) (i := 1) rfl (by decide) rfl)
  (SL.cons (S1.for_ (SI.range rfl (gn G rfl) (SA.cons SV.const_int (SA.cons SV.const_int SA.nil))) (TgtOk.namec (i := 2) rfl (by decide) rfl)
  (SL.cons (S1.setcomp (SI.value (SV.var (i := 0) rfl)) (CompScope.mk (frees := [(Str.ofString "tag")]) (js := [2]) rfl (by decide) (by decide) rfl (by decide) (fun i y h => by (rcases i with _ | _) <;> (simp at h) <;> (try subst h) <;> exact ⟨_, rfl, rfl, rfl, by decide⟩)) (.one (ST.cmp (SV.item (SV.var (i := 0) rfl) SV.const_int) (SV.var (i := 1) rfl) q_eq)) (SV.item (SV.var (i := 0) rfl) SV.const_int) (i := 3) rfl (by decide) rfl rfl rfl (by decide))
  (SL.cons (S1.expr (SV.meth (SV.var (i := 1) rfl) (meth_append (d := 0)) (by decide) (SA.cons (SV.ifexp (ST.cmp (SV.call_builtin rfl (gn G rfl) bb_len (by decide) kok_builtin (CF.fn1 (d := 0) q_len (fun _ => rfl)) (by decide) (SA.cons (SV.var (i := 3) rfl) SA.nil)) SV.const_int q_gt) (SV.item (SV.var (i := 3) rfl) (SV.neg SV.const_int)) SV.const_none) SA.nil)))
  SL.nil)))
  (SL.cons (S1.setcomp (SI.value (SV.var (i := 0) rfl)) (CompScope.mk (frees := []) (js := []) rfl (by decide) (by decide) rfl (by decide) (fun i y h => by simp at h)) (.one (ST.cmp (SV.item (SV.var (i := 0) rfl) SV.const_int) SV.const_int q_eq)) (SV.tuple (SA.cons (SV.item (SV.var (i := 0) rfl) SV.const_int) (SA.cons (SV.item (SV.var (i := 0) rfl) SV.const_int) SA.nil))) (i := 4) rfl (by decide) rfl rfl rfl (by decide))
  (SL.cons (S1.setcomp (SI.value (SV.var (i := 0) rfl)) (CompScope.mk (frees := []) (js := []) rfl (by decide) (by decide) rfl (by decide) (fun i y h => by simp at h)) (.one (ST.cmp (SV.item (SV.var (i := 0) rfl) SV.const_int) SV.const_int q_eq)) (SV.tuple (SA.cons (SV.item (SV.var (i := 0) rfl) SV.const_int) (SA.cons (SV.item (SV.var (i := 0) rfl) SV.const_int) SA.nil))) (i := 5) rfl (by decide) rfl rfl rfl (by decide))
  (SL.cons (S1.setcomp (SI.value (SV.var (i := 0) rfl)) (CompScope.mk (frees := []) (js := []) rfl (by decide) (by decide) rfl (by decide) (fun i y h => by simp at h)) (.one (ST.cmp (SV.item (SV.var (i := 0) rfl) SV.const_int) SV.const_int q_eq)) (SV.tuple (SA.cons (SV.item (SV.var (i := 0) rfl) SV.const_int) (SA.cons (SV.tuple (SA.cons (SV.item (SV.var (i := 0) rfl) SV.const_int) (SA.cons (SV.item (SV.var (i := 0) rfl) SV.const_int) (SA.cons (SV.item (SV.var (i := 0) rfl) SV.const_int) (SA.cons (SV.item (SV.var (i := 0) rfl) SV.const_int) SA.nil))))) SA.nil))) (i := 6) rfl (by decide) rfl rfl rfl (by decide))
  (SL.cons (S1.set (SV.cmp (SV.call_builtin rfl (gn G rfl) bb_len (by decide) kok_builtin (CF.fn1 (d := 0) q_len (fun _ => rfl)) (by decide) (SA.cons (SV.comp (SI.value (SV.var (i := 0) rfl)) (CompScope.mk (frees := []) (js := []) rfl (by decide) (by decide) rfl (by decide) (fun i y h => by simp at h)) (.one (ST.cmp (SV.item (SV.var (i := 0) rfl) SV.const_int) SV.const_int q_eq)) (SV.var (i := 0) rfl)) SA.nil)) SV.const_int q_gt) (i := 7) rfl (by decide) rfl)
  (SL.cons (S1.ret (SV.tuple (SA.cons (SV.item (SV.var (i := 1) rfl) SV.const_int) (SA.cons (SV.item (SV.var (i := 1) rfl) SV.const_int) (SA.cons (SV.item (SV.var (i := 1) rfl) SV.const_int) (SA.cons (SV.item (SV.var (i := 1) rfl) SV.const_int) (SA.cons (SV.call_builtin rfl (gn G rfl) bb_tuple (by decide) kok_type (CF.fn1 (d := 0) q_tuple (fun _ => rfl)) (by decide) (SA.cons (SV.var (i := 4) rfl) SA.nil)) (SA.cons (SV.call_builtin rfl (gn G rfl) bb_tuple (by decide) kok_type (CF.fn1 (d := 0) q_tuple (fun _ => rfl)) (by decide) (SA.cons (SV.var (i := 5) rfl) SA.nil)) (SA.cons (SV.call_builtin rfl (gn G rfl) bb_tuple (by decide) kok_type (CF.fn1 (d := 0) q_tuple (fun _ => rfl)) (by decide) (SA.cons (SV.var (i := 6) rfl) SA.nil)) (SA.cons (SV.var (i := 7) rfl) SA.nil))))))))))
  SL.nil)))))))
noncomputable def F__law_both : Loc → List Cell → RS := (sSeq (sSet 2 (pComp (pRange (pList [(pC (V.int 4))])) [0, 1] (pC true) (pIf (pBind (pBin itemV (pVar 2) (pVar 0)) fun a => pBind (pC V.none) fun b => pOp fun σ => (isV σ a b).bind boolV) (pBin itemV (pVar 1) (pVar 0)) (pBin itemV (pVar 2) (pVar 0)))))
  (sSeq (sRet (pTup (pList [(pBin itemV (pVar 2) (pC (V.int 0))), (pBin itemV (pVar 2) (pC (V.int 1))), (pBin itemV (pVar 2) (pC (V.int 2))), (pBin itemV (pVar 2) (pC (V.int 3))), (pBin addV (pBin itemV (pVar 0) (pC (V.int 4))) (pBin itemV (pVar 1) (pC (V.int 4)))), (pBin addV (pBin itemV (pVar 0) (pC (V.int 5))) (pBin itemV (pVar 1) (pC (V.int 5)))), (pBin addV (pBin itemV (pVar 0) (pC (V.int 6))) (pBin itemV (pVar 1) (pC (V.int 6)))), (pOr (pBin itemV (pVar 0) (pC (V.int 7))) (pBin itemV (pVar 1) (pC (V.int 7))))])))
  sNil))
noncomputable def ψ__law_both : Fn := fun σ vs => if vs.length = 2 then bodyOf F__law_both (fun i => vs[i]?) σ else .bad
theorem cg__law_both (G : Gd w mg mb B0) : CF true prog w mg mb B0 3 (fun ws => call (.ref 435) ws) ψ__law_both := by
  refine CF.of_cells (d := 1) (names := [(Str.ofString "a"), (Str.ofString "b")]) (vars := [(Str.ofString "a"), (Str.ofString "b"), (Str.ofString "said")]) (F := F__law_both) (G.kx 435 _ rfl) rfl ⟨_, _, _, _, rfl, G.kx _ _ rfl, rfl, rfl⟩ rfl rfl rfl rfl rfl
    (all2 fun a0 a1 => by rfl) ⟨_, rfl⟩ (by decide) (by decide) (by decide) rfl rfl rfl ?_ (by decide)
  unfold F__law_both
  exact (SL.cons (S1.setcomp (SI.range rfl (gn G rfl) (SA.cons SV.const_int SA.nil)) (CompScope.mk (frees := [(Str.ofString "a"), (Str.ofString "b")]) (js := [0, 1]) rfl (by decide) (by decide) rfl (by decide) (fun i y h => by (rcases i with _ | _ | _) <;> (simp at h) <;> (try subst h) <;> exact ⟨_, rfl, rfl, rfl, by decide⟩)) .nil (SV.ifexp (ST.cmp (SV.item (SV.var (i := 2) rfl) (SV.var (i := 0) rfl)) SV.const_none q_is) (SV.item (SV.var (i := 1) rfl) (SV.var (i := 0) rfl)) (SV.item (SV.var (i := 2) rfl) (SV.var (i := 0) rfl))) (i := 2) rfl (by decide) rfl rfl rfl (by decide))
  (SL.cons (S1.ret (SV.tuple (SA.cons (SV.item (SV.var (i := 2) rfl) SV.const_int) (SA.cons (SV.item (SV.var (i := 2) rfl) SV.const_int) (SA.cons (SV.item (SV.var (i := 2) rfl) SV.const_int) (SA.cons (SV.item (SV.var (i := 2) rfl) SV.const_int) (SA.cons (SV.bin (SV.item (SV.var (i := 0) rfl) SV.const_int) (SV.item (SV.var (i := 1) rfl) SV.const_int) q_add) (SA.cons (SV.bin (SV.item (SV.var (i := 0) rfl) SV.const_int) (SV.item (SV.var (i := 1) rfl) SV.const_int) q_add) (SA.cons (SV.bin (SV.item (SV.var (i := 0) rfl) SV.const_int) (SV.item (SV.var (i := 1) rfl) SV.const_int) q_add) (SA.cons (SV.or2 (SV.item (SV.var (i := 0) rfl) SV.const_int) (SV.item (SV.var (i := 1) rfl) SV.const_int)) SA.nil))))))))))
  SL.nil))
noncomputable def φ__law_both : Fn := frameφ ψ__law_both
theorem cf__law_both (G : Gd w mg mb B0) : CF true prog w mg mb B0 3 (fun ws => call (.ref 435) ws) φ__law_both := CF.frame (cg__law_both G)
noncomputable def F__law_write : Loc → List Cell → RS := (sSeq (sSet 1 (pC (V.bytes [])))
  (sSeq (sIf (pTest (pBin itemV (pVar 0) (pC (V.int 7))))
  (sSeq (sSet 1 (pC (V.bytes [10])))
  sNil)
  sNil)
  (sSeq (sIf (pBind (pBin itemV (pVar 0) (pC (V.int 0))) fun a => pBind (pC V.none) fun b => pOp fun σ => (isNotV σ a b).bind boolV)
  (sSeq (sSet 1 (pBin addV (pBin addV (pVar 1) (pC (V.bytes [1]))) (pCall φ__law_lengthed [] (pList [(pBin itemV (pVar 0) (pC (V.int 0)))]))))
  sNil)
  sNil)
  (sSeq (sForE (stName 2) (pRange (pList [(pC (V.int 1)), (pC (V.int 4))]))
  (sSeq (sIf (pBind (pBin itemV (pVar 0) (pVar 2)) fun a => pBind (pC V.none) fun b => pOp fun σ => (isNotV σ a b).bind boolV)
  (sSeq (sSet 1 (pBin addV (pBin addV (pVar 1) (pCall (fn1 bytesV) [] (pList [(pNewList (pList [(pBin addV (pVar 2) (pC (V.int 1)))]))]))) (pCall φ__law_varint [] (pList [(pBin itemV (pVar 0) (pVar 2))]))))
  sNil)
  sNil)
  sNil))
  (sSeq (sForE (stTup [3, 4]) (pOver (pBin itemV (pVar 0) (pC (V.int 4))))
  (sSeq (sSet 1 (pBin addV (pBin addV (pVar 1) (pCall (fn1 bytesV) [] (pList [(pNewList (pList [(pC (V.int 5)), (pVar 3)]))]))) (pCall φ__law_lengthed [] (pList [(pVar 4)]))))
  sNil))
  (sSeq (sForE (stTup [3, 5]) (pOver (pBin itemV (pVar 0) (pC (V.int 5))))
  (sSeq (sSet 1 (pBin addV (pBin addV (pVar 1) (pCall (fn1 bytesV) [] (pList [(pNewList (pList [(pC (V.int 6)), (pVar 3)]))]))) (pCall φ__law_varint [] (pList [(pVar 5)]))))
  sNil))
  (sSeq (sForE (stTup [3, 6]) (pOver (pBin itemV (pVar 0) (pC (V.int 6))))
  (sSeq (sSet 1 (pBin addV (pBin addV (pBin addV (pVar 1) (pCall (fn1 bytesV) [] (pList [(pNewList (pList [(pC (V.int 7)), (pVar 3)]))]))) (pCall φ__law_varint [] (pList [(pBin itemV (pVar 6) (pC (V.int 0)))]))) (pCall φ__law_varint [] (pList [(pBin itemV (pVar 6) (pC (V.int 1)))]))))
  (sSeq (sSet 1 (pBin addV (pBin addV (pVar 1) (pCall φ__law_lengthed [] (pList [(pBin itemV (pVar 6) (pC (V.int 2)))]))) (pCall φ__law_lengthed [] (pList [(pBin itemV (pVar 6) (pC (V.int 3)))]))))
  sNil)))
  (sSeq (sRet (pVar 1))
  sNil))))))))
noncomputable def ψ__law_write : Fn := fun σ vs => if vs.length = 1 then bodyOf F__law_write (fun i => vs[i]?) σ else .bad
theorem cg__law_write (G : Gd w mg mb B0) : CF true prog w mg mb B0 7 (fun ws => call (.ref 442) ws) ψ__law_write := by
  refine CF.of_plain (d := 5) (names := [(Str.ofString "row")]) (vars := [(Str.ofString "row"), (Str.ofString "out"), (Str.ofString "i"), (Str.ofString "level"), (Str.ofString "key"), (Str.ofString "number"), (Str.ofString "meta")]) (F := F__law_write) (G.kx 442 _ rfl) rfl ⟨_, _, _, _, rfl, G.kx _ _ rfl, rfl, rfl⟩ rfl rfl rfl rfl rfl
    (all1 fun a0 => by rfl) ⟨_, rfl⟩ (by decide) (by decide) (by decide) rfl rfl rfl ?_ (by decide)
  unfold F__law_write
  exact (SL.cons (S1.set SV.const_bytes (i := 1) rfl (by decide) rfl)
  (SL.cons (S1.if_ (ST.of (SV.item (SV.var (i := 0) rfl) SV.const_int))
  (SL.cons (S1.set SV.const_bytes (i := 1) rfl (by decide) rfl)
  SL.nil)
  SL.nil)
  (SL.cons (S1.if_ (ST.cmp (SV.item (SV.var (i := 0) rfl) SV.const_int) SV.const_none q_isNot)
  (SL.cons (S1.set (SV.bin (SV.bin (SV.var (i := 1) rfl) SV.const_bytes q_add) (SV.call_glob rfl (gl G rfl) (kk G rfl) (cf__law_lengthed G) (by decide) (SA.cons (SV.item (SV.var (i := 0) rfl) SV.const_int) SA.nil)) q_add) (i := 1) rfl (by decide) rfl)
  SL.nil)
  SL.nil)
  (SL.cons (S1.for_ (SI.range rfl (gn G rfl) (SA.cons SV.const_int (SA.cons SV.const_int SA.nil))) (TgtOk.name (i := 2) rfl (by decide) rfl)
  (SL.cons (S1.if_ (ST.cmp (SV.item (SV.var (i := 0) rfl) (SV.var (i := 2) rfl)) SV.const_none q_isNot)
  (SL.cons (S1.set (SV.bin (SV.bin (SV.var (i := 1) rfl) (SV.call_builtin rfl (gn G rfl) bb_bytes (by decide) kok_type (CF.fn1 (d := 0) q_bytes (fun _ => rfl)) (by decide) (SA.cons (SV.list (SA.cons (SV.bin (SV.var (i := 2) rfl) SV.const_int q_add) SA.nil)) SA.nil)) q_add) (SV.call_glob rfl (gl G rfl) (kk G rfl) (cf__law_varint G) (by decide) (SA.cons (SV.item (SV.var (i := 0) rfl) (SV.var (i := 2) rfl)) SA.nil)) q_add) (i := 1) rfl (by decide) rfl)
  SL.nil)
  SL.nil)
  SL.nil))
  (SL.cons (S1.for_ (SI.value (SV.item (SV.var (i := 0) rfl) SV.const_int)) (TgtOk.tup (.cons (i := 3) rfl rfl (.cons (i := 4) rfl rfl .nil)) (by decide))
  (SL.cons (S1.set (SV.bin (SV.bin (SV.var (i := 1) rfl) (SV.call_builtin rfl (gn G rfl) bb_bytes (by decide) kok_type (CF.fn1 (d := 0) q_bytes (fun _ => rfl)) (by decide) (SA.cons (SV.list (SA.cons SV.const_int (SA.cons (SV.var (i := 3) rfl) SA.nil))) SA.nil)) q_add) (SV.call_glob rfl (gl G rfl) (kk G rfl) (cf__law_lengthed G) (by decide) (SA.cons (SV.var (i := 4) rfl) SA.nil)) q_add) (i := 1) rfl (by decide) rfl)
  SL.nil))
  (SL.cons (S1.for_ (SI.value (SV.item (SV.var (i := 0) rfl) SV.const_int)) (TgtOk.tup (.cons (i := 3) rfl rfl (.cons (i := 5) rfl rfl .nil)) (by decide))
  (SL.cons (S1.set (SV.bin (SV.bin (SV.var (i := 1) rfl) (SV.call_builtin rfl (gn G rfl) bb_bytes (by decide) kok_type (CF.fn1 (d := 0) q_bytes (fun _ => rfl)) (by decide) (SA.cons (SV.list (SA.cons SV.const_int (SA.cons (SV.var (i := 3) rfl) SA.nil))) SA.nil)) q_add) (SV.call_glob rfl (gl G rfl) (kk G rfl) (cf__law_varint G) (by decide) (SA.cons (SV.var (i := 5) rfl) SA.nil)) q_add) (i := 1) rfl (by decide) rfl)
  SL.nil))
  (SL.cons (S1.for_ (SI.value (SV.item (SV.var (i := 0) rfl) SV.const_int)) (TgtOk.tup (.cons (i := 3) rfl rfl (.cons (i := 6) rfl rfl .nil)) (by decide))
  (SL.cons (S1.set (SV.bin (SV.bin (SV.bin (SV.var (i := 1) rfl) (SV.call_builtin rfl (gn G rfl) bb_bytes (by decide) kok_type (CF.fn1 (d := 0) q_bytes (fun _ => rfl)) (by decide) (SA.cons (SV.list (SA.cons SV.const_int (SA.cons (SV.var (i := 3) rfl) SA.nil))) SA.nil)) q_add) (SV.call_glob rfl (gl G rfl) (kk G rfl) (cf__law_varint G) (by decide) (SA.cons (SV.item (SV.var (i := 6) rfl) SV.const_int) SA.nil)) q_add) (SV.call_glob rfl (gl G rfl) (kk G rfl) (cf__law_varint G) (by decide) (SA.cons (SV.item (SV.var (i := 6) rfl) SV.const_int) SA.nil)) q_add) (i := 1) rfl (by decide) rfl)
  (SL.cons (S1.set (SV.bin (SV.bin (SV.var (i := 1) rfl) (SV.call_glob rfl (gl G rfl) (kk G rfl) (cf__law_lengthed G) (by decide) (SA.cons (SV.item (SV.var (i := 6) rfl) SV.const_int) SA.nil)) q_add) (SV.call_glob rfl (gl G rfl) (kk G rfl) (cf__law_lengthed G) (by decide) (SA.cons (SV.item (SV.var (i := 6) rfl) SV.const_int) SA.nil)) q_add) (i := 1) rfl (by decide) rfl)
  SL.nil)))
  (SL.cons (S1.ret (SV.var (i := 1) rfl))
  SL.nil))))))))
noncomputable def φ__law_write : Fn := frameφ ψ__law_write
theorem cf__law_write (G : Gd w mg mb B0) : CF true prog w mg mb B0 7 (fun ws => call (.ref 442) ws) φ__law_write := CF.frame (cg__law_write G)
end
end NZ
namespace NZ
open _root_.PySem _root_.PySem.W _root_.PySem.Calls PyProof.Rows _root_.PySem.SeqAt
section
variable {prog : Program} {w : World} {mg mb : Str → Option Value} {B0 : Heap}
noncomputable def F_law : Loc → List Cell → RS := (sSeq (sSet 1 (pComp (pOver (pSlice (pVar 0) (pC V.none) (pC (V.int 5)))) [] (pC true) (pBin modV (pVar 0) (pC (V.int 999983)))))
  (sSeq (sIf (pBind (pCall (fn1 lenV) [] (pList [(pVar 1)])) fun a => pBind (pC (V.int 0)) fun b => pOp fun σ => (eqV σ a b).bind boolV)
  (sSeq (sSet 1 (pNewList (pList [(pC (V.int 5))])))
  sNil)
  sNil)
  (sSeq (sSet 2 (pNewList (pList [(pC (V.bytes [])), (pC (V.bytes []))])))
  (sSeq (sForE (stName 3) (pRange (pList [(pC (V.int 4))]))
  (sSeq (sSet 4 (pIf (pBind (pVar 3) fun a => pBind (pBin modV (pCall φ__law_draw [] (pList [(pVar 1), (pC (V.int 0))])) (pC (V.int 5))) fun b => pOp fun σ => (ltV σ a b).bind boolV) (pC (V.int 0)) (pC (V.int 1))))
  (sSeq (sSetItem (pVar 2) (pVar 4) (pBin addV (pBin itemV (pVar 2) (pVar 4)) (pCall φ__law_token [] (pList [(pCall φ__law_draw [] (pList [(pVar 1), (pBin addV (pC (V.int 1)) (pVar 3))]))]))))
  sNil)))
  (sSeq (sSet 5 (pNewList (pList [])))
  (sSeq (sForE (stName 6) (pOver (pVar 2))
  (sSeq (sUnpack [7, 8] (pCall φ__law_parts [] (pList [(pVar 6)])))
  (sSeq (sSet 9 (pC V.none))
  (sSeq (sIf (pBind (pVar 7) fun a => pBind (pC (V.int 0)) fun b => pOp fun σ => (eqV σ a b).bind boolV)
  (sSeq (sSet 9 (pCall φ__law_row [] (pList [(pVar 8)])))
  sNil)
  sNil)
  (sSeq (sIf (pBind (pSlice (pCallT φ_told (pList [(pVar 6)])) (pC V.none) (pC (V.int 2))) fun a => pBind (pTup (pList [(pVar 7), (pVar 9)])) fun b => pOp fun σ => (neV σ a b).bind boolV)
  (sSeq (sRet (pC (V.bool false)))
  sNil)
  sNil)
  (sSeq (sExpr (pMeth appendK (pVar 5) (pList [(pTup (pList [(pVar 7), (pVar 9)]))])))
  sNil))))))
  (sSeq (sUnpack [7, 9] (pBin itemV (pVar 5) (pC (V.int 1))))
  (sSeq (sIf (pBind (pBin itemV (pBin itemV (pVar 5) (pC (V.int 0))) (pC (V.int 0))) fun a => pBind (pC (V.int 2)) fun b => pOp fun σ => (eqV σ a b).bind boolV)
  (sSeq (sSet 7 (pC (V.int 2)))
  sNil)
  (sSeq (sIf (pBind (pBin itemV (pBin itemV (pVar 5) (pC (V.int 0))) (pC (V.int 0))) fun a => pBind (pC (V.int 1)) fun b => pOp fun σ => (eqV σ a b).bind boolV)
  (sSeq (sUnpack [7, 8] (pCall φ__law_parts [] (pList [(pBin addV (pBin itemV (pVar 2) (pC (V.int 0))) (pBin itemV (pVar 2) (pC (V.int 1))))])))
  (sSeq (sSet 9 (pCall φ__law_row [] (pList [(pVar 8)])))
  sNil))
  (sSeq (sIf (pBind (pVar 7) fun a => pBind (pC (V.int 0)) fun b => pOp fun σ => (eqV σ a b).bind boolV)
  (sSeq (sSet 9 (pCall φ__law_both [] (pList [(pBin itemV (pBin itemV (pVar 5) (pC (V.int 0))) (pC (V.int 1))), (pVar 9)])))
  sNil)
  sNil)
  sNil))
  sNil))
  (sSeq (sUnpack [10, 11, 12] (pCallT φ_told (pList [(pBin addV (pBin itemV (pVar 2) (pC (V.int 0))) (pBin itemV (pVar 2) (pC (V.int 1))))])))
  (sSeq (sIf (pBind (pVar 10) fun a => pBind (pVar 7) fun b => pOp fun σ => (neV σ a b).bind boolV)
  (sSeq (sRet (pC (V.bool false)))
  sNil)
  sNil)
  (sSeq (sIf (pBind (pVar 7) fun a => pBind (pC (V.int 0)) fun b => pOp fun σ => (gtV σ a b).bind boolV)
  (sSeq (sRet (pC (V.bool true)))
  sNil)
  sNil)
  (sSeq (sIf (pIf (pBind (pVar 11) fun a => pBind (pVar 9) fun b => pOp fun σ => (neV σ a b).bind boolV) (pC true) (pIf (pNot (pTest (pUn isboolV (pBin itemV (pVar 11) (pC (V.int 7)))))) (pC true) (pIf (pBind (pVar 12) fun a => pBind (pCall φ__law_write [] (pList [(pVar 9)])) fun b => pOp fun σ => (neV σ a b).bind boolV) (pC true) (pC false))))
  (sSeq (sRet (pC (V.bool false)))
  sNil)
  sNil)
  (sSeq (sRet (pBin eqV (pCallT φ_told (pList [(pVar 12)])) (pTup (pList [(pC (V.int 0)), (pVar 9), (pVar 12)]))))
  sNil)))))))))))))
noncomputable def lawVars : List Str := [(Str.ofString "script"), (Str.ofString "nums"), (Str.ofString "halves"), (Str.ofString "i"), (Str.ofString "side"), (Str.ofString "found"), (Str.ofString "data"), (Str.ofString "fault"), (Str.ofString "parts"), (Str.ofString "row"), (Str.ofString "got"), (Str.ofString "told"), (Str.ofString "again")]
theorem law_run (G : Gd w mg mb B0) {s : Shared} {vs : List V} {ws : List Value} {v : V} {σ' : List Cell} {Q E : Value → Shared → Prop} (hs : s.heap = B0) (rs : VRs B0 B0 [] vs ws) (hn : vs.length = 1) (hF : F_law (fun i => vs[i]?) [] = .ret v σ')
    (ok : ∀ ρ' x h' tk', (∀ b o, s.heap.get? b = some o → h'.get? b = some o) → VR B0 h' ρ' v x → Q x { s with heap := h', toks := tk' }) :
    wpX true (model prog w) callerA (call (.ref 454) ws) Q E s := by
  refine top_call G (vars := lawVars) (F := F_law) (names := [Str.ofString "script"]) (G.kx 454 _ rfl) rfl ⟨_, _, _, _, rfl, G.kx _ _ rfl, rfl, rfl⟩ rfl rfl rfl rfl rfl (all1 fun a0 => by rfl) ⟨_, rfl⟩ (by decide) (by decide) (by decide) rfl rfl rfl ?_ hs rs hn hF ok
  unfold F_law
  exact (SL.cons (S1.setcomp (SI.value (SV.slice (SV.var (i := 0) rfl) SP.none (SP.some SV.const_int))) (CompScope.mk (frees := []) (js := []) rfl (by decide) (by decide) rfl (by decide) (fun i y h => by simp at h)) .nil (SV.bin (SV.var (i := 0) rfl) SV.const_int q_mod) (i := 1) rfl (by decide) rfl rfl rfl (by decide))
  (SL.cons (S1.if_ (ST.cmp (SV.call_builtin rfl (gn G rfl) bb_len (by decide) kok_builtin (CF.fn1 (d := 0) q_len (fun _ => rfl)) (by decide) (SA.cons (SV.var (i := 1) rfl) SA.nil)) SV.const_int q_eq)
  (SL.cons (S1.set (SV.list (SA.cons SV.const_int SA.nil)) (i := 1) rfl (by decide) rfl)
  SL.nil)
  SL.nil)
  (SL.cons (S1.set (SV.list (SA.cons SV.const_bytes (SA.cons SV.const_bytes SA.nil))) (i := 2) rfl (by decide) rfl)
  (SL.cons (S1.for_ (SI.range rfl (gn G rfl) (SA.cons SV.const_int SA.nil)) (TgtOk.name (i := 3) rfl (by decide) rfl)
  (SL.cons (S1.set (SV.ifexp (ST.cmp (SV.var (i := 3) rfl) (SV.bin (SV.call_glob rfl (gl G rfl) (kk G rfl) (cf__law_draw G) (by decide) (SA.cons (SV.var (i := 1) rfl) (SA.cons SV.const_int SA.nil))) SV.const_int q_mod) q_lt) SV.const_int SV.const_int) (i := 4) rfl (by decide) rfl)
  (SL.cons (S1.setitem (SV.bin (SV.item (SV.var (i := 2) rfl) (SV.var (i := 4) rfl)) (SV.call_glob rfl (gl G rfl) (kk G rfl) (cf__law_token G) (by decide) (SA.cons (SV.call_glob rfl (gl G rfl) (kk G rfl) (cf__law_draw G) (by decide) (SA.cons (SV.var (i := 1) rfl) (SA.cons (SV.bin SV.const_int (SV.var (i := 3) rfl) q_add) SA.nil))) SA.nil)) q_add) (SV.var (i := 2) rfl) (SV.var (i := 4) rfl))
  SL.nil)))
  (SL.cons (S1.set (SV.list SA.nil) (i := 5) rfl (by decide) rfl)
  (SL.cons (S1.for_ (SI.value (SV.var (i := 2) rfl)) (TgtOk.name (i := 6) rfl (by decide) rfl)
  (SL.cons (S1.unpack (SV.call_glob rfl (gl G rfl) (kk G rfl) (cf__law_parts G) (by decide) (SA.cons (SV.var (i := 6) rfl) SA.nil)) (.cons (i := 7) rfl rfl (.cons (i := 8) rfl rfl .nil)) (by decide))
  (SL.cons (S1.set SV.const_none (i := 9) rfl (by decide) rfl)
  (SL.cons (S1.if_ (ST.cmp (SV.var (i := 7) rfl) SV.const_int q_eq)
  (SL.cons (S1.set (SV.call_glob rfl (gl G rfl) (kk G rfl) (cf__law_row G) (by decide) (SA.cons (SV.var (i := 8) rfl) SA.nil)) (i := 9) rfl (by decide) rfl)
  SL.nil)
  SL.nil)
  (SL.cons (S1.if_ (ST.cmp (SV.slice (SV.call_ct rfl (gl G rfl) (kk G rfl) (ct_told G) (by decide) (by decide) (SA.cons (SV.var (i := 6) rfl) SA.nil)) SP.none (SP.some SV.const_int)) (SV.tuple (SA.cons (SV.var (i := 7) rfl) (SA.cons (SV.var (i := 9) rfl) SA.nil))) q_ne)
  (SL.cons (S1.ret SV.const_bool)
  SL.nil)
  SL.nil)
  (SL.cons (S1.expr (SV.meth (SV.var (i := 5) rfl) (meth_append (d := 0)) (by decide) (SA.cons (SV.tuple (SA.cons (SV.var (i := 7) rfl) (SA.cons (SV.var (i := 9) rfl) SA.nil))) SA.nil)))
  SL.nil))))))
  (SL.cons (S1.unpack (SV.item (SV.var (i := 5) rfl) SV.const_int) (.cons (i := 7) rfl rfl (.cons (i := 9) rfl rfl .nil)) (by decide))
  (SL.cons (S1.if_ (ST.cmp (SV.item (SV.item (SV.var (i := 5) rfl) SV.const_int) SV.const_int) SV.const_int q_eq)
  (SL.cons (S1.set SV.const_int (i := 7) rfl (by decide) rfl)
  SL.nil)
  (SL.cons (S1.if_ (ST.cmp (SV.item (SV.item (SV.var (i := 5) rfl) SV.const_int) SV.const_int) SV.const_int q_eq)
  (SL.cons (S1.unpack (SV.call_glob rfl (gl G rfl) (kk G rfl) (cf__law_parts G) (by decide) (SA.cons (SV.bin (SV.item (SV.var (i := 2) rfl) SV.const_int) (SV.item (SV.var (i := 2) rfl) SV.const_int) q_add) SA.nil)) (.cons (i := 7) rfl rfl (.cons (i := 8) rfl rfl .nil)) (by decide))
  (SL.cons (S1.set (SV.call_glob rfl (gl G rfl) (kk G rfl) (cf__law_row G) (by decide) (SA.cons (SV.var (i := 8) rfl) SA.nil)) (i := 9) rfl (by decide) rfl)
  SL.nil))
  (SL.cons (S1.if_ (ST.cmp (SV.var (i := 7) rfl) SV.const_int q_eq)
  (SL.cons (S1.set (SV.call_glob rfl (gl G rfl) (kk G rfl) (cf__law_both G) (by decide) (SA.cons (SV.item (SV.item (SV.var (i := 5) rfl) SV.const_int) SV.const_int) (SA.cons (SV.var (i := 9) rfl) SA.nil))) (i := 9) rfl (by decide) rfl)
  SL.nil)
  SL.nil)
  SL.nil))
  SL.nil))
  (SL.cons (S1.unpack (SV.call_ct rfl (gl G rfl) (kk G rfl) (ct_told G) (by decide) (by decide) (SA.cons (SV.bin (SV.item (SV.var (i := 2) rfl) SV.const_int) (SV.item (SV.var (i := 2) rfl) SV.const_int) q_add) SA.nil)) (.cons (i := 10) rfl rfl (.cons (i := 11) rfl rfl (.cons (i := 12) rfl rfl .nil))) (by decide))
  (SL.cons (S1.if_ (ST.cmp (SV.var (i := 10) rfl) (SV.var (i := 7) rfl) q_ne)
  (SL.cons (S1.ret SV.const_bool)
  SL.nil)
  SL.nil)
  (SL.cons (S1.if_ (ST.cmp (SV.var (i := 7) rfl) SV.const_int q_gt)
  (SL.cons (S1.ret SV.const_bool)
  SL.nil)
  SL.nil)
  (SL.cons (S1.if_ (ST.boolop (SB.or_cons (ST.cmp (SV.var (i := 11) rfl) (SV.var (i := 9) rfl) q_ne) (SB.or_cons (ST.not (ST.of (SV.isbool G (SV.item (SV.var (i := 11) rfl) SV.const_int)))) (SB.or_cons (ST.cmp (SV.var (i := 12) rfl) (SV.call_glob rfl (gl G rfl) (kk G rfl) (cf__law_write G) (by decide) (SA.cons (SV.var (i := 9) rfl) SA.nil)) q_ne) SB.or_nil))))
  (SL.cons (S1.ret SV.const_bool)
  SL.nil)
  SL.nil)
  (SL.cons (S1.ret (SV.cmp (SV.call_ct rfl (gl G rfl) (kk G rfl) (ct_told G) (by decide) (by decide) (SA.cons (SV.var (i := 12) rfl) SA.nil)) (SV.tuple (SA.cons SV.const_int (SA.cons (SV.var (i := 9) rfl) (SA.cons (SV.var (i := 12) rfl) SA.nil)))) q_eq))
  SL.nil)))))))))))))
end
section
/-- the looks at the law, each by itself, on the library's quick twins -/
theorem law_ok : _root_.PySem.Challenge.rw_nz0366_01.wellSaid = true := by
  rw [_root_.PySem.W.Fast.te9446332074065402090]
  delta _root_.PySem.W.Fast.tw9446332074065402090
  try dsimp only
  repeat' with_reducible refine look_both ?_ ?_
  all_goals try delta _root_.PySem.W.Fast.tw17960256430627541270
  all_goals try dsimp only
  all_goals try (repeat' with_reducible refine look_both ?_ ?_)
  all_goals try delta _root_.PySem.W.Fast.tw2436336058641802641
  all_goals try dsimp only
  all_goals try (repeat' with_reducible refine look_both ?_ ?_)
  all_goals try delta _root_.PySem.W.Fast.tw12908688711261696721
  all_goals try dsimp only
  all_goals try (repeat' with_reducible refine look_both ?_ ?_)
  all_goals decide +kernel
set_option tactic.hygienic true in
theorem holds_of (hφ : ∀ ns : List Int, ns.length ≤ 63 → ∃ σ', F_law (fun i => [V.clist (ns.map .int)][i]?) [] = .ret (.bool true) σ') : _root_.PySem.Challenge.rw_nz0366_01.Holds := by
  refine holds_law law_ok fun said => ?_
  refine law_holds said ?hw ?hc
  case hw => w_witness2
  case hc =>
    intro w s₀ s₁ mg mb Gr Y hg a hmg args vals as hpre hlay hrd hwl hlo
    have KX := kIn_of Y
    clear Y
    refine Ground.open Gr ?_
    intro T B D TE TW
    clear B D TE TW
    wrow_args hpre hlay hrd hwl hlo
    rename_i ns _ _ _ _ _ _ _ l ws _ hL _ _ _ hI _ hc _
    have G : Gd w mg mb s₁.heap := ⟨T.g, T.b, T.nolimit, ⟨_, .of_isNs (isNs_of_in KX (by kernel_rfl)), nsMap_none_of_in KX (by kernel_rfl) (by kernel_rfl)⟩, T.builtins, KX, ⟨_, _, topRead_of T⟩⟩
    have ea : a = 454 := by
      have e := gl (w := w) G (x := Str.ofString "law") (v := .ref 454) rfl
      have e2 : mg (Str.ofString "law") = some (.ref a) := hmg
      rw [e] at e2
      cases e2; rfl
    subst ea
    obtain ⟨σ', hF⟩ := hφ ns (by omega)
    have rs0 := ints_vr (B0 := s₁.heap) (h := s₁.heap) (ρ := []) hI
    show wpX true _ callerA (call (.ref 454) [.ref l]) _ _ s₁
    refine law_run G rfl (VRs.cons (.clist hL rs0.1 rs0.2) VRs.nil) rfl hF (fun ρ' x h' tk' kp r => ?_)
    cases r
    exact GoodW.toG ⟨.inl ⟨_, .bool true, [], rfl, fun _ => rfl, .bool _, by wrow_post, unshared_nil⟩, kp, rfl, hg⟩
end
end NZ
namespace NZ
/-! the plain law: numbers -/
noncomputable abbrev Bs := List UInt8
theorem and127 (n : Nat) : _root_.PySem.Builtin.bitAnd (n : Int) 127 = ((n % 128 : Nat) : Int) := by
  rw [PyProof.Rows.bitAnd_pp (by omega) (by omega)]
  congr 1
  exact Nat.and_two_pow_sub_one_eq_mod n 7
theorem and_zero_of_lt {n s : Nat} (b : Nat) (h : n < 2 ^ s) : n &&& (b * 2 ^ s) = 0 := by
  apply Nat.eq_of_testBit_eq
  intro i
  rw [Nat.testBit_and, Nat.zero_testBit]
  by_cases hi : i < s
  · rw [Nat.testBit_mul_two_pow]; simp [Nat.not_le.mpr hi]
  · have : n < 2 ^ i := Nat.lt_of_lt_of_le h (Nat.pow_le_pow_right (by decide) (Nat.le_of_not_lt hi))
    rw [Nat.testBit_lt_two_pow this]; simp
theorem or_add {n s : Nat} (b : Nat) (h : n < 2 ^ s) : _root_.PySem.Builtin.bitOr (n : Int) ((b * 2 ^ s : Nat) : Int) = ((n + b * 2 ^ s : Nat) : Int) := by
  rw [PyProof.Rows.bitOr_and, PyProof.Rows.bitAnd_pp (by omega) (by omega)]
  simp only [Int.toNat_natCast]
  rw [and_zero_of_lt b h]
  omega
theorem or128 (x : Nat) (h : x < 128) : _root_.PySem.Builtin.bitOr (x : Int) 128 = ((x + 128 : Nat) : Int) := by
  have := or_add (n := x) (s := 7) 1 (by simpa using h)
  simpa using this
inductive Rs (α : Type) where
  | ok (a : α) (r : Bs)
  | short
  | corr
noncomputable def num : Nat → Bs → Rs Nat
  | 0, _ => .corr
  | _ + 1, [] => .short
  | k + 1, b :: r => if b.toNat < 128 then .ok b.toNat r else match num k r with
    | .ok n r' => .ok (b.toNat % 128 + 128 * n) r'
    | .short => .short
    | .corr => .corr
noncomputable def rd (k most : Nat) (l : Bs) : Rs Nat := match num k l with
  | .ok n r => if most < n then .corr else .ok n r
  | .short => .short
  | .corr => .corr
noncomputable def Rs.map {α β : Type} (f : α → β) : Rs α → Rs β
  | .ok a r => .ok (f a) r
  | .short => .short
  | .corr => .corr
noncomputable def Rs.bind {α β : Type} (x : Rs α) (f : α → Bs → Rs β) : Rs β := match x with
  | .ok a r => f a r
  | .short => .short
  | .corr => .corr
noncomputable abbrev M64 : Nat := 18446744073709551615
noncomputable abbrev M32 : Nat := 4294967295
noncomputable def rdN (l : Bs) : Rs Nat := rd 10 M64 l
noncomputable def rdL (l : Bs) : Rs Nat := (rdN l).bind fun n r => if 12 ≤ n then .corr else .ok n r
noncomputable def rdT (l : Bs) : Rs Bs := (rd 5 M32 l).bind fun n r => if r.length < n then .short else .ok (r.take n) (r.drop n)
noncomputable def rdK (l : Bs) : Rs Bs := (rdT l).bind fun b r => if b.length = 0 then .corr else .ok b r
inductive Part where
  | comp (b : Bs)
  | log (n : Nat)
  | nxt (n : Nat)
  | seq (n : Nat)
  | ptr (lv : Nat) (k : Bs)
  | del (lv n : Nat)
  | add (lv n s : Nat) (a b : Bs)
  | rst
noncomputable def part (l : Bs) : Rs Part := (rdN l).bind fun t r =>
  if t = 1 then (rdT r).map .comp else if t = 2 then (rdN r).map .log else if t = 3 then (rdN r).map .nxt else if t = 4 then (rdN r).map .seq
  else if t = 5 then (rdL r).bind fun lv r => (rdK r).map (.ptr lv) else if t = 6 then (rdL r).bind fun lv r => (rdN r).map (.del lv)
  else if t = 7 then (rdL r).bind fun lv r => (rdN r).bind fun n r => (rdN r).bind fun s r => (rdK r).bind fun a r => (rdK r).map (.add lv n s a)
  else if t = 10 then .ok .rst r else .corr
inductive Pr where
  | ok (ps : List Part)
  | short
  | corr
noncomputable def Pr.cons (p : Part) : Pr → Pr
  | .ok ps => .ok (p :: ps)
  | .short => .short
  | .corr => .corr
noncomputable def Pr.app (ps : List Part) : Pr → Pr
  | .ok qs => .ok (ps ++ qs)
  | .short => .short
  | .corr => .corr
inductive Parse : Bs → Pr → Prop
  | nil : Parse [] (.ok [])
  | short {l : Bs} : l ≠ [] → part l = .short → Parse l .short
  | corr {l : Bs} : l ≠ [] → part l = .corr → Parse l .corr
  | cons {l r : Bs} {p : Part} {res : Pr} : l ≠ [] → part l = .ok p r → Parse r res → Parse l (res.cons p)
/-- a suffix, shorter -/
theorem num_suffix : ∀ {k : Nat} {l r : Bs} {n : Nat}, num k l = .ok n r → (∃ u, u ≠ [] ∧ l = u ++ r) ∧ n < 128 ^ k
  | 0, l, r, n, h => by cases h
  | k + 1, [], r, n, h => by cases h
  | k + 1, b :: l, r, n, h => by
    unfold num at h
    split at h
    · cases h
      refine ⟨⟨[b], by simp, rfl⟩, ?_⟩
      have : 128 ^ 1 ≤ 128 ^ (k + 1) := Nat.pow_le_pow_right (by decide) (by omega)
      omega
    · cases hn : num k l with
      | ok n' r' =>
        rw [hn] at h
        cases h
        obtain ⟨⟨u, hu, e⟩, hlt⟩ := num_suffix hn
        refine ⟨⟨b :: u, by simp, by rw [e]; rfl⟩, ?_⟩
        rw [Nat.pow_succ]
        have : b.toNat % 128 < 128 := Nat.mod_lt _ (by decide)
        omega
      | short => rw [hn] at h; cases h
      | corr => rw [hn] at h; cases h
theorem rd_suffix {k most : Nat} {l r : Bs} {n : Nat} (h : rd k most l = .ok n r) : (∃ u, u ≠ [] ∧ l = u ++ r) ∧ n ≤ most ∧ n < 128 ^ k := by
  unfold rd at h
  cases hn : num k l with
  | ok n' r' =>
    rw [hn] at h
    dsimp only at h
    split at h
    · cases h
    · cases h
      obtain ⟨a, b⟩ := num_suffix hn
      exact ⟨a, by omega, b⟩
  | short => rw [hn] at h; cases h
  | corr => rw [hn] at h; cases h
theorem num_append {k : Nat} (t : Bs) : ∀ {l : Bs}, (∀ n r, num k l = .ok n r → num k (l ++ t) = .ok n (r ++ t)) ∧ (num k l = .corr → num k (l ++ t) = .corr) := by
  induction k with
  | zero => intro l; exact ⟨fun n r h => (by cases h), fun _ => rfl⟩
  | succ k ih =>
    intro l
    cases l with
    | nil => exact ⟨fun n r h => (by cases h), fun h => by cases h⟩
    | cons b l =>
      obtain ⟨i1, i2⟩ := @ih l
      simp only [List.cons_append]
      unfold num
      by_cases hb : b.toNat < 128
      · rw [if_pos hb, if_pos hb]
        exact ⟨fun n r h => by cases h; rfl, fun h => by cases h⟩
      · rw [if_neg hb, if_neg hb]
        cases hn : num k l with
        | ok n' r' => rw [i1 n' r' hn]; exact ⟨fun n r h => by cases h; rfl, fun h => by cases h⟩
        | short => exact ⟨fun n r h => (by cases h), fun h => by cases h⟩
        | corr => rw [i2 hn]; exact ⟨fun n r h => (by cases h), fun h => rfl⟩
/-- more octets behind change neither what is read nor what is corrupt -/
noncomputable def Mono {α : Type} (f : Bs → Rs α) : Prop := ∀ (t l : Bs), (∀ a r, f l = .ok a r → f (l ++ t) = .ok a (r ++ t)) ∧ (f l = .corr → f (l ++ t) = .corr)
theorem Mono.bind {α β : Type} {f : Bs → Rs α} {g : α → Bs → Rs β} (hf : Mono f) (hg : ∀ a, Mono (g a)) : Mono fun l => (f l).bind g := fun t l => by
  obtain ⟨h1, h2⟩ := hf t l
  dsimp only
  cases hl : f l with
  | ok a r =>
    rw [h1 a r hl]
    exact hg a t r
  | short => exact ⟨fun a r h => (by cases h), fun h => by cases h⟩
  | corr => rw [h2 hl]; exact ⟨fun a r h => (by cases h), fun h => rfl⟩
theorem Mono.map {α β : Type} {f : Bs → Rs α} (g : α → β) (hf : Mono f) : Mono fun l => (f l).map g := fun t l => by
  obtain ⟨h1, h2⟩ := hf t l
  dsimp only
  cases hl : f l with
  | ok a r => rw [h1 a r hl]; exact ⟨fun a r h => by cases h; rfl, fun h => by cases h⟩
  | short => exact ⟨fun a r h => (by cases h), fun h => by cases h⟩
  | corr => rw [h2 hl]; exact ⟨fun a r h => (by cases h), fun h => rfl⟩
theorem Mono.ite {α : Type} {c : Prop} [Decidable c] {f g : Bs → Rs α} (hf : Mono f) (hg : Mono g) : Mono fun l => if c then f l else g l := by
  by_cases h : c
  · simp only [if_pos h]; exact hf
  · simp only [if_neg h]; exact hg
theorem Mono.pure {α : Type} (a : α) : Mono fun l => .ok a l := fun t l => ⟨fun a r h => by cases h; rfl, fun h => by cases h⟩
theorem Mono.corr {α : Type} : Mono fun _ => (.corr : Rs α) := fun t l => ⟨fun a r h => (by cases h), fun h => rfl⟩
theorem rd_mono (k most : Nat) : Mono (rd k most) := fun t l => by
  obtain ⟨h1, h2⟩ := num_append (k := k) t (l := l)
  unfold rd
  cases hl : num k l with
  | ok a r =>
    rw [h1 a r hl]
    dsimp only
    split
    · exact ⟨fun a r h => (by cases h), fun h => rfl⟩
    · exact ⟨fun a r h => by cases h; rfl, fun h => by cases h⟩
  | short => exact ⟨fun a r h => (by cases h), fun h => by cases h⟩
  | corr => rw [h2 hl]; exact ⟨fun a r h => (by cases h), fun h => rfl⟩
theorem rdN_mono : Mono rdN := rd_mono _ _
theorem rdL_mono : Mono rdL := Mono.bind rdN_mono fun n => Mono.ite (f := fun _ => .corr) (g := fun l => .ok n l) Mono.corr (Mono.pure n)
theorem take_mono (n : Nat) : Mono fun r => if r.length < n then .short else .ok (r.take n) (r.drop n) := fun t l => by
  dsimp only
  by_cases h : l.length < n
  · rw [if_pos h]; exact ⟨fun a r h => (by cases h), fun h => by cases h⟩
  · rw [if_neg h, if_neg (by rw [List.length_append]; omega)]
    refine ⟨fun a r e => ?_, fun h => by cases h⟩
    cases e
    rw [List.take_append_of_le_length (by omega), List.drop_append_of_le_length (by omega)]
theorem rdT_mono : Mono rdT := Mono.bind (rd_mono _ _) take_mono
theorem rdK_mono : Mono rdK := Mono.bind rdT_mono fun b => Mono.ite (f := fun _ => .corr) (g := fun l => .ok b l) Mono.corr (Mono.pure b)
theorem part_mono : Mono part := by
  refine Mono.bind rdN_mono fun t => ?_
  refine Mono.ite (Mono.map _ rdT_mono) (Mono.ite (Mono.map _ rdN_mono) (Mono.ite (Mono.map _ rdN_mono) (Mono.ite (Mono.map _ rdN_mono) (Mono.ite (Mono.bind rdL_mono fun lv => Mono.map _ rdK_mono) (Mono.ite (Mono.bind rdL_mono fun lv => Mono.map _ rdN_mono)
    (Mono.ite (Mono.bind rdL_mono fun lv => Mono.bind rdN_mono fun n => Mono.bind rdN_mono fun s => Mono.bind rdK_mono fun a => Mono.map _ rdK_mono) (Mono.ite (Mono.pure _) Mono.corr)))))))
/-! what is left is a suffix, and what is read is fit -/
noncomputable def Suf (l r : Bs) : Prop := ∃ u, l = u ++ r
theorem Suf.refl (l : Bs) : Suf l l := ⟨[], rfl⟩
theorem Suf.trans {a b c : Bs} (x : Suf a b) (y : Suf b c) : Suf a c := by
  obtain ⟨u, rfl⟩ := x
  obtain ⟨v, rfl⟩ := y
  exact ⟨u ++ v, by simp⟩
theorem Suf.len {l r : Bs} (x : Suf l r) : r.length ≤ l.length := by obtain ⟨u, rfl⟩ := x; simp
theorem rdN_ok {l r : Bs} {n : Nat} (h : rdN l = .ok n r) : Suf l r ∧ r.length < l.length ∧ n ≤ M64 := by
  obtain ⟨⟨u, hu, e⟩, a, b⟩ := rd_suffix h
  refine ⟨⟨u, e⟩, ?_, a⟩
  have : 0 < u.length := by cases u with | nil => exact absurd rfl hu | cons => simp
  rw [e, List.length_append]; omega
theorem bind_ok {α β : Type} {x : Rs α} {f : α → Bs → Rs β} {b : β} {r : Bs} (h : x.bind f = .ok b r) : ∃ a r', x = .ok a r' ∧ f a r' = .ok b r := by
  cases x with
  | ok a r' => exact ⟨a, r', rfl, h⟩
  | short => cases h
  | corr => cases h
theorem map_ok {α β : Type} {x : Rs α} {f : α → β} {b : β} {r : Bs} (h : x.map f = .ok b r) : ∃ a, x = .ok a r ∧ f a = b := by
  cases x with
  | ok a r' => cases h; exact ⟨a, rfl, rfl⟩
  | short => cases h
  | corr => cases h
theorem rdL_ok {l r : Bs} {n : Nat} (h : rdL l = .ok n r) : Suf l r ∧ n ≤ 11 := by
  obtain ⟨a, r', h1, h2⟩ := bind_ok h
  split at h2
  · cases h2
  · cases h2; exact ⟨(rdN_ok h1).1, by omega⟩
theorem rdT_ok {l r b : Bs} (h : rdT l = .ok b r) : Suf l r ∧ b.length ≤ M32 := by
  obtain ⟨n, r', h1, h2⟩ := bind_ok h
  obtain ⟨⟨u, hu, e⟩, a, b'⟩ := rd_suffix h1
  split at h2
  · cases h2
  · cases h2
    refine ⟨Suf.trans ⟨u, e⟩ ⟨r'.take n, (List.take_append_drop n r').symm⟩, ?_⟩
    rw [List.length_take]; omega
theorem rdK_ok {l r b : Bs} (h : rdK l = .ok b r) : Suf l r ∧ b.length ≤ M32 ∧ b.length ≠ 0 := by
  obtain ⟨n, r', h1, h2⟩ := bind_ok h
  split at h2
  · cases h2
  · cases h2; exact ⟨(rdT_ok h1).1, (rdT_ok h1).2, by assumption⟩
noncomputable def Part.Fit : Part → Prop
  | .comp b => b.length ≤ M32
  | .log n => n ≤ M64
  | .nxt n => n ≤ M64
  | .seq n => n ≤ M64
  | .ptr lv k => lv ≤ 11 ∧ k.length ≤ M32 ∧ k.length ≠ 0
  | .del lv n => lv ≤ 11 ∧ n ≤ M64
  | .add lv n s a b => lv ≤ 11 ∧ n ≤ M64 ∧ s ≤ M64 ∧ (a.length ≤ M32 ∧ a.length ≠ 0) ∧ (b.length ≤ M32 ∧ b.length ≠ 0)
  | .rst => True
theorem part_ok {l r : Bs} {p : Part} (h : part l = .ok p r) : Suf l r ∧ r.length < l.length ∧ p.Fit := by
  obtain ⟨t, r', h1, h2⟩ := bind_ok h
  obtain ⟨s1, s2, _⟩ := rdN_ok h1
  suffices hh : Suf r' r ∧ p.Fit by exact ⟨s1.trans hh.1, Nat.lt_of_le_of_lt hh.1.len s2, hh.2⟩
  split at h2
  · obtain ⟨a, e, rfl⟩ := map_ok h2; exact rdT_ok e
  split at h2
  · obtain ⟨a, e, rfl⟩ := map_ok h2; exact ⟨(rdN_ok e).1, (rdN_ok e).2.2⟩
  split at h2
  · obtain ⟨a, e, rfl⟩ := map_ok h2; exact ⟨(rdN_ok e).1, (rdN_ok e).2.2⟩
  split at h2
  · obtain ⟨a, e, rfl⟩ := map_ok h2; exact ⟨(rdN_ok e).1, (rdN_ok e).2.2⟩
  split at h2
  · obtain ⟨lv, r1, e1, h2⟩ := bind_ok h2
    obtain ⟨a, e, rfl⟩ := map_ok h2
    exact ⟨(rdL_ok e1).1.trans (rdK_ok e).1, (rdL_ok e1).2, (rdK_ok e).2⟩
  split at h2
  · obtain ⟨lv, r1, e1, h2⟩ := bind_ok h2
    obtain ⟨a, e, rfl⟩ := map_ok h2
    exact ⟨(rdL_ok e1).1.trans (rdN_ok e).1, (rdL_ok e1).2, (rdN_ok e).2.2⟩
  split at h2
  · obtain ⟨lv, r1, e1, h2⟩ := bind_ok h2
    obtain ⟨n, r2, e2, h2⟩ := bind_ok h2
    obtain ⟨s, r3, e3, h2⟩ := bind_ok h2
    obtain ⟨a, r4, e4, h2⟩ := bind_ok h2
    obtain ⟨b, e5, rfl⟩ := map_ok h2
    exact ⟨(rdL_ok e1).1.trans ((rdN_ok e2).1.trans ((rdN_ok e3).1.trans ((rdK_ok e4).1.trans (rdK_ok e5).1))), (rdL_ok e1).2, (rdN_ok e2).2.2, (rdN_ok e3).2.2, (rdK_ok e4).2, (rdK_ok e5).2⟩
  split at h2
  · cases h2; exact ⟨Suf.refl _, trivial⟩
  · cases h2
theorem parse_total : ∀ (n : Nat) (l : Bs), l.length ≤ n → ∃ res, Parse l res := by
  intro n
  induction n with
  | zero => intro l h; cases l with | nil => exact ⟨_, .nil⟩ | cons => simp at h
  | succ n ih =>
    intro l h
    cases l with
    | nil => exact ⟨_, .nil⟩
    | cons b l =>
      cases hp : part (b :: l) with
      | ok p r =>
        obtain ⟨_, hr, _⟩ := part_ok hp
        obtain ⟨res, h'⟩ := ih r (by omega)
        exact ⟨_, .cons (by simp) hp h'⟩
      | short => exact ⟨_, .short (by simp) hp⟩
      | corr => exact ⟨_, .corr (by simp) hp⟩
theorem parse_fit {l : Bs} {res : Pr} (h : Parse l res) : ∀ ps, res = .ok ps → ∀ p ∈ ps, p.Fit := by
  induction h with
  | nil => intro ps e p hp; cases e; cases hp
  | short => intro ps e; cases e
  | corr => intro ps e; cases e
  | @cons l r p res hl hp h ih =>
    intro ps e q hq
    cases res with
    | ok qs =>
      cases e
      rcases List.mem_cons.mp hq with rfl | hq
      · exact (part_ok hp).2.2
      · exact ih qs rfl q hq
    | short => cases e
    | corr => cases e
theorem parse_append {a b : Bs} {ra rb : Pr} (ha : Parse a ra) (hb : Parse b rb) : (∀ ps, ra = .ok ps → Parse (a ++ b) (rb.app ps)) ∧ (ra = .corr → Parse (a ++ b) .corr) := by
  induction ha with
  | nil => exact ⟨fun ps e => by cases e; cases rb <;> exact hb, fun e => by cases e⟩
  | short hl hp => exact ⟨fun ps e => (by cases e), fun e => by cases e⟩
  | corr hl hp => exact ⟨fun ps e => (by cases e), fun e => .corr (by simp [hl]) ((part_mono b _).2 hp)⟩
  | @cons l r p res hl hp h ih =>
    have hp' := (part_mono b l).1 p r hp
    have hne : l ++ b ≠ [] := by simp [hl]
    refine ⟨fun ps e => ?_, fun e => ?_⟩
    · cases res with
      | ok qs =>
        cases e
        have := Parse.cons hne hp' (ih.1 qs rfl)
        cases rb <;> exact this
      | short => cases e
      | corr => cases e
    · cases res with
      | ok qs => cases e
      | short => cases e
      | corr => exact Parse.cons hne hp' (ih.2 rfl)
end NZ
namespace NZ
/-! writing -/
noncomputable def encGo : Nat → Nat → Bs
  | 0, n => [n.toUInt8]
  | k + 1, n => if n < 128 then [n.toUInt8] else (n % 128 + 128).toUInt8 :: encGo k (n / 128)
noncomputable def enc (n : Nat) : Bs := encGo n n
theorem encGo_eq : ∀ (k j n : Nat), n ≤ k → n ≤ j → encGo k n = encGo j n
  | 0, 0, _, _, _ => rfl
  | 0, _ + 1, n, h, _ => by obtain rfl := Nat.le_zero.mp h; rfl
  | _ + 1, 0, n, _, h => by obtain rfl := Nat.le_zero.mp h; rfl
  | k + 1, j + 1, n, h, h' => by
    show (if n < 128 then _ else _ :: encGo k (n / 128)) = if n < 128 then _ else _ :: encGo j (n / 128)
    by_cases hn : n < 128
    · rw [if_pos hn, if_pos hn]
    · rw [if_neg hn, if_neg hn, encGo_eq k j (n / 128) (by omega) (by omega)]
theorem enc_small {n : Nat} (h : n < 128) : enc n = [n.toUInt8] := by
  cases n with
  | zero => rfl
  | succ n => exact if_pos h
theorem enc_big {n : Nat} (h : ¬ n < 128) : enc n = (n % 128 + 128).toUInt8 :: enc (n / 128) := by
  cases n with
  | zero => exact absurd (by decide) h
  | succ n => exact (if_neg h).trans (congrArg _ (encGo_eq n _ _ (by omega) (Nat.le_refl _)))
theorem u8 {n : Nat} (h : n < 256) : n.toUInt8.toNat = n := by
  rw [Nat.toUInt8, UInt8.toNat_ofNat']
  exact Nat.mod_eq_of_lt h
theorem num_enc : ∀ (k n : Nat) (t : Bs), 0 < k → n < 128 ^ k → num k (enc n ++ t) = .ok n t
  | 0, _, _, h, _ => by omega
  | k + 1, n, t, _, h => by
    by_cases hn : n < 128
    · rw [enc_small hn]
      show num (k + 1) (n.toUInt8 :: t) = _
      unfold num
      rw [u8 (by omega), if_pos hn]
    · rw [enc_big hn]
      show num (k + 1) ((n % 128 + 128).toUInt8 :: (enc (n / 128) ++ t)) = _
      unfold num
      have hm : n % 128 < 128 := Nat.mod_lt _ (by decide)
      rw [u8 (by omega), if_neg (by omega)]
      have hk : 0 < k := by
        rcases Nat.eq_zero_or_pos k with rfl | hk
        · simp at h; omega
        · exact hk
      have hd : n / 128 < 128 ^ k := by
        rw [Nat.pow_succ] at h
        exact Nat.div_lt_of_lt_mul (by omega)
      rw [num_enc k (n / 128) t hk hd]
      dsimp only
      congr 1
      omega
theorem rdN_enc {n : Nat} (t : Bs) (h : n ≤ M64) : rdN (enc n ++ t) = .ok n t := by
  unfold rdN rd
  rw [num_enc 10 n t (by decide) (Nat.lt_of_le_of_lt h (by decide))]
  dsimp only
  rw [if_neg (by omega)]
theorem rdL_enc {n : Nat} (t : Bs) (h : n ≤ 11) : rdL (enc n ++ t) = .ok n t := by
  unfold rdL
  rw [rdN_enc t (by unfold M64; omega)]
  show (if 12 ≤ n then _ else _) = _
  rw [if_neg (by omega)]
noncomputable def encT (b : Bs) : Bs := enc b.length ++ b
theorem rdT_enc {b : Bs} (t : Bs) (h : b.length ≤ M32) : rdT (encT b ++ t) = .ok b t := by
  unfold rdT encT rd
  rw [List.append_assoc, num_enc 5 b.length (b ++ t) (by decide) (Nat.lt_of_le_of_lt h (by decide))]
  dsimp only
  rw [if_neg (by omega)]
  show (if (b ++ t).length < b.length then _ else _) = _
  rw [if_neg (by rw [List.length_append]; omega)]
  simp
theorem rdK_enc {b : Bs} (t : Bs) (h : b.length ≤ M32) (h0 : b.length ≠ 0) : rdK (encT b ++ t) = .ok b t := by
  unfold rdK
  rw [rdT_enc t h]
  show (if b.length = 0 then _ else _) = _
  rw [if_neg h0]
noncomputable def encPart : Part → Bs
  | .comp b => enc 1 ++ encT b
  | .log n => enc 2 ++ enc n
  | .nxt n => enc 3 ++ enc n
  | .seq n => enc 4 ++ enc n
  | .ptr lv k => enc 5 ++ (enc lv ++ encT k)
  | .del lv n => enc 6 ++ (enc lv ++ enc n)
  | .add lv n s a b => enc 7 ++ (enc lv ++ (enc n ++ (enc s ++ (encT a ++ encT b))))
  | .rst => enc 10
theorem part_enc {p : Part} (h : p.Fit) (t : Bs) : part (encPart p ++ t) = .ok p t := by
  have tag : ∀ (k : Nat) (u : Bs), k ≤ 10 → rdN (enc k ++ u) = .ok k u := fun k u hk => rdN_enc u (by unfold M64; omega)
  unfold part
  cases p with
  | comp b => simp only [encPart, List.append_assoc]; rw [tag 1 _ (by decide)]; simp only [Rs.bind, if_true]; rw [rdT_enc t h]; rfl
  | log n => simp only [encPart, List.append_assoc]; rw [tag 2 _ (by decide)]; simp [Rs.bind]; rw [rdN_enc t h]; rfl
  | nxt n => simp only [encPart, List.append_assoc]; rw [tag 3 _ (by decide)]; simp [Rs.bind]; rw [rdN_enc t h]; rfl
  | seq n => simp only [encPart, List.append_assoc]; rw [tag 4 _ (by decide)]; simp [Rs.bind]; rw [rdN_enc t h]; rfl
  | ptr lv k => simp only [encPart, List.append_assoc]; rw [tag 5 _ (by decide)]; simp [Rs.bind]; rw [rdL_enc _ h.1]; simp only []; rw [rdK_enc t h.2.1 h.2.2]; rfl
  | del lv n => simp only [encPart, List.append_assoc]; rw [tag 6 _ (by decide)]; simp [Rs.bind]; rw [rdL_enc _ h.1]; simp only []; rw [rdN_enc t h.2]; rfl
  | add lv n s a b =>
    obtain ⟨h1, h2, h3, h4, h5⟩ := h
    simp only [encPart, List.append_assoc]; rw [tag 7 _ (by decide)]; simp [Rs.bind]
    rw [rdL_enc _ h1]; simp only []
    rw [rdN_enc _ h2]; simp only []
    rw [rdN_enc _ h3]; simp only []
    rw [rdK_enc _ h4.1 h4.2]; simp only []
    rw [rdK_enc _ h5.1 h5.2]; rfl
  | rst => simp only [encPart]; rw [tag 10 _ (by decide)]; simp [Rs.bind]
theorem enc_ne (n : Nat) : enc n ≠ [] := by
  by_cases h : n < 128
  · rw [enc_small h]; simp
  · rw [enc_big h]; simp
theorem encPart_ne (p : Part) : encPart p ≠ [] := by cases p <;> simp [encPart, enc_ne]
noncomputable def encAll (ps : List Part) : Bs := ps.flatMap encPart
theorem parse_enc : ∀ (ps : List Part), (∀ p ∈ ps, p.Fit) → Parse (encAll ps) (.ok ps)
  | [], _ => .nil
  | p :: ps, h => by
    have : encAll (p :: ps) = encPart p ++ encAll ps := rfl
    rw [this]
    exact Parse.cons (res := .ok ps) (by simp [encPart_ne]) (part_enc (h p List.mem_cons_self) _) (parse_enc ps fun q hq => h q (List.mem_cons_of_mem _ hq))
/-! an edit's row -/
structure Row where
  comp : Option Bs
  log : Option Nat
  nxt : Option Nat
  seq : Option Nat
  ptrs : List (Nat × Bs)
  dels : List (Nat × Nat)
  adds : List (Nat × Nat × Nat × Bs × Bs)
  rst : Bool
noncomputable def Part.comp? : Part → Option Bs
  | .comp b => some b
  | _ => none
noncomputable def Part.log? : Part → Option Nat
  | .log n => some n
  | _ => none
noncomputable def Part.nxt? : Part → Option Nat
  | .nxt n => some n
  | _ => none
noncomputable def Part.seq? : Part → Option Nat
  | .seq n => some n
  | _ => none
noncomputable def Part.ptr? : Part → Option (Nat × Bs)
  | .ptr lv k => some (lv, k)
  | _ => none
noncomputable def Part.del? : Part → Option (Nat × Nat)
  | .del lv n => some (lv, n)
  | _ => none
noncomputable def Part.add? : Part → Option (Nat × Nat × Nat × Bs × Bs)
  | .add lv n s a b => some (lv, n, s, a, b)
  | _ => none
noncomputable def Part.rst? : Part → Bool
  | .rst => true
  | _ => false
noncomputable def rowOf (ps : List Part) : Row := ⟨(ps.filterMap Part.comp?).getLast?, (ps.filterMap Part.log?).getLast?, (ps.filterMap Part.nxt?).getLast?, (ps.filterMap Part.seq?).getLast?, ps.filterMap Part.ptr?, ps.filterMap Part.del?, ps.filterMap Part.add?, ps.any Part.rst?⟩
noncomputable def Row.both (a b : Row) : Row := ⟨b.comp.or a.comp, b.log.or a.log, b.nxt.or a.nxt, b.seq.or a.seq, a.ptrs ++ b.ptrs, a.dels ++ b.dels, a.adds ++ b.adds, a.rst || b.rst⟩
theorem rowOf_append (ps qs : List Part) : rowOf (ps ++ qs) = (rowOf ps).both (rowOf qs) := by
  simp only [rowOf, Row.both, List.filterMap_append, List.getLast?_append, List.any_append]
noncomputable def oL {α : Type} (o : Option α) (f : α → Part) : List Part := match o with
  | some a => [f a]
  | none => []
noncomputable def canon (r : Row) : List Part := (if r.rst then [.rst] else []) ++ (oL r.comp .comp ++ (oL r.log .log ++ (oL r.nxt .nxt ++ (oL r.seq .seq ++ (r.ptrs.map (fun p => .ptr p.1 p.2) ++ (r.dels.map (fun p => .del p.1 p.2) ++ r.adds.map (fun p => .add p.1 p.2.1 p.2.2.1 p.2.2.2.1 p.2.2.2.2)))))))
theorem fm_map_some {α β : Type} (g : α → β) (f : β → Option α) (h : ∀ a, f (g a) = some a) (l : List α) : (l.map g).filterMap f = l := by
  induction l with
  | nil => rfl
  | cons a l ih => simp [h, ih]
theorem fm_map_none {α β γ : Type} (g : α → β) (f : β → Option γ) (h : ∀ a, f (g a) = none) (l : List α) : (l.map g).filterMap f = [] := by
  induction l with
  | nil => rfl
  | cons a l ih => simp [h, ih]
theorem row_canon (r : Row) : rowOf (canon r) = r := by
  obtain ⟨c, l, n, s, p, d, a, t⟩ := r
  have hr : ∀ {α : Type} (f : Part → Option α), f .rst = none → (if t = true then [Part.rst] else []).filterMap f = [] := fun f hf => by cases t <;> simp [hf]
  have ho : ∀ {α β : Type} (o : Option α) (g : α → Part) (f : Part → Option β), (∀ a, f (g a) = none) → (oL o g).filterMap f = [] := fun o g f hf => by cases o <;> simp [oL, hf]
  have ho' : ∀ {α : Type} (o : Option α) (g : α → Part) (f : Part → Option α), (∀ a, f (g a) = some a) → (oL o g).filterMap f = o.toList := fun o g f hf => by cases o <;> simp [oL, hf]
  have hl : ∀ {α : Type} (o : Option α), (o.toList).getLast? = o := fun o => by cases o <;> rfl
  unfold rowOf canon
  simp only [List.filterMap_append]
  congr 1
  · rw [hr Part.comp? rfl, ho' c Part.comp Part.comp? (fun _ => rfl), ho l Part.log Part.comp? (fun _ => rfl), ho n Part.nxt Part.comp? (fun _ => rfl), ho s Part.seq Part.comp? (fun _ => rfl), fm_map_none (fun p => Part.ptr p.1 p.2) Part.comp? (fun _ => rfl) p, fm_map_none (fun p => Part.del p.1 p.2) Part.comp? (fun _ => rfl) d, fm_map_none (fun p => Part.add p.1 p.2.1 p.2.2.1 p.2.2.2.1 p.2.2.2.2) Part.comp? (fun _ => rfl) a]; simp [hl]
  · rw [hr Part.log? rfl, ho c Part.comp Part.log? (fun _ => rfl), ho' l Part.log Part.log? (fun _ => rfl), ho n Part.nxt Part.log? (fun _ => rfl), ho s Part.seq Part.log? (fun _ => rfl), fm_map_none (fun p => Part.ptr p.1 p.2) Part.log? (fun _ => rfl) p, fm_map_none (fun p => Part.del p.1 p.2) Part.log? (fun _ => rfl) d, fm_map_none (fun p => Part.add p.1 p.2.1 p.2.2.1 p.2.2.2.1 p.2.2.2.2) Part.log? (fun _ => rfl) a]; simp [hl]
  · rw [hr Part.nxt? rfl, ho c Part.comp Part.nxt? (fun _ => rfl), ho l Part.log Part.nxt? (fun _ => rfl), ho' n Part.nxt Part.nxt? (fun _ => rfl), ho s Part.seq Part.nxt? (fun _ => rfl), fm_map_none (fun p => Part.ptr p.1 p.2) Part.nxt? (fun _ => rfl) p, fm_map_none (fun p => Part.del p.1 p.2) Part.nxt? (fun _ => rfl) d, fm_map_none (fun p => Part.add p.1 p.2.1 p.2.2.1 p.2.2.2.1 p.2.2.2.2) Part.nxt? (fun _ => rfl) a]; simp [hl]
  · rw [hr Part.seq? rfl, ho c Part.comp Part.seq? (fun _ => rfl), ho l Part.log Part.seq? (fun _ => rfl), ho n Part.nxt Part.seq? (fun _ => rfl), ho' s Part.seq Part.seq? (fun _ => rfl), fm_map_none (fun p => Part.ptr p.1 p.2) Part.seq? (fun _ => rfl) p, fm_map_none (fun p => Part.del p.1 p.2) Part.seq? (fun _ => rfl) d, fm_map_none (fun p => Part.add p.1 p.2.1 p.2.2.1 p.2.2.2.1 p.2.2.2.2) Part.seq? (fun _ => rfl) a]; simp [hl]
  · rw [hr Part.ptr? rfl, ho c Part.comp Part.ptr? (fun _ => rfl), ho l Part.log Part.ptr? (fun _ => rfl), ho n Part.nxt Part.ptr? (fun _ => rfl), ho s Part.seq Part.ptr? (fun _ => rfl), fm_map_some (fun p => Part.ptr p.1 p.2) Part.ptr? (fun _ => rfl) p, fm_map_none (fun p => Part.del p.1 p.2) Part.ptr? (fun _ => rfl) d, fm_map_none (fun p => Part.add p.1 p.2.1 p.2.2.1 p.2.2.2.1 p.2.2.2.2) Part.ptr? (fun _ => rfl) a]; simp [hl]
  · rw [hr Part.del? rfl, ho c Part.comp Part.del? (fun _ => rfl), ho l Part.log Part.del? (fun _ => rfl), ho n Part.nxt Part.del? (fun _ => rfl), ho s Part.seq Part.del? (fun _ => rfl), fm_map_none (fun p => Part.ptr p.1 p.2) Part.del? (fun _ => rfl) p, fm_map_some (fun p => Part.del p.1 p.2) Part.del? (fun _ => rfl) d, fm_map_none (fun p => Part.add p.1 p.2.1 p.2.2.1 p.2.2.2.1 p.2.2.2.2) Part.del? (fun _ => rfl) a]; simp [hl]
  · rw [hr Part.add? rfl, ho c Part.comp Part.add? (fun _ => rfl), ho l Part.log Part.add? (fun _ => rfl), ho n Part.nxt Part.add? (fun _ => rfl), ho s Part.seq Part.add? (fun _ => rfl), fm_map_none (fun p => Part.ptr p.1 p.2) Part.add? (fun _ => rfl) p, fm_map_none (fun p => Part.del p.1 p.2) Part.add? (fun _ => rfl) d, fm_map_some (fun p => Part.add p.1 p.2.1 p.2.2.1 p.2.2.2.1 p.2.2.2.2) Part.add? (fun _ => rfl) a]; simp [hl]
  · have e1 : ∀ {α : Type} (o : Option α) (g : α → Part), (∀ a, (g a).rst? = false) → (oL o g).any Part.rst? = false := fun o g hf => by cases o <;> simp [oL, hf]
    have e2 : ∀ {α : Type} (l : List α) (g : α → Part), (∀ a, (g a).rst? = false) → (l.map g).any Part.rst? = false := fun l g hf => by simp [List.any_map, Function.comp, hf]
    simp only [List.any_append]
    rw [e1 c Part.comp (fun _ => rfl), e1 l Part.log (fun _ => rfl), e1 n Part.nxt (fun _ => rfl), e1 s Part.seq (fun _ => rfl), e2 p (fun p => Part.ptr p.1 p.2) (fun _ => rfl), e2 d (fun p => Part.del p.1 p.2) (fun _ => rfl), e2 a (fun p => Part.add p.1 p.2.1 p.2.2.1 p.2.2.2.1 p.2.2.2.2) (fun _ => rfl)]
    cases t <;> simp [Part.rst?]
noncomputable def Row.Fit (r : Row) : Prop := ∀ p ∈ canon r, p.Fit
noncomputable def Row.write (r : Row) : Bs := encAll (canon r)
theorem fit_row {ps : List Part} (h : ∀ p ∈ ps, p.Fit) : (rowOf ps).Fit := by
  intro q hq
  have hlast : ∀ {α : Type} (f : Part → Option α) (a : α), (ps.filterMap f).getLast? = some a → ∃ p ∈ ps, f p = some a := fun f a e => by
    have := List.mem_of_getLast? e
    exact List.mem_filterMap.mp this
  unfold canon at hq
  simp only [List.mem_append] at hq
  rcases hq with hq | hq | hq | hq | hq | hq | hq | hq
  · split at hq
    · simp at hq; subst hq; trivial
    · cases hq
  · cases e : (rowOf ps).comp with
    | none => rw [e] at hq; cases hq
    | some a =>
      rw [e] at hq; simp [oL] at hq; subst hq
      obtain ⟨p, hp, e'⟩ := hlast _ _ e
      cases p <;> simp [Part.comp?] at e'
      subst e'; exact h _ hp
  · cases e : (rowOf ps).log with
    | none => rw [e] at hq; cases hq
    | some a =>
      rw [e] at hq; simp [oL] at hq; subst hq
      obtain ⟨p, hp, e'⟩ := hlast _ _ e
      cases p <;> simp [Part.log?] at e'
      subst e'; exact h _ hp
  · cases e : (rowOf ps).nxt with
    | none => rw [e] at hq; cases hq
    | some a =>
      rw [e] at hq; simp [oL] at hq; subst hq
      obtain ⟨p, hp, e'⟩ := hlast _ _ e
      cases p <;> simp [Part.nxt?] at e'
      subst e'; exact h _ hp
  · cases e : (rowOf ps).seq with
    | none => rw [e] at hq; cases hq
    | some a =>
      rw [e] at hq; simp [oL] at hq; subst hq
      obtain ⟨p, hp, e'⟩ := hlast _ _ e
      cases p <;> simp [Part.seq?] at e'
      subst e'; exact h _ hp
  · obtain ⟨a, ha, rfl⟩ := List.mem_map.mp hq
    obtain ⟨p, hp, e'⟩ := List.mem_filterMap.mp ha
    cases p <;> simp [Part.ptr?] at e'
    subst e'; exact h _ hp
  · obtain ⟨a, ha, rfl⟩ := List.mem_map.mp hq
    obtain ⟨p, hp, e'⟩ := List.mem_filterMap.mp ha
    cases p <;> simp [Part.del?] at e'
    subst e'; exact h _ hp
  · obtain ⟨a, ha, rfl⟩ := List.mem_map.mp hq
    obtain ⟨p, hp, e'⟩ := List.mem_filterMap.mp ha
    cases p <;> simp [Part.add?] at e'
    subst e'; exact h _ hp
/-- what is written is read as the same edit -/
theorem parse_write {r : Row} (h : r.Fit) : Parse r.write (.ok (canon r)) := parse_enc _ h
end NZ
namespace NZ
open _root_.PySem
/-! the pure readings, worked out -/
section
variable {α β : Type} {m m1 m' : Loc} {σ σ1 σ2 σ3 : List Cell} {i : Nat} {v a b c o : V} {vs : List V} {f g t l u : Loc → List Cell → Res V} {ft : Loc → List Cell → Res Bool} {fs : List (Loc → List Cell → Res V)} {fl : Loc → List Cell → Res (List V)} {k : V → Loc → List Cell → Res β} {r : Res β} {rv : Res V} {rs : RS} {x : Addr}
theorem upd_same : upd m i v i = some v := by simp [upd]
theorem upd_ne {j : Nat} (hj : (j == i) = false) (h : m j = some a) : upd m i v j = some a := by unfold upd; rw [if_neg (by simpa using hj)]; exact h
theorem ev_var (h : m i = some v) : pVar i m σ = .ok v σ := by unfold pVar; rw [h]
theorem ev_C {x : β} : pC x m σ = .ok x σ := rfl
theorem ev_bind {f : Loc → List Cell → Res α} {k : α → Loc → List Cell → Res β} {a : α} {r : Res β} (hf : f m σ = .ok a σ1) (hk : k a m σ1 = r) : pBind f k m σ = r := by unfold pBind; rw [hf]; exact hk
theorem ev_bind_exc {f : Loc → List Cell → Res α} {k : α → Loc → List Cell → Res β} (hf : f m σ = .exc x) : pBind f k m σ = .exc x := by unfold pBind; rw [hf]
theorem ev_op {F : List Cell → Option β} {y : β} (h : F σ = some y) : pOp F m σ = .ok y σ := by unfold pOp; rw [h]
theorem ev_un {F : List Cell → V → Option V} (hf : f m σ = .ok a σ1) (h : F σ1 a = some v) : pUn F f m σ = .ok v σ1 := ev_bind hf (ev_op h)
theorem ev_bin {F : List Cell → V → V → Option V} (hf : f m σ = .ok a σ1) (hg : g m σ1 = .ok b σ2) (h : F σ2 a b = some v) : pBin F f g m σ = .ok v σ2 := ev_bind hf (ev_bind hg (ev_op h))
/-- a comparison in a test -/
theorem ev_cmp {F : List Cell → V → V → Option V} {y : Bool} (hf : f m σ = .ok a σ1) (hg : g m σ1 = .ok b σ2) (h : F σ2 a b = some (.bool y)) : (pBind f fun a => pBind g fun b => pOp fun σ => (F σ a b).bind boolV) m σ = .ok y σ2 :=
  ev_bind hf (ev_bind hg (ev_op (by rw [h]; rfl)))
theorem ev_test {y : Bool} (hf : f m σ = .ok (.bool y) σ1) : pTest f m σ = .ok y σ1 := ev_bind hf (ev_op rfl)
theorem ev_not {y : Bool} (hf : ft m σ = .ok y σ1) : pNot ft m σ = .ok (!y) σ1 := ev_bind hf rfl
theorem ev_if_t {f g : Loc → List Cell → Res β} (ht : ft m σ = .ok true σ1) (h : f m σ1 = r) : pIf ft f g m σ = r := ev_bind ht h
theorem ev_if_f {f g : Loc → List Cell → Res β} (ht : ft m σ = .ok false σ1) (h : g m σ1 = r) : pIf ft f g m σ = r := ev_bind ht h
theorem ev_nil : pList [] m σ = .ok [] σ := rfl
theorem ev_cons (hf : f m σ = .ok a σ1) (h : pList fs m σ1 = .ok vs σ2) : pList (f :: fs) m σ = .ok (a :: vs) σ2 := ev_bind hf (ev_bind h rfl)
theorem ev_cons_exc1 (hf : f m σ = .exc x) : pList (f :: fs) m σ = .exc x := ev_bind_exc hf
theorem ev_cons_exc2 (hf : f m σ = .ok a σ1) (h : pList fs m σ1 = .exc x) : pList (f :: fs) m σ = .exc x := ev_bind hf (ev_bind_exc h)
theorem ev_tup (hf : fl m σ = .ok vs σ1) (hl : vs.length ≤ 1000) : pTup fl m σ = .ok (.tup vs) σ1 := ev_bind hf (ev_op (by rw [if_pos hl]))
theorem ev_tup_exc (hf : fl m σ = .exc x) : pTup fl m σ = .exc x := ev_bind_exc hf
theorem ev_newlist (hf : fl m σ = .ok vs σ1) (hl : vs.length ≤ 1000) : pNewList fl m σ = .ok (.cell σ1.length) (σ1 ++ [.list vs]) := ev_bind hf (by show (if vs.length ≤ 1000 then _ else _) = _; rw [if_pos hl])
theorem ev_call {φ : Fn} {first : List V} (hf : fl m σ = .ok vs σ1) (h : φ σ1 (first ++ vs) = rv) : pCall φ first fl m σ = rv := ev_bind hf h
theorem ev_call_exc {φ : Fn} {first : List V} (hf : fl m σ = .exc x) : pCall φ first fl m σ = .exc x := ev_bind_exc hf
theorem ev_meth {K : MK} {φ : Fn} (hf : f m σ = .ok v σ1) (hK : K σ1 v = some φ) (hg : fl m σ1 = .ok vs σ2) (h : φ σ2 vs = rv) : pMeth K f fl m σ = rv := by
  refine ev_bind hf ?_
  show (match K σ1 v with | some φ => _ | none => _) = _
  rw [hK]
  exact ev_call hg h
theorem ev_meth_exc {K : MK} {φ : Fn} (hf : f m σ = .ok v σ1) (hK : K σ1 v = some φ) (hg : fl m σ1 = .exc x) : pMeth K f fl m σ = .exc x := by
  refine ev_bind hf ?_
  show (match K σ1 v with | some φ => _ | none => _) = _
  rw [hK]
  exact ev_call_exc hg
theorem ev_or_t (hf : f m σ = .ok (.bool true) σ1) : pOr f g m σ = .ok (.bool true) σ1 := ev_bind hf rfl
theorem ev_or_f (hf : f m σ = .ok (.bool false) σ1) (h : g m σ1 = rv) : pOr f g m σ = rv := ev_bind hf h
theorem ev_fmt {n : Int} (hf : f m σ = .ok (.int n) σ1) (h : n.natAbs.log2 < 1920) : pFmt f m σ = .ok .none σ1 := ev_bind hf (ev_op (by show (if n.natAbs.log2 < 1920 then _ else _) = _; rw [if_pos h]))
theorem ev_slice {lo hi : Option Int} (hf : f m σ = .ok o σ1) (hl : l m σ1 = .ok a σ2) (hu : u m σ2 = .ok b σ3) (ea : partV a = some lo) (eb : partV b = some hi) {σ4 : List Cell} (h : sliceV σ3 o lo hi = some (v, σ4)) : pSlice f l u m σ = .ok v σ4 := by
  refine ev_bind hf (ev_bind hl (ev_bind hu ?_))
  show (match partV a, partV b with | some lo, some hi => _ | _, _ => _) = _
  rw [ea, eb]
  show (match sliceV σ3 o lo hi with | some (v, σ') => _ | none => _) = _
  rw [h]
open Classical in
theorem ev_callT {φ : List V → Option V} (hf : fl m σ = .ok vs σ1) (hc : ∀ v ∈ vs, Closed v) (h : φ vs = some v) (hv : Closed v) : pCallT φ fl m σ = .ok v σ1 := by
  refine ev_bind hf ?_
  show (if (∀ v ∈ vs, Closed v) then _ else _) = _
  rw [if_pos hc, h]
  show (if Closed v then _ else _) = _
  rw [if_pos hv]
theorem st_seq {f g : Loc → List Cell → RS} (hf : f m σ = .next m1 σ1) (h : g m1 σ1 = rs) : sSeq f g m σ = rs := by unfold sSeq; rw [hf]; exact h
theorem st_seq_ret {f g : Loc → List Cell → RS} (hf : f m σ = .ret v σ1) : sSeq f g m σ = .ret v σ1 := by unfold sSeq; rw [hf]
theorem st_seq_exc {f g : Loc → List Cell → RS} (hf : f m σ = .exc x) : sSeq f g m σ = .exc x := by unfold sSeq; rw [hf]
theorem st_nil : sNil m σ = .next m σ := rfl
theorem st_set (hf : f m σ = .ok v σ1) : sSet i f m σ = .next (upd m i v) σ1 := sBind_ok hf
theorem st_set_exc (hf : f m σ = .exc x) : sSet i f m σ = .exc x := sBind_exc hf
theorem st_ret (hf : f m σ = .ok v σ1) : sRet f m σ = .ret v σ1 := sBind_ok hf
theorem st_ret_exc (hf : f m σ = .exc x) : sRet f m σ = .exc x := sBind_exc hf
theorem st_expr (hf : f m σ = .ok v σ1) : sExpr f m σ = .next m σ1 := sBind_ok hf
theorem st_expr_exc (hf : f m σ = .exc x) : sExpr f m σ = .exc x := sBind_exc hf
theorem st_if_t {f g : Loc → List Cell → RS} (ht : ft m σ = .ok true σ1) (h : f m σ1 = rs) : sIf ft f g m σ = rs := (sBind_ok ht).trans h
theorem st_if_f {f g : Loc → List Cell → RS} (ht : ft m σ = .ok false σ1) (h : g m σ1 = rs) : sIf ft f g m σ = rs := (sBind_ok ht).trans h
theorem st_unpack {is : List Nat} (hf : f m σ = .ok (.tup vs) σ1) (hu : updAll m is vs = some m') : sUnpack is f m σ = .next m' σ1 := (sBind_ok hf).trans (by show (match updAll m is vs with | some m' => _ | none => _) = _; rw [hu])
theorem st_unpack_exc {is : List Nat} (hf : f m σ = .exc x) : sUnpack is f m σ = .exc x := sBind_exc hf
theorem st_aug {F : List Cell → V → V → Option V} (h0 : m i = some a) (hf : f m σ = .ok b σ1) (h : F σ1 a b = some v) : sAug i F f m σ = .next (upd m i v) σ1 := sBind_ok (ev_bin (ev_var h0) hf h)
theorem st_raise {F : Loc → List Cell → Res α} {y : α} (hf : F m σ = .ok y σ1) : sRaise x F m σ = .exc x := sBind_ok hf
theorem st_setattr {C : Addr} {n : Str} {fo fe : Loc → List Cell → Res V} {k : Nat} {fsd : List (Str × V)} (he : fe m σ = .ok v σ1) (ho : fo m σ1 = .ok (.obj C k) σ2) (hk : σ2[k]? = some (.flds fsd)) (hl : fsd.length ≤ 100) :
    sSetAttr C n fo fe m σ = .next m (σ2.set k (.flds (putF n v fsd))) := by
  refine (sBind_ok he).trans ((sBind_ok ho).trans ?_)
  show (if C = C then (match σ2[k]? with | some (.flds fs) => _ | _ => _) else _) = _
  rw [if_pos rfl, hk]
  show (if fsd.length ≤ 100 then _ else _) = _
  rw [if_pos hl]
theorem st_setattr_exc {C : Addr} {n : Str} {fo fe : Loc → List Cell → Res V} (he : fe m σ = .exc x) : sSetAttr C n fo fe m σ = .exc x := sBind_exc he
theorem st_setitem {fo fi fe : Loc → List Cell → Res V} {k : Nat} {j : Int} {ws : List V} (he : fe m σ = .ok v σ1) (ho : fo m σ1 = .ok (.cell k) σ2) (hi : fi m σ2 = .ok (.int j) σ3) (hk : σ3[k]? = some (.list ws)) (hl : 0 ≤ j ∧ j < ws.length ∧ ws.length ≤ 1000000) :
    sSetItem fo fi fe m σ = .next m (σ3.set k (.list (ws.set j.toNat v))) := by
  refine (sBind_ok he).trans ((sBind_ok ho).trans ((sBind_ok hi).trans ?_))
  show (match σ3[k]? with | some (.list vs) => _ | _ => _) = _
  rw [hk]
  show (if 0 ≤ j ∧ j < ws.length ∧ ws.length ≤ 1000000 then _ else _) = _
  rw [if_pos hl]
theorem st_for {st : Loc → V → Option Loc} {F : Loc → List Cell → Res (List V × (List Cell → Prop))} {fb : Loc → List Cell → RS} {items : List V} {chk : List Cell → Prop} (hf : F m σ = .ok (items, chk) σ1) (h : sFor st fb chk items m σ1 = rs) : sForE st F fb m σ = rs := (sBind_ok hf).trans h
theorem for_nil {st : Loc → V → Option Loc} {fb : Loc → List Cell → RS} {chk : List Cell → Prop} : sFor st fb chk [] m σ = .next m σ := rfl
theorem for_cons {st : Loc → V → Option Loc} {fb : Loc → List Cell → RS} {chk : List Cell → Prop} {ws : List V} {m2 : Loc} (hm : st m v = some m1) (hb : fb m1 σ = .next m2 σ2) (hc : chk σ2) (h : sFor st fb chk ws m2 σ2 = rs) : sFor st fb chk (v :: ws) m σ = rs := by
  unfold sFor
  rw [hm]; dsimp only; rw [hb]; dsimp only; rw [if_pos hc]; exact h
theorem for_ret {st : Loc → V → Option Loc} {fb : Loc → List Cell → RS} {chk : List Cell → Prop} {ws : List V} (hm : st m v = some m1) (hb : fb m1 σ = .ret a σ2) : sFor st fb chk (v :: ws) m σ = .ret a σ2 := by
  unfold sFor
  rw [hm]; dsimp only; rw [hb]
theorem for_exc {st : Loc → V → Option Loc} {fb : Loc → List Cell → RS} {chk : List Cell → Prop} {ws : List V} (hm : st m v = some m1) (hb : fb m1 σ = .exc x) : sFor st fb chk (v :: ws) m σ = .exc x := by
  unfold sFor
  rw [hm]; dsimp only; rw [hb]
theorem ev_range {n : Nat} {y : Int} (hf : fl m σ = .ok vs σ1) (h : rangeOf vs = some (y, n)) : pRange fl m σ = .ok (rangeV y n, fun _ => True) σ1 := ev_bind hf (by show (match rangeOf vs with | some (a, n) => _ | none => _) = _; rw [h])
theorem ev_over_cell {n : Nat} (hf : f m σ = .ok (.cell n) σ1) (hk : σ1[n]? = some (.list vs)) : pOver f m σ = .ok (vs, fun σ' => σ'[n]? = some (.list vs)) σ1 := ev_bind hf (by show (match σ1[n]? with | some (.list vs) => _ | _ => _) = _; rw [hk])
theorem ev_over_tup (hf : f m σ = .ok (.tup vs) σ1) : pOver f m σ = .ok (vs, fun _ => True) σ1 := ev_bind hf rfl
theorem ev_over_str {y : Str} (hf : f m σ = .ok (.str y) σ1) (h : y.cps.all (· < 128) = true) : pOver f m σ = .ok (signsV y, fun _ => True) σ1 := ev_bind hf (by show (if y.cps.all (· < 128) then _ else _) = _; rw [if_pos h])
theorem body_ret {F : Loc → List Cell → RS} (h : F m σ = .ret v σ1) : bodyOf F m σ = .ok v σ1 := by unfold bodyOf; rw [h]
theorem body_next {F : Loc → List Cell → RS} (h : F m σ = .next m1 σ1) : bodyOf F m σ = .ok .none σ1 := by unfold bodyOf; rw [h]
theorem body_exc {F : Loc → List Cell → RS} (h : F m σ = .exc x) : bodyOf F m σ = .exc x := by unfold bodyOf; rw [h]
end
theorem frame_ok {φ : Fn} {σ σ' : List Cell} {vs : List V} {v : V} (hc : ∀ v ∈ vs, Closed v) (hv : Closed v) (h : φ [] vs = .ok v σ') : frameφ φ σ vs = .ok v σ := by
  unfold frameφ
  rw [if_pos hc, h]
  dsimp only
  rw [if_pos hv]
theorem frame_exc {φ : Fn} {σ : List Cell} {vs : List V} {c : Addr} (hc : ∀ v ∈ vs, Closed v) (h : φ [] vs = .exc c) : frameφ φ σ vs = .exc c := by
  unfold frameφ
  rw [if_pos hc, h]
theorem fn1_ok {F : List Cell → V → Option V} {σ : List Cell} {a v : V} (h : F σ a = some v) : fn1 F σ [a] = .ok v σ := by
  show (match F σ a with | some v => _ | none => _) = _
  rw [h]
theorem cl_nil : ∀ v ∈ ([] : List V), Closed v := fun v h => by cases h
theorem cl_cons {a : V} {vs : List V} (h : Closed a) (hs : ∀ v ∈ vs, Closed v) : ∀ v ∈ a :: vs, Closed v := fun v hv => by
  rcases List.mem_cons.mp hv with rfl | hv
  · exact h
  · exact hs v hv
end NZ
namespace NZ
open _root_.PySem
local macro_rules | `(tactic| walk_at "nz") => `(tactic| first
  | with_reducible exact ev_C | with_reducible exact ev_nil | with_reducible exact st_nil
  | with_reducible apply ev_var | with_reducible exact upd_same | with_reducible assumption | with_reducible refine upd_ne rfl ?_
  | with_reducible apply ev_cmp | with_reducible apply ev_bin | with_reducible apply ev_un | with_reducible apply ev_cons | with_reducible apply ev_newlist | with_reducible apply ev_tup | with_reducible apply ev_call
  | with_reducible apply st_set | with_reducible apply st_ret | with_reducible apply st_aug | with_reducible apply st_raise | with_reducible apply st_seq_ret | with_reducible apply st_seq_exc | with_reducible apply st_seq
  | with_reducible apply body_ret | with_reducible apply body_exc | with_reducible apply body_next | rfl)
theorem lenV_bytes {σ : List Cell} {b : Bs} (h : b.length ≤ 1000000) : lenV σ (.bytes b) = some (.int b.length) := if_pos h
theorem itemV_bytes {σ : List Cell} {b : Bs} {i : Nat} {c : UInt8} (h : b[i]? = some c) (hl : b.length ≤ 1000000) : itemV σ (.bytes b) (.int i) = some (.int c.toNat) := by
  obtain ⟨h1, h2⟩ := List.getElem?_eq_some_iff.mp h
  show (if 0 ≤ (i : Int) ∧ (i : Int) < b.length ∧ b.length ≤ 1000000 then _ else _) = _
  rw [if_pos ⟨by omega, by omega, hl⟩]
  simp [List.getD, h]
theorem log2_small {n : Nat} (h : n < 2 ^ 1920) : n.log2 < 1920 := by
  by_cases h0 : n = 0
  · subst h0; decide
  · exact (Nat.log2_lt h0).mpr h
theorem ltV_t {σ : List Cell} {a b : Int} (h : a < b) : ltV σ (.int a) (.int b) = some (.bool true) := by simp [ltV, intOp, h]
theorem ltV_f {σ : List Cell} {a b : Int} (h : ¬ a < b) : ltV σ (.int a) (.int b) = some (.bool false) := by simp [ltV, intOp]; omega
theorem gtV_t {σ : List Cell} {a b : Int} (h : b < a) : gtV σ (.int a) (.int b) = some (.bool true) := by simp [gtV, intOp, h]
theorem gtV_f {σ : List Cell} {a b : Int} (h : ¬ b < a) : gtV σ (.int a) (.int b) = some (.bool false) := by simp [gtV, intOp]; omega
theorem geV_t {σ : List Cell} {a b : Int} (h : b ≤ a) : geV σ (.int a) (.int b) = some (.bool true) := by simp [geV, intOp, h]
theorem geV_f {σ : List Cell} {a b : Int} (h : ¬ b ≤ a) : geV σ (.int a) (.int b) = some (.bool false) := by simp [geV, intOp]; omega
theorem eqV_t {σ : List Cell} {a b : Int} (h : a = b) : eqV σ (.int a) (.int b) = some (.bool true) := by simp [eqV, h]
theorem eqV_f {σ : List Cell} {a b : Int} (h : ¬ a = b) : eqV σ (.int a) (.int b) = some (.bool false) := by simp [eqV, h]
theorem and127i (c : UInt8) : _root_.PySem.Builtin.bitAnd (c.toNat : Int) 127 = ((c.toNat % 128 : Nat) : Int) := and127 _
/-- out of read_groups: one turn and the rest -/
noncomputable def rgBody : Loc → List Cell → RS := (sSeq (sIf (pBind (pVar 1) fun a => pBind (pCall (fn1 lenV) [] (pList [(pVar 0)])) fun b => pOp fun σ => (geV σ a b).bind boolV)
  (sSeq (sRaise 68 (pC (V.str (Str.ofString "the octets end within a varint"))))
  sNil)
  sNil)
  (sSeq (sSet 7 (pBin itemV (pVar 0) (pVar 1)))
  (sSeq (sAug 1 iaddV (pC (V.int 1)))
  (sSeq (sAug 4 orV (pBin shlV (pBin andV (pVar 7) (pC (V.int 127))) (pVar 5)))
  (sSeq (sIf (pBind (pVar 7) fun a => pBind (pC (V.int 128)) fun b => pOp fun σ => (ltV σ a b).bind boolV)
  (sSeq (sIf (pBind (pVar 4) fun a => pBind (pVar 3) fun b => pOp fun σ => (gtV σ a b).bind boolV)
  (sSeq (sRaise 56 (pList [(pC (V.str (Str.ofString "a varint holds "))), (pFmt (pVar 4)), (pC (V.str (Str.ofString ", over "))), (pFmt (pVar 3))]))
  sNil)
  sNil)
  (sSeq (sRet (pTup (pList [(pVar 4), (pVar 1)])))
  sNil))
  sNil)
  (sSeq (sAug 5 iaddV (pC (V.int 7)))
  sNil))))))
theorem rg_loop : ∀ (k : Nat) (ws : List V) (p l : Bs) (m : Loc) (n s most : Nat) (σ : List Cell), ws.length = k → m 0 = some (.bytes (p ++ l)) → m 1 = some (.int p.length) → m 3 = some (.int most) → m 4 = some (.int n) → m 5 = some (.int s) →
    n < 2 ^ s → s + 7 * k ≤ 1000 → (p ++ l).length ≤ 1000 → most < 2 ^ 1000 →
    match num k l with
    | .ok v r => sFor (stName 6) rgBody (fun _ => True) ws m σ = if most < n + v * 2 ^ s then .exc 56 else .ret (.tup [.int ((n + v * 2 ^ s : Nat) : Int), .int (((p ++ l).length - r.length : Nat) : Int)]) σ
    | .short => sFor (stName 6) rgBody (fun _ => True) ws m σ = .exc 68
    | .corr => ∃ m', sFor (stName 6) rgBody (fun _ => True) ws m σ = .next m' σ ∧ m' 2 = m 2 := by
  intro k
  induction k with
  | zero =>
    intro ws p l m n s most σ hw h0 h1 h3 h4 h5 hn hs hl hm
    cases ws with
    | cons => cases hw
    | nil => exact ⟨m, rfl, rfl⟩
  | succ k ih =>
    intro ws p l m n s most σ hw h0 h1 h3 h4 h5 hn hs hl hm
    cases ws with
    | nil => cases hw
    | cons w ws =>
    have hw : ws.length = k := by simpa using hw
    have hl6 : (p ++ l).length ≤ 1000000 := by omega
    cases l with
    | nil =>
      unfold num
      refine for_exc (m1 := upd m 6 w) rfl ?_
      unfold rgBody
      refine st_seq_exc (st_if_t (σ1 := σ) (ev_cmp (ev_var (by repeat walk_at "nz")) (ev_call (by repeat' walk_at "nz") (fn1_ok (lenV_bytes hl6))) (geV_t (by simp))) ?_)
      repeat' walk_at "nz"
    | cons c l =>
      have hp : (p ++ c :: l)[p.length]? = some c := by simp
      have hc := c.toNat_lt
      have hmod : c.toNat % 128 < 128 := Nat.mod_lt _ (by decide)
      have hp2 : 2 ^ s ≤ 2 ^ 1000 := Nat.pow_le_pow_right (by decide) (by omega)
      have hor := or_add (c.toNat % 128) hn
      have hn2 : n + c.toNat % 128 * 2 ^ s < 2 ^ (s + 7) := by
        rw [Nat.pow_add]
        have : c.toNat % 128 * 2 ^ s ≤ 127 * 2 ^ s := Nat.mul_le_mul_right _ (by omega)
        omega
      have hp7 : 2 ^ (s + 7) ≤ 2 ^ 1000 := Nat.pow_le_pow_right (by decide) (by omega)
      have h1000 : 2 ^ 1000 < 2 ^ 1920 := Nat.pow_lt_pow_right (by decide) (by decide)
      have hshl : shlV σ (.int ((c.toNat % 128 : Nat) : Int)) (.int s) = some (.int ((c.toNat % 128 * 2 ^ s : Nat) : Int)) := by
        show (if 0 ≤ (s : Int) ∧ (s : Int) ≤ 1000 ∧ ((c.toNat % 128 : Nat) : Int).natAbs < 2 ^ 64 then _ else _) = _
        rw [if_pos ⟨by omega, by omega, by rw [Int.natAbs_natCast]; omega⟩]
        simp
      have pre : ∀ {rs : RS} {g : Loc → List Cell → RS}, g (upd (upd (upd (upd m 6 w) 7 (.int c.toNat)) 1 (.int ((p.length + 1 : Nat) : Int))) 4 (.int ((n + c.toNat % 128 * 2 ^ s : Nat) : Int))) σ = rs →
          sSeq (sIf (pBind (pVar 1) fun a => pBind (pCall (fn1 lenV) [] (pList [(pVar 0)])) fun b => pOp fun σ => (geV σ a b).bind boolV)
            (sSeq (sRaise 68 (pC (V.str (Str.ofString "the octets end within a varint")))) sNil) sNil)
            (sSeq (sSet 7 (pBin itemV (pVar 0) (pVar 1))) (sSeq (sAug 1 iaddV (pC (V.int 1))) (sSeq (sAug 4 orV (pBin shlV (pBin andV (pVar 7) (pC (V.int 127))) (pVar 5))) g))) (upd m 6 w) σ = rs := fun {rs g} hg => by
        refine st_seq (m1 := upd m 6 w) (σ1 := σ) (st_if_f (σ1 := σ) (ev_cmp (ev_var (by repeat walk_at "nz")) (ev_call (by repeat' walk_at "nz") (fn1_ok (lenV_bytes hl6))) (geV_f (by simp; omega))) st_nil) ?_
        refine st_seq (st_set (ev_bin (ev_var (by repeat walk_at "nz")) (ev_var (by repeat walk_at "nz")) (itemV_bytes hp hl6))) ?_
        refine st_seq (st_aug (a := .int p.length) (v := .int ((p.length + 1 : Nat) : Int)) (by repeat walk_at "nz") ev_C rfl) ?_
        refine st_seq (st_aug (a := .int n) (by repeat walk_at "nz") (ev_bin (ev_bin (a := .int c.toNat) (ev_var (by repeat walk_at "nz")) ev_C (v := .int ((c.toNat % 128 : Nat) : Int)) (by rw [← and127i]; rfl)) (ev_var (by repeat walk_at "nz")) hshl) (v := .int ((n + c.toNat % 128 * 2 ^ s : Nat) : Int)) (by rw [← hor]; rfl)) ?_
        exact hg
      unfold num
      by_cases hb : c.toNat < 128
      · rw [if_pos hb]
        have hcm : c.toNat % 128 = c.toNat := Nat.mod_eq_of_lt hb
        rw [hcm] at pre hn2
        dsimp only
        by_cases hmo : most < n + c.toNat * 2 ^ s
        · rw [if_pos hmo]
          refine for_exc (m1 := upd m 6 w) rfl (pre (st_seq_exc (st_if_t (σ1 := σ) (ev_cmp (ev_var (by repeat walk_at "nz")) ev_C (ltV_t (by omega))) (st_seq_exc (st_if_t (σ1 := σ) (ev_cmp (ev_var (by repeat walk_at "nz")) (ev_var (by repeat walk_at "nz")) (gtV_t (by omega))) ?_)))))
          refine st_seq_exc (st_raise (ev_cons ev_C (ev_cons (ev_fmt (ev_var (by repeat walk_at "nz")) ?_) (ev_cons ev_C (ev_cons (ev_fmt (ev_var (by repeat walk_at "nz")) ?_) ev_nil)))))
          · rw [Int.natAbs_natCast]; exact log2_small (by omega)
          · rw [Int.natAbs_natCast]; exact log2_small (by omega)
        · rw [if_neg hmo]
          refine for_ret (m1 := upd m 6 w) rfl (pre (st_seq_ret (st_if_t (σ1 := σ) (ev_cmp (ev_var (by repeat walk_at "nz")) ev_C (ltV_t (by omega))) ?_)))
          refine st_seq (σ1 := σ) (st_if_f (σ1 := σ) (ev_cmp (ev_var (by repeat walk_at "nz")) (ev_var (by repeat walk_at "nz")) (gtV_f (by omega))) st_nil) ?_
          refine st_seq_ret (st_ret (ev_tup (ev_cons (ev_var (by repeat walk_at "nz")) (ev_cons (a := .int (((p ++ c :: l).length - l.length : Nat) : Int)) (ev_var ?_) ev_nil)) (by simp)))
          have : (((p ++ c :: l).length - l.length : Nat) : Int) = ((p.length + 1 : Nat) : Int) := by simp; omega
          rw [this]
          repeat walk_at "nz"
      · rw [if_neg hb]
        have tail : ∀ {rs : RS}, sFor (stName 6) rgBody (fun _ => True) ws (upd (upd (upd (upd (upd m 6 w) 7 (.int c.toNat)) 1 (.int ((p.length + 1 : Nat) : Int))) 4 (.int ((n + c.toNat % 128 * 2 ^ s : Nat) : Int))) 5 (.int ((s + 7 : Nat) : Int))) σ = rs → sFor (stName 6) rgBody (fun _ => True) (w :: ws) m σ = rs := fun {rs} h => by
          refine for_cons (m1 := upd m 6 w) rfl (pre ?_) trivial h
          refine st_seq (σ1 := σ) (st_if_f (σ1 := σ) (ev_cmp (ev_var (by repeat walk_at "nz")) ev_C (ltV_f (by omega))) st_nil) ?_
          exact st_seq (st_aug (a := .int s) (by repeat walk_at "nz") ev_C (v := .int ((s + 7 : Nat) : Int)) rfl) st_nil
        have hd : p ++ c :: l = (p ++ [c]) ++ l := by simp
        have := ih ws (p ++ [c]) l (upd (upd (upd (upd (upd m 6 w) 7 (.int c.toNat)) 1 (.int ((p.length + 1 : Nat) : Int))) 4 (.int ((n + c.toNat % 128 * 2 ^ s : Nat) : Int))) 5 (.int ((s + 7 : Nat) : Int))) (n + c.toNat % 128 * 2 ^ s) (s + 7) most σ hw
          (by rw [← hd]; repeat walk_at "nz") (by simp only [List.length_append, List.length_singleton]; repeat walk_at "nz") (by repeat walk_at "nz") (by repeat walk_at "nz") (by repeat walk_at "nz") hn2 (by omega) (by rw [← hd]; exact hl) hm
        cases hk : num k l with
        | ok v r =>
          rw [hk] at this
          dsimp only at this ⊢
          have e1 : n + c.toNat % 128 * 2 ^ s + v * 2 ^ (s + 7) = n + (c.toNat % 128 + 128 * v) * 2 ^ s := by
            rw [Nat.pow_add, Nat.add_mul, Nat.add_assoc]
            congr 2
            rw [Nat.mul_comm 128 v, Nat.mul_assoc v 128, Nat.mul_comm 128 (2 ^ s)]
          rw [e1, ← hd] at this
          exact tail this
        | short => rw [hk] at this; exact tail this
        | corr =>
          rw [hk] at this
          obtain ⟨m', h1', h2'⟩ := this
          exact ⟨m', tail h1', h2'⟩
end NZ
namespace NZ
set_option exponentiation.threshold 3000
open _root_.PySem
local macro_rules | `(tactic| walk_at "nv") => `(tactic| repeat first | with_reducible exact upd_same | with_reducible assumption | with_reducible refine upd_ne rfl ?_ | rfl)
/-- what a reader of numbers answers -/
noncomputable def ans (D : Bs) (x : Rs Nat) (σ : List Cell) : Res V := match x with
  | .ok n r => .ok (.tup [.int n, .int ((D.length - r.length : Nat) : Int)]) σ
  | .short => .exc 68
  | .corr => .exc 56
theorem rg_raw (p l : Bs) (k most : Nat) (hk : 7 * k ≤ 990) (hl : (p ++ l).length ≤ 1000) (hm : most < 2 ^ 1000) : ψ_read_groups [] [.bytes (p ++ l), .int p.length, .int k, .int most] = ans (p ++ l) (rd k most l) [] := by
  show bodyOf F_read_groups (fun i => [V.bytes (p ++ l), .int p.length, .int k, .int most][i]?) [] = _
  have h1000 : 2 ^ 1000 < 2 ^ 1920 := Nat.pow_lt_pow_right (by decide) (by decide)
  have hkk : rangeOf [.int (k : Int)] = some (0, k) := by
    show (if -1000000 ≤ (k : Int) ∧ (k : Int) ≤ 1000000 then _ else _) = _
    rw [if_pos ⟨by omega, by omega⟩]; simp
  have hlen : (rangeV 0 k).length = k := by simp [rangeV]
  have loop := rg_loop k (rangeV 0 k) p l (upd (upd (fun i => [V.bytes (p ++ l), .int p.length, .int k, .int most][i]?) 4 (.int ((0 : Nat) : Int))) 5 (.int ((0 : Nat) : Int))) 0 0 most [] hlen (by walk_at "nv") (by walk_at "nv") (by walk_at "nv") (by walk_at "nv") (by walk_at "nv") (by decide) (by omega) hl hm
  have pre : ∀ {rs : RS} {g : Loc → List Cell → RS}, sSeq (sForE (stName 6) (pRange (pList [(pVar 2)])) rgBody) g (upd (upd (fun i => [V.bytes (p ++ l), .int p.length, .int k, .int most][i]?) 4 (.int ((0 : Nat) : Int))) 5 (.int ((0 : Nat) : Int))) [] = rs →
      sSeq (sIf (pBind (pVar 1) fun a => pBind (pC (V.int 0)) fun b => pOp fun σ => (ltV σ a b).bind boolV) sBad sNil) (sSeq (sSet 4 (pC (V.int 0))) (sSeq (sSet 5 (pC (V.int 0))) (sSeq (sForE (stName 6) (pRange (pList [(pVar 2)])) rgBody) g))) (fun i => [V.bytes (p ++ l), .int p.length, .int k, .int most][i]?) [] = rs := fun {rs g} h => by
    refine st_seq (σ1 := []) (st_if_f (σ1 := []) (ev_cmp (a := .int p.length) (ev_var (by walk_at "nv")) ev_C (ltV_f (by omega))) st_nil) ?_
    refine st_seq (st_set ev_C) (st_seq (st_set ev_C) h)
  have rng : pRange (pList [(pVar 2)]) (upd (upd (fun i => [V.bytes (p ++ l), .int p.length, .int k, .int most][i]?) 4 (.int ((0 : Nat) : Int))) 5 (.int ((0 : Nat) : Int))) [] = .ok (rangeV 0 k, fun _ => True) [] := ev_range (ev_cons (ev_var (by walk_at "nv")) ev_nil) hkk
  unfold rd
  cases hn : num k l with
  | ok n r =>
    rw [hn] at loop
    dsimp only at loop ⊢
    simp only [Nat.zero_add, Nat.pow_zero, Nat.mul_one] at loop
    by_cases hmo : most < n
    · rw [if_pos hmo] at loop ⊢
      exact body_exc (pre (st_seq_exc (st_for rng loop)))
    · rw [if_neg hmo] at loop ⊢
      exact body_ret (pre (st_seq_ret (st_for rng loop)))
  | short =>
    rw [hn] at loop
    exact body_exc (pre (st_seq_exc (st_for rng loop)))
  | corr =>
    rw [hn] at loop
    obtain ⟨m', h1, h2⟩ := loop
    refine body_exc (pre (st_seq (st_for rng h1) (st_seq_exc (st_raise (ev_cons ev_C (ev_cons (ev_fmt (n := k) (ev_var ?_) ?_) (ev_cons ev_C ev_nil)))))))
    · rw [h2]; walk_at "nv"
    · rw [Int.natAbs_natCast]; exact log2_small (Nat.lt_of_lt_of_le (show k < 2 ^ 10 by omega) (Nat.pow_le_pow_right (by decide) (by decide)))
theorem frame_ans {φ : Fn} {σ : List Cell} {vs : List V} {D : Bs} {x : Rs Nat} (hc : ∀ v ∈ vs, Closed v) (h : φ [] vs = ans D x []) : frameφ φ σ vs = ans D x σ := by
  cases x with
  | ok n r => exact frame_ok hc (.tup (cl_cons (.int _) (cl_cons (.int _) cl_nil))) h
  | short => exact frame_exc hc h
  | corr => exact frame_exc hc h
theorem rg_spec (p l : Bs) (k most : Nat) (hk : 7 * k ≤ 990) (hl : (p ++ l).length ≤ 1000) (hm : most < 2 ^ 1000) (σ : List Cell) : φ_read_groups σ [.bytes (p ++ l), .int p.length, .int k, .int most] = ans (p ++ l) (rd k most l) σ :=
  frame_ans (cl_cons (.bytes _) (cl_cons (.int _) (cl_cons (.int _) (cl_cons (.int _) cl_nil)))) (rg_raw p l k most hk hl hm)
/-- the fast way and the slow one -/
theorem rv_body (p l : Bs) (K : V) (k most : Nat) (kV mV : V) (hkV : kV = .int (k : Int)) (hmV : mV = .int (most : Int)) (hk : 7 * k ≤ 990) (hk0 : 0 < k) (hl : (p ++ l).length ≤ 1000) (hm : most < 2 ^ 1000) (h127 : 127 ≤ most) :
    bodyOf (sSeq (sIf (pIf (pBind (pVar 1) fun a => pBind (pC (V.int 0)) fun b => pOp fun σ => (geV σ a b).bind boolV) (pIf (pBind (pVar 1) fun a => pBind (pCall (fn1 lenV) [] (pList [(pVar 0)])) fun b => pOp fun σ => (ltV σ a b).bind boolV) (pIf (pBind (pBin itemV (pVar 0) (pVar 1)) fun a => pBind (pC (V.int 128)) fun b => pOp fun σ => (ltV σ a b).bind boolV) (pC true) (pC false)) (pC false)) (pC false))
      (sSeq (sRet (pTup (pList [(pBin itemV (pVar 0) (pVar 1)), (pBin addV (pVar 1) (pC (V.int 1)))])))
      sNil)
      sNil)
      (sSeq (sRet (pCall φ_read_groups [] (pList [(pVar 0), (pVar 1), (pC kV), (pC mV)])))
      sNil)) (fun i => [V.bytes (p ++ l), .int p.length][i]?) [] = ans (p ++ l) (rd k most l) [] := by
  subst hkV hmV
  have hl6 : (p ++ l).length ≤ 1000000 := by omega
  have ge0 : ∀ {r : Res Bool} {f g : Loc → List Cell → Res Bool}, f (fun i => [V.bytes (p ++ l), .int p.length][i]?) [] = r → pIf (pBind (pVar 1) fun a => pBind (pC (V.int 0)) fun b => pOp fun σ => (geV σ a b).bind boolV) f g (fun i => [V.bytes (p ++ l), .int p.length][i]?) [] = r := fun h =>
    ev_if_t (ev_cmp (a := .int p.length) (ev_var (by walk_at "nv")) ev_C (geV_t (by omega))) h
  have slow : (∀ {f g : Loc → List Cell → RS}, True) → bodyOf (sSeq (sRet (pCall φ_read_groups [] (pList [(pVar 0), (pVar 1), (pC (V.int (k : Int))), (pC (V.int (most : Int)))]))) sNil) (fun i => [V.bytes (p ++ l), .int p.length][i]?) [] = ans (p ++ l) (rd k most l) [] := fun _ => by
    have hc : pCall φ_read_groups [] (pList [(pVar 0), (pVar 1), (pC (V.int (k : Int))), (pC (V.int (most : Int)))]) (fun i => [V.bytes (p ++ l), .int p.length][i]?) [] = ans (p ++ l) (rd k most l) [] :=
      ev_call (vs := [.bytes (p ++ l), .int p.length, .int k, .int most]) (ev_cons (ev_var (by walk_at "nv")) (ev_cons (ev_var (by walk_at "nv")) (ev_cons ev_C (ev_cons ev_C ev_nil)))) (rg_spec p l k most hk hl hm [])
    cases hr : rd k most l with
    | ok n r => rw [hr] at hc; exact body_ret (st_seq_ret (st_ret hc))
    | short => rw [hr] at hc; exact body_exc (st_seq_exc (st_ret_exc hc))
    | corr => rw [hr] at hc; exact body_exc (st_seq_exc (st_ret_exc hc))
  have skip : ∀ {t : Loc → List Cell → Res Bool} {f g : Loc → List Cell → RS}, t (fun i => [V.bytes (p ++ l), .int p.length][i]?) [] = .ok false [] → bodyOf (sSeq (sIf t f sNil) g) (fun i => [V.bytes (p ++ l), .int p.length][i]?) [] = bodyOf g (fun i => [V.bytes (p ++ l), .int p.length][i]?) [] := fun {t f g} h => by
    unfold bodyOf
    rw [st_seq (st_if_f h st_nil) rfl]
  cases l with
  | nil =>
    rw [skip (ge0 (ev_if_f (ev_cmp (a := .int p.length) (ev_var (by walk_at "nv")) (ev_call (vs := [.bytes (p ++ [])]) (ev_cons (ev_var (by walk_at "nv")) ev_nil) (fn1_ok (lenV_bytes hl6))) (ltV_f (by simp))) ev_C))]
    exact slow (fun {_ _} => trivial)
  | cons c l =>
    have hp : (p ++ c :: l)[p.length]? = some c := by simp
    have item : pBin itemV (pVar 0) (pVar 1) (fun i => [V.bytes (p ++ c :: l), .int p.length][i]?) [] = .ok (.int c.toNat) [] := ev_bin (a := .bytes (p ++ c :: l)) (b := .int p.length) (ev_var (by walk_at "nv")) (ev_var (by walk_at "nv")) (itemV_bytes hp hl6)
    have lt : ∀ {r : Res Bool} {f g : Loc → List Cell → Res Bool}, f (fun i => [V.bytes (p ++ c :: l), .int p.length][i]?) [] = r → pIf (pBind (pVar 1) fun a => pBind (pCall (fn1 lenV) [] (pList [(pVar 0)])) fun b => pOp fun σ => (ltV σ a b).bind boolV) f g (fun i => [V.bytes (p ++ c :: l), .int p.length][i]?) [] = r := fun h =>
      ev_if_t (ev_cmp (a := .int p.length) (ev_var (by walk_at "nv")) (ev_call (vs := [.bytes (p ++ c :: l)]) (ev_cons (ev_var (by walk_at "nv")) ev_nil) (fn1_ok (lenV_bytes hl6))) (ltV_t (by simp; omega))) h
    by_cases hb : c.toNat < 128
    · have e : rd k most (c :: l) = .ok c.toNat l := by
        unfold rd
        cases k with
        | zero => omega
        | succ k =>
          unfold num
          rw [if_pos hb]
          dsimp only
          rw [if_neg (by omega)]
      rw [e]
      refine body_ret (st_seq_ret (st_if_t (ge0 (lt (ev_if_t (ev_cmp item ev_C (ltV_t (by omega))) ev_C))) (st_seq_ret (st_ret (ev_tup (ev_cons item (ev_cons (a := .int (((p ++ c :: l).length - l.length : Nat) : Int)) (ev_bin (a := .int p.length) (b := .int 1) (ev_var (by walk_at "nv")) ev_C ?_) ev_nil)) (by simp))))))
      show some (V.int ((p.length : Int) + 1)) = _
      congr 2
      simp; omega
    · rw [skip (ge0 (lt (ev_if_f (ev_cmp item ev_C (ltV_f (by omega))) ev_C)))]
      exact slow (fun {_ _} => trivial)
theorem rv_spec (p l : Bs) (hl : (p ++ l).length ≤ 1000) (σ : List Cell) : φ_read_varint σ [.bytes (p ++ l), .int p.length] = ans (p ++ l) (rdN l) σ := by
  refine frame_ans (cl_cons (.bytes _) (cl_cons (.int _) cl_nil)) ?_
  exact rv_body p l .none 10 M64 _ _ rfl rfl (by decide) (by decide) hl (Nat.lt_trans (show M64 < 2 ^ 64 by decide) (Nat.pow_lt_pow_right (by decide) (by decide))) (by decide)
theorem rv32_spec (p l : Bs) (hl : (p ++ l).length ≤ 1000) (σ : List Cell) : φ_read_varint32 σ [.bytes (p ++ l), .int p.length] = ans (p ++ l) (rd 5 M32 l) σ := by
  refine frame_ans (cl_cons (.bytes _) (cl_cons (.int _) cl_nil)) ?_
  exact rv_body p l .none 5 M32 _ _ rfl rfl (by decide) (by decide) hl (Nat.lt_trans (show M32 < 2 ^ 64 by decide) (Nat.pow_lt_pow_right (by decide) (by decide))) (by decide)
set_option exponentiation.threshold 3000
open _root_.PySem
noncomputable def ansT (D : Bs) (x : Rs Bs) (σ : List Cell) : Res V := match x with
  | .ok b r => .ok (.tup [.bytes b, .int ((D.length - r.length : Nat) : Int)]) σ
  | .short => .exc 68
  | .corr => .exc 56
theorem frame_ansT {φ : Fn} {σ : List Cell} {vs : List V} {D : Bs} {x : Rs Bs} (hc : ∀ v ∈ vs, Closed v) (h : φ [] vs = ansT D x []) : frameφ φ σ vs = ansT D x σ := by
  cases x with
  | ok n r => exact frame_ok hc (.tup (cl_cons (.bytes _) (cl_cons (.int _) cl_nil))) h
  | short => exact frame_exc hc h
  | corr => exact frame_exc hc h
theorem clip_nat (n i : Nat) : _root_.PySem.clipAt n (i : Int) = min i n := by
  unfold _root_.PySem.clipAt
  have : ¬ ((i : Int) < 0) := by omega
  simp only [this, if_false]
  omega
theorem cut_nat {α : Type} (D : List α) (a b : Nat) (hb : a ≤ b) (hl : b ≤ D.length) : cut D (some (a : Int)) (some (b : Int)) = (D.drop a).take (b - a) := by
  unfold cut
  simp only [Option.elim, clip_nat]
  rw [Nat.min_eq_left (by omega), Nat.min_eq_left (by omega)]
theorem bytesV_bytes {σ : List Cell} {b : Bs} (h : b.length ≤ 1000000) : bytesV σ (.bytes b) = some (.bytes b) := if_pos h
theorem sliceV_bytes {σ : List Cell} {b : Bs} {lo hi : Option Int} (h : b.length ≤ 1000000) : sliceV σ (.bytes b) lo hi = some (.bytes (cut b lo hi), σ) := if_pos h
theorem rl_raw (p l : Bs) (hl : (p ++ l).length ≤ 1000) : ψ_read_lengthed [] [.bytes (p ++ l), .int p.length] = ansT (p ++ l) (rdT l) [] := by
  show bodyOf F_read_lengthed (fun i => [V.bytes (p ++ l), .int p.length][i]?) [] = _
  unfold F_read_lengthed
  have hl6 : (p ++ l).length ≤ 1000000 := by omega
  have hc : pCall φ_read_varint32 [] (pList [(pVar 0), (pVar 1)]) (fun i => [V.bytes (p ++ l), .int p.length][i]?) [] = ans (p ++ l) (rd 5 M32 l) [] :=
    ev_call (vs := [.bytes (p ++ l), .int p.length]) (ev_cons (ev_var (by walk_at "nv")) (ev_cons (ev_var (by walk_at "nv")) ev_nil)) (rv32_spec p l hl [])
  unfold rdT
  cases hr : rd 5 M32 l with
  | short => rw [hr] at hc; exact body_exc (st_seq_exc (st_unpack_exc hc))
  | corr => rw [hr] at hc; exact body_exc (st_seq_exc (st_unpack_exc hc))
  | ok n r =>
    rw [hr] at hc
    obtain ⟨⟨u, hu, hlu⟩, hn, _⟩ := rd_suffix hr
    have hpos : (p ++ l).length - r.length = p.length + u.length := by rw [hlu]; simp; omega
    have hlen : (p ++ l).length = p.length + u.length + r.length := by rw [hlu]; simp; omega
    have hn' : n ≤ 4294967295 := hn
    have hun : sUnpack [2, 1] (pCall φ_read_varint32 [] (pList [(pVar 0), (pVar 1)])) (fun i => [V.bytes (p ++ l), .int p.length][i]?) [] = .next (upd (upd (fun i => [V.bytes (p ++ l), .int p.length][i]?) 2 (.int n)) 1 (.int ((p.length + u.length : Nat) : Int))) [] := by
      refine st_unpack hc ?_
      rw [hpos]; rfl
    have t1 : pBin addV (pVar 1) (pVar 2) (upd (upd (fun i => [V.bytes (p ++ l), .int p.length][i]?) 2 (.int n)) 1 (.int ((p.length + u.length : Nat) : Int))) [] = .ok (.int ((p.length + u.length + n : Nat) : Int)) [] :=
      ev_bin (a := .int ((p.length + u.length : Nat) : Int)) (b := .int n) (ev_var (by walk_at "nv")) (ev_var (by walk_at "nv")) rfl
    have tl : pCall (fn1 lenV) [] (pList [(pVar 0)]) (upd (upd (fun i => [V.bytes (p ++ l), .int p.length][i]?) 2 (.int n)) 1 (.int ((p.length + u.length : Nat) : Int))) [] = .ok (.int ((p ++ l).length : Nat)) [] :=
      ev_call (vs := [.bytes (p ++ l)]) (ev_cons (ev_var (by walk_at "nv")) ev_nil) (fn1_ok (lenV_bytes hl6))
    show _ = ansT (p ++ l) (if r.length < n then .short else .ok (r.take n) (r.drop n)) []
    by_cases hs : r.length < n
    · rw [if_pos hs]
      refine body_exc (st_seq hun (st_seq_exc (st_if_t (ev_cmp t1 tl (gtV_t (by omega))) (st_seq_exc (st_raise (ev_cons (ev_fmt (n := n) (ev_var (by walk_at "nv")) ?_) (ev_cons ev_C (ev_cons (ev_fmt (n := ((p ++ l).length : Int) - ((p.length + u.length : Nat) : Int)) (ev_bin tl (ev_var (by walk_at "nv")) rfl) ?_) (ev_cons ev_C ev_nil)))))))))
      · rw [Int.natAbs_natCast]; exact log2_small (Nat.lt_of_lt_of_le (show n < 2 ^ 64 by omega) (Nat.pow_le_pow_right (by decide) (by decide)))
      · exact log2_small (Nat.lt_of_lt_of_le (show (((p ++ l).length : Int) - ((p.length + u.length : Nat) : Int)).natAbs < 2 ^ 64 by omega) (Nat.pow_le_pow_right (by decide) (by decide)))
    · rw [if_neg hs]
      have hcut : cut (p ++ l) (some ((p.length + u.length : Nat) : Int)) (some ((p.length + u.length + n : Nat) : Int)) = r.take n := by
        rw [cut_nat _ _ _ (by omega) (by omega)]
        have : p.length + u.length + n - (p.length + u.length) = n := by omega
        rw [this, hlu, ← List.append_assoc, ← List.length_append, List.drop_left]
      have hlen2 : (((p ++ l).length - (r.drop n).length : Nat) : Int) = ((p.length + u.length + n : Nat) : Int) := by rw [List.length_drop]; omega
      refine body_ret (st_seq hun (st_seq (st_if_f (ev_cmp t1 tl (gtV_f (by omega))) st_nil) (st_seq_ret (st_ret ?_))))
      rw [hlen2]
      refine ev_tup (ev_cons (ev_call (vs := [.bytes (r.take n)]) (ev_cons (ev_slice (ev_var (by walk_at "nv")) (ev_var (by walk_at "nv")) t1 rfl rfl ?_) ev_nil) (fn1_ok (bytesV_bytes ?_))) (ev_cons t1 ev_nil)) (by simp)
      · rw [sliceV_bytes hl6, hcut]
      · rw [List.length_take]; omega
theorem rl_spec (p l : Bs) (hl : (p ++ l).length ≤ 1000) (σ : List Cell) : φ_read_lengthed σ [.bytes (p ++ l), .int p.length] = ansT (p ++ l) (rdT l) σ :=
  frame_ansT (cl_cons (.bytes _) (cl_cons (.int _) cl_nil)) (rl_raw p l hl)
/-! writing numbers -/
theorem enc_len : ∀ (k n : Nat), 0 < k → n < 128 ^ k → (enc n).length ≤ k
  | 0, _, h, _ => by omega
  | k + 1, n, _, h => by
    by_cases hn : n < 128
    · rw [enc_small hn]; simp
    · rw [enc_big hn]
      have hk : 0 < k := by
        rcases Nat.eq_zero_or_pos k with rfl | hk
        · simp at h; omega
        · exact hk
      have hd : n / 128 < 128 ^ k := by
        rw [Nat.pow_succ] at h
        exact Nat.div_lt_of_lt_mul (by omega)
      have := enc_len k (n / 128) hk hd
      simp; omega
theorem enc_len64 {n : Nat} (h : n ≤ M64) : (enc n).length ≤ 10 := enc_len 10 n (by decide) (Nat.lt_of_le_of_lt h (by decide))
theorem append_barr {σ : List Cell} {k : Nat} {b : Bs} {n : Nat} (hk : σ[k]? = some (.barr b)) (hn : n < 256) (hl : b.length < 1000000) : bappendφ σ [.cell k, .int n] = .ok .none (σ.set k (.barr (b ++ [n.toUInt8]))) := by
  show (match σ[k]? with | some (.barr b) => _ | _ => _) = _
  rw [hk]
  show (if (0 ≤ (n : Int) ∧ (n : Int) < 256) ∧ b.length < 1000000 then _ else _) = _
  rw [if_pos ⟨⟨by omega, by omega⟩, hl⟩]
  simp
theorem appendK_barr {σ : List Cell} {k : Nat} {b : Bs} (hk : σ[k]? = some (.barr b)) : appendK σ (.cell k) = some fun σ vs => bappendφ σ (.cell k :: vs) := by
  show (match σ[k]? with | some (.list _) => _ | some (.barr _) => _ | _ => _) = _
  rw [hk]
noncomputable abbrev wgBody : Loc → List Cell → RS := sSeq (sExpr (pMeth appendK (pVar 2) (pList [(pBin orV (pBin andV (pVar 0) (pC (V.int 127))) (pC (V.int 128)))])))
      (sSeq (sAug 0 shrV (pC (V.int 7))) sNil)
noncomputable abbrev wgTest : Loc → List Cell → Res Bool := pBind (pVar 0) fun a => pBind (pC (V.int 128)) fun b => pOp fun σ => (geV σ a b).bind boolV
theorem wg_loop : ∀ (n : Nat) (m : Loc) (b : Bs), m 0 = some (.int n) → m 2 = some (.cell 0) → b.length + (enc n).length ≤ 1000 →
    ∃ m' b', sWhile wgTest wgBody m [.barr b] = .next m' [.barr (b ++ b')] ∧ m' 2 = some (.cell 0) ∧ ∃ z : Nat, m' 0 = some (.int z) ∧ z < 128 ∧ b' ++ [z.toUInt8] = enc n := by
  intro n
  induction n using Nat.strongRecOn with
  | ind n ih =>
    intro m b h0 h2 hl
    by_cases hn : n < 128
    · refine ⟨m, [], sWhile_step ?_ (by intro z; cases z), h2, n, h0, hn, by rw [enc_small hn]; rfl⟩
      rw [List.append_nil]
      exact st_if_f (ev_cmp (ev_var h0) ev_C (geV_f (by omega))) st_nil
    · have hm : n % 128 < 128 := Nat.mod_lt _ (by decide)
      have e1 : enc n = (n % 128 + 128).toUInt8 :: enc (n / 128) := enc_big hn
      rw [e1] at hl
      simp only [List.length_cons] at hl
      obtain ⟨m', b', hw, h2', z, h0', hz, hb⟩ := ih (n / 128) (by omega) (upd m 0 (.int ((n / 128 : Nat) : Int))) (b ++ [(n % 128 + 128).toUInt8]) (by walk_at "nv") (by walk_at "nv") (by simp; omega)
      refine ⟨m', (n % 128 + 128).toUInt8 :: b', sWhile_step (r := .next m' [.barr (b ++ (n % 128 + 128).toUInt8 :: b')]) ?_ (by intro z; cases z), h2', z, h0', hz, by rw [e1, ← hb]; rfl⟩
      have hand := and127 n
      have hor := or128 (n % 128) hm
      have hfd : (n : Int).fdiv (2 ^ 7) = ((n / 128 : Nat) : Int) := by
        rw [Int.fdiv_eq_ediv_of_nonneg _ (by decide)]; rfl
      have hw2 : b ++ (n % 128 + 128).toUInt8 :: b' = (b ++ [(n % 128 + 128).toUInt8]) ++ b' := by simp
      rw [hw2]
      have elt : pBin orV (pBin andV (pVar 0) (pC (V.int 127))) (pC (V.int 128)) m [.barr b] = .ok (.int ((n % 128 + 128 : Nat) : Int)) [.barr b] :=
        ev_bin (a := .int ((n % 128 : Nat) : Int)) (b := .int 128) (ev_bin (a := .int n) (b := .int 127) (ev_var h0) ev_C (by rw [← hand]; rfl)) ev_C (by rw [← hor]; rfl)
      refine st_if_t (ev_cmp (ev_var h0) ev_C (geV_t (by omega))) (st_seq (m1 := upd m 0 (.int ((n / 128 : Nat) : Int))) (σ1 := [.barr (b ++ [(n % 128 + 128).toUInt8])]) ?_ hw)
      refine st_seq (st_expr (ev_meth (ev_var h2) (appendK_barr rfl) (ev_cons elt ev_nil) (append_barr rfl (by omega) (by omega)))) ?_
      exact st_seq (st_aug (a := .int n) h0 ev_C (v := .int ((n / 128 : Nat) : Int)) (by rw [← hfd]; rfl)) st_nil
theorem wg_spec (n most : Nat) (hn : n ≤ most) (hm : most ≤ M64) (σ : List Cell) : φ_write_groups σ [.int n, .int most] = .ok (.bytes (enc n)) σ := by
  have hlen := enc_len64 (Nat.le_trans hn hm)
  obtain ⟨m', b', hw, h2', z, h0', hz, hb⟩ := wg_loop n (upd (fun i => [V.int (n : Int), .int most][i]?) 2 (.cell 0)) [] (by walk_at "nv") (by walk_at "nv") (by simp; omega)
  have hb2 : b'.length ≤ 10 := by rw [← hb] at hlen; simp at hlen; omega
  refine frame_ok (σ' := [.barr (enc n)]) (cl_cons (.int _) (cl_cons (.int _) cl_nil)) (.bytes _) ?_
  show bodyOf F_write_groups (fun i => [V.int (n : Int), .int most][i]?) [] = _
  unfold F_write_groups
  refine body_ret (st_seq (σ1 := []) (st_if_f (σ1 := []) (ev_if_f (ev_cmp (a := .int n) (ev_var (by walk_at "nv")) ev_C (ltV_f (by omega))) (ev_if_f (ev_cmp (a := .int n) (b := .int most) (ev_var (by walk_at "nv")) (ev_var (by walk_at "nv")) (gtV_f (by omega))) ev_C)) st_nil) ?_)
  refine st_seq (st_set (v := .cell 0) (σ1 := [.barr []]) (ev_call ev_nil rfl)) (st_seq hw ?_)
  rw [List.nil_append]
  refine st_seq (σ1 := [.barr (enc n)]) (st_expr (v := .none) (ev_meth (ev_var h2') (appendK_barr rfl) (ev_cons (ev_var h0') ev_nil) ?_)) ?_
  · have := append_barr (σ := [.barr b']) (k := 0) (b := b') (n := z) rfl (by omega) (by omega)
    rw [hb] at this
    exact this
  · refine st_seq_ret (st_ret (ev_call (ev_cons (ev_var h2') ev_nil) (fn1_ok ?_)))
    show (if (enc n).length ≤ 1000000 then _ else _) = _
    rw [if_pos (by omega)]
theorem bytesV_one {σ : List Cell} {k n : Nat} (hk : σ[k]? = some (.list [.int n])) (hn : n < 256) : bytesV σ (.cell k) = some (.bytes [n.toUInt8]) := by
  show (match σ[k]? with | some (.list vs) => _ | some (.barr b) => _ | _ => _) = _
  rw [hk]
  show (some [(n : Int)]).bind _ = _
  simp
  omega
theorem pv_body (n most : Nat) (mV : V) (hmV : mV = .int (most : Int)) (hn : n ≤ most) (hm : most ≤ M64) : ∃ σ', bodyOf (sSeq (sIf (pIf (pBind (pVar 0) fun a => pBind (pC (V.int 0)) fun b => pOp fun σ => (geV σ a b).bind boolV) (pIf (pBind (pVar 0) fun a => pBind (pC (V.int 128)) fun b => pOp fun σ => (ltV σ a b).bind boolV) (pC true) (pC false)) (pC false))
  (sSeq (sRet (pCall (fn1 bytesV) [] (pList [(pNewList (pList [(pVar 0)]))])))
  sNil)
  sNil)
  (sSeq (sRet (pCall φ_write_groups [] (pList [(pVar 0), (pC mV)])))
  sNil)) (fun i => [V.int (n : Int)][i]?) [] = .ok (.bytes (enc n)) σ' := by
  subst hmV
  by_cases h : n < 128
  · refine ⟨[.list [.int n]], ?_⟩
    rw [enc_small h]
    refine body_ret (st_seq_ret (st_if_t (ev_if_t (ev_cmp (a := .int n) (ev_var (by walk_at "nv")) ev_C (geV_t (by omega))) (ev_if_t (ev_cmp (a := .int n) (ev_var (by walk_at "nv")) ev_C (ltV_t (by omega))) ev_C)) (st_seq_ret (st_ret ?_))))
    exact ev_call (ev_cons (ev_newlist (vs := [.int n]) (ev_cons (ev_var (by walk_at "nv")) ev_nil) (by simp)) ev_nil) (fn1_ok (bytesV_one rfl (by omega)))
  · refine ⟨[], ?_⟩
    refine body_ret (st_seq (σ1 := []) (st_if_f (ev_if_t (ev_cmp (a := .int n) (ev_var (by walk_at "nv")) ev_C (geV_t (by omega))) (ev_if_f (ev_cmp (a := .int n) (ev_var (by walk_at "nv")) ev_C (ltV_f (by omega))) ev_C)) st_nil) (st_seq_ret (st_ret ?_)))
    exact ev_call (vs := [.int n, .int most]) (ev_cons (ev_var (by walk_at "nv")) (ev_cons ev_C ev_nil)) (wg_spec n most hn hm [])
theorem pv_spec {n : Nat} (hn : n ≤ M64) (σ : List Cell) : φ_put_varint σ [.int n] = .ok (.bytes (enc n)) σ := by
  obtain ⟨σ', h⟩ := pv_body n M64 _ rfl hn (Nat.le_refl _)
  exact frame_ok (cl_cons (.int _) cl_nil) (.bytes _) h
theorem pv32_spec {n : Nat} (hn : n ≤ M32) (σ : List Cell) : φ_put_varint32 σ [.int n] = .ok (.bytes (enc n)) σ := by
  obtain ⟨σ', h⟩ := pv_body n M32 _ rfl hn (by decide)
  exact frame_ok (cl_cons (.int _) cl_nil) (.bytes _) h
set_option exponentiation.threshold 3000
open _root_.PySem
/-! objects -/
section
variable {m m1 m' : Loc} {σ σ1 σ2 σ3 : List Cell} {i k : Nat} {v a b c o : V} {vs : List V} {f g t l u : Loc → List Cell → Res V} {fl : Loc → List Cell → Res (List V)} {rv : Res V} {x C : Addr} {name : Str} {fsd : List (Str × V)}
theorem attrV_ok (hk : σ[k]? = some (.flds fsd)) (hg : getF name fsd = some v) : attrV C name σ (.obj C k) = some v := by
  show (if C = C then (match σ[k]? with | some (.flds fs) => getF name fs | _ => none) else none) = _
  rw [if_pos rfl, hk]
  exact hg
theorem ev_attr (hf : f m σ = .ok (.obj C k) σ1) (hk : σ1[k]? = some (.flds fsd)) (hg : getF name fsd = some v) : pUn (attrV C name) f m σ = .ok v σ1 := ev_un hf (attrV_ok hk hg)
theorem objK_ok {φ : Fn} (hk : σ[k]? = some (.flds fsd)) (hg : getF name fsd = none) : objK C name φ σ (.obj C k) = some fun σ vs => φ σ (.obj C k :: vs) := by
  show (if C = C then (match σ[k]? with | some (.flds fs) => _ | _ => none) else none) = _
  rw [if_pos rfl, hk]
  show (if getF name fsd = none then _ else _) = _
  rw [if_pos hg]
theorem ev_mobj {φ : Fn} (hf : f m σ = .ok (.obj C k) σ1) (hk : σ1[k]? = some (.flds fsd)) (hn : getF name fsd = none) (hg : fl m σ1 = .ok vs σ2) (h : φ σ2 (.obj C k :: vs) = rv) : pMeth (objK C name φ) f fl m σ = rv := ev_meth hf (objK_ok hk hn) hg h
end
noncomputable def curF (D : Bs) (at_ : Nat) : List (Str × V) := [(Str.ofString "data", .bytes D), (Str.ofString "at", .int at_)]
theorem cur_data (D : Bs) (n : Nat) : getF (Str.ofString "data") (curF D n) = some (.bytes D) := rfl
theorem cur_at (D : Bs) (n : Nat) : getF (Str.ofString "at") (curF D n) = some (.int n) := rfl
theorem cur_put (D : Bs) (n k : Nat) : putF (Str.ofString "at") (.int (k : Int)) (curF D n) = curF D k := rfl
theorem cur_left (D : Bs) (n : Nat) : getF (Str.ofString "left") (curF D n) = none := rfl
theorem cur_varint (D : Bs) (n : Nat) : getF (Str.ofString "varint") (curF D n) = none := rfl
theorem cur_lengthed (D : Bs) (n : Nat) : getF (Str.ofString "lengthed") (curF D n) = none := rfl
/-- what a cursor's reading answers: the value, the cursor moved -/
noncomputable def ansC {α : Type} (g : α → V) (D : Bs) (c : Nat) (σ : List Cell) : Rs α → Res V
  | .ok a r => .ok (g a) (σ.set c (.flds (curF D (D.length - r.length))))
  | .short => .exc 68
  | .corr => .exc 56
noncomputable abbrev nV (n : Nat) : V := .int n
theorem left_spec {D : Bs} {c n : Nat} {σ : List Cell} (hc : σ[c]? = some (.flds (curF D n))) (hl : D.length ≤ 1000) : φ_Cursor_left σ [.obj 212 c] = .ok (.int ((D.length : Int) - (n : Int))) σ := by
  show bodyOf F_Cursor_left (fun i => [V.obj 212 c][i]?) σ = _
  unfold F_Cursor_left
  refine body_ret (st_seq_ret (st_ret (ev_bin (a := .int D.length) (b := .int n) (ev_call (ev_cons (ev_attr (ev_var (by walk_at "nv")) hc (cur_data D n)) ev_nil) (fn1_ok (lenV_bytes (by omega)))) (ev_attr (ev_var (by walk_at "nv")) hc (cur_at D n)) rfl)))
theorem cv_spec {p l : Bs} {c : Nat} {σ : List Cell} (hc : σ[c]? = some (.flds (curF (p ++ l) p.length))) (hl : (p ++ l).length ≤ 1000) : φ_Cursor_varint σ [.obj 212 c] = ansC nV (p ++ l) c σ (rdN l) := by
  show bodyOf F_Cursor_varint (fun i => [V.obj 212 c][i]?) σ = _
  unfold F_Cursor_varint
  have hl6 : (p ++ l).length ≤ 1000000 := by omega
  have hM : ∀ (m : Loc), m 0 = some (.obj 212 c) → pUn (attrV 212 (Str.ofString "data")) (pVar 0) m σ = .ok (.bytes (p ++ l)) σ := fun m h0 => ev_attr (ev_var h0) hc (cur_data _ _)
  have s1 : sSet 1 (pUn (attrV 212 (Str.ofString "at")) (pVar 0)) (fun i => [V.obj 212 c][i]?) σ = .next (upd (fun i => [V.obj 212 c][i]?) 1 (.int p.length)) σ := st_set (ev_attr (ev_var (by walk_at "nv")) hc (cur_at _ _))
  have hlen : pCall (fn1 lenV) [] (pList [(pUn (attrV 212 (Str.ofString "data")) (pVar 0))]) (upd (fun i => [V.obj 212 c][i]?) 1 (.int p.length)) σ = .ok (.int (p ++ l).length) σ := ev_call (ev_cons (hM _ (by walk_at "nv")) ev_nil) (fn1_ok (lenV_bytes hl6))
  have slow : ∀ {t : Loc → List Cell → Res Bool} {a : Loc → List Cell → RS}, t (upd (fun i => [V.obj 212 c][i]?) 1 (.int p.length)) σ = .ok false σ → bodyOf (sSeq (sSet 1 (pUn (attrV 212 (Str.ofString "at")) (pVar 0))) (sSeq (sIf t a sNil)
      (sSeq (sUnpack [2, 1] (pCall φ_read_varint [] (pList [(pUn (attrV 212 (Str.ofString "data")) (pVar 0)), (pVar 1)]))) (sSeq (sSetAttr 212 (Str.ofString "at") (pVar 0) (pVar 1)) (sSeq (sRet (pVar 2)) sNil))))) (fun i => [V.obj 212 c][i]?) σ = ansC nV (p ++ l) c σ (rdN l) := fun {t a} ht => by
    have hcall : pCall φ_read_varint [] (pList [(pUn (attrV 212 (Str.ofString "data")) (pVar 0)), (pVar 1)]) (upd (fun i => [V.obj 212 c][i]?) 1 (.int p.length)) σ = ans (p ++ l) (rdN l) σ :=
      ev_call (vs := [.bytes (p ++ l), .int p.length]) (ev_cons (hM _ (by walk_at "nv")) (ev_cons (ev_var (by walk_at "nv")) ev_nil)) (rv_spec p l hl σ)
    cases hr : rdN l with
    | short => rw [hr] at hcall; exact body_exc (st_seq s1 (st_seq (st_if_f ht st_nil) (st_seq_exc (st_unpack_exc hcall))))
    | corr => rw [hr] at hcall; exact body_exc (st_seq s1 (st_seq (st_if_f ht st_nil) (st_seq_exc (st_unpack_exc hcall))))
    | ok n r =>
      rw [hr] at hcall
      refine body_ret (st_seq s1 (st_seq (st_if_f ht st_nil) (st_seq (m1 := upd (upd (upd (fun i => [V.obj 212 c][i]?) 1 (.int p.length)) 2 (.int n)) 1 (.int (((p ++ l).length - r.length : Nat) : Int))) (st_unpack hcall rfl) ?_)))
      refine st_seq (st_setattr (ev_var (by walk_at "nv")) (ev_var (by walk_at "nv")) hc (by simp [curF])) ?_
      rw [cur_put]
      exact st_seq_ret (st_ret (ev_var (by walk_at "nv")))
  cases l with
  | nil => exact slow (ev_if_f (ev_cmp (a := .int p.length) (ev_var (by walk_at "nv")) hlen (ltV_f (by simp))) ev_C)
  | cons d l =>
    have hp : (p ++ d :: l)[p.length]? = some d := by simp
    have item : ∀ (m : Loc) (σ' : List Cell) (n' : Nat), m 0 = some (.obj 212 c) → m 1 = some (.int p.length) → σ'[c]? = some (.flds (curF (p ++ d :: l) n')) → pBin itemV (pUn (attrV 212 (Str.ofString "data")) (pVar 0)) (pVar 1) m σ' = .ok (.int d.toNat) σ' := fun m σ' n' h0 h1 hc' =>
      ev_bin (a := .bytes (p ++ d :: l)) (b := .int p.length) (ev_attr (ev_var h0) hc' (cur_data _ _)) (ev_var h1) (itemV_bytes hp hl6)
    have hlt : ltV σ (.int p.length) (.int (p ++ d :: l).length) = some (.bool true) := ltV_t (by simp; omega)
    by_cases hb : d.toNat < 128
    · have e : rdN (d :: l) = .ok d.toNat l := by
        unfold rdN rd num
        rw [if_pos hb]
        dsimp only
        rw [if_neg (by unfold M64; omega)]
      rw [e]
      refine body_ret (st_seq s1 (st_seq_ret (st_if_t (ev_if_t (ev_cmp (a := .int p.length) (ev_var (by walk_at "nv")) hlen hlt) (ev_if_t (ev_cmp (item _ σ _ (by walk_at "nv") (by walk_at "nv") hc) ev_C (ltV_t (by omega))) ev_C)) ?_)))
      refine st_seq (st_setattr (v := .int ((p.length + 1 : Nat) : Int)) (ev_bin (a := .int p.length) (b := .int 1) (ev_var (by walk_at "nv")) ev_C rfl) (ev_var (by walk_at "nv")) hc (by simp [curF])) ?_
      rw [cur_put]
      have hcl : c < σ.length := (List.getElem?_eq_some_iff.mp hc).1
      have e2 : (p ++ d :: l).length - l.length = p.length + 1 := by simp; omega
      rw [e2]
      exact st_seq_ret (st_ret (item _ _ (p.length + 1) (by walk_at "nv") (by walk_at "nv") (List.getElem?_set_self hcl)))
    · exact slow (ev_if_t (ev_cmp (a := .int p.length) (ev_var (by walk_at "nv")) hlen hlt) (ev_if_f (ev_cmp (item _ σ _ (by walk_at "nv") (by walk_at "nv") hc) ev_C (ltV_f (by omega))) ev_C))
theorem cl_spec {p l : Bs} {c : Nat} {σ : List Cell} (hc : σ[c]? = some (.flds (curF (p ++ l) p.length))) (hl : (p ++ l).length ≤ 1000) : φ_Cursor_lengthed σ [.obj 212 c] = ansC V.bytes (p ++ l) c σ (rdT l) := by
  show bodyOf F_Cursor_lengthed (fun i => [V.obj 212 c][i]?) σ = _
  unfold F_Cursor_lengthed
  have hcall : pCall φ_read_lengthed [] (pList [(pUn (attrV 212 (Str.ofString "data")) (pVar 0)), (pUn (attrV 212 (Str.ofString "at")) (pVar 0))]) (fun i => [V.obj 212 c][i]?) σ = ansT (p ++ l) (rdT l) σ :=
    ev_call (vs := [.bytes (p ++ l), .int p.length]) (ev_cons (ev_attr (ev_var (by walk_at "nv")) hc (cur_data _ _)) (ev_cons (ev_attr (ev_var (by walk_at "nv")) hc (cur_at _ _)) ev_nil)) (rl_spec p l hl σ)
  cases hr : rdT l with
  | short => rw [hr] at hcall; exact body_exc (st_seq_exc (st_unpack_exc hcall))
  | corr => rw [hr] at hcall; exact body_exc (st_seq_exc (st_unpack_exc hcall))
  | ok b r =>
    rw [hr] at hcall
    refine body_ret (st_seq (m1 := upd (upd (fun i => [V.obj 212 c][i]?) 1 (.bytes b)) 2 (.int (((p ++ l).length - r.length : Nat) : Int))) (st_unpack hcall rfl) ?_)
    refine st_seq (st_setattr (ev_var (by walk_at "nv")) (ev_var (by walk_at "nv")) hc (by simp [curF])) ?_
    rw [cur_put]
    exact st_seq_ret (st_ret (ev_var (by walk_at "nv")))
theorem lvl_spec {p l : Bs} {c : Nat} {σ : List Cell} (hc : σ[c]? = some (.flds (curF (p ++ l) p.length))) (hl : (p ++ l).length ≤ 1000) : φ_read_level σ [.obj 212 c] = ansC nV (p ++ l) c σ (rdL l) := by
  show bodyOf F_read_level (fun i => [V.obj 212 c][i]?) σ = _
  unfold F_read_level
  have hcall : pMeth (objK 212 (Str.ofString "varint") φ_Cursor_varint) (pVar 0) (pList []) (fun i => [V.obj 212 c][i]?) σ = ansC nV (p ++ l) c σ (rdN l) := ev_mobj (ev_var (by walk_at "nv")) hc (cur_varint _ _) ev_nil (cv_spec hc hl)
  unfold rdL
  cases hr : rdN l with
  | short => rw [hr] at hcall; exact body_exc (st_seq_exc (st_set_exc hcall))
  | corr => rw [hr] at hcall; exact body_exc (st_seq_exc (st_set_exc hcall))
  | ok n r =>
    rw [hr] at hcall
    have hn := (rdN_ok hr).2.2
    show _ = ansC nV (p ++ l) c σ (if 12 ≤ n then .corr else .ok n r)
    by_cases h : 12 ≤ n
    · rw [if_pos h]
      refine body_exc (st_seq (st_set hcall) (st_seq_exc (st_if_t (ev_cmp (a := .int n) (ev_var (by walk_at "nv")) ev_C (geV_t (by omega))) (st_seq_exc (st_raise (ev_cons ev_C (ev_cons (ev_fmt (n := n) (ev_var (by walk_at "nv")) ?_) (ev_cons ev_C ev_nil))))))))
      rw [Int.natAbs_natCast]; exact log2_small (Nat.lt_of_le_of_lt hn (Nat.lt_of_lt_of_le (show M64 < 2 ^ 64 by decide) (Nat.pow_le_pow_right (by decide) (by decide))))
    · rw [if_neg h]
      exact body_ret (st_seq (st_set hcall) (st_seq (st_if_f (ev_cmp (a := .int n) (ev_var (by walk_at "nv")) ev_C (geV_f (by omega))) st_nil) (st_seq_ret (st_ret (ev_var (by walk_at "nv"))))))
theorem ikey_spec {p l : Bs} {c : Nat} {σ : List Cell} (hc : σ[c]? = some (.flds (curF (p ++ l) p.length))) (hl : (p ++ l).length ≤ 1000) : φ_read_ikey σ [.obj 212 c] = ansC V.bytes (p ++ l) c σ (rdK l) := by
  show bodyOf F_read_ikey (fun i => [V.obj 212 c][i]?) σ = _
  unfold F_read_ikey
  have hcall : pMeth (objK 212 (Str.ofString "lengthed") φ_Cursor_lengthed) (pVar 0) (pList []) (fun i => [V.obj 212 c][i]?) σ = ansC V.bytes (p ++ l) c σ (rdT l) := ev_mobj (ev_var (by walk_at "nv")) hc (cur_lengthed _ _) ev_nil (cl_spec hc hl)
  unfold rdK
  cases hr : rdT l with
  | short => rw [hr] at hcall; exact body_exc (st_seq_exc (st_set_exc hcall))
  | corr => rw [hr] at hcall; exact body_exc (st_seq_exc (st_set_exc hcall))
  | ok b r =>
    rw [hr] at hcall
    have hb : b.length ≤ 1000 := by
      obtain ⟨n, r', h1, h2⟩ := bind_ok hr
      split at h2
      · cases h2
      · cases h2
        obtain ⟨⟨u, _, e⟩, _, _⟩ := rd_suffix h1
        have : r'.length ≤ l.length := by rw [e]; simp
        rw [List.length_take]
        rw [List.length_append] at hl
        omega
    have hlen : pCall (fn1 lenV) [] (pList [(pVar 1)]) (upd (fun i => [V.obj 212 c][i]?) 1 (.bytes b)) (σ.set c (.flds (curF (p ++ l) ((p ++ l).length - r.length)))) = .ok (.int b.length) (σ.set c (.flds (curF (p ++ l) ((p ++ l).length - r.length)))) :=
      ev_call (vs := [.bytes b]) (ev_cons (ev_var (by walk_at "nv")) ev_nil) (fn1_ok (lenV_bytes (by omega)))
    show _ = ansC V.bytes (p ++ l) c σ (if b.length = 0 then .corr else .ok b r)
    by_cases h : b.length = 0
    · rw [if_pos h]
      exact body_exc (st_seq (st_set hcall) (st_seq_exc (st_if_t (ev_cmp hlen ev_C (eqV_t (by omega))) (st_seq_exc (st_raise ev_C)))))
    · rw [if_neg h]
      exact body_ret (st_seq (st_set hcall) (st_seq (st_if_f (ev_cmp hlen ev_C (eqV_f (by omega))) st_nil) (st_seq_ret (st_ret (ev_var (by walk_at "nv"))))))
/-! the sink -/
theorem extend_barr {σ : List Cell} {k : Nat} {b c : Bs} (hk : σ[k]? = some (.barr b)) (hl : b.length + c.length ≤ 1000000) : extendφ σ [.cell k, .bytes c] = .ok .none (σ.set k (.barr (b ++ c))) := by
  show (match σ[k]? with | some (.barr b) => _ | _ => _) = _
  rw [hk]
  show (if b.length + c.length ≤ 1000000 then _ else _) = _
  rw [if_pos hl]
theorem extendK_barr {σ : List Cell} {k : Nat} {b : Bs} (hk : σ[k]? = some (.barr b)) : extendK σ (.cell k) = some fun σ vs => extendφ σ (.cell k :: vs) := by
  show (match σ[k]? with | some (.barr _) => _ | _ => _) = _
  rw [hk]
noncomputable def sinkF (b : Nat) : List (Str × V) := [(Str.ofString "parts", .cell b)]
theorem sink_parts (b : Nat) : getF (Str.ofString "parts") (sinkF b) = some (.cell b) := rfl
theorem sink_varint (b : Nat) : getF (Str.ofString "varint") (sinkF b) = none := rfl
theorem sink_lengthed (b : Nat) : getF (Str.ofString "lengthed") (sinkF b) = none := rfl
theorem sink_done (b : Nat) : getF (Str.ofString "done") (sinkF b) = none := rfl
theorem sv_spec {σ : List Cell} {s b n : Nat} {x : Bs} (hs : σ[s]? = some (.flds (sinkF b))) (hb : σ[b]? = some (.barr x)) (hn : n ≤ M64) (hx : x.length ≤ 900000) : φ_Sink_varint σ [.obj 289 s, .int n] = .ok .none (σ.set b (.barr (x ++ enc n))) := by
  show bodyOf F_Sink_varint (fun i => [V.obj 289 s, .int n][i]?) σ = _
  unfold F_Sink_varint
  have hparts : pUn (attrV 289 (Str.ofString "parts")) (pVar 0) (fun i => [V.obj 289 s, .int n][i]?) σ = .ok (.cell b) σ := ev_attr (ev_var (by walk_at "nv")) hs (sink_parts b)
  have ge : ∀ {r : Res Bool} {f g : Loc → List Cell → Res Bool}, f (fun i => [V.obj 289 s, .int n][i]?) σ = r → pIf (pBind (pVar 1) fun a => pBind (pC (V.int 0)) fun b => pOp fun σ => (geV σ a b).bind boolV) f g (fun i => [V.obj 289 s, .int n][i]?) σ = r := fun h =>
    ev_if_t (ev_cmp (a := .int n) (ev_var (by walk_at "nv")) ev_C (geV_t (by omega))) h
  have hlen := enc_len64 hn
  by_cases h : n < 128
  · rw [enc_small h]
    exact body_next (st_seq (st_if_t (ge (ev_if_t (ev_cmp (a := .int n) (ev_var (by walk_at "nv")) ev_C (ltV_t (by omega))) ev_C)) (st_seq (st_expr (ev_meth hparts (appendK_barr hb) (ev_cons (ev_var (by walk_at "nv")) ev_nil) (append_barr hb (by omega) (by omega)))) st_nil)) st_nil)
  · refine body_next (st_seq (st_if_f (ge (ev_if_f (ev_cmp (a := .int n) (ev_var (by walk_at "nv")) ev_C (ltV_f (by omega))) ev_C)) (st_seq (st_expr (ev_meth hparts (extendK_barr hb) (ev_cons (ev_call (vs := [.int n]) (ev_cons (ev_var (by walk_at "nv")) ev_nil) (pv_spec hn σ)) ev_nil) (extend_barr hb (by omega)))) st_nil)) st_nil)
theorem sl_spec {σ : List Cell} {s b : Nat} {x c : Bs} (hs : σ[s]? = some (.flds (sinkF b))) (hb : σ[b]? = some (.barr x)) (hsb : s ≠ b) (hc : c.length ≤ 10000) (hx : x.length ≤ 900000) : φ_Sink_lengthed σ [.obj 289 s, .bytes c] = .ok .none (σ.set b (.barr (x ++ encT c))) := by
  show bodyOf F_Sink_lengthed (fun i => [V.obj 289 s, .bytes c][i]?) σ = _
  unfold F_Sink_lengthed
  have hbl : b < σ.length := (List.getElem?_eq_some_iff.mp hb).1
  have hlen := enc_len64 (n := c.length) (by unfold M64; omega)
  have hparts : pUn (attrV 289 (Str.ofString "parts")) (pVar 0) (fun i => [V.obj 289 s, .bytes c][i]?) σ = .ok (.cell b) σ := ev_attr (ev_var (by walk_at "nv")) hs (sink_parts b)
  refine body_next (m1 := fun i => [V.obj 289 s, .bytes c][i]?) (st_seq (st_expr (ev_meth hparts (extendK_barr hb) (ev_cons (ev_call (vs := [.int c.length]) (ev_cons (ev_call (vs := [.bytes c]) (ev_cons (ev_var (by walk_at "nv")) ev_nil) (fn1_ok (lenV_bytes (by omega)))) ev_nil) (pv32_spec (by unfold M32; omega) σ)) ev_nil) (extend_barr hb (by omega)))) ?_)
  have hb2 : (σ.set b (.barr (x ++ enc c.length)))[b]? = some (.barr (x ++ enc c.length)) := List.getElem?_set_self hbl
  have hs2 : (σ.set b (.barr (x ++ enc c.length)))[s]? = some (.flds (sinkF b)) := by rw [List.getElem?_set_ne (Ne.symm hsb)]; exact hs
  have := extend_barr (c := c) hb2 (by simp; omega)
  rw [List.set_set, List.append_assoc] at this
  exact st_seq (st_expr (ev_meth (ev_attr (ev_var (by walk_at "nv")) hs2 (sink_parts b)) (extendK_barr hb2) (ev_cons (ev_var (by walk_at "nv")) ev_nil) this)) st_nil
theorem sd_spec {σ : List Cell} {s b : Nat} {x : Bs} (hs : σ[s]? = some (.flds (sinkF b))) (hb : σ[b]? = some (.barr x)) (hx : x.length ≤ 900000) : φ_Sink_done σ [.obj 289 s] = .ok (.bytes x) σ := by
  show bodyOf F_Sink_done (fun i => [V.obj 289 s][i]?) σ = _
  unfold F_Sink_done
  refine body_ret (st_seq_ret (st_ret (ev_call (vs := [.cell b]) (ev_cons (ev_attr (ev_var (by walk_at "nv")) hs (sink_parts b)) ev_nil) (fn1_ok ?_))))
  show (match σ[b]? with | some (.list vs) => _ | some (.barr b) => _ | _ => _) = _
  rw [hb]
  show (if x.length ≤ 1000000 then _ else _) = _
  rw [if_pos (by omega)]
set_option exponentiation.threshold 3000
open _root_.PySem
noncomputable def decTest : Loc → List Cell → Res Bool := (pBind (pMeth (objK 212 (Str.ofString "left") φ_Cursor_left) (pVar 2) (pList [])) fun a => pBind (pC (V.int 0)) fun b => pOp fun σ => (gtV σ a b).bind boolV)
noncomputable def decBody : Loc → List Cell → RS := (sSeq (sSet 3 (pMeth (objK 212 (Str.ofString "varint") φ_Cursor_varint) (pVar 2) (pList [])))
  (sSeq (sIf (pBind (pVar 3) fun a => pBind (pC (V.int 1)) fun b => pOp fun σ => (eqV σ a b).bind boolV)
  (sSeq (sSetAttr 352 (Str.ofString "comparator") (pVar 1) (pMeth (objK 212 (Str.ofString "lengthed") φ_Cursor_lengthed) (pVar 2) (pList [])))
  sNil)
  (sSeq (sIf (pBind (pVar 3) fun a => pBind (pC (V.int 2)) fun b => pOp fun σ => (eqV σ a b).bind boolV)
  (sSeq (sSetAttr 352 (Str.ofString "log_number") (pVar 1) (pMeth (objK 212 (Str.ofString "varint") φ_Cursor_varint) (pVar 2) (pList [])))
  sNil)
  (sSeq (sIf (pBind (pVar 3) fun a => pBind (pC (V.int 3)) fun b => pOp fun σ => (eqV σ a b).bind boolV)
  (sSeq (sSetAttr 352 (Str.ofString "next_file") (pVar 1) (pMeth (objK 212 (Str.ofString "varint") φ_Cursor_varint) (pVar 2) (pList [])))
  sNil)
  (sSeq (sIf (pBind (pVar 3) fun a => pBind (pC (V.int 4)) fun b => pOp fun σ => (eqV σ a b).bind boolV)
  (sSeq (sSetAttr 352 (Str.ofString "last_seq") (pVar 1) (pMeth (objK 212 (Str.ofString "varint") φ_Cursor_varint) (pVar 2) (pList [])))
  sNil)
  (sSeq (sIf (pBind (pVar 3) fun a => pBind (pC (V.int 5)) fun b => pOp fun σ => (eqV σ a b).bind boolV)
  (sSeq (sSet 4 (pCall φ_read_level [] (pList [(pVar 2)])))
  (sSeq (sExpr (pMeth appendK (pUn (attrV 352 (Str.ofString "compact_pointers")) (pVar 1)) (pList [(pTup (pList [(pVar 4), (pCall φ_read_ikey [] (pList [(pVar 2)]))]))])))
  sNil))
  (sSeq (sIf (pBind (pVar 3) fun a => pBind (pC (V.int 6)) fun b => pOp fun σ => (eqV σ a b).bind boolV)
  (sSeq (sSet 4 (pCall φ_read_level [] (pList [(pVar 2)])))
  (sSeq (sExpr (pMeth appendK (pUn (attrV 352 (Str.ofString "deleted")) (pVar 1)) (pList [(pTup (pList [(pVar 4), (pMeth (objK 212 (Str.ofString "varint") φ_Cursor_varint) (pVar 2) (pList []))]))])))
  sNil))
  (sSeq (sIf (pBind (pVar 3) fun a => pBind (pC (V.int 7)) fun b => pOp fun σ => (eqV σ a b).bind boolV)
  (sSeq (sSet 4 (pCall φ_read_level [] (pList [(pVar 2)])))
  (sSeq (sSet 5 (pMeth (objK 212 (Str.ofString "varint") φ_Cursor_varint) (pVar 2) (pList [])))
  (sSeq (sSet 6 (pMeth (objK 212 (Str.ofString "varint") φ_Cursor_varint) (pVar 2) (pList [])))
  (sSeq (sSet 7 (pCall φ_read_ikey [] (pList [(pVar 2)])))
  (sSeq (sSet 8 (pCall φ_read_ikey [] (pList [(pVar 2)])))
  (sSeq (sExpr (pMeth appendK (pUn (attrV 352 (Str.ofString "added")) (pVar 1)) (pList [(pTup (pList [(pVar 4), (pCall φ_FileMeta [] (pList [(pVar 5), (pVar 6), (pVar 7), (pVar 8)]))]))])))
  sNil))))))
  (sSeq (sIf (pBind (pVar 3) fun a => pBind (pC (V.int 10)) fun b => pOp fun σ => (eqV σ a b).bind boolV)
  (sSeq (sSetAttr 352 (Str.ofString "reset") (pVar 1) (pC (V.bool true)))
  sNil)
  (sSeq (sRaise 56 (pList [(pC (V.str (Str.ofString "edit: unknown tag "))), (pFmt (pVar 3))]))
  sNil))
  sNil))
  sNil))
  sNil))
  sNil))
  sNil))
  sNil))
  sNil))
  sNil))
theorem decode_eq : F_decode_edit = sSeq (sSet 1 (pCall φ_VersionEdit [] (pList []))) (sSeq (sSet 2 (pCall φ_Cursor [] (pList [(pVar 0)]))) (sSeq (sWhile decTest decBody) (sSeq (sRet (pVar 1)) sNil))) := rfl
section
variable {m : Loc} {σ : List Cell} {f g : Loc → List Cell → RS} {rs : RS} {t : Nat} {k : Int}
theorem seq_nil {f : Loc → List Cell → RS} : sSeq f sNil m σ = f m σ := by
  unfold sSeq
  cases f m σ <;> rfl
theorem tag_t (h3 : m 3 = some (.int t)) (ht : (t : Int) = k) (h : f m σ = rs) : sIf (pBind (pVar 3) fun a => pBind (pC (V.int k)) fun b => pOp fun σ => (eqV σ a b).bind boolV) f g m σ = rs := st_if_t (ev_cmp (ev_var h3) ev_C (eqV_t ht)) h
theorem tag_f (h3 : m 3 = some (.int t)) (ht : ¬ (t : Int) = k) (h : g m σ = rs) : sIf (pBind (pVar 3) fun a => pBind (pC (V.int k)) fun b => pOp fun σ => (eqV σ a b).bind boolV) f (sSeq g sNil) m σ = rs := st_if_f (ev_cmp (ev_var h3) ev_C (eqV_f ht)) (seq_nil.trans h)
theorem tag_f' (h3 : m 3 = some (.int t)) (ht : ¬ (t : Int) = k) (h : g m σ = rs) : sIf (pBind (pVar 3) fun a => pBind (pC (V.int k)) fun b => pOp fun σ => (eqV σ a b).bind boolV) f g m σ = rs := st_if_f (ev_cmp (ev_var h3) ev_C (eqV_f ht)) h
end
noncomputable abbrev Ad := Nat × Nat × Nat × Bs × Bs
noncomputable def oB : Option Bs → V
  | none => .none
  | some b => .bytes b
noncomputable def oN : Option Nat → V
  | none => .none
  | some n => .int n
noncomputable def eF (r : Row) : List (Str × V) := [(Str.ofString "comparator", oB r.comp), (Str.ofString "log_number", oN r.log), (Str.ofString "next_file", oN r.nxt), (Str.ofString "last_seq", oN r.seq), (Str.ofString "compact_pointers", .cell 1), (Str.ofString "deleted", .cell 2), (Str.ofString "added", .cell 3), (Str.ofString "reset", .bool r.rst)]
noncomputable def ptrV (p : Nat × Bs) : V := .tup [.int p.1, .bytes p.2]
noncomputable def delV (p : Nat × Nat) : V := .tup [.int p.1, .int p.2]
noncomputable def addsV : Nat → List Ad → List V
  | _, [] => []
  | k, a :: r => .tup [.int a.1, .obj 317 k] :: addsV (k + 1) r
noncomputable def metaF (a : Ad) : List (Str × V) := [(Str.ofString "number", .int a.2.1), (Str.ofString "size", .int a.2.2.1), (Str.ofString "smallest", .bytes a.2.2.2.1), (Str.ofString "largest", .bytes a.2.2.2.2)]
noncomputable def store (r : Row) (D : Bs) (n : Nat) : List Cell := .flds (eF r) :: .list (r.ptrs.map ptrV) :: .list (r.dels.map delV) :: .list (addsV 5 r.adds) :: .flds (curF D n) :: r.adds.map fun a => .flds (metaF a)
noncomputable abbrev storeL (r : Row) (D l : Bs) : List Cell := store r D (D.length - l.length)
theorem addsV_snoc : ∀ (l : List Ad) (k : Nat) (a : Ad), addsV k (l ++ [a]) = addsV k l ++ [.tup [.int a.1, .obj 317 (k + l.length)]]
  | [], k, a => rfl
  | b :: l, k, a => by
    show _ :: addsV (k + 1) (l ++ [a]) = _
    rw [addsV_snoc l (k + 1) a]
    simp [addsV]; omega
theorem addsV_len : ∀ (l : List Ad) (k : Nat), (addsV k l).length = l.length
  | [], _ => rfl
  | a :: l, k => by simp [addsV, addsV_len l]
theorem append_list {σ : List Cell} {k : Nat} {us : List V} {v : V} (hk : σ[k]? = some (.list us)) (hl : us.length ≤ 100000) : appendφ σ [.cell k, v] = .ok .none (σ.set k (.list (us ++ [v]))) := by
  show (match σ[k]? with | some (.list us) => _ | _ => _) = _
  rw [hk]
  show (if us.length ≤ 100000 then _ else _) = _
  rw [if_pos hl]
theorem appendK_list {σ : List Cell} {k : Nat} {us : List V} (hk : σ[k]? = some (.list us)) : appendK σ (.cell k) = some fun σ vs => appendφ σ (.cell k :: vs) := by
  show (match σ[k]? with | some (.list _) => _ | some (.barr _) => _ | _ => _) = _
  rw [hk]
/-! the cursor, by what is left -/
section
variable {D l : Bs} {c : Nat} {σ : List Cell}
theorem suf_at (hs : Suf D l) : ∃ p, D = p ++ l ∧ D.length - l.length = p.length := by
  obtain ⟨p, rfl⟩ := hs
  exact ⟨p, rfl, by simp⟩
theorem cvS (hs : Suf D l) (hc : σ[c]? = some (.flds (curF D (D.length - l.length)))) (hl : D.length ≤ 1000) : φ_Cursor_varint σ [.obj 212 c] = ansC nV D c σ (rdN l) := by
  obtain ⟨p, rfl, e⟩ := suf_at hs
  rw [e] at hc
  exact cv_spec hc hl
theorem clS (hs : Suf D l) (hc : σ[c]? = some (.flds (curF D (D.length - l.length)))) (hl : D.length ≤ 1000) : φ_Cursor_lengthed σ [.obj 212 c] = ansC V.bytes D c σ (rdT l) := by
  obtain ⟨p, rfl, e⟩ := suf_at hs
  rw [e] at hc
  exact cl_spec hc hl
theorem lvS (hs : Suf D l) (hc : σ[c]? = some (.flds (curF D (D.length - l.length)))) (hl : D.length ≤ 1000) : φ_read_level σ [.obj 212 c] = ansC nV D c σ (rdL l) := by
  obtain ⟨p, rfl, e⟩ := suf_at hs
  rw [e] at hc
  exact lvl_spec hc hl
theorem ikS (hs : Suf D l) (hc : σ[c]? = some (.flds (curF D (D.length - l.length)))) (hl : D.length ≤ 1000) : φ_read_ikey σ [.obj 212 c] = ansC V.bytes D c σ (rdK l) := by
  obtain ⟨p, rfl, e⟩ := suf_at hs
  rw [e] at hc
  exact ikey_spec hc hl
end
noncomputable def ansD {α : Type} (g : α → V) (D : Bs) (R : Row) : Rs α → Res V
  | .ok a r => .ok (g a) (storeL R D r)
  | .short => .exc 68
  | .corr => .exc 56
theorem ansD_eq {α : Type} {g : α → V} {D l : Bs} {R : Row} {x : Rs α} : ansC g D 4 (storeL R D l) x = ansD g D R x := by cases x <;> rfl
section
variable {D l : Bs} {R : Row} {m : Loc}
theorem dv (h2 : m 2 = some (.obj 212 4)) (hs : Suf D l) (hl : D.length ≤ 1000) : pMeth (objK 212 (Str.ofString "varint") φ_Cursor_varint) (pVar 2) (pList []) m (storeL R D l) = ansD nV D R (rdN l) :=
  ev_mobj (ev_var h2) rfl (cur_varint _ _) ev_nil ((cvS hs rfl hl).trans ansD_eq)
theorem dl (h2 : m 2 = some (.obj 212 4)) (hs : Suf D l) (hl : D.length ≤ 1000) : pMeth (objK 212 (Str.ofString "lengthed") φ_Cursor_lengthed) (pVar 2) (pList []) m (storeL R D l) = ansD V.bytes D R (rdT l) :=
  ev_mobj (ev_var h2) rfl (cur_lengthed _ _) ev_nil ((clS hs rfl hl).trans ansD_eq)
theorem dlv (h2 : m 2 = some (.obj 212 4)) (hs : Suf D l) (hl : D.length ≤ 1000) : pCall φ_read_level [] (pList [(pVar 2)]) m (storeL R D l) = ansD nV D R (rdL l) :=
  ev_call (vs := [.obj 212 4]) (ev_cons (ev_var h2) ev_nil) ((lvS hs rfl hl).trans ansD_eq)
theorem dk (h2 : m 2 = some (.obj 212 4)) (hs : Suf D l) (hl : D.length ≤ 1000) : pCall φ_read_ikey [] (pList [(pVar 2)]) m (storeL R D l) = ansD V.bytes D R (rdK l) :=
  ev_call (vs := [.obj 212 4]) (ev_cons (ev_var h2) ev_nil) ((ikS hs rfl hl).trans ansD_eq)
end
theorem set_last {α : Type} (σ : List α) (x y : α) : (σ ++ [x]).set σ.length y = σ ++ [y] := by simp
theorem get_last {α : Type} (σ : List α) (x : α) : (σ ++ [x])[σ.length]? = some x := by simp
theorem fm_spec (σ : List Cell) (lv n s : Nat) (a b : Bs) : φ_FileMeta σ [.int n, .int s, .bytes a, .bytes b] = .ok (.obj 317 σ.length) (σ ++ [.flds (metaF (lv, n, s, a, b))]) := by
  have h : φ_FileMeta___init__ (σ ++ [.flds []]) [.obj 317 σ.length, .int n, .int s, .bytes a, .bytes b] = .ok .none (σ ++ [.flds (metaF (lv, n, s, a, b))]) := by
    show bodyOf F_FileMeta___init__ (fun i => [V.obj 317 σ.length, .int n, .int s, .bytes a, .bytes b][i]?) _ = _
    unfold F_FileMeta___init__
    refine body_next (m1 := fun i => [V.obj 317 σ.length, .int n, .int s, .bytes a, .bytes b][i]?) ?_
    refine st_seq (st_setattr (ev_var (by walk_at "nv")) (ev_var (by walk_at "nv")) (get_last _ _) (by simp)) ?_
    rw [set_last]
    refine st_seq (st_setattr (ev_var (by walk_at "nv")) (ev_var (by walk_at "nv")) (get_last _ _) (by simp [putF])) ?_
    rw [set_last]
    refine st_seq (st_setattr (ev_var (by walk_at "nv")) (ev_var (by walk_at "nv")) (get_last _ _) (show (2 : Nat) ≤ 100 by decide)) ?_
    rw [set_last]
    refine st_seq (st_setattr (ev_var (by walk_at "nv")) (ev_var (by walk_at "nv")) (get_last _ _) (show (3 : Nat) ≤ 100 by decide)) ?_
    rw [set_last]
    exact st_nil
  show makeφ 317 φ_FileMeta___init__ σ _ = _
  unfold makeφ
  rw [h]
theorem cu_spec (σ : List Cell) (D : Bs) (hl : D.length ≤ 1000) : φ_Cursor σ [.bytes D] = .ok (.obj 212 σ.length) (σ ++ [.flds (curF D 0)]) := by
  have h : φ_Cursor___init__ (σ ++ [.flds []]) [.obj 212 σ.length, .bytes D] = .ok .none (σ ++ [.flds (curF D 0)]) := by
    show bodyOf F_Cursor___init__ (fun i => ([V.obj 212 σ.length, .bytes D] ++ [.int 0])[i]?) _ = _
    unfold F_Cursor___init__
    refine body_next (m1 := fun i => ([V.obj 212 σ.length, .bytes D] ++ [.int 0])[i]?) ?_
    refine st_seq (st_if_f (ev_if_f (ev_cmp (a := .int 0) (ev_var (by walk_at "nv")) ev_C (ltV_f (by omega))) (ev_if_f (ev_cmp (a := .int 0) (ev_var (by walk_at "nv")) (ev_call (vs := [.bytes D]) (ev_cons (ev_var (by walk_at "nv")) ev_nil) (fn1_ok (lenV_bytes (by omega)))) (gtV_f (by omega))) ev_C)) st_nil) ?_
    refine st_seq (st_setattr (ev_var (by walk_at "nv")) (ev_var (by walk_at "nv")) (get_last _ _) (by simp)) ?_
    rw [set_last]
    refine st_seq (st_setattr (ev_var (by walk_at "nv")) (ev_var (by walk_at "nv")) (get_last _ _) (by simp [putF])) ?_
    rw [set_last]
    exact st_nil
  show makeφ 212 φ_Cursor___init__ σ _ = _
  unfold makeφ
  rw [h]
noncomputable def row0 : Row := ⟨none, none, none, none, [], [], [], false⟩
theorem ve_spec : φ_VersionEdit [] [] = .ok (.obj 352 0) [.flds (eF row0), .list [], .list [], .list []] := by rfl
set_option exponentiation.threshold 3000
open _root_.PySem
theorem both_nil (R : Row) : R.both row0 = R := by
  obtain ⟨c, l, n, s, p, d, a, t⟩ := R
  simp [Row.both, row0]
theorem rowOf_nil : rowOf [] = row0 := rfl
theorem both_assoc (a b c : Row) : (a.both b).both c = a.both (b.both c) := by
  simp [Row.both, Option.or_assoc, List.append_assoc, Bool.or_assoc]
theorem row0_both (R : Row) : row0.both R = R := by
  obtain ⟨c, l, n, s, p, d, a, t⟩ := R
  simp [Row.both, row0]
theorem rowOf_cons (p : Part) (ps : List Part) : rowOf (p :: ps) = (rowOf [p]).both (rowOf ps) := rowOf_append [p] ps
noncomputable def Row.cnt (R : Row) : Nat := R.ptrs.length + R.dels.length + R.adds.length
theorem cnt_part (R : Row) (p : Part) : (R.both (rowOf [p])).cnt ≤ R.cnt + 1 := by
  cases p <;> simp [Row.cnt, Row.both, rowOf, Part.ptr?, Part.del?, Part.add?, List.filterMap] <;> omega
theorem step_comp (R : Row) (b : Bs) (D : Bs) (n : Nat) : (store R D n).set 0 (.flds (putF (Str.ofString "comparator") (.bytes b) (eF R))) = store (R.both (rowOf [.comp b])) D n := by
  obtain ⟨c, l, n, s, p, d, a, t⟩ := R
  simp [Row.both, rowOf, List.filterMap, Part.comp?, Part.log?, Part.nxt?, Part.seq?, Part.ptr?, Part.del?, Part.add?, Part.rst?, store]
  rfl
theorem step_log (R : Row) (b : Nat) (D : Bs) (n : Nat) : (store R D n).set 0 (.flds (putF (Str.ofString "log_number") (.int b) (eF R))) = store (R.both (rowOf [.log b])) D n := by
  obtain ⟨c, l, n, s, p, d, a, t⟩ := R
  simp [Row.both, rowOf, List.filterMap, Part.comp?, Part.log?, Part.nxt?, Part.seq?, Part.ptr?, Part.del?, Part.add?, Part.rst?, store]
  rfl
theorem step_nxt (R : Row) (b : Nat) (D : Bs) (n : Nat) : (store R D n).set 0 (.flds (putF (Str.ofString "next_file") (.int b) (eF R))) = store (R.both (rowOf [.nxt b])) D n := by
  obtain ⟨c, l, n, s, p, d, a, t⟩ := R
  simp [Row.both, rowOf, List.filterMap, Part.comp?, Part.log?, Part.nxt?, Part.seq?, Part.ptr?, Part.del?, Part.add?, Part.rst?, store]
  rfl
theorem step_seq (R : Row) (b : Nat) (D : Bs) (n : Nat) : (store R D n).set 0 (.flds (putF (Str.ofString "last_seq") (.int b) (eF R))) = store (R.both (rowOf [.seq b])) D n := by
  obtain ⟨c, l, n, s, p, d, a, t⟩ := R
  simp [Row.both, rowOf, List.filterMap, Part.comp?, Part.log?, Part.nxt?, Part.seq?, Part.ptr?, Part.del?, Part.add?, Part.rst?, store]
  rfl
theorem step_rst (R : Row) (D : Bs) (n : Nat) : (store R D n).set 0 (.flds (putF (Str.ofString "reset") (.bool true) (eF R))) = store (R.both (rowOf [.rst])) D n := by
  obtain ⟨c, l, n, s, p, d, a, t⟩ := R
  simp [Row.both, rowOf, List.filterMap, Part.comp?, Part.log?, Part.nxt?, Part.seq?, Part.ptr?, Part.del?, Part.add?, Part.rst?, store]
  rfl
theorem step_ptr (R : Row) (lv : Nat) (k : Bs) (D : Bs) (n : Nat) : (store R D n).set 1 (.list (R.ptrs.map ptrV ++ [.tup [.int lv, .bytes k]])) = store (R.both (rowOf [.ptr lv k])) D n := by
  obtain ⟨c, l, n, s, p, d, a, t⟩ := R
  simp [Row.both, rowOf, List.filterMap, Part.comp?, Part.log?, Part.nxt?, Part.seq?, Part.ptr?, Part.del?, Part.add?, Part.rst?, store, eF]
  rfl
theorem step_del (R : Row) (lv k : Nat) (D : Bs) (n : Nat) : (store R D n).set 2 (.list (R.dels.map delV ++ [.tup [.int lv, .int k]])) = store (R.both (rowOf [.del lv k])) D n := by
  obtain ⟨c, l, n, s, p, d, a, t⟩ := R
  simp [Row.both, rowOf, List.filterMap, Part.comp?, Part.log?, Part.nxt?, Part.seq?, Part.ptr?, Part.del?, Part.add?, Part.rst?, store, eF]
  rfl
theorem store_len (R : Row) (D : Bs) (n : Nat) : (store R D n).length = 5 + R.adds.length := by simp [store]; omega
theorem step_add (R : Row) (x : Ad) (D : Bs) (n : Nat) : (store R D n ++ [Cell.flds (metaF x)]).set 3 (Cell.list (addsV 5 R.adds ++ [V.tup [V.int x.1, V.obj 317 (store R D n).length]])) = store (R.both (rowOf [Part.add x.1 x.2.1 x.2.2.1 x.2.2.2.1 x.2.2.2.2])) D n := by
  rw [store_len]
  obtain ⟨c, l, n, s, p, d, a, t⟩ := R
  simp [Row.both, rowOf, List.filterMap, Part.comp?, Part.log?, Part.nxt?, Part.seq?, Part.ptr?, Part.del?, Part.add?, Part.rst?, store, eF, addsV_snoc]
section
variable {D l : Bs} {R : Row} {m : Loc}
/-- one turn of decode_edit -/
theorem dec_step (h1 : m 1 = some (.obj 352 0)) (h2 : m 2 = some (.obj 212 4)) (hs : Suf D l) (hl : D.length ≤ 1000) (hc : R.cnt ≤ 100000) :
    match part l with
    | .ok p r => ∃ m', decBody m (storeL R D l) = .next m' (storeL (R.both (rowOf [p])) D r) ∧ m' 1 = m 1 ∧ m' 2 = m 2
    | .short => decBody m (storeL R D l) = .exc 68
    | .corr => decBody m (storeL R D l) = .exc 56 := by
  unfold part decBody
  have H := dv (R := R) h2 hs hl
  cases ht : rdN l with
  | short => rw [ht] at H; exact st_seq_exc (st_set_exc H)
  | corr => rw [ht] at H; exact st_seq_exc (st_set_exc H)
  | ok t r =>
  rw [ht] at H
  have hs1 : Suf D r := hs.trans (rdN_ok ht).1
  have htM := (rdN_ok ht).2.2
  show match (if t = 1 then _ else _ : Rs Part) with | .ok p r => _ | .short => _ | .corr => _
  have g1 : upd m 3 (nV t) 1 = some (.obj 352 0) := by walk_at "nv"
  have g2 : upd m 3 (nV t) 2 = some (.obj 212 4) := by walk_at "nv"
  have g3 : upd m 3 (nV t) 3 = some (.int t) := by walk_at "nv"
  by_cases t1 : t = 1
  · rw [if_pos t1]
    have A := dl (R := R) (m := upd m 3 (nV t)) g2 hs1 hl
    cases ha : rdT r with
    | short => rw [ha] at A; exact st_seq (st_set H) (seq_nil.trans (tag_t g3 (by omega) (st_seq_exc (st_setattr_exc A))))
    | corr => rw [ha] at A; exact st_seq (st_set H) (seq_nil.trans (tag_t g3 (by omega) (st_seq_exc (st_setattr_exc A))))
    | ok b r2 =>
      rw [ha] at A
      refine ⟨upd m 3 (nV t), st_seq (st_set H) (seq_nil.trans (tag_t g3 (by omega) ?_)), rfl, rfl⟩
      show _ = RS.next _ (store _ D _)
      rw [← step_comp]
      exact st_seq (st_setattr A (ev_var g1) rfl (show (8 : Nat) ≤ 100 by decide)) st_nil
  rw [if_neg t1]
  by_cases t2 : t = 2
  · rw [if_pos t2]
    have A := dv (R := R) (m := upd m 3 (nV t)) g2 hs1 hl
    cases ha : rdN r with
    | short => rw [ha] at A; exact st_seq (st_set H) (seq_nil.trans (tag_f g3 (by omega) (tag_t g3 (by omega) (st_seq_exc (st_setattr_exc A)))))
    | corr => rw [ha] at A; exact st_seq (st_set H) (seq_nil.trans (tag_f g3 (by omega) (tag_t g3 (by omega) (st_seq_exc (st_setattr_exc A)))))
    | ok b r2 =>
      rw [ha] at A
      refine ⟨upd m 3 (nV t), st_seq (st_set H) (seq_nil.trans (tag_f g3 (by omega) (tag_t g3 (by omega) ?_))), rfl, rfl⟩
      show _ = RS.next _ (store _ D _)
      rw [← step_log]
      exact st_seq (st_setattr A (ev_var g1) rfl (show (8 : Nat) ≤ 100 by decide)) st_nil
  rw [if_neg t2]
  by_cases t3 : t = 3
  · rw [if_pos t3]
    have A := dv (R := R) (m := upd m 3 (nV t)) g2 hs1 hl
    cases ha : rdN r with
    | short => rw [ha] at A; exact st_seq (st_set H) (seq_nil.trans (tag_f g3 (by omega) (tag_f g3 (by omega) (tag_t g3 (by omega) (st_seq_exc (st_setattr_exc A))))))
    | corr => rw [ha] at A; exact st_seq (st_set H) (seq_nil.trans (tag_f g3 (by omega) (tag_f g3 (by omega) (tag_t g3 (by omega) (st_seq_exc (st_setattr_exc A))))))
    | ok b r2 =>
      rw [ha] at A
      refine ⟨upd m 3 (nV t), st_seq (st_set H) (seq_nil.trans (tag_f g3 (by omega) (tag_f g3 (by omega) (tag_t g3 (by omega) ?_)))), rfl, rfl⟩
      show _ = RS.next _ (store _ D _)
      rw [← step_nxt]
      exact st_seq (st_setattr A (ev_var g1) rfl (show (8 : Nat) ≤ 100 by decide)) st_nil
  rw [if_neg t3]
  by_cases t4 : t = 4
  · rw [if_pos t4]
    have A := dv (R := R) (m := upd m 3 (nV t)) g2 hs1 hl
    cases ha : rdN r with
    | short => rw [ha] at A; exact st_seq (st_set H) (seq_nil.trans (tag_f g3 (by omega) (tag_f g3 (by omega) (tag_f g3 (by omega) (tag_t g3 (by omega) (st_seq_exc (st_setattr_exc A)))))))
    | corr => rw [ha] at A; exact st_seq (st_set H) (seq_nil.trans (tag_f g3 (by omega) (tag_f g3 (by omega) (tag_f g3 (by omega) (tag_t g3 (by omega) (st_seq_exc (st_setattr_exc A)))))))
    | ok b r2 =>
      rw [ha] at A
      refine ⟨upd m 3 (nV t), st_seq (st_set H) (seq_nil.trans (tag_f g3 (by omega) (tag_f g3 (by omega) (tag_f g3 (by omega) (tag_t g3 (by omega) ?_))))), rfl, rfl⟩
      show _ = RS.next _ (store _ D _)
      rw [← step_seq]
      exact st_seq (st_setattr A (ev_var g1) rfl (show (8 : Nat) ≤ 100 by decide)) st_nil
  rw [if_neg t4]
  have skip4 : ∀ {f1 f2 f3 f4 g : Loc → List Cell → RS} {rs : RS}, g (upd m 3 (nV t)) (storeL R D r) = rs → sSeq (sSet 3 (pMeth (objK 212 (Str.ofString "varint") φ_Cursor_varint) (pVar 2) (pList [])))
      (sSeq (sIf (pBind (pVar 3) fun a => pBind (pC (V.int 1)) fun b => pOp fun σ => (eqV σ a b).bind boolV) f1 (sSeq (sIf (pBind (pVar 3) fun a => pBind (pC (V.int 2)) fun b => pOp fun σ => (eqV σ a b).bind boolV) f2
        (sSeq (sIf (pBind (pVar 3) fun a => pBind (pC (V.int 3)) fun b => pOp fun σ => (eqV σ a b).bind boolV) f3 (sSeq (sIf (pBind (pVar 3) fun a => pBind (pC (V.int 4)) fun b => pOp fun σ => (eqV σ a b).bind boolV) f4 (sSeq g sNil)) sNil)) sNil)) sNil)) sNil) m (storeL R D l) = rs := fun h =>
    st_seq (st_set H) (seq_nil.trans (tag_f g3 (by omega) (tag_f g3 (by omega) (tag_f g3 (by omega) (tag_f g3 (by omega) h)))))
  have L := dlv (R := R) (m := upd m 3 (nV t)) g2 hs1 hl
  by_cases t5 : t = 5
  · rw [if_pos t5]
    cases hv : rdL r with
    | short => rw [hv] at L; exact skip4 (tag_t g3 (by omega) (st_seq_exc (st_set_exc L)))
    | corr => rw [hv] at L; exact skip4 (tag_t g3 (by omega) (st_seq_exc (st_set_exc L)))
    | ok lv r1 =>
    rw [hv] at L
    have hs2 := hs1.trans (rdL_ok hv).1
    have A := dk (R := R) (m := upd (upd m 3 (nV t)) 4 (nV lv)) (by walk_at "nv") hs2 hl
    have K : pUn (attrV 352 (Str.ofString "compact_pointers")) (pVar 1) (upd (upd m 3 (nV t)) 4 (nV lv)) (storeL R D r1) = .ok (.cell 1) (storeL R D r1) := ev_attr (ev_var (by walk_at "nv")) rfl rfl
    show match ((rdK r1).map (Part.ptr lv)) with | .ok p r => _ | .short => _ | .corr => _
    cases hk : rdK r1 with
    | short => rw [hk] at A; exact skip4 (tag_t g3 (by omega) (st_seq (st_set L) (st_seq_exc (st_expr_exc (ev_meth_exc K (appendK_list rfl) (ev_cons_exc1 (ev_tup_exc (ev_cons_exc2 (ev_var (by walk_at "nv")) (ev_cons_exc1 A)))))))))
    | corr => rw [hk] at A; exact skip4 (tag_t g3 (by omega) (st_seq (st_set L) (st_seq_exc (st_expr_exc (ev_meth_exc K (appendK_list rfl) (ev_cons_exc1 (ev_tup_exc (ev_cons_exc2 (ev_var (by walk_at "nv")) (ev_cons_exc1 A)))))))))
    | ok b r2 =>
      rw [hk] at A
      refine ⟨upd (upd m 3 (nV t)) 4 (nV lv), skip4 (tag_t g3 (by omega) (st_seq (st_set L) ?_)), rfl, rfl⟩
      show _ = RS.next _ (store _ D _)
      rw [← step_ptr]
      exact st_seq (st_expr (ev_meth K (appendK_list rfl) (ev_cons (ev_tup (ev_cons (ev_var (by walk_at "nv")) (ev_cons A ev_nil)) (by simp)) ev_nil) (append_list rfl (by rw [List.length_map]; unfold Row.cnt at hc; omega)))) st_nil
  rw [if_neg t5]
  by_cases t6 : t = 6
  · rw [if_pos t6]
    cases hv : rdL r with
    | short => rw [hv] at L; exact skip4 (tag_f g3 (by omega) (tag_t g3 (by omega) (st_seq_exc (st_set_exc L))))
    | corr => rw [hv] at L; exact skip4 (tag_f g3 (by omega) (tag_t g3 (by omega) (st_seq_exc (st_set_exc L))))
    | ok lv r1 =>
    rw [hv] at L
    have hs2 := hs1.trans (rdL_ok hv).1
    have A := dv (R := R) (m := upd (upd m 3 (nV t)) 4 (nV lv)) (by walk_at "nv") hs2 hl
    have K : pUn (attrV 352 (Str.ofString "deleted")) (pVar 1) (upd (upd m 3 (nV t)) 4 (nV lv)) (storeL R D r1) = .ok (.cell 2) (storeL R D r1) := ev_attr (ev_var (by walk_at "nv")) rfl rfl
    show match ((rdN r1).map (Part.del lv)) with | .ok p r => _ | .short => _ | .corr => _
    cases hk : rdN r1 with
    | short => rw [hk] at A; exact skip4 (tag_f g3 (by omega) (tag_t g3 (by omega) (st_seq (st_set L) (st_seq_exc (st_expr_exc (ev_meth_exc K (appendK_list rfl) (ev_cons_exc1 (ev_tup_exc (ev_cons_exc2 (ev_var (by walk_at "nv")) (ev_cons_exc1 A))))))))))
    | corr => rw [hk] at A; exact skip4 (tag_f g3 (by omega) (tag_t g3 (by omega) (st_seq (st_set L) (st_seq_exc (st_expr_exc (ev_meth_exc K (appendK_list rfl) (ev_cons_exc1 (ev_tup_exc (ev_cons_exc2 (ev_var (by walk_at "nv")) (ev_cons_exc1 A))))))))))
    | ok b r2 =>
      rw [hk] at A
      refine ⟨upd (upd m 3 (nV t)) 4 (nV lv), skip4 (tag_f g3 (by omega) (tag_t g3 (by omega) (st_seq (st_set L) ?_))), rfl, rfl⟩
      show _ = RS.next _ (store _ D _)
      rw [← step_del]
      exact st_seq (st_expr (ev_meth K (appendK_list rfl) (ev_cons (ev_tup (ev_cons (ev_var (by walk_at "nv")) (ev_cons A ev_nil)) (by simp)) ev_nil) (append_list rfl (by rw [List.length_map]; unfold Row.cnt at hc; omega)))) st_nil
  rw [if_neg t6]
  by_cases t7 : t = 7
  · rw [if_pos t7]
    cases hv : rdL r with
    | short => rw [hv] at L; exact skip4 (tag_f g3 (by omega) (tag_f g3 (by omega) (tag_t g3 (by omega) (st_seq_exc (st_set_exc L)))))
    | corr => rw [hv] at L; exact skip4 (tag_f g3 (by omega) (tag_f g3 (by omega) (tag_t g3 (by omega) (st_seq_exc (st_set_exc L)))))
    | ok lv r1 =>
    rw [hv] at L
    have skip7 : ∀ {f5 f6 f7 g : Loc → List Cell → RS} {rs : RS}, f7 (upd (upd m 3 (nV t)) 4 (nV lv)) (storeL R D r1) = rs → sIf (pBind (pVar 3) fun a => pBind (pC (V.int 5)) fun b => pOp fun σ => (eqV σ a b).bind boolV) f5 (sSeq (sIf (pBind (pVar 3) fun a => pBind (pC (V.int 6)) fun b => pOp fun σ => (eqV σ a b).bind boolV) f6
        (sSeq (sIf (pBind (pVar 3) fun a => pBind (pC (V.int 7)) fun b => pOp fun σ => (eqV σ a b).bind boolV) (sSeq (sSet 4 (pCall φ_read_level [] (pList [(pVar 2)]))) f7) g) sNil)) sNil) (upd m 3 (nV t)) (storeL R D r) = rs := fun h =>
      tag_f g3 (by omega) (tag_f g3 (by omega) (tag_t g3 (by omega) (st_seq (st_set L) h)))
    have hs2 := hs1.trans (rdL_ok hv).1
    have A1 := dv (R := R) (m := upd (upd m 3 (nV t)) 4 (nV lv)) (by walk_at "nv") hs2 hl
    show match ((rdN r1).bind _ : Rs Part) with | .ok p r => _ | .short => _ | .corr => _
    cases k1 : rdN r1 with
    | short => rw [k1] at A1; exact skip4 (skip7 (st_seq_exc (st_set_exc A1)))
    | corr => rw [k1] at A1; exact skip4 (skip7 (st_seq_exc (st_set_exc A1)))
    | ok n r2 =>
    rw [k1] at A1
    have hs3 := hs2.trans (rdN_ok k1).1
    have A2 := dv (R := R) (m := upd (upd (upd m 3 (nV t)) 4 (nV lv)) 5 (nV n)) (by walk_at "nv") hs3 hl
    show match ((rdN r2).bind _ : Rs Part) with | .ok p r => _ | .short => _ | .corr => _
    cases k2 : rdN r2 with
    | short => rw [k2] at A2; exact skip4 (skip7 (st_seq (st_set A1) (st_seq_exc (st_set_exc A2))))
    | corr => rw [k2] at A2; exact skip4 (skip7 (st_seq (st_set A1) (st_seq_exc (st_set_exc A2))))
    | ok s r3 =>
    rw [k2] at A2
    have hs4 := hs3.trans (rdN_ok k2).1
    have A3 := dk (R := R) (m := upd (upd (upd (upd m 3 (nV t)) 4 (nV lv)) 5 (nV n)) 6 (nV s)) (by walk_at "nv") hs4 hl
    show match ((rdK r3).bind _ : Rs Part) with | .ok p r => _ | .short => _ | .corr => _
    cases k3 : rdK r3 with
    | short => rw [k3] at A3; exact skip4 (skip7 (st_seq (st_set A1) (st_seq (st_set A2) (st_seq_exc (st_set_exc A3)))))
    | corr => rw [k3] at A3; exact skip4 (skip7 (st_seq (st_set A1) (st_seq (st_set A2) (st_seq_exc (st_set_exc A3)))))
    | ok a r4 =>
    rw [k3] at A3
    have hs5 := hs4.trans (rdK_ok k3).1
    have A4 := dk (R := R) (m := upd (upd (upd (upd (upd m 3 (nV t)) 4 (nV lv)) 5 (nV n)) 6 (nV s)) 7 (.bytes a)) (by walk_at "nv") hs5 hl
    show match ((rdK r4).map _ : Rs Part) with | .ok p r => _ | .short => _ | .corr => _
    cases k4 : rdK r4 with
    | short => rw [k4] at A4; exact skip4 (skip7 (st_seq (st_set A1) (st_seq (st_set A2) (st_seq (st_set A3) (st_seq_exc (st_set_exc A4))))))
    | corr => rw [k4] at A4; exact skip4 (skip7 (st_seq (st_set A1) (st_seq (st_set A2) (st_seq (st_set A3) (st_seq_exc (st_set_exc A4))))))
    | ok b r5 =>
    rw [k4] at A4
    refine ⟨upd (upd (upd (upd (upd (upd m 3 (nV t)) 4 (nV lv)) 5 (nV n)) 6 (nV s)) 7 (.bytes a)) 8 (.bytes b), skip4 (skip7 (st_seq (st_set A1) (st_seq (st_set A2) (st_seq (st_set A3) (st_seq (st_set A4) ?_))))), rfl, rfl⟩
    have K : pUn (attrV 352 (Str.ofString "added")) (pVar 1) (upd (upd (upd (upd (upd (upd m 3 (nV t)) 4 (nV lv)) 5 (nV n)) 6 (nV s)) 7 (.bytes a)) 8 (.bytes b)) (storeL R D r5) = .ok (.cell 3) (storeL R D r5) := ev_attr (ev_var (by walk_at "nv")) rfl rfl
    have F := ev_call (φ := φ_FileMeta) (first := []) (fl := pList [(pVar 5), (pVar 6), (pVar 7), (pVar 8)]) (m := upd (upd (upd (upd (upd (upd m 3 (nV t)) 4 (nV lv)) 5 (nV n)) 6 (nV s)) 7 (.bytes a)) 8 (.bytes b)) (vs := [.int n, .int s, .bytes a, .bytes b]) (σ := storeL R D r5)
      (ev_cons (ev_var (by walk_at "nv")) (ev_cons (ev_var (by walk_at "nv")) (ev_cons (ev_var (by walk_at "nv")) (ev_cons (ev_var (by walk_at "nv")) ev_nil)))) (fm_spec (storeL R D r5) lv n s a b)
    have S := step_add R (lv, n, s, a, b) D (D.length - r5.length)
    dsimp only at S
    show _ = RS.next _ (store _ D _)
    rw [← S]
    exact st_seq (st_expr (ev_meth K (appendK_list rfl) (ev_cons (ev_tup (ev_cons (ev_var (by walk_at "nv")) (ev_cons F ev_nil)) (by simp)) ev_nil) (append_list rfl (by rw [addsV_len]; unfold Row.cnt at hc; omega)))) st_nil
  rw [if_neg t7]
  by_cases t10 : t = 10
  · rw [if_pos t10]
    refine ⟨upd m 3 (nV t), skip4 (tag_f g3 (by omega) (tag_f g3 (by omega) (tag_f g3 (by omega) (tag_t g3 (by omega) ?_)))), rfl, rfl⟩
    show _ = RS.next _ (store _ D _)
    rw [← step_rst]
    exact st_seq (st_setattr ev_C (ev_var g1) rfl (show (8 : Nat) ≤ 100 by decide)) st_nil
  · rw [if_neg t10]
    refine skip4 (tag_f g3 (by omega) (tag_f g3 (by omega) (tag_f g3 (by omega) (tag_f' g3 (by omega) (st_seq_exc (st_raise (ev_cons ev_C (ev_cons (ev_fmt (n := t) (ev_var (by walk_at "nv")) ?_) ev_nil))))))))
    rw [Int.natAbs_natCast]; exact log2_small (Nat.lt_of_le_of_lt htM (Nat.lt_of_lt_of_le (show M64 < 2 ^ 64 by decide) (Nat.pow_le_pow_right (by decide) (by decide))))
end
/-! what is written again is no longer than what was read -/
set_option tactic.hygienic true in
theorem num_min : ∀ {k : Nat} {l r : Bs} {n : Nat}, num k l = .ok n r → (enc n).length + r.length ≤ l.length
  | 0, l, r, n, h => by cases h
  | k + 1, [], r, n, h => by cases h
  | k + 1, b :: l, r, n, h => by
    unfold num at h
    split at h
    · rename_i hb
      cases h
      rw [enc_small hb]; simp; omega
    · rename_i hb
      cases hn : num k l with
      | ok n' r' =>
        rw [hn] at h
        cases h
        have := num_min hn
        have hm : b.toNat % 128 < 128 := Nat.mod_lt _ (by decide)
        have he : (enc (b.toNat % 128 + 128 * n')).length ≤ 1 + (enc n').length := by
          by_cases hs : b.toNat % 128 + 128 * n' < 128
          · rw [enc_small hs]; simp
          · rw [enc_big hs]
            have : (b.toNat % 128 + 128 * n') / 128 = n' := by omega
            rw [this]; simp; omega
        simp; omega
      | short => rw [hn] at h; cases h
      | corr => rw [hn] at h; cases h
theorem rd_min {k most : Nat} {l r : Bs} {n : Nat} (h : rd k most l = .ok n r) : (enc n).length + r.length ≤ l.length := by
  unfold rd at h
  cases hn : num k l with
  | ok n' r' =>
    rw [hn] at h
    dsimp only at h
    split at h
    · cases h
    · cases h; exact num_min hn
  | short => rw [hn] at h; cases h
  | corr => rw [hn] at h; cases h
theorem rdN_min {l r : Bs} {n : Nat} (h : rdN l = .ok n r) : (enc n).length + r.length ≤ l.length := rd_min h
theorem rdL_min {l r : Bs} {n : Nat} (h : rdL l = .ok n r) : (enc n).length + r.length ≤ l.length := by
  obtain ⟨a, r', h1, h2⟩ := bind_ok h
  split at h2
  · cases h2
  · cases h2; exact rdN_min h1
theorem rdT_min {l r b : Bs} (h : rdT l = .ok b r) : (encT b).length + r.length ≤ l.length := by
  obtain ⟨n, r', h1, h2⟩ := bind_ok h
  have := rd_min h1
  split at h2
  · cases h2
  · cases h2
    have e : (r'.take n).length = n := by rw [List.length_take]; omega
    unfold encT
    rw [List.length_append, e, List.length_drop]; omega
theorem rdK_min {l r b : Bs} (h : rdK l = .ok b r) : (encT b).length + r.length ≤ l.length := by
  obtain ⟨n, r', h1, h2⟩ := bind_ok h
  split at h2
  · cases h2
  · cases h2; exact rdT_min h1
set_option tactic.hygienic true in
theorem part_min {l r : Bs} {p : Part} (h : part l = .ok p r) : (encPart p).length + r.length ≤ l.length := by
  obtain ⟨t, r', h1, h2⟩ := bind_ok h
  have ht := rdN_min h1
  split at h2
  · rename_i q; subst q; obtain ⟨a, e, rfl⟩ := map_ok h2; have := rdT_min e; simp only [encPart, List.length_append]; omega
  split at h2
  · rename_i q; subst q; obtain ⟨a, e, rfl⟩ := map_ok h2; have := rdN_min e; simp only [encPart, List.length_append]; omega
  split at h2
  · rename_i q; subst q; obtain ⟨a, e, rfl⟩ := map_ok h2; have := rdN_min e; simp only [encPart, List.length_append]; omega
  split at h2
  · rename_i q; subst q; obtain ⟨a, e, rfl⟩ := map_ok h2; have := rdN_min e; simp only [encPart, List.length_append]; omega
  split at h2
  · rename_i q; subst q
    obtain ⟨lv, r1, e1, h2⟩ := bind_ok h2
    obtain ⟨a, e, rfl⟩ := map_ok h2
    have := rdL_min e1; have := rdK_min e; simp only [encPart, List.length_append]; omega
  split at h2
  · rename_i q; subst q
    obtain ⟨lv, r1, e1, h2⟩ := bind_ok h2
    obtain ⟨a, e, rfl⟩ := map_ok h2
    have := rdL_min e1; have := rdN_min e; simp only [encPart, List.length_append]; omega
  split at h2
  · rename_i q; subst q
    obtain ⟨lv, r1, e1, h2⟩ := bind_ok h2
    obtain ⟨n, r2, e2, h2⟩ := bind_ok h2
    obtain ⟨s, r3, e3, h2⟩ := bind_ok h2
    obtain ⟨a, r4, e4, h2⟩ := bind_ok h2
    obtain ⟨b, e5, rfl⟩ := map_ok h2
    have := rdL_min e1; have := rdN_min e2; have := rdN_min e3; have := rdK_min e4; have := rdK_min e5
    simp only [encPart, List.length_append]; omega
  split at h2
  · rename_i q; subst q; cases h2; simp only [encPart]; omega
  · cases h2
theorem encAll_cons (p : Part) (ps : List Part) : encAll (p :: ps) = encPart p ++ encAll ps := rfl
theorem encAll_append (ps qs : List Part) : encAll (ps ++ qs) = encAll ps ++ encAll qs := by simp [encAll]
theorem parse_min {l : Bs} {res : Pr} (h : Parse l res) : ∀ ps, res = .ok ps → (encAll ps).length ≤ l.length := by
  induction h with
  | nil => intro ps e; cases e; exact Nat.le_refl _
  | short => intro ps e; cases e
  | corr => intro ps e; cases e
  | @cons l r p res hl hp h ih =>
    intro ps e
    cases res with
    | ok qs =>
      cases e
      have := part_min hp
      have := ih qs rfl
      rw [encAll_cons, List.length_append]; omega
    | short => cases e
    | corr => cases e
noncomputable def wO {α : Type} (o : Option α) (f : α → Part) : Nat := (encAll (oL o f)).length
noncomputable def wL {α : Type} (l : List α) (f : α → Part) : Nat := (encAll (l.map f)).length
noncomputable def wR (t : Bool) : Nat := (encAll (if t then [.rst] else [])).length
noncomputable def Row.w (r : Row) : Nat := wR r.rst + wO r.comp .comp + wO r.log .log + wO r.nxt .nxt + wO r.seq .seq + wL r.ptrs (fun p => .ptr p.1 p.2) + wL r.dels (fun p => .del p.1 p.2) + wL r.adds (fun p => .add p.1 p.2.1 p.2.2.1 p.2.2.2.1 p.2.2.2.2)
theorem write_len (r : Row) : r.write.length = r.w := by
  unfold Row.write canon Row.w wO wL wR
  simp only [encAll_append, List.length_append]
  omega
theorem wO_or {α : Type} (a b : Option α) (f : α → Part) : wO (b.or a) f ≤ wO a f + wO b f := by
  cases b <;> simp [wO, oL, encAll]
theorem wL_append {α : Type} (a b : List α) (f : α → Part) : wL (a ++ b) f = wL a f + wL b f := by simp [wL, encAll_append]
theorem w_both (a b : Row) : (a.both b).w ≤ a.w + b.w := by
  have h1 := wO_or a.comp b.comp .comp
  have h2 := wO_or a.log b.log .log
  have h3 := wO_or a.nxt b.nxt .nxt
  have h4 := wO_or a.seq b.seq .seq
  have h5 : wR (a.rst || b.rst) ≤ wR a.rst + wR b.rst := by
    cases a.rst <;> cases b.rst <;> simp [wR, encAll]
  simp only [Row.w, Row.both, wL_append]
  omega
theorem w_one (p : Part) : (rowOf [p]).w = (encPart p).length := by
  cases p <;> simp [Row.w, rowOf, List.filterMap, Part.comp?, Part.log?, Part.nxt?, Part.seq?, Part.ptr?, Part.del?, Part.add?, Part.rst?, wO, wL, wR, oL, encAll]
theorem w_row : ∀ ps : List Part, (rowOf ps).w ≤ (encAll ps).length
  | [] => by simp [Row.w, rowOf, wO, wL, wR, oL, encAll]
  | p :: ps => by
    have h1 : rowOf (p :: ps) = (rowOf [p]).both (rowOf ps) := rowOf_append [p] ps
    have h2 := w_both (rowOf [p]) (rowOf ps)
    have h3 := w_row ps
    rw [w_one] at h2
    rw [h1, encAll_cons, List.length_append]
    omega
theorem write_le {l : Bs} {ps : List Part} (h : Parse l (.ok ps)) : (rowOf ps).write.length ≤ l.length := by
  rw [write_len]
  exact Nat.le_trans (w_row ps) (parse_min h ps rfl)
theorem encAll_count : ∀ ps : List Part, ps.length ≤ (encAll ps).length
  | [] => Nat.le_refl _
  | p :: ps => by
    have := encAll_count ps
    have h : 0 < (encPart p).length := by
      have := encPart_ne p
      cases e : encPart p with
      | nil => exact absurd e this
      | cons => simp
    rw [encAll_cons, List.length_append, List.length_cons]; omega
theorem encAll_mem {ps : List Part} {p : Part} (h : p ∈ ps) : (encPart p).length ≤ (encAll ps).length := by
  induction ps with
  | nil => cases h
  | cons q ps ih =>
    rw [encAll_cons, List.length_append]
    rcases List.mem_cons.mp h with rfl | h
    · omega
    · have := ih h; omega
set_option exponentiation.threshold 3000
open _root_.PySem
noncomputable def rowBody : Loc → List Cell → RS := (sSeq (sExpr (pMeth appendK (pVar 1) (pList [(pTup (pList [(pVar 2), (pMeth (objK 317 (Str.ofString "row") φ_FileMeta_row) (pVar 3) (pList []))]))])))
  sNil)
noncomputable def encB1 : Loc → List Cell → RS := (sSeq (sExpr (pMeth (objK 289 (Str.ofString "varint") φ_Sink_varint) (pVar 1) (pList [(pC (V.int 5))])))
  (sSeq (sExpr (pMeth (objK 289 (Str.ofString "varint") φ_Sink_varint) (pVar 1) (pList [(pVar 2)])))
  (sSeq (sExpr (pMeth (objK 289 (Str.ofString "lengthed") φ_Sink_lengthed) (pVar 1) (pList [(pVar 3)])))
  sNil)))
noncomputable def encB2 : Loc → List Cell → RS := (sSeq (sExpr (pMeth (objK 289 (Str.ofString "varint") φ_Sink_varint) (pVar 1) (pList [(pC (V.int 6))])))
  (sSeq (sExpr (pMeth (objK 289 (Str.ofString "varint") φ_Sink_varint) (pVar 1) (pList [(pVar 2)])))
  (sSeq (sExpr (pMeth (objK 289 (Str.ofString "varint") φ_Sink_varint) (pVar 1) (pList [(pVar 4)])))
  sNil)))
noncomputable def encB3 : Loc → List Cell → RS := (sSeq (sExpr (pMeth (objK 289 (Str.ofString "varint") φ_Sink_varint) (pVar 1) (pList [(pC (V.int 7))])))
  (sSeq (sExpr (pMeth (objK 289 (Str.ofString "varint") φ_Sink_varint) (pVar 1) (pList [(pVar 2)])))
  (sSeq (sExpr (pMeth (objK 289 (Str.ofString "varint") φ_Sink_varint) (pVar 1) (pList [(pUn (attrV 317 (Str.ofString "number")) (pVar 5))])))
  (sSeq (sExpr (pMeth (objK 289 (Str.ofString "varint") φ_Sink_varint) (pVar 1) (pList [(pUn (attrV 317 (Str.ofString "size")) (pVar 5))])))
  (sSeq (sExpr (pMeth (objK 289 (Str.ofString "lengthed") φ_Sink_lengthed) (pVar 1) (pList [(pUn (attrV 317 (Str.ofString "smallest")) (pVar 5))])))
  (sSeq (sExpr (pMeth (objK 289 (Str.ofString "lengthed") φ_Sink_lengthed) (pVar 1) (pList [(pUn (attrV 317 (Str.ofString "largest")) (pVar 5))])))
  sNil))))))
section
variable {D l : Bs} {R : Row} {m : Loc}
theorem test_ok {y : Bool} (h2 : m 2 = some (.obj 212 4)) (hs : Suf D l) (hl : D.length ≤ 1000) (hy : gtV (storeL R D l) (.int l.length) (.int 0) = some (.bool y)) : decTest m (storeL R D l) = .ok y (storeL R D l) := by
  unfold decTest
  have hle := hs.len
  have e : (D.length : Int) - ((D.length - l.length : Nat) : Int) = l.length := by omega
  have h := left_spec (D := D) (c := 4) (n := D.length - l.length) (σ := storeL R D l) rfl hl
  rw [e] at h
  exact ev_cmp (ev_mobj (ev_var h2) rfl (cur_left _ _) ev_nil h) ev_C hy
theorem dec_loop {l : Bs} {res : Pr} (h : Parse l res) : ∀ (m : Loc) (R : Row), m 1 = some (.obj 352 0) → m 2 = some (.obj 212 4) → Suf D l → D.length ≤ 1000 → R.cnt + l.length ≤ 1000 →
    match res with
    | .ok ps => ∃ m', sWhile decTest decBody m (storeL R D l) = .next m' (storeL (R.both (rowOf ps)) D []) ∧ m' 1 = m 1
    | .short => sWhile decTest decBody m (storeL R D l) = .exc 68
    | .corr => sWhile decTest decBody m (storeL R D l) = .exc 56 := by
  induction h with
  | nil =>
    intro m R h1 h2 hs hl hc
    refine ⟨m, sWhile_step ?_ (by intro z; cases z), rfl⟩
    rw [rowOf_nil, both_nil]
    exact st_if_f (test_ok h2 hs hl (gtV_f (by simp))) st_nil
  | @short l hne hp =>
    intro m R h1 h2 hs hl hc
    have hpos : 0 < l.length := by cases l with | nil => exact absurd rfl hne | cons => simp
    have S := dec_step (R := R) h1 h2 hs hl (by omega)
    rw [hp] at S
    exact sWhile_step (st_if_t (test_ok h2 hs hl (gtV_t (by omega))) (st_seq_exc S)) (by intro z; cases z)
  | @corr l hne hp =>
    intro m R h1 h2 hs hl hc
    have hpos : 0 < l.length := by cases l with | nil => exact absurd rfl hne | cons => simp
    have S := dec_step (R := R) h1 h2 hs hl (by omega)
    rw [hp] at S
    exact sWhile_step (st_if_t (test_ok h2 hs hl (gtV_t (by omega))) (st_seq_exc S)) (by intro z; cases z)
  | @cons l r p res hne hp h ih =>
    intro m R h1 h2 hs hl hc
    have hpos : 0 < l.length := by cases l with | nil => exact absurd rfl hne | cons => simp
    have S := dec_step (R := R) h1 h2 hs hl (by omega)
    rw [hp] at S
    obtain ⟨m', S, e1, e2⟩ := S
    obtain ⟨o1, o2, _⟩ := part_ok hp
    have hcn := cnt_part R p
    have I := ih m' (R.both (rowOf [p])) (e1.trans h1) (e2.trans h2) (hs.trans o1) hl (by omega)
    cases res with
    | ok ps =>
      obtain ⟨m2, I, e3⟩ := I
      rw [both_assoc, ← rowOf_cons] at I
      exact ⟨m2, sWhile_step (st_if_t (test_ok h2 hs hl (gtV_t (by omega))) (st_seq S I)) (by intro z; cases z), e3.trans e1⟩
    | short => exact sWhile_step (st_if_t (test_ok h2 hs hl (gtV_t (by omega))) (st_seq S I)) (by intro z; cases z)
    | corr => exact sWhile_step (st_if_t (test_ok h2 hs hl (gtV_t (by omega))) (st_seq S I)) (by intro z; cases z)
end
theorem dec_spec {D : Bs} {res : Pr} (h : Parse D res) (hl : D.length ≤ 1000) : φ_decode_edit [] [.bytes D] = match res with
    | .ok ps => .ok (.obj 352 0) (storeL (rowOf ps) D [])
    | .short => .exc 68
    | .corr => .exc 56 := by
  show bodyOf F_decode_edit (fun i => [V.bytes D][i]?) [] = _
  rw [decode_eq]
  have e0 : [Cell.flds (eF row0), .list [], .list [], .list []] ++ [.flds (curF D 0)] = storeL row0 D D := by
    show _ = store row0 D (D.length - D.length)
    rw [Nat.sub_self]; rfl
  have s1 : sSet 1 (pCall φ_VersionEdit [] (pList [])) (fun i => [V.bytes D][i]?) [] = .next (upd (fun i => [V.bytes D][i]?) 1 (.obj 352 0)) [.flds (eF row0), .list [], .list [], .list []] := st_set (ev_call ev_nil ve_spec)
  have s2 : sSet 2 (pCall φ_Cursor [] (pList [(pVar 0)])) (upd (fun i => [V.bytes D][i]?) 1 (.obj 352 0)) [.flds (eF row0), .list [], .list [], .list []] = .next (upd (upd (fun i => [V.bytes D][i]?) 1 (.obj 352 0)) 2 (.obj 212 4)) (storeL row0 D D) := by
    rw [← e0]
    exact st_set (ev_call (vs := [.bytes D]) (ev_cons (ev_var (by walk_at "nv")) ev_nil) (cu_spec _ D hl))
  have L := dec_loop (D := D) h (upd (upd (fun i => [V.bytes D][i]?) 1 (.obj 352 0)) 2 (.obj 212 4)) row0 (by walk_at "nv") (by walk_at "nv") (Suf.refl D) hl (by simp [Row.cnt, row0]; exact hl)
  cases res with
  | ok ps =>
    obtain ⟨m', L, e1⟩ := L
    rw [row0_both] at L
    exact body_ret (st_seq s1 (st_seq s2 (st_seq L (st_seq_ret (st_ret (ev_var (e1.trans (by walk_at "nv"))))))))
  | short => exact body_exc (st_seq s1 (st_seq s2 (st_seq_exc L)))
  | corr => exact body_exc (st_seq s1 (st_seq s2 (st_seq_exc L)))
/-! an edit's row -/
noncomputable def addRowV (a : Ad) : V := .tup [.int a.1, .tup [.int a.2.1, .int a.2.2.1, .bytes a.2.2.2.1, .bytes a.2.2.2.2]]
noncomputable def rowV (R : Row) : V := .tup [oB R.comp, oN R.log, oN R.nxt, oN R.seq, .tup (R.ptrs.map ptrV), .tup (R.dels.map delV), .tup (R.adds.map addRowV), .bool R.rst]
structure Has (σ : List Cell) (R : Row) : Prop where
  c0 : σ[0]? = some (.flds (eF R))
  c1 : σ[1]? = some (.list (R.ptrs.map ptrV))
  c2 : σ[2]? = some (.list (R.dels.map delV))
  c3 : σ[3]? = some (.list (addsV 5 R.adds))
  cm : ∀ (i : Nat) (a : Ad), R.adds[i]? = some a → σ[5 + i]? = some (.flds (metaF a))
theorem has_store (R : Row) (D : Bs) (n : Nat) : Has (store R D n) R where
  c0 := rfl
  c1 := rfl
  c2 := rfl
  c3 := rfl
  cm := fun i a h => by
    have e : 5 + i = i + 5 := by omega
    rw [e]
    show (R.adds.map fun a => Cell.flds (metaF a))[i]? = _
    rw [List.getElem?_map, h]; rfl
theorem app_at {σ : List Cell} {k : Nat} {c : Cell} (h : σ[k]? = some c) (t : List Cell) : (σ ++ t)[k]? = some c := by
  rw [List.getElem?_append_left (List.getElem?_eq_some_iff.mp h).1]; exact h
theorem Has.app {σ : List Cell} {R : Row} (H : Has σ R) (t : List Cell) : Has (σ ++ t) R := ⟨app_at H.c0 t, app_at H.c1 t, app_at H.c2 t, app_at H.c3 t, fun i a h => app_at (H.cm i a h) t⟩
theorem mrow_spec {σ : List Cell} {k : Nat} {a : Ad} (h : σ[k]? = some (.flds (metaF a))) : φ_FileMeta_row σ [.obj 317 k] = .ok (.tup [.int a.2.1, .int a.2.2.1, .bytes a.2.2.2.1, .bytes a.2.2.2.2]) σ := by
  show bodyOf F_FileMeta_row (fun i => [V.obj 317 k][i]?) σ = _
  unfold F_FileMeta_row
  exact body_ret (st_seq_ret (st_ret (ev_tup (ev_cons (ev_attr (ev_var (by walk_at "nv")) h rfl) (ev_cons (ev_attr (ev_var (by walk_at "nv")) h rfl) (ev_cons (ev_attr (ev_var (by walk_at "nv")) h rfl) (ev_cons (ev_attr (ev_var (by walk_at "nv")) h rfl) ev_nil)))) (by simp))))
theorem row_loop {σ0 : List Cell} {L : List V} (h3 : σ0[3]? = some (.list L)) : ∀ (as : List Ad) (k : Nat) (acc : List V) (m : Loc), m 1 = some (.cell σ0.length) → (∀ (i : Nat) (a : Ad), as[i]? = some a → σ0[k + i]? = some (.flds (metaF a))) → acc.length + as.length ≤ 1000 →
    ∃ m', sFor (stTup [2, 3]) rowBody (fun σ' => σ'[3]? = some (.list L)) (addsV k as) m (σ0 ++ [.list acc]) = .next m' (σ0 ++ [.list (acc ++ as.map addRowV)]) ∧ m' 0 = m 0 ∧ m' 1 = m 1
  | [], k, acc, m, h1, hm, hl => ⟨m, by simp [addsV, for_nil], rfl, rfl⟩
  | a :: as, k, acc, m, h1, hm, hl => by
    simp only [List.length_cons] at hl
    obtain ⟨m', I, e0, e1⟩ := row_loop h3 as (k + 1) (acc ++ [addRowV a]) (upd (upd m 2 (.int a.1)) 3 (.obj 317 k)) (by walk_at "nv") (fun i b hb => by
      have := hm (i + 1) b (by simpa using hb)
      have e : k + 1 + i = k + (i + 1) := by omega
      rw [e]; exact this) (by simp; omega)
    refine ⟨m', ?_, e0, e1⟩
    show sFor (stTup [2, 3]) rowBody _ (.tup [.int a.1, .obj 317 k] :: addsV (k + 1) as) m _ = _
    have hk : (σ0 ++ [Cell.list acc])[k]? = some (.flds (metaF a)) := app_at (by have := hm 0 a rfl; simpa using this) _
    have hap := append_list (σ := σ0 ++ [Cell.list acc]) (k := σ0.length) (us := acc) (v := addRowV a) (get_last _ _) (by omega)
    rw [set_last] at hap
    refine for_cons (m1 := upd (upd m 2 (.int a.1)) 3 (.obj 317 k)) (m2 := upd (upd m 2 (.int a.1)) 3 (.obj 317 k)) (σ2 := σ0 ++ [.list (acc ++ [addRowV a])]) rfl ?_ (app_at h3 _) ?_
    · unfold rowBody
      refine st_seq (st_expr (ev_meth (ev_var (by walk_at "nv")) (appendK_list (get_last _ _)) (ev_cons (ev_tup (ev_cons (ev_var (by walk_at "nv")) (ev_cons (ev_mobj (ev_var (by walk_at "nv")) hk rfl ev_nil (mrow_spec hk)) ev_nil)) (by simp)) ev_nil) hap)) st_nil
    · rw [I]; simp
theorem tupleV_cell {σ : List Cell} {k : Nat} {us : List V} (hk : σ[k]? = some (.list us)) (hl : us.length ≤ 1000) : tupleV σ (.cell k) = some (.tup us) := by
  show (match σ[k]? with | some (.list vs) => _ | _ => _) = _
  rw [hk]
  show (if us.length ≤ 1000 then _ else _) = _
  rw [if_pos hl]
theorem vrow_spec {σ : List Cell} {R : Row} (H : Has σ R) (hc : R.cnt ≤ 1000) : φ_VersionEdit_row σ [.obj 352 0] = .ok (rowV R) (σ ++ [.list (R.adds.map addRowV)]) := by
  show bodyOf F_VersionEdit_row (fun i => [V.obj 352 0][i]?) σ = _
  unfold Row.cnt at hc
  obtain ⟨m', L, e0, e1⟩ := row_loop (σ0 := σ) H.c3 R.adds 5 [] (upd (fun i => [V.obj 352 0][i]?) 1 (.cell σ.length)) (by walk_at "nv") H.cm (by simp; omega)
  have H1 := H.app [.list ([] : List V)]
  have H2 := H.app [.list (R.adds.map addRowV)]
  rw [List.nil_append] at L
  have g0 : m' 0 = some (.obj 352 0) := e0.trans (by walk_at "nv")
  have g1 : m' 1 = some (.cell σ.length) := e1.trans (by walk_at "nv")
  refine body_ret (st_seq (st_set (ev_newlist ev_nil (by simp))) (st_seq (st_for (ev_over_cell (ev_attr (ev_var (by walk_at "nv")) H1.c0 rfl) H1.c3) L) (st_seq_ret (st_ret (ev_tup (ev_cons (ev_attr (ev_var g0) H2.c0 rfl) (ev_cons (ev_attr (ev_var g0) H2.c0 rfl) (ev_cons (ev_attr (ev_var g0) H2.c0 rfl) (ev_cons (ev_attr (ev_var g0) H2.c0 rfl) ?_)))) (by simp))))))
  refine ev_cons (ev_call (vs := [.cell 1]) (ev_cons (ev_attr (ev_var g0) H2.c0 rfl) ev_nil) (fn1_ok (tupleV_cell H2.c1 (by rw [List.length_map]; omega)))) ?_
  refine ev_cons (ev_call (vs := [.cell 2]) (ev_cons (ev_attr (ev_var g0) H2.c0 rfl) ev_nil) (fn1_ok (tupleV_cell H2.c2 (by rw [List.length_map]; omega)))) ?_
  refine ev_cons (ev_call (vs := [.cell σ.length]) (ev_cons (ev_var g1) ev_nil) (fn1_ok (tupleV_cell (get_last _ _) (by rw [List.length_map]; omega)))) ?_
  exact ev_cons (ev_attr (ev_var g0) H2.c0 rfl) ev_nil
set_option exponentiation.threshold 3000
open _root_.PySem
noncomputable def sk (σ0 : List Cell) (x : Bs) : List Cell := σ0 ++ [.flds (sinkF (σ0.length + 1)), .barr x]
section
variable {σ0 : List Cell} {x c : Bs} {m : Loc} {n : Nat} {e f : Loc → List Cell → Res V} {R : Row}
theorem sk_s : (sk σ0 x)[σ0.length]? = some (.flds (sinkF (σ0.length + 1))) := by simp [sk]
theorem sk_b : (sk σ0 x)[σ0.length + 1]? = some (.barr x) := by simp [sk]
theorem sk_set (y : Bs) : (sk σ0 x).set (σ0.length + 1) (.barr y) = sk σ0 y := by simp [sk]
theorem emV (h1 : m 1 = some (.obj 289 σ0.length)) (he : e m (sk σ0 x) = .ok (.int n) (sk σ0 x)) (hn : n ≤ M64) (hx : x.length ≤ 900000) :
    sExpr (pMeth (objK 289 (Str.ofString "varint") φ_Sink_varint) (pVar 1) (pList [e])) m (sk σ0 x) = .next m (sk σ0 (x ++ enc n)) := by
  have h := sv_spec (n := n) (sk_s (σ0 := σ0)) sk_b hn hx
  rw [sk_set] at h
  exact st_expr (ev_mobj (ev_var h1) sk_s (sink_varint _) (ev_cons he ev_nil) h)
theorem emL (h1 : m 1 = some (.obj 289 σ0.length)) (he : e m (sk σ0 x) = .ok (.bytes c) (sk σ0 x)) (hc : c.length ≤ 10000) (hx : x.length ≤ 900000) :
    sExpr (pMeth (objK 289 (Str.ofString "lengthed") φ_Sink_lengthed) (pVar 1) (pList [e])) m (sk σ0 x) = .next m (sk σ0 (x ++ encT c)) := by
  have h := sl_spec (c := c) (sk_s (σ0 := σ0)) sk_b (by omega) hc hx
  rw [sk_set] at h
  exact st_expr (ev_mobj (ev_var h1) sk_s (sink_lengthed _) (ev_cons he ev_nil) h)
theorem isNot_none {σ : List Cell} {a : V} : isNotV σ a .none = some (.bool (!isNone a)) := rfl
theorem sk_app {k : Nat} {d : Cell} (h : σ0[k]? = some d) : (sk σ0 x)[k]? = some d := app_at h _
/-- a thing said or not -/
theorem seg_o {tg : Nat} {o : Option Nat} {g : Nat → Part} (h1 : m 1 = some (.obj 289 σ0.length)) (hf : ∀ x, f m (sk σ0 x) = .ok (oN o) (sk σ0 x)) (hg : ∀ n, encPart (g n) = enc tg ++ enc n) (ht : tg ≤ 10) (ho : ∀ n, o = some n → n ≤ M64) (hx : x.length ≤ 800000) :
    sIf (pBind f fun a => pBind (pC V.none) fun b => pOp fun σ => (isNotV σ a b).bind boolV)
      (sSeq (sExpr (pMeth (objK 289 (Str.ofString "varint") φ_Sink_varint) (pVar 1) (pList [(pC (V.int tg))]))) (sSeq (sExpr (pMeth (objK 289 (Str.ofString "varint") φ_Sink_varint) (pVar 1) (pList [f]))) sNil)) sNil m (sk σ0 x) = .next m (sk σ0 (x ++ encAll (oL o g))) := by
  cases o with
  | none =>
    have : x ++ encAll (oL (none : Option Nat) g) = x := by simp [oL, encAll]
    rw [this]
    exact st_if_f (ev_cmp (hf x) ev_C isNot_none) st_nil
  | some n =>
    have e : x ++ encAll (oL (some n) g) = (x ++ enc tg) ++ enc n := by simp [oL, encAll, hg]
    rw [e]
    have hl := enc_len64 (n := tg) (by unfold M64; omega)
    exact st_if_t (ev_cmp (hf x) ev_C isNot_none) (st_seq (emV h1 ev_C (by unfold M64; omega) (by omega)) (st_seq (emV h1 (hf _) (ho n rfl) (by simp; omega)) st_nil))
theorem seg_c {o : Option Bs} (h1 : m 1 = some (.obj 289 σ0.length)) (hf : ∀ x, f m (sk σ0 x) = .ok (oB o) (sk σ0 x)) (ho : ∀ b, o = some b → b.length ≤ 10000) (hx : x.length ≤ 800000) :
    sIf (pBind f fun a => pBind (pC V.none) fun b => pOp fun σ => (isNotV σ a b).bind boolV)
      (sSeq (sExpr (pMeth (objK 289 (Str.ofString "varint") φ_Sink_varint) (pVar 1) (pList [(pC (V.int 1))]))) (sSeq (sExpr (pMeth (objK 289 (Str.ofString "lengthed") φ_Sink_lengthed) (pVar 1) (pList [f]))) sNil)) sNil m (sk σ0 x) = .next m (sk σ0 (x ++ encAll (oL o .comp))) := by
  cases o with
  | none =>
    have : x ++ encAll (oL (none : Option Bs) .comp) = x := by simp [oL, encAll]
    rw [this]
    exact st_if_f (ev_cmp (hf x) ev_C isNot_none) st_nil
  | some n =>
    have e : x ++ encAll (oL (some n) .comp) = (x ++ enc 1) ++ encT n := by simp [oL, encAll, encPart]
    rw [e]
    have hl := enc_len64 (n := 1) (by decide)
    exact st_if_t (ev_cmp (hf x) ev_C isNot_none) (st_seq (emV (n := 1) h1 ev_C (by decide) (by omega)) (st_seq (emL h1 (hf _) (ho n rfl) (by simp; omega)) st_nil))
theorem enc1_loop {L : List V} (h3 : σ0[1]? = some (.list L)) : ∀ (as : List (Nat × Bs)) (x : Bs) (m : Loc), m 1 = some (.obj 289 σ0.length) → (∀ a ∈ as, a.1 ≤ 11 ∧ a.2.length ≤ 10000) → x.length + (encAll (as.map fun p => .ptr p.1 p.2)).length ≤ 800000 →
    ∃ m', sFor (stTup [2, 3]) encB1 (fun σ' => σ'[1]? = some (.list L)) (as.map ptrV) m (sk σ0 x) = .next m' (sk σ0 (x ++ encAll (as.map fun p => .ptr p.1 p.2))) ∧ m' 0 = m 0 ∧ m' 1 = m 1
  | [], x, m, h1, hm, hl => ⟨m, by simp [for_nil, encAll], rfl, rfl⟩
  | a :: as, x, m, h1, hm, hl => by
    have e : encAll ((a :: as).map fun p => Part.ptr p.1 p.2) = (enc 5 ++ (enc a.1 ++ encT a.2)) ++ encAll (as.map fun p => .ptr p.1 p.2) := rfl
    rw [e] at hl ⊢
    simp only [List.length_append] at hl
    have ha := hm a List.mem_cons_self
    have e2 : x ++ ((enc 5 ++ (enc a.1 ++ encT a.2)) ++ encAll (as.map fun p => .ptr p.1 p.2)) = (x ++ enc 5 ++ enc a.1 ++ encT a.2) ++ encAll (as.map fun p => .ptr p.1 p.2) := by simp
    rw [e2]
    obtain ⟨m', I, e0, e1⟩ := enc1_loop h3 as (x ++ enc 5 ++ enc a.1 ++ encT a.2) (upd (upd m 2 (.int a.1)) 3 (.bytes a.2)) (by walk_at "nv") (fun b hb => hm b (List.mem_cons_of_mem _ hb)) (by simp only [List.length_append]; omega)
    refine ⟨m', for_cons (m1 := upd (upd m 2 (.int a.1)) 3 (.bytes a.2)) (m2 := upd (upd m 2 (.int a.1)) 3 (.bytes a.2)) rfl ?_ (sk_app h3) I, e0, e1⟩
    unfold encB1
    exact st_seq (emV (n := 5) (by walk_at "nv") ev_C (by decide) (by omega)) (st_seq (emV (by walk_at "nv") (ev_var (by walk_at "nv")) (by unfold M64; omega) (by simp only [List.length_append]; omega)) (st_seq (emL (by walk_at "nv") (ev_var (by walk_at "nv")) ha.2 (by simp only [List.length_append]; omega)) st_nil))
theorem enc2_loop {L : List V} (h3 : σ0[2]? = some (.list L)) : ∀ (as : List (Nat × Nat)) (x : Bs) (m : Loc), m 1 = some (.obj 289 σ0.length) → (∀ a ∈ as, a.1 ≤ 11 ∧ a.2 ≤ M64) → x.length + (encAll (as.map fun p => .del p.1 p.2)).length ≤ 800000 →
    ∃ m', sFor (stTup [2, 4]) encB2 (fun σ' => σ'[2]? = some (.list L)) (as.map delV) m (sk σ0 x) = .next m' (sk σ0 (x ++ encAll (as.map fun p => .del p.1 p.2))) ∧ m' 0 = m 0 ∧ m' 1 = m 1
  | [], x, m, h1, hm, hl => ⟨m, by simp [for_nil, encAll], rfl, rfl⟩
  | a :: as, x, m, h1, hm, hl => by
    have e : encAll ((a :: as).map fun p => Part.del p.1 p.2) = (enc 6 ++ (enc a.1 ++ enc a.2)) ++ encAll (as.map fun p => .del p.1 p.2) := rfl
    rw [e] at hl ⊢
    simp only [List.length_append] at hl
    have ha := hm a List.mem_cons_self
    have e2 : x ++ ((enc 6 ++ (enc a.1 ++ enc a.2)) ++ encAll (as.map fun p => .del p.1 p.2)) = (x ++ enc 6 ++ enc a.1 ++ enc a.2) ++ encAll (as.map fun p => .del p.1 p.2) := by simp
    rw [e2]
    obtain ⟨m', I, e0, e1⟩ := enc2_loop h3 as (x ++ enc 6 ++ enc a.1 ++ enc a.2) (upd (upd m 2 (.int a.1)) 4 (.int a.2)) (by walk_at "nv") (fun b hb => hm b (List.mem_cons_of_mem _ hb)) (by simp only [List.length_append]; omega)
    refine ⟨m', for_cons (m1 := upd (upd m 2 (.int a.1)) 4 (.int a.2)) (m2 := upd (upd m 2 (.int a.1)) 4 (.int a.2)) rfl ?_ (sk_app h3) I, e0, e1⟩
    unfold encB2
    exact st_seq (emV (n := 6) (by walk_at "nv") ev_C (by decide) (by omega)) (st_seq (emV (by walk_at "nv") (ev_var (by walk_at "nv")) (by unfold M64; omega) (by simp only [List.length_append]; omega)) (st_seq (emV (by walk_at "nv") (ev_var (by walk_at "nv")) ha.2 (by simp only [List.length_append]; omega)) st_nil))
theorem enc3_loop {L : List V} (h3 : σ0[3]? = some (.list L)) : ∀ (as : List (Nat × Nat × Nat × Bs × Bs)) (k : Nat) (x : Bs) (m : Loc), m 1 = some (.obj 289 σ0.length) → (∀ (i : Nat) (a : Ad), as[i]? = some a → σ0[k + i]? = some (.flds (metaF a))) →
    (∀ a ∈ as, a.1 ≤ 11 ∧ a.2.1 ≤ M64 ∧ a.2.2.1 ≤ M64 ∧ a.2.2.2.1.length ≤ 10000 ∧ a.2.2.2.2.length ≤ 10000) → x.length + (encAll (as.map fun p => .add p.1 p.2.1 p.2.2.1 p.2.2.2.1 p.2.2.2.2)).length ≤ 800000 →
    ∃ m', sFor (stTup [2, 5]) encB3 (fun σ' => σ'[3]? = some (.list L)) (addsV k as) m (sk σ0 x) = .next m' (sk σ0 (x ++ encAll (as.map fun p => .add p.1 p.2.1 p.2.2.1 p.2.2.2.1 p.2.2.2.2))) ∧ m' 0 = m 0 ∧ m' 1 = m 1
  | [], k, x, m, h1, hc, hm, hl => ⟨m, by simp [for_nil, encAll, addsV], rfl, rfl⟩
  | a :: as, k, x, m, h1, hc, hm, hl => by
    have e : encAll ((a :: as).map fun p => Part.add p.1 p.2.1 p.2.2.1 p.2.2.2.1 p.2.2.2.2) = (enc 7 ++ (enc a.1 ++ (enc a.2.1 ++ (enc a.2.2.1 ++ (encT a.2.2.2.1 ++ encT a.2.2.2.2))))) ++ encAll (as.map fun p => .add p.1 p.2.1 p.2.2.1 p.2.2.2.1 p.2.2.2.2) := rfl
    rw [e] at hl ⊢
    simp only [List.length_append] at hl
    obtain ⟨b1, b2, b3, b4, b5⟩ := hm a List.mem_cons_self
    have e2 : x ++ ((enc 7 ++ (enc a.1 ++ (enc a.2.1 ++ (enc a.2.2.1 ++ (encT a.2.2.2.1 ++ encT a.2.2.2.2))))) ++ encAll (as.map fun p => .add p.1 p.2.1 p.2.2.1 p.2.2.2.1 p.2.2.2.2)) = (x ++ enc 7 ++ enc a.1 ++ enc a.2.1 ++ enc a.2.2.1 ++ encT a.2.2.2.1 ++ encT a.2.2.2.2) ++ encAll (as.map fun p => .add p.1 p.2.1 p.2.2.1 p.2.2.2.1 p.2.2.2.2) := by simp
    rw [e2]
    have hk0 : σ0[k]? = some (.flds (metaF a)) := by have := hc 0 a rfl; simpa using this
    have hk : ∀ x, (sk σ0 x)[k]? = some (.flds (metaF a)) := fun x => sk_app hk0
    obtain ⟨m', I, e0, e1⟩ := enc3_loop h3 as (k + 1) (x ++ enc 7 ++ enc a.1 ++ enc a.2.1 ++ enc a.2.2.1 ++ encT a.2.2.2.1 ++ encT a.2.2.2.2) (upd (upd m 2 (.int a.1)) 5 (.obj 317 k)) (by walk_at "nv") (fun i b hb => by
      have := hc (i + 1) b (by simpa using hb)
      have e : k + 1 + i = k + (i + 1) := by omega
      rw [e]; exact this) (fun b hb => hm b (List.mem_cons_of_mem _ hb)) (by simp only [List.length_append]; omega)
    refine ⟨m', for_cons (m1 := upd (upd m 2 (.int a.1)) 5 (.obj 317 k)) (m2 := upd (upd m 2 (.int a.1)) 5 (.obj 317 k)) rfl ?_ (sk_app h3) I, e0, e1⟩
    unfold encB3
    refine st_seq (emV (n := 7) (by walk_at "nv") ev_C (by decide) (by omega)) (st_seq (emV (by walk_at "nv") (ev_var (by walk_at "nv")) (by unfold M64; omega) (by simp only [List.length_append]; omega)) ?_)
    refine st_seq (emV (by walk_at "nv") (ev_attr (ev_var (by walk_at "nv")) (hk _) rfl) b2 (by simp only [List.length_append]; omega)) (st_seq (emV (by walk_at "nv") (ev_attr (ev_var (by walk_at "nv")) (hk _) rfl) b3 (by simp only [List.length_append]; omega)) ?_)
    exact st_seq (emL (by walk_at "nv") (ev_attr (ev_var (by walk_at "nv")) (hk _) rfl) b4 (by simp only [List.length_append]; omega)) (st_seq (emL (by walk_at "nv") (ev_attr (ev_var (by walk_at "nv")) (hk _) rfl) b5 (by simp only [List.length_append]; omega)) st_nil)
theorem sink_spec (σ : List Cell) : φ_Sink σ [] = .ok (.obj 289 σ.length) (sk σ []) := by
  have h : φ_Sink___init__ (σ ++ [.flds []]) [.obj 289 σ.length] = .ok .none (sk σ []) := by
    show bodyOf F_Sink___init__ (fun i => [V.obj 289 σ.length][i]?) _ = _
    unfold F_Sink___init__
    refine body_next (m1 := fun i => [V.obj 289 σ.length][i]?) ?_
    have e : sk σ [] = ((σ ++ [Cell.flds []]) ++ [Cell.barr []]).set σ.length (Cell.flds (putF (Str.ofString "parts") (.cell (σ ++ [Cell.flds []]).length) [])) := by
      have : (σ ++ [Cell.flds []]).length = σ.length + 1 := by simp
      rw [this]
      simp [sk, sinkF, putF]
    rw [e]
    exact st_seq (st_setattr (ev_call ev_nil rfl) (ev_var (by walk_at "nv")) (app_at (get_last _ _) _) (by simp)) st_nil
  show makeφ 289 φ_Sink___init__ σ _ = _
  unfold makeφ
  rw [h]
theorem canon_parts (R : Row) : canon R = (if R.rst then [.rst] else []) ++ (oL R.comp .comp ++ (oL R.log .log ++ (oL R.nxt .nxt ++ (oL R.seq .seq ++ (R.ptrs.map (fun p => .ptr p.1 p.2) ++ (R.dels.map (fun p => .del p.1 p.2) ++ R.adds.map (fun p => .add p.1 p.2.1 p.2.2.1 p.2.2.2.1 p.2.2.2.2))))))) := rfl
theorem row_bounds {R : Row} (hfit : R.Fit) (hw : R.write.length ≤ 1000) : (∀ b, R.comp = some b → b.length ≤ 10000) ∧ (∀ n, R.log = some n → n ≤ M64) ∧ (∀ n, R.nxt = some n → n ≤ M64) ∧ (∀ n, R.seq = some n → n ≤ M64) ∧
    (∀ a ∈ R.ptrs, a.1 ≤ 11 ∧ a.2.length ≤ 10000) ∧ (∀ a ∈ R.dels, a.1 ≤ 11 ∧ a.2 ≤ M64) ∧ (∀ a ∈ R.adds, a.1 ≤ 11 ∧ a.2.1 ≤ M64 ∧ a.2.2.1 ≤ M64 ∧ a.2.2.2.1.length ≤ 10000 ∧ a.2.2.2.2.length ≤ 10000) := by
  have hmem : ∀ p ∈ canon R, p.Fit ∧ (encPart p).length ≤ 1000 := fun p hp => ⟨hfit p hp, Nat.le_trans (encAll_mem hp) hw⟩
  have hT : ∀ b : Bs, b.length ≤ (encT b).length := fun b => by simp [encT]
  have hw2 := hw
  unfold Row.write at hw2
  rw [canon_parts] at hw2 hmem
  simp only [encAll_append, List.length_append] at hw2
  simp only [List.mem_append] at hmem
  have fC : ∀ b, R.comp = some b → b.length ≤ 10000 := fun b hb => by
    have := (hmem (.comp b) (.inr (.inl (by rw [hb]; simp [oL])))).2
    have := hT b; simp only [encPart, List.length_append] at *; omega
  have fL : ∀ n, R.log = some n → n ≤ M64 := fun n hb => (hmem (.log n) (.inr (.inr (.inl (by rw [hb]; simp [oL]))))).1
  have fN : ∀ n, R.nxt = some n → n ≤ M64 := fun n hb => (hmem (.nxt n) (.inr (.inr (.inr (.inl (by rw [hb]; simp [oL])))))).1
  have fS : ∀ n, R.seq = some n → n ≤ M64 := fun n hb => (hmem (.seq n) (.inr (.inr (.inr (.inr (.inl (by rw [hb]; simp [oL]))))))).1
  have fP : ∀ a ∈ R.ptrs, a.1 ≤ 11 ∧ a.2.length ≤ 10000 := fun a ha => by
    obtain ⟨h1, h2⟩ := hmem (.ptr a.1 a.2) (.inr (.inr (.inr (.inr (.inr (.inl (List.mem_map.mpr ⟨a, ha, rfl⟩)))))))
    have := hT a.2; simp only [encPart, List.length_append] at h2
    exact ⟨h1.1, by omega⟩
  have fD : ∀ a ∈ R.dels, a.1 ≤ 11 ∧ a.2 ≤ M64 := fun a ha => (hmem (.del a.1 a.2) (.inr (.inr (.inr (.inr (.inr (.inr (.inl (List.mem_map.mpr ⟨a, ha, rfl⟩))))))))).1
  have fA : ∀ a ∈ R.adds, a.1 ≤ 11 ∧ a.2.1 ≤ M64 ∧ a.2.2.1 ≤ M64 ∧ a.2.2.2.1.length ≤ 10000 ∧ a.2.2.2.2.length ≤ 10000 := fun a ha => by
    obtain ⟨h1, h2⟩ := hmem (.add a.1 a.2.1 a.2.2.1 a.2.2.2.1 a.2.2.2.2) (.inr (.inr (.inr (.inr (.inr (.inr (.inr (List.mem_map.mpr ⟨a, ha, rfl⟩))))))))
    have := hT a.2.2.2.1; have := hT a.2.2.2.2; simp only [encPart, List.length_append] at h2
    exact ⟨h1.1, h1.2.1, h1.2.2.1, by omega, by omega⟩
  exact ⟨fC, fL, fN, fS, fP, fD, fA⟩
theorem enc_spec {σ : List Cell} (H : Has σ R) (hfit : R.Fit) (hw : R.write.length ≤ 1000) : ∃ σ', φ_VersionEdit_encode σ [.obj 352 0] = .ok (.bytes R.write) σ' := by
  refine ⟨sk σ R.write, ?_⟩
  show bodyOf F_VersionEdit_encode (fun i => [V.obj 352 0][i]?) σ = _
  obtain ⟨fC, fL, fN, fS, fP, fD, fA⟩ := row_bounds hfit hw
  have hw2 := hw
  unfold Row.write at hw2
  rw [canon_parts] at hw2
  simp only [encAll_append, List.length_append] at hw2
  have g0 : (upd (fun i => [V.obj 352 0][i]?) 1 (.obj 289 σ.length)) 0 = some (.obj 352 0) := by walk_at "nv"
  have g1 : (upd (fun i => [V.obj 352 0][i]?) 1 (.obj 289 σ.length)) 1 = some (.obj 289 σ.length) := by walk_at "nv"
  have at0 : ∀ {m : Loc} {name : Str} {v : V}, m 0 = some (.obj 352 0) → getF name (eF R) = some v → ∀ x, pUn (attrV 352 name) (pVar 0) m (sk σ x) = .ok v (sk σ x) := fun h0 hg x => ev_attr (ev_var h0) (sk_app H.c0) hg
  unfold F_VersionEdit_encode
  refine body_ret (st_seq (st_set (ev_call ev_nil (sink_spec σ))) ?_)
  have sR : sIf (pTest (pUn (attrV 352 (Str.ofString "reset")) (pVar 0))) (sSeq (sExpr (pMeth (objK 289 (Str.ofString "varint") φ_Sink_varint) (pVar 1) (pList [(pC (V.int 10))]))) sNil) sNil (upd (fun i => [V.obj 352 0][i]?) 1 (.obj 289 σ.length)) (sk σ []) = .next (upd (fun i => [V.obj 352 0][i]?) 1 (.obj 289 σ.length)) (sk σ ([] ++ encAll (if R.rst then [.rst] else []))) := by
    have t := at0 (name := Str.ofString "reset") g0 rfl []
    cases hr : R.rst with
    | true =>
      rw [hr] at t
      have : ([] : Bs) ++ encAll (if true = true then [Part.rst] else []) = [] ++ enc 10 := by simp [encAll, encPart]
      rw [this]
      exact st_if_t (ev_test t) (st_seq (emV (n := 10) g1 ev_C (by decide) (by simp)) st_nil)
    | false =>
      rw [hr] at t
      exact st_if_f (ev_test t) st_nil
  refine st_seq sR ?_
  refine st_seq (seg_c g1 (at0 g0 rfl) fC (by simp only [List.length_append, List.length_nil]; omega)) ?_
  refine st_seq (seg_o (tg := 2) (g := .log) g1 (at0 g0 rfl) (fun _ => rfl) (by decide) fL (by simp only [List.length_append, List.length_nil]; omega)) ?_
  refine st_seq (seg_o (tg := 3) (g := .nxt) g1 (at0 g0 rfl) (fun _ => rfl) (by decide) fN (by simp only [List.length_append, List.length_nil]; omega)) ?_
  refine st_seq (seg_o (tg := 4) (g := .seq) g1 (at0 g0 rfl) (fun _ => rfl) (by decide) fS (by simp only [List.length_append, List.length_nil]; omega)) ?_
  obtain ⟨m2, L1, a0, a1⟩ := enc1_loop (σ0 := σ) H.c1 R.ptrs ([] ++ encAll (if R.rst then [.rst] else []) ++ encAll (oL R.comp .comp) ++ encAll (oL R.log .log) ++ encAll (oL R.nxt .nxt) ++ encAll (oL R.seq .seq)) (upd (fun i => [V.obj 352 0][i]?) 1 (.obj 289 σ.length)) g1 fP (by simp only [List.length_append, List.length_nil]; omega)
  refine st_seq (st_for (ev_over_cell (at0 g0 rfl _) (sk_app H.c1)) L1) ?_
  have g0' := a0.trans g0
  have g1' := a1.trans g1
  obtain ⟨m3, L2, b0, b1⟩ := enc2_loop (σ0 := σ) H.c2 R.dels ([] ++ encAll (if R.rst then [.rst] else []) ++ encAll (oL R.comp .comp) ++ encAll (oL R.log .log) ++ encAll (oL R.nxt .nxt) ++ encAll (oL R.seq .seq) ++ encAll (R.ptrs.map fun p => .ptr p.1 p.2)) m2 g1' fD (by simp only [List.length_append, List.length_nil]; omega)
  refine st_seq (st_for (ev_over_cell (at0 g0' rfl _) (sk_app H.c2)) L2) ?_
  have g0'' := b0.trans g0'
  have g1'' := b1.trans g1'
  obtain ⟨m4, L3, c0, c1⟩ := enc3_loop (σ0 := σ) H.c3 R.adds 5 ([] ++ encAll (if R.rst then [.rst] else []) ++ encAll (oL R.comp .comp) ++ encAll (oL R.log .log) ++ encAll (oL R.nxt .nxt) ++ encAll (oL R.seq .seq) ++ encAll (R.ptrs.map fun p => .ptr p.1 p.2) ++ encAll (R.dels.map fun p => .del p.1 p.2)) m3 g1'' H.cm fA (by simp only [List.length_append, List.length_nil]; omega)
  refine st_seq (st_for (ev_over_cell (at0 g0'' rfl _) (sk_app H.c3)) L3) ?_
  have e : [] ++ encAll (if R.rst then [.rst] else []) ++ encAll (oL R.comp .comp) ++ encAll (oL R.log .log) ++ encAll (oL R.nxt .nxt) ++ encAll (oL R.seq .seq) ++ encAll (R.ptrs.map fun p => .ptr p.1 p.2) ++ encAll (R.dels.map fun p => .del p.1 p.2) ++ encAll (R.adds.map fun p => .add p.1 p.2.1 p.2.2.1 p.2.2.2.1 p.2.2.2.2) = R.write := by
    unfold Row.write
    rw [canon_parts]
    simp only [encAll_append, List.append_assoc, List.nil_append]
  rw [e]
  exact st_seq_ret (st_ret (ev_mobj (ev_var (c1.trans g1'')) sk_s (sink_done _) ev_nil (sd_spec sk_s sk_b (by omega))))
end
/-! what _law_told tells -/
noncomputable def toldV : Pr → V
  | .ok ps => .tup [.int 0, rowV (rowOf ps), .bytes (rowOf ps).write]
  | .short => .tup [.int 1, .none, .bytes []]
  | .corr => .tup [.int 2, .none, .bytes []]
theorem closed_oB (o : Option Bs) : Closed (oB o) := by cases o with | none => exact .none | some b => exact .bytes b
theorem closed_oN (o : Option Nat) : Closed (oN o) := by cases o with | none => exact .none | some b => exact .int b
theorem closed_map {α : Type} (l : List α) (f : α → V) (h : ∀ a, Closed (f a)) : Closed (.tup (l.map f)) := .tup fun v hv => by obtain ⟨a, _, rfl⟩ := List.mem_map.mp hv; exact h a
theorem closed_row (R : Row) : Closed (rowV R) := by
  refine .tup (cl_cons (closed_oB _) (cl_cons (closed_oN _) (cl_cons (closed_oN _) (cl_cons (closed_oN _) (cl_cons (closed_map _ _ fun a => ?_) (cl_cons (closed_map _ _ fun a => ?_) (cl_cons (closed_map _ _ fun a => ?_) (cl_cons (.bool _) cl_nil))))))))
  · exact .tup (cl_cons (.int _) (cl_cons (.bytes _) cl_nil))
  · exact .tup (cl_cons (.int _) (cl_cons (.int _) cl_nil))
  · exact .tup (cl_cons (.int _) (cl_cons (.tup (cl_cons (.int _) (cl_cons (.int _) (cl_cons (.bytes _) (cl_cons (.bytes _) cl_nil))))) cl_nil))
theorem closed_told (r : Pr) : Closed (toldV r) := by
  cases r with
  | ok ps => exact .tup (cl_cons (.int _) (cl_cons (closed_row _) (cl_cons (.bytes _) cl_nil)))
  | short => exact .tup (cl_cons (.int _) (cl_cons .none (cl_cons (.bytes _) cl_nil)))
  | corr => exact .tup (cl_cons (.int _) (cl_cons .none (cl_cons (.bytes _) cl_nil)))
theorem cnt_canon (R : Row) : R.cnt ≤ R.write.length := by
  have := encAll_count (canon R)
  unfold Row.write
  rw [canon_parts] at this ⊢
  simp only [List.length_append, List.length_map] at this
  unfold Row.cnt
  omega
theorem told_spec {D : Bs} {res : Pr} (h : Parse D res) (hl : D.length ≤ 1000) : φ_told [.bytes D] = some (toldV res) := by
  have hd := dec_spec h hl
  have h1 : ∀ {r : Res V}, φ_decode_edit [] [.bytes D] = r → pCall φ_decode_edit [] (pList [(pVar 0)]) (fun i => [V.bytes D][i]?) [] = r := fun h => ev_call (vs := [.bytes D]) (ev_cons (ev_var (by walk_at "nv")) ev_nil) h
  show toldφ F_told1 F_told2 _ _ 68 56 [.bytes D] = _
  unfold toldφ
  rw [if_pos (show [V.bytes D].length = 1 from rfl)]
  cases res with
  | short =>
    have : F_told1 (fun i => [V.bytes D][i]?) [] = .exc 68 := st_set_exc (h1 hd)
    rw [this]; rfl
  | corr =>
    have : F_told1 (fun i => [V.bytes D][i]?) [] = .exc 56 := st_set_exc (h1 hd)
    rw [this]; rfl
  | ok ps =>
    have e1 : F_told1 (fun i => [V.bytes D][i]?) [] = .next (upd (fun i => [V.bytes D][i]?) 1 (.obj 352 0)) (storeL (rowOf ps) D []) := st_set (h1 hd)
    have hw := write_le h
    have hfit := fit_row (parse_fit h ps rfl)
    have H := has_store (rowOf ps) D (D.length - ([] : Bs).length)
    have hcnt := cnt_canon (rowOf ps)
    obtain ⟨σ', E⟩ := enc_spec (H.app [.list ((rowOf ps).adds.map addRowV)]) hfit (by omega)
    have e2 : F_told2 (upd (fun i => [V.bytes D][i]?) 1 (.obj 352 0)) (storeL (rowOf ps) D []) = .ret (toldV (.ok ps)) σ' := by
      unfold F_told2
      exact st_seq_ret (st_ret (ev_tup (ev_cons ev_C (ev_cons (ev_mobj (ev_var (by walk_at "nv")) H.c0 rfl ev_nil (vrow_spec H (by omega))) (ev_cons (ev_mobj (ev_var (by walk_at "nv")) (H.app _).c0 rfl ev_nil E) ev_nil))) (by simp)))
    rw [e1]
    dsimp only
    rw [e2]
    dsimp only
    rw [if_pos (closed_told _)]
set_option exponentiation.threshold 3000
open _root_.PySem
/-! the law's own helpers: numbers written -/
section
variable {m : Loc} {σ : List Cell} {f g : Loc → List Cell → Res V} {fs : List (Loc → List Cell → Res V)}
theorem addV_bytes {a b : Bs} (h : a.length + b.length ≤ 1000000) : addV σ (.bytes a) (.bytes b) = some (.bytes (a ++ b)) := if_pos h
theorem intsOf_nat : ∀ ns : List Nat, intsOf (ns.map nV) = some (ns.map fun n : Nat => (n : Int))
  | [] => rfl
  | n :: ns => by
    show (intsOf (ns.map nV)).map _ = _
    rw [intsOf_nat ns]; rfl
theorem bytesV_nat {k : Nat} {ns : List Nat} (hk : σ[k]? = some (.list (ns.map nV))) (h : ∀ n ∈ ns, n < 256) (hl : ns.length ≤ 1000) : bytesV σ (.cell k) = some (.bytes (ns.map Nat.toUInt8)) := by
  show (match σ[k]? with | some (.list vs) => _ | some (.barr b) => _ | _ => _) = _
  rw [hk]
  show (intsOf (ns.map nV)).bind _ = _
  rw [intsOf_nat]
  show (if (∀ n ∈ ns.map (fun n : Nat => (n : Int)), 0 ≤ n ∧ n < 256) ∧ (ns.map (fun n : Nat => (n : Int))).length ≤ 1000 then _ else _) = _
  rw [if_pos ⟨fun n hn => by obtain ⟨a, ha, rfl⟩ := List.mem_map.mp hn; have := h a ha; omega, by simpa using hl⟩]
  simp
/-- bytes([n]) -/
theorem ev_by1 {n : Nat} (hf : f m σ = .ok (nV n) σ) (h : n < 256) : pCall (fn1 bytesV) [] (pList [(pNewList (pList [f]))]) m σ = .ok (.bytes [n.toUInt8]) (σ ++ [.list [nV n]]) :=
  ev_call (ev_cons (ev_newlist (ev_cons hf ev_nil) (by simp)) ev_nil) (fn1_ok (bytesV_nat (ns := [n]) (get_last _ _) (by simpa using h) (by simp)))
theorem ev_by2 {n k : Nat} (hf : f m σ = .ok (nV n) σ) (hg : g m σ = .ok (nV k) σ) (h : n < 256) (h2 : k < 256) : pCall (fn1 bytesV) [] (pList [(pNewList (pList [f, g]))]) m σ = .ok (.bytes [n.toUInt8, k.toUInt8]) (σ ++ [.list [nV n, nV k]]) :=
  ev_call (ev_cons (ev_newlist (ev_cons hf (ev_cons hg ev_nil)) (by simp)) ev_nil) (fn1_ok (bytesV_nat (ns := [n, k]) (get_last _ _) (by simp [h, h2]) (by simp)))
theorem modV_nat {a b : Nat} (h : b ≠ 0) : modV σ (nV a) (nV b) = some (nV (a % b)) := by
  show (if (b : Int) ≠ 0 then _ else _) = _
  rw [if_pos (by omega)]
  show some (V.int ((a : Int).fmod (b : Int))) = _
  rw [Int.fmod_eq_emod_of_nonneg _ (by omega)]; rfl
theorem fdivV_nat {a b : Nat} (h : b ≠ 0) (h2 : b < 1073741824) : fdivV σ (nV a) (nV b) = some (nV (a / b)) := by
  show (if (b : Int) ≠ 0 ∧ (b : Int).natAbs < 1073741824 then _ else _) = _
  rw [if_pos ⟨by omega, by omega⟩]
  show some (V.int ((a : Int).fdiv (b : Int))) = _
  rw [Int.fdiv_eq_ediv_of_nonneg _ (by omega)]; rfl
/-- n % c, n // c, n + c for a name and a constant -/
theorem ev_mod {a b : Nat} (hf : f m σ = .ok (nV a) σ) (hg : g m σ = .ok (nV b) σ) (h : b ≠ 0) : pBin modV f g m σ = .ok (nV (a % b)) σ := ev_bin hf hg (modV_nat h)
theorem ev_fdiv {a b : Nat} (hf : f m σ = .ok (nV a) σ) (hg : g m σ = .ok (nV b) σ) (h : b ≠ 0) (h2 : b < 1073741824) : pBin fdivV f g m σ = .ok (nV (a / b)) σ := ev_bin hf hg (fdivV_nat h h2)
theorem ev_add {a b : Nat} (hf : f m σ = .ok (nV a) σ) (hg : g m σ = .ok (nV b) σ) : pBin addV f g m σ = .ok (nV (a + b)) σ := ev_bin hf hg rfl
theorem ev_cc {a : Nat} {σ : List Cell} : pC (V.int a) m σ = .ok (nV a) σ := rfl
theorem ev_lenb {b : Bs} (hf : f m σ = .ok (.bytes b) σ) (h : b.length ≤ 1000000) : pCall (fn1 lenV) [] (pList [f]) m σ = .ok (nV b.length) σ := ev_call (ev_cons hf ev_nil) (fn1_ok (lenV_bytes h))
end
theorem lvt_loop : ∀ (n : Nat) (m : Loc) (b : Bs) (σ : List Cell), m 0 = some (.int n) → m 1 = some (.bytes b) → b.length + (enc n).length ≤ 1000 →
    ∃ m' b' t, sWhile (pBind (pVar 0) fun a => pBind (pC (V.int 128)) fun b => pOp fun σ => (geV σ a b).bind boolV)
      (sSeq (sSet 1 (pBin addV (pVar 1) (pCall (fn1 bytesV) [] (pList [(pNewList (pList [(pBin addV (pBin modV (pVar 0) (pC (V.int 128))) (pC (V.int 128)))]))]))))
      (sSeq (sSet 0 (pBin fdivV (pVar 0) (pC (V.int 128)))) sNil)) m σ = .next m' (σ ++ t) ∧ m' 1 = some (.bytes (b ++ b')) ∧ ∃ z : Nat, m' 0 = some (.int z) ∧ z < 128 ∧ b' ++ [z.toUInt8] = enc n := by
  intro n
  induction n using Nat.strongRecOn with
  | ind n ih =>
    intro m b σ h0 h1 hl
    by_cases hn : n < 128
    · refine ⟨m, [], [], sWhile_step ?_ (by intro z; cases z), by simpa using h1, n, h0, hn, by rw [enc_small hn]; rfl⟩
      rw [List.append_nil]
      exact st_if_f (ev_cmp (ev_var h0) ev_C (geV_f (by omega))) st_nil
    · have hm : n % 128 < 128 := Nat.mod_lt _ (by decide)
      have e1 : enc n = (n % 128 + 128).toUInt8 :: enc (n / 128) := enc_big hn
      rw [e1] at hl
      simp only [List.length_cons] at hl
      obtain ⟨m', b', t, hw, h2', z, h0', hz, hb⟩ := ih (n / 128) (by omega) (upd (upd m 1 (.bytes (b ++ [(n % 128 + 128).toUInt8]))) 0 (nV (n / 128))) (b ++ [(n % 128 + 128).toUInt8]) (σ ++ [.list [nV (n % 128 + 128)]]) (by walk_at "nv") (by walk_at "nv") (by simp; omega)
      refine ⟨m', (n % 128 + 128).toUInt8 :: b', .list [nV (n % 128 + 128)] :: t, sWhile_step (r := .next m' (σ ++ .list [nV (n % 128 + 128)] :: t)) ?_ (by intro z; cases z), by simpa using h2', z, h0', hz, by rw [e1, ← hb]; rfl⟩
      have e2 : σ ++ Cell.list [nV (n % 128 + 128)] :: t = (σ ++ [.list [nV (n % 128 + 128)]]) ++ t := by simp
      rw [e2]
      refine st_if_t (ev_cmp (ev_var h0) ev_C (geV_t (by omega))) (st_seq ?_ hw)
      refine st_seq (st_set (ev_bin (ev_var h1) (ev_by1 (n := n % 128 + 128) (ev_add (ev_mod (ev_var h0) (ev_cc (a := 128)) (by decide)) (ev_cc (a := 128))) (by omega)) (addV_bytes (by simp; omega)))) ?_
      exact st_seq (st_set (ev_fdiv (ev_var (by walk_at "nv")) (ev_cc (a := 128)) (by decide) (by decide))) st_nil
theorem enc_lenT {n : Nat} (h : n ≤ M64 + 1) : (enc n).length ≤ 10 := enc_len 10 n (by decide) (Nat.lt_of_le_of_lt h (by decide))
theorem lvt_spec {n : Nat} (hn : n ≤ M64 + 1) (σ : List Cell) : φ__law_varint σ [nV n] = .ok (.bytes (enc n)) σ := by
  have hl := enc_lenT hn
  obtain ⟨m', b', t, hw, h1, z, h0, hz, hb⟩ := lvt_loop n (upd (fun i => [nV n][i]?) 1 (.bytes [])) [] [] (by walk_at "nv") (by walk_at "nv") (by simp; omega)
  have hb2 : b'.length ≤ 10 := by rw [← hb] at hl; simp at hl; omega
  refine frame_ok (σ' := ([] ++ t) ++ [.list [nV z]]) (cl_cons (.int _) cl_nil) (.bytes _) ?_
  show bodyOf F__law_varint (fun i => [nV n][i]?) [] = _
  unfold F__law_varint
  refine body_ret (st_seq (st_set ev_C) (st_seq hw (st_seq_ret (st_ret (ev_bin (ev_var h1) (ev_by1 (ev_var h0) (by omega)) ?_)))))
  rw [addV_bytes (by simp; omega)]
  have e : ([] ++ b') ++ [z.toUInt8] = enc n := hb
  rw [e]
theorem llg_spec {b : Bs} (hb : b.length ≤ 10000) (σ : List Cell) : φ__law_lengthed σ [.bytes b] = .ok (.bytes (encT b)) σ := by
  have hb6 : b.length ≤ 1000000 := by omega
  have hbM : b.length ≤ M64 + 1 := by show b.length ≤ 18446744073709551615 + 1; omega
  have := enc_lenT hbM
  refine frame_ok (σ' := []) (cl_cons (.bytes _) cl_nil) (.bytes _) ?_
  show bodyOf F__law_lengthed (fun i => [V.bytes b][i]?) [] = _
  unfold F__law_lengthed
  exact body_ret (st_seq_ret (st_ret (ev_bin (ev_call (ev_cons (ev_lenb (ev_var (by walk_at "nv")) hb6) ev_nil) (lvt_spec hbM [])) (ev_var (by walk_at "nv")) (addV_bytes (by omega)))))
/-! drawing -/
theorem lenV_cell {σ : List Cell} {k : Nat} {vs : List V} (hk : σ[k]? = some (.list vs)) (hl : vs.length ≤ 1000000) : lenV σ (.cell k) = some (nV vs.length) := by
  show (match σ[k]? with | some (.list vs) => _ | _ => _) = _
  rw [hk]
  exact if_pos hl
theorem itemV_cell {σ : List Cell} {k i : Nat} {vs : List V} {v : V} (hk : σ[k]? = some (.list vs)) (hi : i < 1000000) (hv : vs[i]? = some v) : itemV σ (.cell k) (nV i) = some v := by
  show (match σ[k]? with | some (.list vs) => _ | _ => _) = _
  rw [hk]
  show (if (0 : Int) ≤ (i : Int) then (if (i : Int) < 1000000 then vs[(i : Int).toNat]? else none) else _) = _
  rw [if_pos (by omega), if_pos (by omega)]
  exact hv
set_option tactic.hygienic true in
theorem mulV_nat {σ : List Cell} {a b : Nat} (ha : a < 2 ^ 2000) (hb : b < 2 ^ 2000) : mulV σ (nV a) (nV b) = some (nV (a * b)) := by
  have key : ∀ n : Nat, n < 2 ^ 2000 → _root_.PySem.Builtin.Int.intBits (n : Int) ≤ 5000 := fun n hn => by
    unfold _root_.PySem.Builtin.Int.intBits
    split
    · omega
    · rename_i h
      have h0 : n ≠ 0 := by intro e; apply h; subst e; rfl
      rw [Int.natAbs_natCast]
      have := (Nat.log2_lt h0).mpr hn
      omega
  show (if _ ∧ _ then _ else _) = _
  rw [if_pos ⟨key a ha, key b hb⟩]
  simp
theorem ldr_spec {σ : List Cell} {k : Nat} {ns : List Nat} (hk : σ[k]? = some (.list (ns.map nV))) (h0 : 0 < ns.length) (h5 : ns.length ≤ 5) (hb : ∀ n ∈ ns, n < 999983) {i : Nat} (hi : i ≤ 4) : ∃ y : Nat, y < 1000200 ∧ φ__law_draw σ [.cell k, nV i] = .ok (nV y) σ := by
  have hj : i % ns.length < ns.length := Nat.mod_lt _ h0
  have hd : i / ns.length ≤ i := Nat.div_le_self _ _
  have hm := hb _ (List.getElem_mem hj)
  refine ⟨ns[i % ns.length] + 31 * (i / ns.length), by omega, ?_⟩
  show bodyOf F__law_draw (fun j => [V.cell k, nV i][j]?) σ = _
  unfold F__law_draw
  have hlen : pCall (fn1 lenV) [] (pList [(pVar 0)]) (fun j => [V.cell k, nV i][j]?) σ = .ok (nV ns.length) σ :=
    ev_call (ev_cons (ev_var (by walk_at "nv")) ev_nil) (fn1_ok (by rw [lenV_cell hk (by simp; omega)]; simp))
  refine body_ret (st_seq_ret (st_ret (ev_add (ev_bin (ev_var (by walk_at "nv")) (ev_mod (ev_var (by walk_at "nv")) hlen (by omega)) (itemV_cell hk (by omega) (v := nV ns[i % ns.length]) (by rw [List.getElem?_map, List.getElem?_eq_getElem hj]; rfl))) (ev_bin ev_cc (ev_fdiv (ev_var (by walk_at "nv")) hlen (by omega) (by omega)) (mulV_nat ?_ ?_)))))
  · exact Nat.lt_of_lt_of_le (show 31 < 2 ^ 5 by decide) (Nat.pow_le_pow_right (by decide) (by decide))
  · exact Nat.lt_of_lt_of_le (show i / ns.length < 2 ^ 5 by omega) (Nat.pow_le_pow_right (by decide) (by decide))
set_option exponentiation.threshold 3000
open _root_.PySem
/-! one token of the script -/
section
variable {m : Loc} {σ : List Cell} {f g : Loc → List Cell → Res V}
theorem cut_le {α : Type} (l : List α) (lo hi : Option Int) : (cut l lo hi).length ≤ l.length := by
  unfold cut
  rw [List.length_take, List.length_drop]; omega
theorem tok_tag {w : Nat} (hw : w < 8) (σ : List Cell) : ∃ (t : Nat) (x : Str), itemV σ lawTags (nV w) = some (nV t) ∧ t < 256 ∧ formS t = some x ∧ x.cps.all (· < 128) = true ∧ (signsV x).length ≤ 5 := by
  have : w = 0 ∨ w = 1 ∨ w = 2 ∨ w = 3 ∨ w = 4 ∨ w = 5 ∨ w = 6 ∨ w = 7 := by omega
  rcases this with rfl | rfl | rfl | rfl | rfl | rfl | rfl | rfl
  · exact ⟨1, _, rfl, by decide, rfl, by rw [← Array.all_toList]; decide, by decide⟩
  · exact ⟨2, _, rfl, by decide, rfl, by rw [← Array.all_toList]; decide, by decide⟩
  · exact ⟨3, _, rfl, by decide, rfl, by rw [← Array.all_toList]; decide, by decide⟩
  · exact ⟨4, _, rfl, by decide, rfl, by rw [← Array.all_toList]; decide, by decide⟩
  · exact ⟨5, _, rfl, by decide, rfl, by rw [← Array.all_toList]; decide, by decide⟩
  · exact ⟨6, _, rfl, by decide, rfl, by rw [← Array.all_toList]; decide, by decide⟩
  · exact ⟨7, _, rfl, by decide, rfl, by rw [← Array.all_toList]; decide, by decide⟩
  · exact ⟨10, _, rfl, by decide, rfl, by rw [← Array.all_toList]; decide, by decide⟩
theorem ev_num {a : Nat} {c : Int} {y : Bool} (hf : f m σ = .ok (nV a) σ) (h : ((a : Int) == c) = y) : (pBind f fun a => pBind (pC (V.int c)) fun b => pOp fun σ => (eqV σ a b).bind boolV) m σ = .ok y σ :=
  ev_cmp hf ev_C (by show some (V.bool ((a : Int) == c)) = _; rw [h])
theorem mulV_by {b : Bs} {n : Int} (h : b ≠ []) (h2 : 2 ≤ n) (h3 : n ≤ 1000) (h4 : b.length ≤ 1000) : mulV σ (.bytes b) (.int n) = some (.bytes (List.replicate n.toNat b).flatten) := if_pos ⟨h, h2, h3, h4⟩
end
noncomputable def tkBody : Loc → List Cell → RS := (sSeq (sIf (pBind (pVar 4) fun a => pBind (pC (V.str (Str.ofString "l"))) fun b => pOp fun σ => (eqV σ a b).bind boolV)
  (sSeq (sSet 3 (pBin addV (pVar 3) (pCall (fn1 bytesV) [] (pList [(pNewList (pList [(pBin modV (pVar 2) (pC (V.int 13)))]))]))))
  sNil)
  (sSeq (sIf (pBind (pVar 4) fun a => pBind (pC (V.str (Str.ofString "n"))) fun b => pOp fun σ => (eqV σ a b).bind boolV)
  (sSeq (sSet 5 (pBin modV (pVar 2) (pC (V.int 200))))
  (sSeq (sIf (pBind (pBin modV (pVar 2) (pC (V.int 23))) fun a => pBind (pC (V.int 22)) fun b => pOp fun σ => (eqV σ a b).bind boolV)
  (sSeq (sSet 5 (pBin addV (pBin subV (pBin powV (pC (V.int 2)) (pC (V.int 64))) (pC (V.int 1))) (pBin modV (pBin fdivV (pVar 2) (pC (V.int 23))) (pC (V.int 2)))))
  sNil)
  sNil)
  (sSeq (sSet 3 (pBin addV (pVar 3) (pCall φ__law_varint [] (pList [(pVar 5)]))))
  sNil)))
  (sSeq (sSet 3 (pBin addV (pVar 3) (pCall φ__law_lengthed [] (pList [(pSlice (pC (V.bytes [255, 0, 5])) (pC V.none) (pBin modV (pVar 2) (pC (V.int 4))))]))))
  sNil))
  sNil))
  (sSeq (sSet 2 (pBin addV (pBin fdivV (pVar 2) (pC (V.int 7))) (pC (V.int 2))))
  sNil))
theorem tk_one {m : Loc} {q : Nat} {b : Bs} {x : Str} {σ : List Cell} (h2 : m 2 = some (nV q)) (h3 : m 3 = some (.bytes b)) (h4 : m 4 = some (.str x)) (hb : b.length ≤ 1000) :
    ∃ m' q' b' t, tkBody m σ = .next m' (σ ++ t) ∧ m' 2 = some (nV q') ∧ m' 3 = some (.bytes b') ∧ b'.length ≤ b.length + 10 := by
  have tail : ∀ {m' : Loc} {b' : Bs} {σ : List Cell}, m' 2 = some (nV q) → m' 3 = some (.bytes b') → ∃ m'' q', sSeq (sSet 2 (pBin addV (pBin fdivV (pVar 2) (pC (V.int 7))) (pC (V.int 2)))) sNil m' σ = .next m'' σ ∧ m'' 2 = some (nV q') ∧ m'' 3 = some (.bytes b') := fun {m' b' σ} e2 e3 =>
    ⟨upd m' 2 (nV (q / 7 + 2)), q / 7 + 2, st_seq (st_set (ev_add (ev_fdiv (ev_var e2) (ev_cc (a := 7)) (by decide) (by decide)) (ev_cc (a := 2)))) st_nil, by walk_at "nv", by walk_at "nv"⟩
  unfold tkBody
  by_cases hL : x = Str.ofString "l"
  · have hq : q % 13 < 13 := Nat.mod_lt _ (by decide)
    obtain ⟨m'', q', hT, g2, g3⟩ := tail (m' := upd m 3 (.bytes (b ++ [(q % 13).toUInt8]))) (b' := b ++ [(q % 13).toUInt8]) (σ := σ ++ [.list [nV (q % 13)]]) (by walk_at "nv") (by walk_at "nv")
    refine ⟨m'', q', _, _, st_seq (st_if_t (ev_cmp (y := true) (ev_var h4) ev_C (by rw [hL]; simp [eqV])) (st_seq (st_set (ev_bin (ev_var h3) (ev_by1 (n := q % 13) (ev_mod (ev_var h2) (ev_cc (a := 13)) (by decide)) (by omega)) (addV_bytes (by simp; omega)))) st_nil)) hT, g2, g3, by simp⟩
  by_cases hN : x = Str.ofString "n"
  · have key : ∀ (n : Nat) (m1 : Loc), n ≤ M64 + 1 → m1 2 = some (nV q) → m1 3 = some (.bytes b) → m1 5 = some (nV n) → ∃ m' b', sSeq (sSet 3 (pBin addV (pVar 3) (pCall φ__law_varint [] (pList [(pVar 5)])))) sNil m1 σ = .next m' σ ∧ m' 2 = some (nV q) ∧ m' 3 = some (.bytes b') ∧ b'.length ≤ b.length + 10 := fun n m1 hn e2 e3 e5 => by
      have hl := enc_lenT hn
      exact ⟨upd m1 3 (.bytes (b ++ enc n)), b ++ enc n, st_seq (st_set (ev_bin (ev_var e3) (ev_call (ev_cons (ev_var e5) ev_nil) (lvt_spec hn σ)) (addV_bytes (by omega)))) st_nil, by walk_at "nv", by walk_at "nv", by simp; omega⟩
    have h200 : q % 200 < 200 := Nat.mod_lt _ (by decide)
    have hq2 : q / 23 % 2 < 2 := Nat.mod_lt _ (by decide)
    have out : ∃ m' b', sSeq (sSet 5 (pBin modV (pVar 2) (pC (V.int 200)))) (sSeq (sIf (pBind (pBin modV (pVar 2) (pC (V.int 23))) fun a => pBind (pC (V.int 22)) fun b => pOp fun σ => (eqV σ a b).bind boolV)
        (sSeq (sSet 5 (pBin addV (pBin subV (pBin powV (pC (V.int 2)) (pC (V.int 64))) (pC (V.int 1))) (pBin modV (pBin fdivV (pVar 2) (pC (V.int 23))) (pC (V.int 2))))) sNil) sNil)
        (sSeq (sSet 3 (pBin addV (pVar 3) (pCall φ__law_varint [] (pList [(pVar 5)])))) sNil)) m σ = .next m' σ ∧ m' 2 = some (nV q) ∧ m' 3 = some (.bytes b') ∧ b'.length ≤ b.length + 10 := by
      by_cases h22 : q % 23 = 22
      · obtain ⟨m', b', hS, r⟩ := key (M64 + q / 23 % 2) (upd (upd m 5 (nV (q % 200))) 5 (nV (M64 + q / 23 % 2))) (by omega) (by walk_at "nv") (by walk_at "nv") (by walk_at "nv")
        refine ⟨m', b', st_seq (st_set (ev_mod (ev_var h2) (ev_cc (a := 200)) (by decide))) (st_seq (st_if_t (ev_num (a := q % 23) (ev_mod (ev_var (by walk_at "nv")) (ev_cc (a := 23)) (by decide)) (by rw [h22]; rfl)) (st_seq (st_set ?_) st_nil)) hS), r⟩
        refine ev_add (a := M64) (ev_bin (a := nV 18446744073709551616) (b := nV 1) (ev_bin (a := nV 2) (b := nV 64) ev_cc ev_cc ?_) ev_cc rfl) (ev_mod (ev_fdiv (ev_var (by walk_at "nv")) (ev_cc (a := 23)) (by decide) (by decide)) (ev_cc (a := 2)) (by decide))
        rfl
      · obtain ⟨m', b', hS, r⟩ := key (q % 200) (upd m 5 (nV (q % 200))) (by show q % 200 ≤ 18446744073709551615 + 1; omega) (by walk_at "nv") (by walk_at "nv") (by walk_at "nv")
        exact ⟨m', b', st_seq (st_set (ev_mod (ev_var h2) (ev_cc (a := 200)) (by decide))) (st_seq (st_if_f (ev_num (a := q % 23) (ev_mod (ev_var (by walk_at "nv")) (ev_cc (a := 23)) (by decide)) (by simp; omega)) st_nil) hS), r⟩
    obtain ⟨m', b', hS, e2, e3, hl⟩ := out
    obtain ⟨m'', q', hT, g2, g3⟩ := tail (σ := σ) e2 e3
    refine ⟨m'', q', b', [], ?_, g2, g3, hl⟩
    rw [List.append_nil]
    exact st_seq (st_if_f (ev_cmp (y := false) (ev_var h4) ev_C (by simp [eqV, hL])) (st_seq (st_if_t (ev_cmp (y := true) (ev_var h4) ev_C (by rw [hN]; simp [eqV])) hS) st_nil)) hT
  · have hc := cut_le ([255, 0, 5] : Bs) none (some ((q % 4 : Nat) : Int))
    have hs : sliceV σ (.bytes ([255, 0, 5] : Bs)) none (some ((q % 4 : Nat) : Int)) = some (.bytes (cut ([255, 0, 5] : Bs) none (some ((q % 4 : Nat) : Int))), σ) := sliceV_bytes (by decide)
    generalize cut ([255, 0, 5] : Bs) none (some ((q % 4 : Nat) : Int)) = C at hc hs
    have h3' : ([255, 0, 5] : Bs).length = 3 := rfl
    rw [h3'] at hc
    have hE : (encT C).length ≤ 4 := by
      unfold encT
      rw [enc_small (by omega)]; simp; omega
    obtain ⟨m'', q', hT, g2, g3⟩ := tail (m' := upd m 3 (.bytes (b ++ encT C))) (σ := σ) (by walk_at "nv") upd_same
    refine ⟨m'', q', _, [], ?_, g2, g3, by simp; omega⟩
    rw [List.append_nil]
    refine st_seq (st_if_f (ev_cmp (y := false) (ev_var h4) ev_C (by simp [eqV, hL])) (st_seq (st_if_f (ev_cmp (y := false) (ev_var h4) ev_C (by simp [eqV, hN])) (st_seq (st_set (ev_bin (ev_var h3) (ev_call (ev_cons (ev_slice (lo := none) (hi := some ((q % 4 : Nat) : Int)) ev_C ev_C (ev_mod (ev_var h2) (ev_cc (a := 4)) (by decide)) rfl rfl hs) ev_nil) (llg_spec (by omega) σ)) (addV_bytes (by omega)))) st_nil)) st_nil)) hT
theorem tk_loop : ∀ (vs : List V) (m : Loc) (q : Nat) (b : Bs) (σ : List Cell), (∀ v ∈ vs, ∃ x, v = .str x) → m 2 = some (nV q) → m 3 = some (.bytes b) → b.length + 10 * vs.length ≤ 1000 →
    ∃ m' b' t, sFor (stName 4) tkBody (fun _ => True) vs m σ = .next m' (σ ++ t) ∧ m' 3 = some (.bytes b') ∧ b'.length ≤ b.length + 10 * vs.length
  | [], m, q, b, σ, _, h2, h3, hb => ⟨m, b, [], by rw [List.append_nil]; rfl, h3, by simp⟩
  | v :: vs, m, q, b, σ, hv, h2, h3, hb => by
    simp only [List.length_cons] at hb
    obtain ⟨x, rfl⟩ := hv _ (List.mem_cons_self ..)
    obtain ⟨m1, q1, b1, t1, e1, f2, f3, l1⟩ := tk_one (m := upd m 4 (.str x)) (σ := σ) (q := q) (b := b) (x := x) (by walk_at "nv") (by walk_at "nv") (by walk_at "nv") (by omega)
    obtain ⟨m2, b2, t2, e2, g3, l2⟩ := tk_loop vs m1 q1 b1 (σ ++ t1) (fun v h => hv v (List.mem_cons_of_mem _ h)) f2 f3 (by omega)
    exact ⟨m2, b2, t1 ++ t2, for_cons (m1 := upd m 4 (.str x)) rfl e1 trivial (by rw [← List.append_assoc]; exact e2), g3, by simp only [List.length_cons]; omega⟩
theorem ltk_spec (y : Nat) (σ : List Cell) : ∃ b, b.length ≤ 60 ∧ φ__law_token σ [nV y] = .ok (.bytes b) σ := by
  suffices h : ∃ b σ', b.length ≤ 60 ∧ ψ__law_token [] [nV y] = .ok (.bytes b) σ' by
    obtain ⟨b, σ', hl, e⟩ := h
    exact ⟨b, hl, frame_ok (cl_cons (.int _) cl_nil) (.bytes _) e⟩
  show ∃ b σ', b.length ≤ 60 ∧ bodyOf F__law_token (fun i => [nV y][i]?) [] = .ok (.bytes b) σ'
  have hw : y % 11 < 11 := Nat.mod_lt _ (by decide)
  have p1 : ∀ {g : Loc → List Cell → RS} {rs : RS}, g (upd (upd (fun i => [nV y][i]?) 1 (nV (y % 11))) 2 (nV (y / 11))) [] = rs → sSeq (sSet 1 (pBin modV (pVar 0) (pC (V.int 11)))) (sSeq (sSet 2 (pBin fdivV (pVar 0) (pC (V.int 11)))) g) (fun i => [nV y][i]?) [] = rs := fun {g rs} h =>
    st_seq (st_set (ev_mod (ev_var (by walk_at "nv")) (ev_cc (a := 11)) (by decide))) (st_seq (st_set (ev_fdiv (ev_var (by walk_at "nv")) (ev_cc (a := 11)) (by decide) (by decide))) h)
  generalize y / 11 = q at *
  generalize y % 11 = w at *
  generalize hM : upd (upd (fun i => [nV y][i]?) 1 (nV w)) 2 (nV q) = M at *
  have h1 : M 1 = some (nV w) := by rw [← hM]; walk_at "nv"
  have h2 : M 2 = some (nV q) := by rw [← hM]; walk_at "nv"
  have hq256 : q % 256 < 256 := Nat.mod_lt _ (by decide)
  have hq128 : q % 128 < 128 := Nat.mod_lt _ (by decide)
  have hq3 : q / 128 % 3 < 3 := Nat.mod_lt _ (by decide)
  have hq4 : q % 4 < 4 := Nat.mod_lt _ (by decide)
  have wt : ∀ {c : Int} {y : Bool}, ((w : Int) == c) = y → (pBind (pVar 1) fun a => pBind (pC (V.int c)) fun b => pOp fun σ => (eqV σ a b).bind boolV) M [] = .ok y [] := fun {c y} h => ev_num (ev_var h1) h
  by_cases h8 : w = 8
  · subst h8
    unfold F__law_token
    exact ⟨_, _, by simp, body_ret (p1 (st_seq_ret (st_if_t (wt rfl) (st_seq_ret (st_ret (ev_by1 (n := q % 256) (ev_mod (ev_var h2) (ev_cc (a := 256)) (by decide)) hq256))))))⟩
  by_cases h9 : w = 9
  · subst h9
    have p2 : ∀ {g h : Loc → List Cell → RS} {rs : RS}, h M [] = rs → sSeq (sIf (pBind (pVar 1) fun a => pBind (pC (V.int 8)) fun b => pOp fun σ => (eqV σ a b).bind boolV) g sNil) h M [] = rs := fun {g h rs} e => st_seq (st_if_f (wt rfl) st_nil) e
    by_cases h3 : q / 384 % 4 = 3
    · unfold F__law_token
      refine ⟨_, _, ?_, body_ret (p1 (p2 (st_seq_ret (st_if_t (ev_if_t (wt rfl) (ev_if_t (ev_num (a := q / 384 % 4) (ev_mod (ev_fdiv (ev_var h2) (ev_cc (a := 384)) (by decide) (by decide)) (ev_cc (a := 4)) (by decide)) (by rw [h3]; rfl)) ev_C)) (st_seq_ret (st_ret (ev_bin (ev_bin (ev_by1 (n := 128) (ev_cc (a := 128)) (by decide)) ev_C (mulV_by (by decide) (by decide) (by decide) (by decide))) (ev_by1 (n := q % 128) (ev_mod (ev_var h2) (ev_cc (a := 128)) (by decide)) (by omega)) (addV_bytes ?_))))))))⟩
      · simp
      · simp
    · unfold F__law_token
      refine ⟨_, _, ?_, body_ret (p1 (p2 (st_seq (st_if_f (ev_if_t (wt rfl) (ev_if_f (ev_num (a := q / 384 % 4) (ev_mod (ev_fdiv (ev_var h2) (ev_cc (a := 384)) (by decide) (by decide)) (ev_cc (a := 4)) (by decide)) (by simp; omega)) ev_C)) st_nil) (st_seq_ret (st_if_t (wt rfl) (st_seq_ret (st_ret (ev_by2 (n := 128 + q % 128) (k := q / 128 % 3) (ev_add (ev_cc (a := 128)) (ev_mod (ev_var h2) (ev_cc (a := 128)) (by decide))) (ev_mod (ev_fdiv (ev_var h2) (ev_cc (a := 128)) (by decide) (by decide)) (ev_cc (a := 3)) (by decide)) (by omega) (by omega)))))))))⟩
      simp
  have n8 : ((w : Int) == 8) = false := by simp; omega
  have n9 : ((w : Int) == 9) = false := by simp; omega
  have p2 : ∀ {g1 g2 g3 h : Loc → List Cell → RS} {t : Loc → List Cell → Res Bool} {rs : RS}, h M [] = rs → sSeq (sIf (pBind (pVar 1) fun a => pBind (pC (V.int 8)) fun b => pOp fun σ => (eqV σ a b).bind boolV) g1 sNil)
      (sSeq (sIf (pIf (pBind (pVar 1) fun a => pBind (pC (V.int 9)) fun b => pOp fun σ => (eqV σ a b).bind boolV) t (pC false)) g2 sNil) (sSeq (sIf (pBind (pVar 1) fun a => pBind (pC (V.int 9)) fun b => pOp fun σ => (eqV σ a b).bind boolV) g3 sNil) h)) M [] = rs := fun {g1 g2 g3 h t rs} e =>
    st_seq (st_if_f (wt n8) st_nil) (st_seq (st_if_f (ev_if_f (wt n9) ev_C) st_nil) (st_seq (st_if_f (wt n9) st_nil) e))
  by_cases h10 : w = 10
  · subst h10
    unfold F__law_token
    refine ⟨_, _, ?_, body_ret (p1 (p2 (st_seq_ret (st_if_t (wt rfl) (st_seq_ret (st_ret (ev_bin (ev_bin (ev_by1 (n := 255) (ev_cc (a := 255)) (by decide)) ev_C (mulV_by (by decide) (by decide) (by decide) (by decide))) (ev_by1 (n := q % 4) (ev_mod (ev_var h2) (ev_cc (a := 4)) (by decide)) (by omega)) (addV_bytes ?_))))))))⟩
    · simp
    · simp
  have n10 : ((w : Int) == 10) = false := by simp; omega
  obtain ⟨t, x, ht, ht2, hx, hxa, hxl⟩ := tok_tag (w := w) (by omega) []
  obtain ⟨m', b', tt, hL, g3, gl⟩ := tk_loop (signsV x) (upd M 3 (.bytes [t.toUInt8])) q [t.toUInt8] [.list [nV t]] (fun v h => by
    unfold signsV at h
    obtain ⟨c, _, rfl⟩ := List.mem_map.mp h
    exact ⟨_, rfl⟩) (by walk_at "nv") (by walk_at "nv") (by simp; omega)
  unfold F__law_token
  refine ⟨b', _, by simp at gl; omega, body_ret (p1 (p2 (st_seq (st_if_f (wt n10) st_nil) (st_seq (st_set (ev_by1 (n := t) (ev_bin (a := lawTags) ev_C (ev_var h1) ht) ht2)) (st_seq (st_for (ev_over_str (ev_un (ev_bin (a := lawTags) (b := nV w) (v := nV t) ev_C (ev_var (upd_ne rfl h1)) ?_) ?_) hxa) hL) (st_seq_ret (st_ret (ev_var g3))))))))⟩
  · exact ht
  · show (formS t).map V.str = _
    rw [hx]; rfl
set_option exponentiation.threshold 3000
open _root_.PySem
/-! comprehensions, and the law's number -/
section
variable {m : Loc} {σ : List Cell} {α : Type}
theorem comp_pure {js : List Nat} {ft : Loc → List Cell → Res Bool} {fe : Loc → List Cell → Res V} {chk : List Cell → Prop} (h : α → V) (t : α → Bool) (e : α → V) (hc : chk σ) : ∀ xs : List α,
    (∀ x ∈ xs, ft (locC js m (h x)) σ = .ok (t x) σ ∧ (t x = true → fe (locC js m (h x)) σ = .ok (e x) σ)) → compGo js ft fe chk m (xs.map h) σ = .ok ((xs.filter t).map e) σ
  | [], _ => rfl
  | x :: xs, H => by
    have ih := comp_pure h t e hc xs fun y hy => H y (List.mem_cons_of_mem _ hy)
    obtain ⟨h1, h2⟩ := H x (List.mem_cons_self ..)
    show compGo js ft fe chk m (h x :: xs.map h) σ = _
    unfold compGo
    rw [h1]
    cases ht : t x with
    | true =>
      dsimp only
      rw [h2 ht]
      dsimp only
      rw [if_pos hc, ih]
      simp [ht]
    | false =>
      dsimp only
      rw [if_pos hc, ih]
      simp [ht]
theorem ev_comp {f : Loc → List Cell → Res (List V × (List Cell → Prop))} {js : List Nat} {ft : Loc → List Cell → Res Bool} {fe : Loc → List Cell → Res V} {chk : List Cell → Prop} (h : α → V) (t : α → Bool) (e : α → V) {xs : List α}
    (hf : f m σ = .ok (xs.map h, chk) σ) (hc : chk σ) (H : ∀ x ∈ xs, ft (locC js m (h x)) σ = .ok (t x) σ ∧ (t x = true → fe (locC js m (h x)) σ = .ok (e x) σ)) (hl : xs.length ≤ 100000) :
    pComp f js ft fe m σ = .ok (.cell σ.length) (σ ++ [.list ((xs.filter t).map e)]) := by
  refine ev_bind hf ?_
  show (match compGo js ft fe chk m (xs.map h) σ with | .ok us σ' => _ | _ => _) = _
  rw [comp_pure h t e hc xs H]
  show (if ((xs.filter t).map e).length ≤ 100000 then _ else _) = _
  rw [if_pos]
  have := List.length_filter_le t xs
  rw [List.length_map]; omega
theorem rangeV_zero (n : Nat) : rangeV 0 n = (List.range n).map nV := by
  unfold rangeV
  refine List.map_congr_left fun i _ => ?_
  show V.int (0 + (i : Int)) = V.int (i : Int)
  rw [Int.zero_add]
theorem ev_range0 {f : Loc → List Cell → Res V} {n : Nat} (hf : f m σ = .ok (nV n) σ) (hn : n ≤ 1000000) : pRange (pList [f]) m σ = .ok ((List.range n).map nV, fun _ => True) σ := by
  rw [← rangeV_zero]
  refine ev_range (ev_cons hf ev_nil) ?_
  show (if -1000000 ≤ (n : Int) ∧ (n : Int) ≤ 1000000 then some ((0 : Int), (n : Int).toNat) else none) = _
  rw [if_pos ⟨by omega, by omega⟩]; rfl
theorem powV_nat {a b : Nat} (hb : b ≤ 1000) (ha : _root_.PySem.Builtin.Int.intBits (a : Int) ≤ 1000) : powV σ (nV a) (nV b) = some (nV (a ^ b)) := by
  show (if 0 ≤ (b : Int) ∧ (b : Int) ≤ 1000 ∧ _root_.PySem.Builtin.Int.intBits (a : Int) ≤ 1000 then some (V.int ((a : Int) ^ (b : Int).toNat)) else none) = _
  rw [if_pos ⟨by omega, by omega, ha⟩]
  simp
theorem sum_cast : ∀ ns : List Nat, (ns.map fun n : Nat => (n : Int)).sum = (ns.sum : Nat)
  | [] => rfl
  | n :: ns => by rw [List.map_cons, List.sum_cons, sum_cast ns, List.sum_cons]; omega
theorem sumV_nat {k : Nat} {ns : List Nat} (hk : σ[k]? = some (.list (ns.map nV))) : sumV σ (.cell k) = some (nV ns.sum) := by
  show (match σ[k]? with | some (.list vs) => _ | _ => _) = _
  rw [hk]
  show (intsOf (ns.map nV)).map _ = _
  rw [intsOf_nat]
  show some (V.int (ns.map fun n : Nat => (n : Int)).sum) = _
  rw [sum_cast]
end
noncomputable def ends (u : Bs) : List Nat := (List.range u.length).filter fun i => decide ((u.getD i 0).toNat < 128)
noncomputable def nval (u : Bs) (j : Nat) : Nat := ((List.range (j + 1)).map fun i => (u.getD i 0).toNat % 128 * 128 ^ i).sum
theorem ends_cons (c : UInt8) (u : Bs) : ends (c :: u) = if c.toNat < 128 then 0 :: (ends u).map (· + 1) else (ends u).map (· + 1) := by
  unfold ends
  rw [List.length_cons, List.range_succ_eq_map, List.filter_cons, List.filter_map]
  have e : ((fun i => decide (((c :: u).getD i 0).toNat < 128)) ∘ Nat.succ) = fun i => decide ((u.getD i 0).toNat < 128) := by
    funext i; simp
  rw [e]
  simp
theorem sum_mul (f : Nat → Nat) : ∀ l : List Nat, (l.map fun i => 128 * f i).sum = 128 * (l.map f).sum
  | [] => rfl
  | x :: l => by simp [sum_mul f l, Nat.mul_add]
theorem nval_zero (c : UInt8) (u : Bs) : nval (c :: u) 0 = c.toNat % 128 := by simp [nval]
theorem nval_succ (c : UInt8) (u : Bs) (j : Nat) : nval (c :: u) (j + 1) = c.toNat % 128 + 128 * nval u j := by
  unfold nval
  rw [List.range_succ_eq_map, List.map_cons, List.map_map, List.sum_cons, ← sum_mul]
  have e : ((fun i => ((c :: u).getD i 0).toNat % 128 * 128 ^ i) ∘ Nat.succ) = fun i => 128 * ((u.getD i 0).toNat % 128 * 128 ^ i) := by
    funext i
    show (u.getD i 0).toNat % 128 * 128 ^ (i + 1) = _
    rw [Nat.pow_succ]
    generalize 128 ^ i = z
    generalize (u.getD i 0).toNat % 128 = y
    rw [← Nat.mul_assoc, Nat.mul_comm]
  rw [e]
  simp
theorem num_ends : ∀ (k : Nat) (l : Bs), match ends (l.take k) with
    | [] => num k l = if (l.take k).length = k then .corr else .short
    | j :: _ => j < (l.take k).length ∧ num k l = .ok (nval (l.take k) j) (l.drop (j + 1))
  | 0, l => by simp [ends, num]
  | k + 1, [] => by simp [ends, num]
  | k + 1, c :: l => by
    have ih := num_ends k l
    rw [List.take_succ_cons, ends_cons]
    by_cases hc : c.toNat < 128
    · rw [if_pos hc]
      refine ⟨by simp, ?_⟩
      rw [nval_zero, Nat.mod_eq_of_lt hc]
      unfold num
      rw [if_pos hc]; rfl
    · rw [if_neg hc]
      cases hE : ends (l.take k) with
      | nil =>
        rw [hE] at ih
        show num (k + 1) (c :: l) = _
        unfold num
        rw [if_neg hc, ih]
        by_cases hk : (l.take k).length = k
        · rw [if_pos hk, if_pos (by simp only [List.length_cons]; omega)]
        · rw [if_neg hk, if_neg (by simp only [List.length_cons]; omega)]
      | cons j js =>
        rw [hE] at ih
        obtain ⟨i1, i2⟩ := ih
        refine ⟨by simp only [List.length_cons]; omega, ?_⟩
        unfold num
        rw [if_neg hc, i2, nval_succ]
        rfl
noncomputable def ansN (D : Bs) (pos : Nat) : Rs Nat → V
  | .ok n r => .tup [nV 0, nV n, nV (D.length - r.length)]
  | .short => .tup [nV 1, nV 0, nV pos]
  | .corr => .tup [nV 2, nV 0, nV pos]
theorem pow128 {i : Nat} (h : i ≤ 10) : 128 ^ i < 2 ^ 2000 := by
  have e : 128 ^ i = 2 ^ (7 * i) := by rw [Nat.pow_mul]
  rw [e]
  exact Nat.pow_lt_pow_right (by decide) (by omega)
theorem lnum_spec (p l : Bs) (k bits : Nat) (hk : k ≤ 10) (hb : bits ≤ 64) (hl : (p ++ l).length ≤ 1000) (σ : List Cell) : φ__law_number σ [.bytes (p ++ l), nV p.length, nV k, nV bits] = .ok (ansN (p ++ l) p.length (rd k (2 ^ bits - 1) l)) σ := by
  have cls : ∀ x : Rs Nat, Closed (ansN (p ++ l) p.length x) := fun x => by
    cases x with
    | ok n r => exact .tup (cl_cons (.int _) (cl_cons (.int _) (cl_cons (.int _) cl_nil)))
    | short => exact .tup (cl_cons (.int _) (cl_cons (.int _) (cl_cons (.int _) cl_nil)))
    | corr => exact .tup (cl_cons (.int _) (cl_cons (.int _) (cl_cons (.int _) cl_nil)))
  suffices h : ∃ σ', ψ__law_number [] [.bytes (p ++ l), nV p.length, nV k, nV bits] = .ok (ansN (p ++ l) p.length (rd k (2 ^ bits - 1) l)) σ' by
    obtain ⟨σ', e⟩ := h
    exact frame_ok (cl_cons (.bytes _) (cl_cons (.int _) (cl_cons (.int _) (cl_cons (.int _) cl_nil)))) (cls _) e
  show ∃ σ', bodyOf F__law_number (fun i => [V.bytes (p ++ l), nV p.length, nV k, nV bits][i]?) [] = .ok _ σ'
  have hl6 : (p ++ l).length ≤ 1000000 := by omega
  have hcut : cut (p ++ l) (some (p.length : Int)) (some ((p.length + k : Nat) : Int)) = l.take k := by
    unfold cut
    simp only [Option.elim, clip_nat]
    have e1 : min p.length (p ++ l).length = p.length := by rw [List.length_append]; omega
    rw [e1, List.drop_left]
    by_cases h : p.length + k ≤ (p ++ l).length
    · rw [Nat.min_eq_left h]
      congr 1; omega
    · rw [List.length_append] at h
      rw [List.take_of_length_le (by rw [List.length_append]; omega), List.take_of_length_le (by omega)]
  have hu := num_ends k l
  have hul : (l.take k).length ≤ k := by rw [List.length_take]; omega
  have hul2 : (l.take k).length ≤ 1000000 := by omega
  have hulL : (l.take k).length ≤ l.length := by rw [List.length_take]; omega
  generalize l.take k = u at hcut hu hul hul2 hulL
  generalize hM0 : (fun i : Nat => ([V.bytes (p ++ l), nV p.length, nV k, nV bits] : List V)[i]?) = M0
  have a0 : M0 0 = some (.bytes (p ++ l)) := by rw [← hM0]; rfl
  have a1 : M0 1 = some (nV p.length) := by rw [← hM0]; rfl
  have a2 : M0 2 = some (nV k) := by rw [← hM0]; rfl
  have a3 : M0 3 = some (nV bits) := by rw [← hM0]; rfl
  have s1 : sSet 4 (pSlice (pVar 0) (pVar 1) (pBin addV (pVar 1) (pVar 2))) M0 [] = .next (upd M0 4 (.bytes u)) [] :=
    st_set (ev_slice (lo := some (p.length : Int)) (hi := some ((p.length + k : Nat) : Int)) (ev_var a0) (ev_var a1) (ev_add (ev_var a1) (ev_var a2)) rfl rfl (by rw [sliceV_bytes hl6, hcut]))
  have item : ∀ {m : Loc} {σ : List Cell} {i : Nat}, m 4 = some (.bytes u) → i < u.length → pBin itemV (pVar 1) (pVar 0) (locC [4] m (nV i)) σ = .ok (nV (u.getD i 0).toNat) σ := fun {m σ i} h4 hi =>
    ev_bin (ev_var (v := .bytes u) h4) (ev_var (v := nV i) rfl) (itemV_bytes (by rw [List.getD_eq_getElem?_getD, List.getElem?_eq_getElem hi]; rfl) hul2)
  have s2 : sSet 5 (pComp (pRange (pList [(pCall (fn1 lenV) [] (pList [(pVar 4)]))])) [4] (pBind (pBin itemV (pVar 1) (pVar 0)) fun a => pBind (pC (V.int 128)) fun b => pOp fun σ => (ltV σ a b).bind boolV) (pVar 0)) (upd M0 4 (.bytes u)) [] = .next (upd (upd M0 4 (.bytes u)) 5 (.cell 0)) [.list ((ends u).map nV)] := by
    refine st_set (ev_comp nV (fun i => decide ((u.getD i 0).toNat < 128)) nV (ev_range0 (ev_lenb (ev_var upd_same) hul2) hul2) trivial (fun i hi => ⟨?_, fun _ => ev_var (v := nV i) (show locC [4] (upd M0 4 (.bytes u)) (nV i) 0 = some (nV i) from rfl)⟩) (by simp; omega))
    refine ev_cmp (item upd_same (by simpa using hi)) ev_C ?_
    by_cases hc : (u.getD i 0).toNat < 128
    · rw [ltV_t (by omega)]; simp only [hc, decide_true]
    · rw [ltV_f (by omega)]; simp only [hc, decide_false]
  unfold rd
  generalize hM2 : upd (upd M0 4 (.bytes u)) 5 (.cell 0) = M2 at s2
  have b1 : M2 1 = some (nV p.length) := by rw [← hM2]; walk_at "nv"
  have b2 : M2 2 = some (nV k) := by rw [← hM2]; walk_at "nv"
  have b3 : M2 3 = some (nV bits) := by rw [← hM2]; walk_at "nv"
  have b4 : M2 4 = some (.bytes u) := by rw [← hM2]; walk_at "nv"
  have b5 : M2 5 = some (.cell 0) := by rw [← hM2]; walk_at "nv"
  have hel : (ends u).length ≤ u.length := by
    have := List.length_filter_le (fun i => decide ((u.getD i 0).toNat < 128)) (List.range u.length)
    rw [List.length_range] at this
    exact this
  have tE : pCall (fn1 lenV) [] (pList [(pVar 5)]) M2 [.list ((ends u).map nV)] = .ok (nV (ends u).length) [.list ((ends u).map nV)] :=
    ev_call (ev_cons (ev_var b5) ev_nil) (fn1_ok (by rw [lenV_cell (vs := (ends u).map nV) rfl (by simp; omega)]; simp))
  cases hE : ends u with
  | nil =>
    rw [hE] at hu s2 tE
    dsimp only at hu
    by_cases hk : u.length = k
    · rw [hu, if_pos hk]
      unfold F__law_number
      exact ⟨_, body_ret (st_seq s1 (st_seq s2 (st_seq_ret (st_if_t (ev_num (a := 0) tE rfl) (st_seq_ret (st_ret (ev_tup (ev_cons (ev_if_t (ev_cmp (ev_lenb (ev_var b4) hul2) (ev_var b2) (eqV_t (by omega))) (ev_cc (a := 2))) (ev_cons (ev_cc (a := 0)) (ev_cons (ev_var b1) ev_nil))) (by simp))))))))⟩
    · rw [hu, if_neg hk]
      unfold F__law_number
      exact ⟨_, body_ret (st_seq s1 (st_seq s2 (st_seq_ret (st_if_t (ev_num (a := 0) tE rfl) (st_seq_ret (st_ret (ev_tup (ev_cons (ev_if_f (ev_cmp (ev_lenb (ev_var b4) hul2) (ev_var b2) (eqV_f (by omega))) (ev_cc (a := 1))) (ev_cons (ev_cc (a := 0)) (ev_cons (ev_var b1) ev_nil))) (by simp))))))))⟩
  | cons j js =>
    rw [hE] at hu s2 tE hel
    obtain ⟨hj, hn⟩ := hu
    have hlk : u.length ≤ l.length := hulL
    have iE : ∀ {m : Loc}, m 5 = some (.cell 0) → pBin itemV (pVar 5) (pC (V.int 0)) m [.list ((j :: js).map nV)] = .ok (nV j) [.list ((j :: js).map nV)] := fun {m} h5 => ev_bin (ev_var h5) ev_C (itemV_cell (i := 0) rfl (by decide) rfl)
    have s3 : sSet 6 (pCall (fn1 sumV) [] (pList [(pComp (pRange (pList [(pBin addV (pBin itemV (pVar 5) (pC (V.int 0))) (pC (V.int 1)))])) [4] (pC true) (pBin mulV (pBin modV (pBin itemV (pVar 1) (pVar 0)) (pC (V.int 128))) (pBin powV (pC (V.int 128)) (pVar 0))))])) M2 [.list ((j :: js).map nV)]
        = .next (upd M2 6 (nV (nval u j))) ([.list ((j :: js).map nV)] ++ [.list ((((List.range (j + 1)).filter fun _ => true).map fun i => nV ((u.getD i 0).toNat % 128 * 128 ^ i)))]) := by
      refine st_set (ev_call (ev_cons (ev_comp nV (fun _ => true) (fun i => nV ((u.getD i 0).toNat % 128 * 128 ^ i)) (ev_range0 (n := j + 1) (ev_add (iE b5) (ev_cc (a := 1))) (by omega)) trivial (fun i hi => ⟨ev_C, fun _ => ?_⟩) (by simp; omega)) ev_nil) (fn1_ok ?_))
      · have hi' : i < j + 1 := by simpa using hi
        have hm : (u.getD i 0).toNat % 128 < 128 := Nat.mod_lt _ (by decide)
        exact ev_bin (ev_mod (item b4 (by omega)) (ev_cc (a := 128)) (by decide)) (ev_bin (a := nV 128) (b := nV i) ev_cc (ev_var rfl) (powV_nat (by omega) (by decide))) (mulV_nat (Nat.lt_trans (Nat.lt_trans hm (by decide : 128 < 2 ^ 8)) (Nat.pow_lt_pow_right (by decide) (by decide))) (pow128 (by omega)))
      · rw [sumV_nat (ns := (List.range (j + 1)).map fun i => (u.getD i 0).toNat % 128 * 128 ^ i) (by show some (Cell.list _) = some (Cell.list _); rw [show ((List.range (j + 1)).filter fun _ => true) = List.range (j + 1) from by simp, List.map_map]; rfl)]
        rfl
    rw [hn]
    have hσ : ([.list ((j :: js).map nV)] ++ [.list ((((List.range (j + 1)).filter fun _ => true).map fun i => nV ((u.getD i 0).toNat % 128 * 128 ^ i)))] : List Cell)[0]? = some (.list ((j :: js).map nV)) := rfl
    generalize ([.list ((j :: js).map nV)] ++ [.list ((((List.range (j + 1)).filter fun _ => true).map fun i => nV ((u.getD i 0).toNat % 128 * 128 ^ i)))] : List Cell) = σ3 at s3 hσ
    have pP : pBin powV (pC (V.int 2)) (pVar 3) (upd M2 6 (nV (nval u j))) σ3 = .ok (nV (2 ^ bits)) σ3 := ev_bin (a := nV 2) (b := nV bits) ev_cc (ev_var (by walk_at "nv")) (powV_nat (by omega) (by decide))
    have hpos : 0 < 2 ^ bits := Nat.pow_pos (by decide)
    show ∃ σ', _ = Res.ok (ansN (p ++ l) p.length (if 2 ^ bits - 1 < nval u j then .corr else .ok (nval u j) (l.drop (j + 1)))) σ'
    have pre : ∀ {g : Loc → List Cell → RS} {rs : RS}, g (upd M2 6 (nV (nval u j))) σ3 = rs → sSeq (sIf (pBind (pCall (fn1 lenV) [] (pList [(pVar 5)])) fun a => pBind (pC (V.int 0)) fun b => pOp fun σ => (eqV σ a b).bind boolV)
        (sSeq (sRet (pTup (pList [(pIf (pBind (pCall (fn1 lenV) [] (pList [(pVar 4)])) fun a => pBind (pVar 2) fun b => pOp fun σ => (eqV σ a b).bind boolV) (pC (V.int 2)) (pC (V.int 1))), (pC (V.int 0)), (pVar 1)]))) sNil) sNil)
        (sSeq (sSet 6 (pCall (fn1 sumV) [] (pList [(pComp (pRange (pList [(pBin addV (pBin itemV (pVar 5) (pC (V.int 0))) (pC (V.int 1)))])) [4] (pC true) (pBin mulV (pBin modV (pBin itemV (pVar 1) (pVar 0)) (pC (V.int 128))) (pBin powV (pC (V.int 128)) (pVar 0))))]))) g) M2 [.list ((j :: js).map nV)] = rs := fun {g rs} e =>
      st_seq (st_if_f (ev_num (a := js.length + 1) tE (by simp; omega)) st_nil) (st_seq s3 e)
    by_cases hbig : 2 ^ bits - 1 < nval u j
    · rw [if_pos hbig]
      unfold F__law_number
      exact ⟨_, body_ret (st_seq s1 (st_seq s2 (pre (st_seq_ret (st_if_t (ev_cmp (ev_var upd_same) pP (geV_t (by omega))) (st_seq_ret (st_ret (ev_tup (ev_cons (ev_cc (a := 2)) (ev_cons (ev_cc (a := 0)) (ev_cons (ev_var (by walk_at "nv")) ev_nil))) (by simp)))))))))⟩
    · rw [if_neg hbig]
      have e : (p ++ l).length - (l.drop (j + 1)).length = p.length + j + 1 := by rw [List.length_append, List.length_drop]; omega
      have e0 : ansN (p ++ l) p.length (.ok (nval u j) (l.drop (j + 1))) = .tup [nV 0, nV (nval u j), nV (p.length + j + 1)] := by
        show V.tup [nV 0, nV (nval u j), nV ((p ++ l).length - (l.drop (j + 1)).length)] = _
        rw [e]
      rw [e0]
      unfold F__law_number
      refine ⟨_, body_ret (st_seq s1 (st_seq s2 (pre (st_seq (st_if_f (ev_cmp (ev_var upd_same) pP (geV_f (by omega))) st_nil) (st_seq_ret (st_ret (ev_tup (ev_cons (ev_cc (a := 0)) (ev_cons (ev_var upd_same) (ev_cons (ev_add (ev_add (ev_var (by walk_at "nv")) (ev_bin (ev_var (v := .cell 0) (by walk_at "nv")) ev_C (itemV_cell (i := 0) (v := nV j) hσ (by decide) rfl))) (ev_cc (a := 1))) ev_nil))) (by simp))))))))⟩
set_option exponentiation.threshold 3000
open _root_.PySem
/-! one letter of a form -/
inductive Lt where
  | t
  | n
  | l
  | k
noncomputable def Lt.s : Lt → Str
  | .t => Str.ofString "t"
  | .n => Str.ofString "n"
  | .l => Str.ofString "l"
  | .k => Str.ofString "k"
noncomputable def Lt.w : Lt → Bool
  | .t => true
  | .k => true
  | _ => false
noncomputable def rdx (x : Lt) (l : Bs) : Rs V := match x with
  | .t => (rdT l).map .bytes
  | .n => (rdN l).map nV
  | .l => (rdL l).map nV
  | .k => (rdK l).map .bytes
noncomputable def L7 : Loc → List Cell → RS := sSet 7 (pOr (pBin eqV (pVar 6) (pC (V.str (Str.ofString "t")))) (pBin eqV (pVar 6) (pC (V.str (Str.ofString "k")))))
noncomputable def LU : Loc → List Cell → RS := sUnpack [3, 8, 2] (pCall φ__law_number [] (pList [(pVar 0), (pVar 2), (pIf (pTest (pVar 7)) (pC (V.int 5)) (pC (V.int 10))), (pIf (pTest (pVar 7)) (pC (V.int 32)) (pC (V.int 64)))]))
noncomputable def L1 : Loc → List Cell → RS := sIf (pIf (pBind (pVar 3) fun a => pBind (pC (V.int 0)) fun b => pOp fun σ => (eqV σ a b).bind boolV) (pIf (pBind (pVar 6) fun a => pBind (pC (V.str (Str.ofString "l"))) fun b => pOp fun σ => (eqV σ a b).bind boolV) (pIf (pBind (pVar 8) fun a => pBind (pC (V.int 11)) fun b => pOp fun σ => (gtV σ a b).bind boolV) (pC true) (pC false)) (pC false)) (pC false))
  (sSeq (sSet 3 (pC (V.int 2))) sNil) sNil
noncomputable def L2 : Loc → List Cell → RS := sIf (pIf (pBind (pVar 3) fun a => pBind (pC (V.int 0)) fun b => pOp fun σ => (eqV σ a b).bind boolV) (pIf (pTest (pVar 7)) (pIf (pBind (pBin addV (pVar 2) (pVar 8)) fun a => pBind (pCall (fn1 lenV) [] (pList [(pVar 0)])) fun b => pOp fun σ => (gtV σ a b).bind boolV) (pC true) (pC false)) (pC false)) (pC false))
  (sSeq (sSet 3 (pC (V.int 1))) sNil) sNil
noncomputable def L3 : Loc → List Cell → RS := sIf (pIf (pBind (pVar 3) fun a => pBind (pC (V.int 0)) fun b => pOp fun σ => (eqV σ a b).bind boolV) (pIf (pBind (pVar 6) fun a => pBind (pC (V.str (Str.ofString "k"))) fun b => pOp fun σ => (eqV σ a b).bind boolV) (pIf (pBind (pVar 8) fun a => pBind (pC (V.int 0)) fun b => pOp fun σ => (eqV σ a b).bind boolV) (pC true) (pC false)) (pC false)) (pC false))
  (sSeq (sSet 3 (pC (V.int 2))) sNil) sNil
noncomputable def L4 : Loc → List Cell → RS := sIf (pBind (pVar 3) fun a => pBind (pC (V.int 0)) fun b => pOp fun σ => (gtV σ a b).bind boolV)
  (sSeq (sRet (pTup (pList [(pVar 3), (pNewList (pList []))]))) sNil) sNil
noncomputable def L5 : Loc → List Cell → RS := sIf (pTest (pVar 7))
  (sSeq (sExpr (pMeth appendK (pVar 5) (pList [(pSlice (pVar 0) (pVar 2) (pBin addV (pVar 2) (pVar 8)))])))
  (sSeq (sSet 2 (pBin addV (pVar 2) (pVar 8)))
  sNil))
  (sSeq (sExpr (pMeth appendK (pVar 5) (pList [(pVar 8)])))
  sNil)
noncomputable def ltRest : Loc → List Cell → RS := sSeq L1 (sSeq L2 (sSeq L3 (sSeq L4 (sSeq L5 sNil))))
noncomputable def ltBody : Loc → List Cell → RS := sSeq L7 (sSeq LU ltRest)
section
variable {m : Loc} {σ : List Cell} {f : Loc → List Cell → Res V}
theorem ev_str {x y : Str} {b : Bool} (hf : f m σ = .ok (.str x) σ) (h : (x == y) = b) : (pBind f fun a => pBind (pC (V.str y)) fun b => pOp fun σ => (eqV σ a b).bind boolV) m σ = .ok b σ :=
  ev_cmp hf ev_C (by show some (V.bool (x == y)) = _; rw [h])
theorem numS {D l : Bs} {k bits : Nat} (hs : Suf D l) (hl : D.length ≤ 1000) (hk : k ≤ 10) (hb : bits ≤ 64) (σ : List Cell) : φ__law_number σ [.bytes D, nV (D.length - l.length), nV k, nV bits] = .ok (ansN D (D.length - l.length) (rd k (2 ^ bits - 1) l)) σ := by
  obtain ⟨p, rfl, e⟩ := suf_at hs
  rw [e]
  exact lnum_spec p l k bits hk hb hl σ
theorem ne0 {a : Nat} (h : a ≠ 0) : ((a : Int) == 0) = false := by simp; omega
theorem k1 {a : Nat} (h3 : m 3 = some (nV a)) (h : a ≠ 0) : L1 m σ = .next m σ := st_if_f (ev_if_f (ev_num (a := a) (ev_var h3) (ne0 h)) ev_C) st_nil
theorem k2 {a : Nat} (h3 : m 3 = some (nV a)) (h : a ≠ 0) : L2 m σ = .next m σ := st_if_f (ev_if_f (ev_num (a := a) (ev_var h3) (ne0 h)) ev_C) st_nil
theorem k3 {a : Nat} (h3 : m 3 = some (nV a)) (h : a ≠ 0) : L3 m σ = .next m σ := st_if_f (ev_if_f (ev_num (a := a) (ev_var h3) (ne0 h)) ev_C) st_nil
theorem k4 {a : Nat} (h3 : m 3 = some (nV a)) (h : a ≠ 0) {g : Loc → List Cell → RS} : sSeq L4 g m σ = .ret (.tup [nV a, .cell σ.length]) (σ ++ [.list []]) :=
  st_seq_ret (st_if_t (ev_cmp (ev_var h3) ev_C (gtV_t (by omega))) (st_seq_ret (st_ret (ev_tup (ev_cons (ev_var h3) (ev_cons (ev_newlist ev_nil (by simp)) ev_nil)) (by simp)))))
theorem lt_fault {a : Nat} (h3 : m 3 = some (nV a)) (h : a ≠ 0) : ltRest m σ = .ret (.tup [nV a, .cell σ.length]) (σ ++ [.list []]) :=
  st_seq (k1 h3 h) (st_seq (k2 h3 h) (st_seq (k3 h3 h) (k4 h3 h)))
/-- no fault, and the letter is another -/
theorem j1 {x : Lt} (h3 : m 3 = some (nV 0)) (h6 : m 6 = some (.str x.s)) (h : (x.s == Str.ofString "l") = false) : L1 m σ = .next m σ := st_if_f (ev_if_t (ev_num (a := 0) (ev_var h3) rfl) (ev_if_f (ev_str (ev_var h6) h) ev_C)) st_nil
theorem j2 (h3 : m 3 = some (nV 0)) (h7 : m 7 = some (.bool false)) : L2 m σ = .next m σ := st_if_f (ev_if_t (ev_num (a := 0) (ev_var h3) rfl) (ev_if_f (ev_test (ev_var h7)) ev_C)) st_nil
theorem j3 {x : Lt} (h3 : m 3 = some (nV 0)) (h6 : m 6 = some (.str x.s)) (h : (x.s == Str.ofString "k") = false) : L3 m σ = .next m σ := st_if_f (ev_if_t (ev_num (a := 0) (ev_var h3) rfl) (ev_if_f (ev_str (ev_var h6) h) ev_C)) st_nil
theorem j4 (h3 : m 3 = some (nV 0)) : L4 m σ = .next m σ := st_if_f (ev_cmp (a := nV 0) (ev_var h3) ev_C (gtV_f (by simp))) st_nil
end
section
variable {D l r : Bs} {m : Loc} {σb : List Cell} {acc : List V} {n : Nat}
theorem j5n (h5 : m 5 = some (.cell σb.length)) (h7 : m 7 = some (.bool false)) (h8 : m 8 = some (nV n)) (ha : acc.length ≤ 100000) : L5 m (σb ++ [.list acc]) = .next m (σb ++ [.list (acc ++ [nV n])]) := by
  have hap := append_list (σ := σb ++ [Cell.list acc]) (k := σb.length) (us := acc) (v := nV n) (get_last _ _) ha
  rw [set_last] at hap
  exact st_if_f (ev_test (ev_var h7)) (st_seq (st_expr (ev_meth (ev_var h5) (appendK_list (get_last _ _)) (ev_cons (ev_var h8) ev_nil) hap)) st_nil)
theorem j5w (h0 : m 0 = some (.bytes D)) (h2 : m 2 = some (nV (D.length - r.length))) (h5 : m 5 = some (.cell σb.length)) (h7 : m 7 = some (.bool true)) (h8 : m 8 = some (nV n)) (hs : Suf D r) (hl : D.length ≤ 1000) (hn : n ≤ r.length) (ha : acc.length ≤ 100000) :
    L5 m (σb ++ [.list acc]) = .next (upd m 2 (nV (D.length - (r.drop n).length))) (σb ++ [.list (acc ++ [.bytes (r.take n)])]) := by
  have hap := append_list (σ := σb ++ [Cell.list acc]) (k := σb.length) (us := acc) (v := .bytes (r.take n)) (get_last _ _) ha
  rw [set_last] at hap
  obtain ⟨p, rfl, e⟩ := suf_at hs
  rw [e] at h2
  have hlen : (p ++ r).length - (r.drop n).length = p.length + n := by rw [List.length_append, List.length_drop]; omega
  have hcut : cut (p ++ r) (some (p.length : Int)) (some ((p.length + n : Nat) : Int)) = r.take n := by
    rw [cut_nat _ _ _ (by omega) (by rw [List.length_append]; omega), List.drop_left]
    congr 1; omega
  rw [hlen]
  exact st_if_t (ev_test (ev_var h7)) (st_seq (st_expr (ev_meth (ev_var h5) (appendK_list (get_last _ _)) (ev_cons (ev_slice (lo := some (p.length : Int)) (hi := some ((p.length + n : Nat) : Int)) (ev_var h0) (ev_var h2) (ev_add (ev_var h2) (ev_var h8)) rfl rfl (by rw [sliceV_bytes (by omega), hcut])) ev_nil) hap)) (st_seq (st_set (ev_add (ev_var h2) (ev_var h8))) st_nil))
theorem j2w_f {σ : List Cell} (h0 : m 0 = some (.bytes D)) (h2 : m 2 = some (nV (D.length - r.length))) (h3 : m 3 = some (nV 0)) (h7 : m 7 = some (.bool true)) (h8 : m 8 = some (nV n)) (hs : Suf D r) (hl : D.length ≤ 1000) (hn : n ≤ r.length) : L2 m σ = .next m σ := by
  have hle := hs.len
  exact st_if_f (ev_if_t (ev_num (a := 0) (ev_var h3) rfl) (ev_if_t (ev_test (ev_var h7)) (ev_if_f (ev_cmp (ev_add (ev_var h2) (ev_var h8)) (ev_lenb (ev_var h0) (by omega)) (gtV_f (by omega))) ev_C))) st_nil
theorem j2w_t {σ : List Cell} (h0 : m 0 = some (.bytes D)) (h2 : m 2 = some (nV (D.length - r.length))) (h3 : m 3 = some (nV 0)) (h7 : m 7 = some (.bool true)) (h8 : m 8 = some (nV n)) (hs : Suf D r) (hl : D.length ≤ 1000) (hn : r.length < n) : L2 m σ = .next (upd m 3 (nV 1)) σ := by
  have hle := hs.len
  exact st_if_t (ev_if_t (ev_num (a := 0) (ev_var h3) rfl) (ev_if_t (ev_test (ev_var h7)) (ev_if_t (ev_cmp (ev_add (ev_var h2) (ev_var h8)) (ev_lenb (ev_var h0) (by omega)) (gtV_t (by omega))) ev_C))) (st_seq (st_set ev_cc) st_nil)
/-- what one letter does -/
theorem lt_step {x : Lt} (h0 : m 0 = some (.bytes D)) (h2 : m 2 = some (nV (D.length - l.length))) (h5 : m 5 = some (.cell σb.length)) (h6 : m 6 = some (.str x.s)) (hs : Suf D l) (hl : D.length ≤ 1000) (ha : acc.length ≤ 100000) :
    match rdx x l with
    | .ok v r => ∃ m', ltBody m (σb ++ [.list acc]) = .next m' (σb ++ [.list (acc ++ [v])]) ∧ m' 2 = some (nV (D.length - r.length)) ∧ m' 0 = m 0 ∧ m' 1 = m 1 ∧ m' 5 = m 5 ∧ Suf D r
    | .short => ltBody m (σb ++ [.list acc]) = .ret (.tup [nV 1, .cell (σb ++ [Cell.list acc]).length]) ((σb ++ [Cell.list acc]) ++ [Cell.list []])
    | .corr => ltBody m (σb ++ [.list acc]) = .ret (.tup [nV 2, .cell (σb ++ [Cell.list acc]).length]) ((σb ++ [Cell.list acc]) ++ [Cell.list []]) := by
  have s7 : ∀ {σ : List Cell}, L7 m σ = .next (upd m 7 (.bool x.w)) σ := fun {σ} => by
    refine st_set ?_
    cases x with
    | t => exact ev_or_t (ev_bin (ev_var h6) ev_C rfl)
    | k => exact ev_or_f (ev_bin (ev_var h6) ev_C rfl) (ev_bin (ev_var h6) ev_C rfl)
    | n => exact ev_or_f (ev_bin (ev_var h6) ev_C rfl) (ev_bin (ev_var h6) ev_C rfl)
    | l => exact ev_or_f (ev_bin (ev_var h6) ev_C rfl) (ev_bin (ev_var h6) ev_C rfl)
  have call : ∀ {σ : List Cell}, pCall φ__law_number [] (pList [(pVar 0), (pVar 2), (pIf (pTest (pVar 7)) (pC (V.int 5)) (pC (V.int 10))), (pIf (pTest (pVar 7)) (pC (V.int 32)) (pC (V.int 64)))]) (upd m 7 (.bool x.w)) σ = .ok (ansN D (D.length - l.length) (if x.w then rd 5 M32 l else rd 10 M64 l)) σ := fun {σ} => by
    cases hw : x.w with
    | true => exact ev_call (ev_cons (ev_var (by walk_at "nv")) (ev_cons (ev_var (by walk_at "nv")) (ev_cons (ev_if_t (ev_test (ev_var (by walk_at "nv"))) (ev_cc (a := 5))) (ev_cons (ev_if_t (ev_test (ev_var (by walk_at "nv"))) (ev_cc (a := 32))) ev_nil)))) (numS (bits := 32) hs hl (by decide) (by decide) σ)
    | false => exact ev_call (ev_cons (ev_var (by walk_at "nv")) (ev_cons (ev_var (by walk_at "nv")) (ev_cons (ev_if_f (ev_test (ev_var (by walk_at "nv"))) (ev_cc (a := 10))) (ev_cons (ev_if_f (ev_test (ev_var (by walk_at "nv"))) (ev_cc (a := 64))) ev_nil)))) (numS (bits := 64) hs hl (by decide) (by decide) σ)
  have bad : ∀ {σ : List Cell} {a : Nat}, a ≠ 0 → ansN D (D.length - l.length) (if x.w then rd 5 M32 l else rd 10 M64 l) = .tup [nV a, nV 0, nV (D.length - l.length)] → ltBody m σ = .ret (.tup [nV a, .cell σ.length]) (σ ++ [.list []]) := fun {σ a} hne e =>
    st_seq s7 (st_seq (m1 := upd (upd (upd (upd m 7 (.bool x.w)) 3 (nV a)) 8 (nV 0)) 2 (nV (D.length - l.length))) (st_unpack (call.trans (by rw [e])) rfl) (lt_fault (by walk_at "nv") hne))
  have good : ∀ {σ : List Cell} {n : Nat} {r : Bs} {rs : RS}, (if x.w then rd 5 M32 l else rd 10 M64 l) = .ok n r → ltRest (upd (upd (upd (upd m 7 (.bool x.w)) 3 (nV 0)) 8 (nV n)) 2 (nV (D.length - r.length))) σ = rs → ltBody m σ = rs := fun {σ n r rs} e h =>
    st_seq s7 (st_seq (st_unpack (call.trans (by rw [e]; rfl)) rfl) h)
  cases x with
  | n =>
    show match (rdN l).map nV with | .ok v r => _ | .short => _ | .corr => _
    cases hr : rdN l with
    | short => exact bad (a := 1) (by decide) (by show ansN D _ (rdN l) = _; rw [hr]; rfl)
    | corr => exact bad (a := 2) (by decide) (by show ansN D _ (rdN l) = _; rw [hr]; rfl)
    | ok n r =>
      obtain ⟨o1, _, _⟩ := rdN_ok hr
      refine ⟨_, good (n := n) (r := r) hr (st_seq (j1 (x := .n) (by walk_at "nv") (by walk_at "nv") rfl) (st_seq (j2 (by walk_at "nv") (by walk_at "nv")) (st_seq (j3 (x := .n) (by walk_at "nv") (by walk_at "nv") rfl) (st_seq (j4 (by walk_at "nv")) (st_seq (j5n (by walk_at "nv") (by walk_at "nv") (by walk_at "nv") ha) st_nil))))), by walk_at "nv", rfl, rfl, rfl, hs.trans o1⟩
  | l =>
    show match (rdL l).map nV with | .ok v r => _ | .short => _ | .corr => _
    unfold rdL
    cases hr : rdN l with
    | short => exact bad (a := 1) (by decide) (by show ansN D _ (rdN l) = _; rw [hr]; rfl)
    | corr => exact bad (a := 2) (by decide) (by show ansN D _ (rdN l) = _; rw [hr]; rfl)
    | ok n r =>
      obtain ⟨o1, _, _⟩ := rdN_ok hr
      show match (if 12 ≤ n then Rs.corr else .ok n r).map nV with | .ok v r => _ | .short => _ | .corr => _
      by_cases hn : 12 ≤ n
      · rw [if_pos hn]
        refine good (n := n) (r := r) hr (st_seq (st_if_t (ev_if_t (ev_num (a := 0) (ev_var (by walk_at "nv")) rfl) (ev_if_t (ev_str (x := Lt.s .l) (ev_var (by walk_at "nv")) rfl) (ev_if_t (ev_cmp (a := nV n) (ev_var (by walk_at "nv")) ev_C (gtV_t (by omega))) ev_C))) (st_seq (st_set (ev_cc (a := 2))) st_nil)) (st_seq (k2 (a := 2) (m := upd _ 3 (nV 2)) upd_same (by decide)) (st_seq (k3 (a := 2) (m := upd _ 3 (nV 2)) upd_same (by decide)) (k4 (a := 2) (m := upd _ 3 (nV 2)) upd_same (by decide)))))
      · rw [if_neg hn]
        refine ⟨_, good (n := n) (r := r) hr (st_seq (st_if_f (ev_if_t (ev_num (a := 0) (ev_var (by walk_at "nv")) rfl) (ev_if_t (ev_str (x := Lt.s .l) (ev_var (by walk_at "nv")) rfl) (ev_if_f (ev_cmp (a := nV n) (ev_var (by walk_at "nv")) ev_C (gtV_f (by omega))) ev_C))) st_nil) (st_seq (j2 (by walk_at "nv") (by walk_at "nv")) (st_seq (j3 (x := .l) (by walk_at "nv") (by walk_at "nv") rfl) (st_seq (j4 (by walk_at "nv")) (st_seq (j5n (by walk_at "nv") (by walk_at "nv") (by walk_at "nv") ha) st_nil))))), by walk_at "nv", rfl, rfl, rfl, hs.trans o1⟩
  | t =>
    show match (rdT l).map V.bytes with | .ok v r => _ | .short => _ | .corr => _
    unfold rdT
    cases hr : rd 5 M32 l with
    | short => exact bad (a := 1) (by decide) (by show ansN D _ (rd 5 M32 l) = _; rw [hr]; rfl)
    | corr => exact bad (a := 2) (by decide) (by show ansN D _ (rd 5 M32 l) = _; rw [hr]; rfl)
    | ok n r =>
      obtain ⟨⟨u, _, e⟩, _, _⟩ := rd_suffix hr
      have o1 : Suf D r := hs.trans ⟨u, e⟩
      show match (if r.length < n then Rs.short else .ok (r.take n) (r.drop n)).map V.bytes with | .ok v r => _ | .short => _ | .corr => _
      by_cases hn : r.length < n
      · rw [if_pos hn]
        exact good (n := n) (r := r) hr (st_seq (j1 (x := .t) (by walk_at "nv") (by walk_at "nv") rfl) (st_seq (j2w_t (r := r) (by walk_at "nv") (by walk_at "nv") (by walk_at "nv") (by walk_at "nv") (by walk_at "nv") o1 hl hn) (st_seq (k3 (a := 1) (m := upd _ 3 (nV 1)) upd_same (by decide)) (k4 (a := 1) (m := upd _ 3 (nV 1)) upd_same (by decide)))))
      · rw [if_neg hn]
        exact ⟨_, good (n := n) (r := r) hr (st_seq (j1 (x := .t) (by walk_at "nv") (by walk_at "nv") rfl) (st_seq (j2w_f (r := r) (by walk_at "nv") (by walk_at "nv") (by walk_at "nv") (by walk_at "nv") (by walk_at "nv") o1 hl (by omega)) (st_seq (j3 (x := .t) (by walk_at "nv") (by walk_at "nv") rfl) (st_seq (j4 (by walk_at "nv")) (st_seq (j5w (r := r) (by walk_at "nv") (by walk_at "nv") (by walk_at "nv") (by walk_at "nv") (by walk_at "nv") o1 hl (by omega) ha) st_nil))))), upd_same, rfl, rfl, rfl, o1.trans ⟨r.take n, (List.take_append_drop n r).symm⟩⟩
  | k =>
    show match (rdK l).map V.bytes with | .ok v r => _ | .short => _ | .corr => _
    unfold rdK rdT
    cases hr : rd 5 M32 l with
    | short => exact bad (a := 1) (by decide) (by show ansN D _ (rd 5 M32 l) = _; rw [hr]; rfl)
    | corr => exact bad (a := 2) (by decide) (by show ansN D _ (rd 5 M32 l) = _; rw [hr]; rfl)
    | ok n r =>
      obtain ⟨⟨u, _, e⟩, _, _⟩ := rd_suffix hr
      have o1 : Suf D r := hs.trans ⟨u, e⟩
      show match ((if r.length < n then Rs.short else .ok (r.take n) (r.drop n)).bind fun b r => if b.length = 0 then .corr else .ok b r).map V.bytes with | .ok v r => _ | .short => _ | .corr => _
      by_cases hn : r.length < n
      · rw [if_pos hn]
        exact good (n := n) (r := r) hr (st_seq (j1 (x := .k) (by walk_at "nv") (by walk_at "nv") rfl) (st_seq (j2w_t (r := r) (by walk_at "nv") (by walk_at "nv") (by walk_at "nv") (by walk_at "nv") (by walk_at "nv") o1 hl hn) (st_seq (k3 (a := 1) (m := upd _ 3 (nV 1)) upd_same (by decide)) (k4 (a := 1) (m := upd _ 3 (nV 1)) upd_same (by decide)))))
      · rw [if_neg hn]
        show match (if (r.take n).length = 0 then Rs.corr else .ok (r.take n) (r.drop n)).map V.bytes with | .ok v r => _ | .short => _ | .corr => _
        have htl : (r.take n).length = n := by rw [List.length_take]; omega
        rw [htl]
        by_cases hz : n = 0
        · rw [if_pos hz]
          exact good (n := n) (r := r) hr (st_seq (j1 (x := .k) (by walk_at "nv") (by walk_at "nv") rfl) (st_seq (j2w_f (r := r) (by walk_at "nv") (by walk_at "nv") (by walk_at "nv") (by walk_at "nv") (by walk_at "nv") o1 hl (by omega)) (st_seq (st_if_t (ev_if_t (ev_num (a := 0) (ev_var (by walk_at "nv")) rfl) (ev_if_t (ev_str (x := Lt.s .k) (ev_var (by walk_at "nv")) rfl) (ev_if_t (ev_num (a := n) (ev_var (by walk_at "nv")) (by rw [hz]; rfl)) ev_C))) (st_seq (st_set (ev_cc (a := 2))) st_nil)) (k4 (a := 2) (m := upd _ 3 (nV 2)) upd_same (by decide)))))
        · rw [if_neg hz]
          exact ⟨_, good (n := n) (r := r) hr (st_seq (j1 (x := .k) (by walk_at "nv") (by walk_at "nv") rfl) (st_seq (j2w_f (r := r) (by walk_at "nv") (by walk_at "nv") (by walk_at "nv") (by walk_at "nv") (by walk_at "nv") o1 hl (by omega)) (st_seq (st_if_f (ev_if_t (ev_num (a := 0) (ev_var (by walk_at "nv")) rfl) (ev_if_t (ev_str (x := Lt.s .k) (ev_var (by walk_at "nv")) rfl) (ev_if_f (ev_num (a := n) (ev_var (by walk_at "nv")) (ne0 hz)) ev_C))) st_nil) (st_seq (j4 (by walk_at "nv")) (st_seq (j5w (r := r) (by walk_at "nv") (by walk_at "nv") (by walk_at "nv") (by walk_at "nv") (by walk_at "nv") o1 hl (by omega) ha) st_nil))))), upd_same, rfl, rfl, rfl, o1.trans ⟨r.take n, (List.take_append_drop n r).symm⟩⟩
end
set_option exponentiation.threshold 3000
open _root_.PySem
/-! the law's parts -/
noncomputable def rds : List Lt → Bs → Rs (List V)
  | [], l => .ok [] l
  | x :: xs, l => (rdx x l).bind fun v r => (rds xs r).map (v :: ·)
section
variable {D : Bs} {σb : List Cell}
theorem lts_loop : ∀ (xs : List Lt) (l : Bs) (acc : List V) (m : Loc), m 0 = some (.bytes D) → m 2 = some (nV (D.length - l.length)) → m 5 = some (.cell σb.length) → Suf D l → D.length ≤ 1000 → acc.length + xs.length ≤ 1000 →
    match rds xs l with
    | .ok vs r => ∃ m', sFor (stName 6) ltBody (fun _ => True) (xs.map fun x => .str x.s) m (σb ++ [.list acc]) = .next m' (σb ++ [.list (acc ++ vs)]) ∧ m' 2 = some (nV (D.length - r.length)) ∧ m' 0 = m 0 ∧ m' 1 = m 1 ∧ m' 5 = m 5 ∧ Suf D r
    | .short => ∃ t, sFor (stName 6) ltBody (fun _ => True) (xs.map fun x => .str x.s) m (σb ++ [.list acc]) = .ret (.tup [nV 1, .cell (σb ++ t).length]) ((σb ++ t) ++ [Cell.list []])
    | .corr => ∃ t, sFor (stName 6) ltBody (fun _ => True) (xs.map fun x => .str x.s) m (σb ++ [.list acc]) = .ret (.tup [nV 2, .cell (σb ++ t).length]) ((σb ++ t) ++ [Cell.list []])
  | [], l, acc, m, h0, h2, h5, hs, hl, ha => ⟨m, by rw [List.append_nil]; rfl, h2, rfl, rfl, rfl, hs⟩
  | x :: xs, l, acc, m, h0, h2, h5, hs, hl, ha => by
    simp only [List.length_cons] at ha
    have S := lt_step (x := x) (m := upd m 6 (.str x.s)) (σb := σb) (acc := acc) (D := D) (l := l) (by walk_at "nv") (by walk_at "nv") (by walk_at "nv") (by walk_at "nv") hs hl (by omega)
    unfold rds
    cases hr : rdx x l with
    | short => rw [hr] at S; exact ⟨[.list acc], for_ret rfl S⟩
    | corr => rw [hr] at S; exact ⟨[.list acc], for_ret rfl S⟩
    | ok v r =>
      rw [hr] at S
      obtain ⟨m1, S, e2, e0, e1, e5, hs1⟩ := S
      have I := lts_loop xs r (acc ++ [v]) m1 (e0.trans h0) e2 (e5.trans h5) hs1 hl (by simp; omega)
      show match (rds xs r).map (v :: ·) with | .ok vs r => _ | .short => _ | .corr => _
      cases hx : rds xs r with
      | short => rw [hx] at I; obtain ⟨t, I⟩ := I; exact ⟨t, for_cons rfl S trivial I⟩
      | corr => rw [hx] at I; obtain ⟨t, I⟩ := I; exact ⟨t, for_cons rfl S trivial I⟩
      | ok vs r' =>
        rw [hx] at I
        obtain ⟨m2, I, g2, g0, g1, g5, hs2⟩ := I
        refine ⟨m2, for_cons rfl S trivial ?_, g2, g0.trans e0, g1.trans e1, g5.trans e5, hs2⟩
        show _ = RS.next m2 (σb ++ [Cell.list (acc ++ v :: vs)])
        rw [show acc ++ v :: vs = (acc ++ [v]) ++ vs from by simp]
        exact I
end
noncomputable def lts (t : Nat) : Option (List Lt) :=
  if t = 1 then some [.t] else if t = 2 then some [.n] else if t = 3 then some [.n] else if t = 4 then some [.n] else if t = 5 then some [.l, .k] else if t = 6 then some [.l, .n] else if t = 7 then some [.l, .n, .n, .k, .k]
  else if t = 10 then some [] else none
theorem form_lts (t : Nat) : match lts t with
    | none => formS t = none
    | some xs => ∃ x, formS t = some x ∧ x.cps.all (· < 128) = true ∧ signsV x = xs.map fun x => V.str x.s := by
  by_cases h1 : t = 1
  · subst h1; exact ⟨_, rfl, by rw [← Array.all_toList]; decide, rfl⟩
  by_cases h2 : t = 2
  · subst h2; exact ⟨_, rfl, by rw [← Array.all_toList]; decide, rfl⟩
  by_cases h3 : t = 3
  · subst h3; exact ⟨_, rfl, by rw [← Array.all_toList]; decide, rfl⟩
  by_cases h4 : t = 4
  · subst h4; exact ⟨_, rfl, by rw [← Array.all_toList]; decide, rfl⟩
  by_cases h5 : t = 5
  · subst h5; exact ⟨_, rfl, by rw [← Array.all_toList]; decide, rfl⟩
  by_cases h6 : t = 6
  · subst h6; exact ⟨_, rfl, by rw [← Array.all_toList]; decide, rfl⟩
  by_cases h7 : t = 7
  · subst h7; exact ⟨_, rfl, by rw [← Array.all_toList]; decide, rfl⟩
  by_cases h10 : t = 10
  · subst h10; exact ⟨_, rfl, by rw [← Array.all_toList]; decide, rfl⟩
  have e : lts t = none := by simp [lts, *]
  rw [e]
  show formS t = none
  unfold formS
  rw [if_neg (by omega), if_neg (by omega), if_neg (by omega), if_neg (by omega), if_neg (by omega), if_neg (by omega), if_neg (by omega), if_neg (by omega)]
noncomputable def prtV : Part → List V
  | .comp b => [nV 1, .bytes b]
  | .log n => [nV 2, nV n]
  | .nxt n => [nV 3, nV n]
  | .seq n => [nV 4, nV n]
  | .ptr lv k => [nV 5, nV lv, .bytes k]
  | .del lv n => [nV 6, nV lv, nV n]
  | .add lv n s a b => [nV 7, nV lv, nV n, nV s, .bytes a, .bytes b]
  | .rst => [nV 10]
theorem part_form (l : Bs) : (part l).map prtV = (rdN l).bind fun t r => match lts t with
    | none => .corr
    | some xs => (rds xs r).map (nV t :: ·) := by
  unfold part
  cases hN : rdN l with
  | short => rfl
  | corr => rfl
  | ok t r =>
    show Rs.map prtV (if t = 1 then (rdT r).map .comp else _) = match lts t with | none => _ | some xs => _
    by_cases h1 : t = 1
    · subst h1
      show Rs.map prtV ((rdT r).map .comp) = ((((rdT r).map V.bytes).bind fun v r => (Rs.ok [] r).map (v :: ·)).map (nV 1 :: ·))
      cases rdT r <;> rfl
    by_cases h2 : t = 2
    · subst h2
      show Rs.map prtV ((rdN r).map .log) = ((((rdN r).map nV).bind fun v r => (Rs.ok [] r).map (v :: ·)).map (nV 2 :: ·))
      cases rdN r <;> rfl
    by_cases h3 : t = 3
    · subst h3
      show Rs.map prtV ((rdN r).map .nxt) = ((((rdN r).map nV).bind fun v r => (Rs.ok [] r).map (v :: ·)).map (nV 3 :: ·))
      cases rdN r <;> rfl
    by_cases h4 : t = 4
    · subst h4
      show Rs.map prtV ((rdN r).map .seq) = ((((rdN r).map nV).bind fun v r => (Rs.ok [] r).map (v :: ·)).map (nV 4 :: ·))
      cases rdN r <;> rfl
    by_cases h5 : t = 5
    · subst h5
      show Rs.map prtV ((rdL r).bind fun lv r => (rdK r).map (.ptr lv)) = ((((rdL r).map nV).bind fun v r => (((rdK r).map V.bytes).bind fun v r => (Rs.ok [] r).map (v :: ·)).map (v :: ·)).map (nV 5 :: ·))
      cases rdL r with
      | short => rfl
      | corr => rfl
      | ok lv r => show Rs.map prtV ((rdK r).map (.ptr lv)) = ((((rdK r).map V.bytes).bind fun v r => (Rs.ok [] r).map (v :: ·)).map (nV lv :: ·)).map (nV 5 :: ·); cases rdK r <;> rfl
    by_cases h6 : t = 6
    · subst h6
      show Rs.map prtV ((rdL r).bind fun lv r => (rdN r).map (.del lv)) = ((((rdL r).map nV).bind fun v r => (((rdN r).map nV).bind fun v r => (Rs.ok [] r).map (v :: ·)).map (v :: ·)).map (nV 6 :: ·))
      cases rdL r with
      | short => rfl
      | corr => rfl
      | ok lv r => show Rs.map prtV ((rdN r).map (.del lv)) = ((((rdN r).map nV).bind fun v r => (Rs.ok [] r).map (v :: ·)).map (nV lv :: ·)).map (nV 6 :: ·); cases rdN r <;> rfl
    by_cases h7 : t = 7
    · subst h7
      show Rs.map prtV ((rdL r).bind fun lv r => (rdN r).bind fun n r => (rdN r).bind fun s r => (rdK r).bind fun a r => (rdK r).map (.add lv n s a)) = (rds [.l, .n, .n, .k, .k] r).map (nV 7 :: ·)
      show _ = ((((rdL r).map nV).bind fun v r => (rds [.n, .n, .k, .k] r).map (v :: ·)).map (nV 7 :: ·))
      cases rdL r with
      | short => rfl
      | corr => rfl
      | ok lv r =>
        show Rs.map prtV ((rdN r).bind fun n r => (rdN r).bind fun s r => (rdK r).bind fun a r => (rdK r).map (.add lv n s a)) = ((((rdN r).map nV).bind fun v r => (rds [.n, .k, .k] r).map (v :: ·)).map (nV lv :: ·)).map (nV 7 :: ·)
        cases rdN r with
        | short => rfl
        | corr => rfl
        | ok n r =>
          show Rs.map prtV ((rdN r).bind fun s r => (rdK r).bind fun a r => (rdK r).map (.add lv n s a)) = (((((rdN r).map nV).bind fun v r => (rds [.k, .k] r).map (v :: ·)).map (nV n :: ·)).map (nV lv :: ·)).map (nV 7 :: ·)
          cases rdN r with
          | short => rfl
          | corr => rfl
          | ok s r =>
            show Rs.map prtV ((rdK r).bind fun a r => (rdK r).map (.add lv n s a)) = ((((((rdK r).map V.bytes).bind fun v r => (rds [.k] r).map (v :: ·)).map (nV s :: ·)).map (nV n :: ·)).map (nV lv :: ·)).map (nV 7 :: ·)
            cases rdK r with
            | short => rfl
            | corr => rfl
            | ok a r =>
              show Rs.map prtV ((rdK r).map (.add lv n s a)) = (((((((rdK r).map V.bytes).bind fun v r => (Rs.ok [] r).map (v :: ·)).map (V.bytes a :: ·)).map (nV s :: ·)).map (nV n :: ·)).map (nV lv :: ·)).map (nV 7 :: ·)
              cases rdK r <;> rfl
    by_cases h10 : t = 10
    · subst h10; rfl
    rw [if_neg h1, if_neg h2, if_neg h3, if_neg h4, if_neg h5, if_neg h6, if_neg h7, if_neg h10]
    have e : lts t = none := by simp [lts, *]
    rw [e]; rfl
noncomputable def pBody : Loc → List Cell → RS := (sSeq (sUnpack [3, 4, 2] (pCall φ__law_number [] (pList [(pVar 0), (pVar 2), (pC (V.int 10)), (pC (V.int 64))])))
  (sSeq (sIf (pIf (pBind (pVar 3) fun a => pBind (pC (V.int 0)) fun b => pOp fun σ => (eqV σ a b).bind boolV) (pIf (pBind (pVar 4) fun a => pOp fun σ => notInForm a) (pC true) (pC false)) (pC false))
  (sSeq (sSet 3 (pC (V.int 2)))
  sNil)
  sNil)
  (sSeq (sIf (pBind (pVar 3) fun a => pBind (pC (V.int 0)) fun b => pOp fun σ => (gtV σ a b).bind boolV)
  (sSeq (sRet (pTup (pList [(pVar 3), (pNewList (pList []))])))
  sNil)
  sNil)
  (sSeq (sSet 5 (pNewList (pList [(pVar 4)])))
  (sSeq (sForE (stName 6) (pOver (pUn formV (pVar 4))) ltBody)
  (sSeq (sExpr (pMeth appendK (pVar 1) (pList [(pVar 5)])))
  sNil))))))
section
variable {D l : Bs} {σ : List Cell} {m : Loc} {k : Nat} {vs : List V}
theorem lts_len {t : Nat} {xs : List Lt} (h : lts t = some xs) : xs.length ≤ 5 := by
  unfold lts at h
  repeat' split at h
  all_goals first | (obtain rfl := Option.some.inj h; decide) | cases h
theorem pl_turn (h0 : m 0 = some (.bytes D)) (h1 : m 1 = some (.cell k)) (h2 : m 2 = some (nV (D.length - l.length))) (hs : Suf D l) (hl : D.length ≤ 1000) (hk : σ[k]? = some (.list vs)) (hv : vs.length ≤ 100000) :
    match part l with
    | .ok p r => ∃ m', pBody m σ = .next m' ((σ ++ [Cell.list (prtV p)]).set k (Cell.list (vs ++ [V.cell σ.length]))) ∧ m' 0 = m 0 ∧ m' 1 = m 1 ∧ m' 2 = some (nV (D.length - r.length))
    | .short => ∃ t, pBody m σ = .ret (.tup [nV 1, .cell (σ ++ t).length]) ((σ ++ t) ++ [Cell.list []])
    | .corr => ∃ t, pBody m σ = .ret (.tup [nV 2, .cell (σ ++ t).length]) ((σ ++ t) ++ [Cell.list []]) := by
  have call : pCall φ__law_number [] (pList [(pVar 0), (pVar 2), (pC (V.int 10)), (pC (V.int 64))]) m σ = .ok (ansN D (D.length - l.length) (rdN l)) σ :=
    ev_call (ev_cons (ev_var h0) (ev_cons (ev_var h2) (ev_cons (ev_cc (a := 10)) (ev_cons (ev_cc (a := 64)) ev_nil)))) (numS (bits := 64) hs hl (by decide) (by decide) σ)
  have ret : ∀ {m1 : Loc} {a : Nat} {g : Loc → List Cell → RS}, m1 3 = some (nV a) → a ≠ 0 → sSeq (sIf (pBind (pVar 3) fun a => pBind (pC (V.int 0)) fun b => pOp fun σ => (gtV σ a b).bind boolV) (sSeq (sRet (pTup (pList [(pVar 3), (pNewList (pList []))]))) sNil) sNil) g m1 σ = .ret (.tup [nV a, .cell (σ ++ []).length]) ((σ ++ []) ++ [Cell.list []]) := fun {m1 a g} h3 hne => by
    rw [List.append_nil]
    exact k4 h3 hne
  have P := part_form l
  cases hN : rdN l with
  | short =>
    rw [hN] at P call
    cases hp : part l with
    | ok p r => rw [hp] at P; cases P
    | corr => rw [hp] at P; cases P
    | short => exact ⟨[], st_seq (m1 := upd (upd (upd m 3 (nV 1)) 4 (nV 0)) 2 (nV (D.length - l.length))) (st_unpack call rfl) (st_seq (st_if_f (ev_if_f (ev_num (a := 1) (ev_var (by walk_at "nv")) rfl) ev_C) st_nil) (ret (a := 1) (by walk_at "nv") (by decide)))⟩
  | corr =>
    rw [hN] at P call
    cases hp : part l with
    | ok p r => rw [hp] at P; cases P
    | short => rw [hp] at P; cases P
    | corr => exact ⟨[], st_seq (m1 := upd (upd (upd m 3 (nV 2)) 4 (nV 0)) 2 (nV (D.length - l.length))) (st_unpack call rfl) (st_seq (st_if_f (ev_if_f (ev_num (a := 2) (ev_var (by walk_at "nv")) rfl) ev_C) st_nil) (ret (a := 2) (by walk_at "nv") (by decide)))⟩
  | ok t r =>
    rw [hN] at P call
    obtain ⟨o1, _, _⟩ := rdN_ok hN
    have F := form_lts t
    have P : (part l).map prtV = match lts t with | none => .corr | some xs => (rds xs r).map (nV t :: ·) := P
    have un : sUnpack [3, 4, 2] (pCall φ__law_number [] (pList [(pVar 0), (pVar 2), (pC (V.int 10)), (pC (V.int 64))])) m σ = .next (upd (upd (upd m 3 (nV 0)) 4 (nV t)) 2 (nV (D.length - r.length))) σ := st_unpack call rfl
    generalize hM : upd (upd (upd m 3 (nV 0)) 4 (nV t)) 2 (nV (D.length - r.length)) = M at un
    have b0 : M 0 = some (.bytes D) := by rw [← hM]; walk_at "nv"
    have b0' : M 0 = m 0 := by rw [← hM]; rfl
    have b1' : M 1 = m 1 := by rw [← hM]; rfl
    have b2 : M 2 = some (nV (D.length - r.length)) := by rw [← hM]; walk_at "nv"
    have b3 : M 3 = some (nV 0) := by rw [← hM]; walk_at "nv"
    have b4 : M 4 = some (nV t) := by rw [← hM]; walk_at "nv"
    have nin : ∀ {y : Bool}, (formS t).isNone = y → (pBind (pVar 4) fun a => pOp fun σ => notInForm a) M σ = .ok y σ := fun {y} h => ev_bind (ev_var b4) (ev_op (by show some (formS t).isNone = _; rw [h]))
    cases hx : lts t with
    | none =>
      rw [hx] at P F
      have F : formS t = none := F
      cases hp : part l with
      | ok p r => rw [hp] at P; cases P
      | short => rw [hp] at P; cases P
      | corr => exact ⟨[], st_seq un (st_seq (st_if_t (ev_if_t (ev_num (a := 0) (ev_var b3) rfl) (ev_if_t (nin (by rw [F]; rfl)) ev_C)) (st_seq (st_set (ev_cc (a := 2))) st_nil)) (ret (a := 2) (m1 := upd M 3 (nV 2)) upd_same (by decide)))⟩
    | some xs =>
      rw [hx] at P F
      obtain ⟨x, F1, F2, F3⟩ := F
      have P : (part l).map prtV = (rds xs r).map (nV t :: ·) := P
      have hxl : xs.length ≤ 5 := lts_len hx
      have I := lts_loop (σb := σ) (D := D) xs r [nV t] (upd M 5 (.cell σ.length)) (by walk_at "nv") (by walk_at "nv") (by walk_at "nv") (hs.trans o1) hl (by simp; omega)
      have pre : ∀ {rs : RS} {g : Loc → List Cell → RS}, sSeq (sFor (stName 6) ltBody (fun _ => True) (xs.map fun x => .str x.s)) g (upd M 5 (.cell σ.length)) (σ ++ [.list [nV t]]) = rs → sSeq (sIf (pIf (pBind (pVar 3) fun a => pBind (pC (V.int 0)) fun b => pOp fun σ => (eqV σ a b).bind boolV) (pIf (pBind (pVar 4) fun a => pOp fun σ => notInForm a) (pC true) (pC false)) (pC false))
          (sSeq (sSet 3 (pC (V.int 2))) sNil) sNil) (sSeq (sIf (pBind (pVar 3) fun a => pBind (pC (V.int 0)) fun b => pOp fun σ => (gtV σ a b).bind boolV) (sSeq (sRet (pTup (pList [(pVar 3), (pNewList (pList []))]))) sNil) sNil)
          (sSeq (sSet 5 (pNewList (pList [(pVar 4)]))) (sSeq (sForE (stName 6) (pOver (pUn formV (pVar 4))) ltBody) g))) M σ = rs := fun {rs g} h => by
        refine st_seq (st_if_f (ev_if_t (ev_num (a := 0) (ev_var b3) rfl) (ev_if_f (nin (by rw [F1]; rfl)) ev_C)) st_nil) (st_seq (j4 b3) (st_seq (st_set (ev_newlist (ev_cons (ev_var b4) ev_nil) (by simp))) ?_))
        have hfor : sForE (stName 6) (pOver (pUn formV (pVar 4))) ltBody (upd M 5 (.cell σ.length)) (σ ++ [.list [nV t]]) = sFor (stName 6) ltBody (fun _ => True) (xs.map fun x => .str x.s) (upd M 5 (.cell σ.length)) (σ ++ [.list [nV t]]) := by
          rw [← F3]
          exact st_for (ev_over_str (ev_un (ev_var (v := nV t) (by walk_at "nv")) (by show (formS t).map V.str = _; rw [F1]; rfl)) F2) rfl
        unfold sSeq at h ⊢
        rw [hfor]
        exact h
      cases hr : rds xs r with
      | short =>
        rw [hr] at P I
        obtain ⟨tt, I⟩ := I
        cases hp : part l with
        | ok p r => rw [hp] at P; cases P
        | corr => rw [hp] at P; cases P
        | short => exact ⟨tt, st_seq un (pre (st_seq_ret I))⟩
      | corr =>
        rw [hr] at P I
        obtain ⟨tt, I⟩ := I
        cases hp : part l with
        | ok p r => rw [hp] at P; cases P
        | short => rw [hp] at P; cases P
        | corr => exact ⟨tt, st_seq un (pre (st_seq_ret I))⟩
      | ok us r' =>
        rw [hr] at P I
        obtain ⟨m', I, e2, e0, e1, e5, hs2⟩ := I
        cases hp : part l with
        | short => rw [hp] at P; cases P
        | corr => rw [hp] at P; cases P
        | ok p r2 =>
          rw [hp] at P
          have hpv : prtV p = nV t :: us := by injection P
          have hrr : r2 = r' := by injection P
          subst hrr
          dsimp only
          rw [hpv]
          have g1 : m' 1 = m 1 := e1.trans b1'
          refine ⟨m', st_seq un (pre (st_seq I (st_seq (st_expr (ev_meth (ev_var (g1.trans h1)) (appendK_list (app_at hk _)) (ev_cons (ev_var (v := .cell σ.length) e5) ev_nil) (append_list (app_at hk _) hv))) st_nil))), e0.trans b0', g1, e2⟩
end
set_option exponentiation.threshold 3000
open _root_.PySem
/-! the law's parse -/
noncomputable def prF : Pr → Nat
  | .ok _ => 0
  | .short => 1
  | .corr => 2
noncomputable def prP : Pr → List Part
  | .ok ps => ps
  | _ => []
noncomputable abbrev XP := List (Nat × Part)
noncomputable abbrev XP.vs (xs : XP) : List V := xs.map fun x => V.cell x.1
noncomputable def XP.at (xs : XP) (σ : List Cell) : Prop := ∀ x ∈ xs, σ[x.1]? = some (.list (prtV x.2))
noncomputable def pTst : Loc → List Cell → Res Bool := pBind (pVar 2) fun a => pBind (pCall (fn1 lenV) [] (pList [(pVar 0)])) fun b => pOp fun σ => (ltV σ a b).bind boolV
section
variable {D : Bs} {k : Nat}
theorem pl_loop {l : Bs} {res : Pr} (h : Parse l res) : ∀ (m : Loc) (σ : List Cell) (xs : XP), m 0 = some (.bytes D) → m 1 = some (.cell k) → m 2 = some (nV (D.length - l.length)) → Suf D l → D.length ≤ 1000 → σ[k]? = some (.list xs.vs) → xs.at σ → (∀ x ∈ xs, k < x.1) → xs.length + l.length ≤ 1000 →
    match res with
    | .ok ps => ∃ m' σ' ys, sWhile pTst pBody m σ = .next m' σ' ∧ m' 1 = some (.cell k) ∧ σ'[k]? = some (.list (XP.vs (xs ++ ys))) ∧ XP.at (xs ++ ys) σ' ∧ ys.map (·.2) = ps ∧ (∀ i, i < k → σ'[i]? = σ[i]?) ∧ (xs ++ ys).length ≤ 1000
    | .short => ∃ σ' j, sWhile pTst pBody m σ = .ret (.tup [nV 1, .cell j]) σ' ∧ σ'[j]? = some (.list []) ∧ (∀ i, i < k → σ'[i]? = σ[i]?)
    | .corr => ∃ σ' j, sWhile pTst pBody m σ = .ret (.tup [nV 2, .cell j]) σ' ∧ σ'[j]? = some (.list []) ∧ (∀ i, i < k → σ'[i]? = σ[i]?) := by
  have tst : ∀ {m : Loc} {σ : List Cell} {l : Bs} {y : Bool}, m 0 = some (.bytes D) → m 2 = some (nV (D.length - l.length)) → D.length ≤ 1000 → ltV σ (nV (D.length - l.length)) (nV D.length) = some (.bool y) → pTst m σ = .ok y σ := fun {m σ l y} h0 h2 hl hy =>
    ev_cmp (ev_var h2) (ev_lenb (ev_var h0) (by omega)) hy
  have low : ∀ {σ t : List Cell} {x : Cell}, σ[k]? = some x → ∀ i, i < k → (σ ++ t)[i]? = σ[i]? := fun {σ t x} hk i hi => by
    have := (List.getElem?_eq_some_iff.mp hk).1
    rw [List.getElem?_append_left (by omega)]
  induction h with
  | nil =>
    intro m σ xs h0 h1 h2 hs hl hk hx hkx hc
    refine ⟨m, σ, [], sWhile_step ?_ (by intro z; cases z), h1, by simpa using hk, by simpa using hx, rfl, fun _ _ => rfl, by simpa using hc⟩
    exact st_if_f (tst h0 h2 hl (ltV_f (by simp))) st_nil
  | @short l hne hp =>
    intro m σ xs h0 h1 h2 hs hl hk hx hkx hc
    have hpos : 0 < l.length := by cases l with | nil => exact absurd rfl hne | cons => simp
    have hle := hs.len
    have S := pl_turn h0 h1 h2 hs hl hk (by simp; omega)
    rw [hp] at S
    obtain ⟨t, S⟩ := S
    refine ⟨_, _, sWhile_step (st_if_t (tst h0 h2 hl (ltV_t (by omega))) (st_seq_ret S)) (by intro z; cases z), get_last _ _, fun i hi => ?_⟩
    rw [List.append_assoc]; exact low hk i hi
  | @corr l hne hp =>
    intro m σ xs h0 h1 h2 hs hl hk hx hkx hc
    have hpos : 0 < l.length := by cases l with | nil => exact absurd rfl hne | cons => simp
    have hle := hs.len
    have S := pl_turn h0 h1 h2 hs hl hk (by simp; omega)
    rw [hp] at S
    obtain ⟨t, S⟩ := S
    refine ⟨_, _, sWhile_step (st_if_t (tst h0 h2 hl (ltV_t (by omega))) (st_seq_ret S)) (by intro z; cases z), get_last _ _, fun i hi => ?_⟩
    rw [List.append_assoc]; exact low hk i hi
  | @cons l r p res hne hp h ih =>
    intro m σ xs h0 h1 h2 hs hl hk hx hkx hc
    have hpos : 0 < l.length := by cases l with | nil => exact absurd rfl hne | cons => simp
    have hle := hs.len
    have hkl := (List.getElem?_eq_some_iff.mp hk).1
    have S := pl_turn h0 h1 h2 hs hl hk (by simp; omega)
    rw [hp] at S
    obtain ⟨m1, S, e0, e1, e2⟩ := S
    obtain ⟨o1, o2, _⟩ := part_ok hp
    have keep : ∀ (i : Nat) (x : Cell), i ≠ k → σ[i]? = some x → ((σ ++ [Cell.list (prtV p)]).set k (Cell.list (xs.vs ++ [V.cell σ.length])))[i]? = some x := fun i x hi hx => by
      rw [List.getElem?_set_ne (Ne.symm hi)]
      exact app_at hx _
    have nw : ((σ ++ [Cell.list (prtV p)]).set k (Cell.list (xs.vs ++ [V.cell σ.length])))[σ.length]? = some (.list (prtV p)) := by
      rw [List.getElem?_set_ne (by omega)]
      exact get_last _ _
    have hk1 : ((σ ++ [Cell.list (prtV p)]).set k (Cell.list (xs.vs ++ [V.cell σ.length])))[k]? = some (.list (XP.vs (xs ++ [(σ.length, p)]))) := by
      rw [List.getElem?_set_self (by rw [List.length_append]; omega)]
      simp [XP.vs]
    have at1 : XP.at (xs ++ [(σ.length, p)]) ((σ ++ [Cell.list (prtV p)]).set k (Cell.list (xs.vs ++ [V.cell σ.length]))) := fun x hm => by
      rcases List.mem_append.mp hm with hm | hm
      · exact keep _ _ (by have := hkx x hm; omega) (hx x hm)
      · have e : x = (σ.length, p) := by simpa using hm
        subst e
        exact nw
    have lo1 : ∀ i, i < k → ((σ ++ [Cell.list (prtV p)]).set k (Cell.list (xs.vs ++ [V.cell σ.length])))[i]? = σ[i]? := fun i hi => by
      rw [List.getElem?_set_ne (by omega)]
      exact low hk i hi
    generalize (σ ++ [Cell.list (prtV p)]).set k (Cell.list (xs.vs ++ [V.cell σ.length])) = σ1 at S hk1 at1 lo1
    have I := ih m1 σ1 (xs ++ [(σ.length, p)]) (e0.trans h0) (e1.trans h1) e2 (hs.trans o1) hl hk1 at1 (fun x hm => by
      rcases List.mem_append.mp hm with hm | hm
      · exact hkx x hm
      · have e : x = (σ.length, p) := by simpa using hm
        subst e
        exact hkl) (by simp; omega)
    have go : ∀ {rs : RS}, sWhile pTst pBody m1 σ1 = rs → rs ≠ .bad → sWhile pTst pBody m σ = rs := fun {rs} hI hb => sWhile_step (st_if_t (tst h0 h2 hl (ltV_t (by omega))) (st_seq S hI)) hb
    cases res with
    | ok ps =>
      obtain ⟨m2, σ2, ys, I, g1, g2, g3, g4, g5, g6⟩ := I
      rw [List.append_assoc] at g2 g3 g6
      exact ⟨m2, σ2, (σ.length, p) :: ys, go I (by intro z; cases z), g1, g2, g3, by rw [List.map_cons, g4], fun i hi => (g5 i hi).trans (lo1 i hi), g6⟩
    | short =>
      obtain ⟨σ2, j, I, g1, g2⟩ := I
      exact ⟨σ2, j, go I (by intro z; cases z), g1, fun i hi => (g2 i hi).trans (lo1 i hi)⟩
    | corr =>
      obtain ⟨σ2, j, I, g1, g2⟩ := I
      exact ⟨σ2, j, go I (by intro z; cases z), g1, fun i hi => (g2 i hi).trans (lo1 i hi)⟩
end
noncomputable def Ext (σ σ' : List Cell) : Prop := ∀ i, i < σ.length → σ'[i]? = σ[i]?
theorem Ext.at {σ σ' : List Cell} (h : Ext σ σ') {i : Nat} {c : Cell} (hc : σ[i]? = some c) : σ'[i]? = some c := by
  rw [h i (List.getElem?_eq_some_iff.mp hc).1]; exact hc
theorem Ext.app (σ t : List Cell) : Ext σ (σ ++ t) := fun i hi => List.getElem?_append_left hi
theorem Ext.trans {a b c : List Cell} (x : Ext a b) (y : Ext b c) : Ext a c := fun i hi => by
  have h := x i hi
  rw [List.getElem?_eq_getElem hi] at h
  rw [y.at h, List.getElem?_eq_getElem hi]
theorem lparts_spec {D : Bs} {res : Pr} (h : Parse D res) (hl : D.length ≤ 1000) (σ : List Cell) : ∃ σ' j xs, φ__law_parts σ [.bytes D] = .ok (.tup [nV (prF res), .cell j]) σ' ∧ σ'[j]? = some (.list (XP.vs xs)) ∧ XP.at xs σ' ∧ xs.map (·.2) = prP res ∧ Ext σ σ' ∧ xs.length ≤ 1000 := by
  show ∃ σ' j xs, bodyOf F__law_parts (fun i => [V.bytes D][i]?) σ = _ ∧ _
  have I := pl_loop (D := D) (k := σ.length) h (upd (upd (fun i => [V.bytes D][i]?) 1 (.cell σ.length)) 2 (nV (D.length - D.length))) (σ ++ [.list []]) [] (by walk_at "nv") (by walk_at "nv") (by walk_at "nv") (Suf.refl D) hl (get_last _ _) (fun x hm => by cases hm) (fun x hm => by cases hm) (by simpa using hl)
  have z : D.length - D.length = 0 := by omega
  rw [z] at I
  have pre : ∀ {g : Loc → List Cell → RS} {rs : RS}, g (upd (upd (fun i => [V.bytes D][i]?) 1 (.cell σ.length)) 2 (nV 0)) (σ ++ [.list []]) = rs → sSeq (sSet 1 (pNewList (pList []))) (sSeq (sSet 2 (pC (V.int 0))) g) (fun i => [V.bytes D][i]?) σ = rs := fun {g rs} hg =>
    st_seq (st_set (ev_newlist ev_nil (by simp))) (st_seq (st_set ev_cc) hg)
  have ext : ∀ {σ' : List Cell}, (∀ i, i < σ.length → σ'[i]? = (σ ++ [Cell.list []])[i]?) → Ext σ σ' := fun {σ'} h i hi => by
    rw [h i hi, List.getElem?_append_left hi]
  have eq : ∀ {v : V} {σ' : List Cell}, sSeq (sSet 1 (pNewList (pList []))) (sSeq (sSet 2 (pC (V.int 0))) (sSeq (sWhile pTst pBody) (sSeq (sRet (pTup (pList [(pC (V.int 0)), (pVar 1)]))) sNil))) (fun i => [V.bytes D][i]?) σ = .ret v σ' → bodyOf F__law_parts (fun i => [V.bytes D][i]?) σ = .ok v σ' := fun {v σ'} h => body_ret h
  cases res with
  | ok ps =>
    obtain ⟨m', σ', ys, I, g1, g2, g3, g4, g5, g6⟩ := I
    exact ⟨σ', σ.length, ys, eq (pre (st_seq I (st_seq_ret (st_ret (ev_tup (ev_cons (ev_cc (a := 0)) (ev_cons (ev_var g1) ev_nil)) (by simp)))))), g2, g3, g4, ext g5, g6⟩
  | short =>
    obtain ⟨σ', j, I, g1, g2⟩ := I
    exact ⟨σ', j, [], eq (pre (st_seq_ret I)), g1, (fun x hm => by cases hm), rfl, ext g2, by simp⟩
  | corr =>
    obtain ⟨σ', j, I, g1, g2⟩ := I
    exact ⟨σ', j, [], eq (pre (st_seq_ret I)), g1, (fun x hm => by cases hm), rfl, ext g2, by simp⟩
set_option exponentiation.threshold 3000
open _root_.PySem
/-! the law's row -/
noncomputable def tagOf : Part → Nat
  | .comp _ => 1
  | .log _ => 2
  | .nxt _ => 3
  | .seq _ => 4
  | .ptr _ _ => 5
  | .del _ _ => 6
  | .add _ _ _ _ _ => 7
  | .rst => 10
noncomputable def pv (p : Part) (i : Nat) : V := (prtV p).getD i .none
noncomputable def sel (t : Nat) (ps : List Part) : List Part := ps.filter fun p => decide (tagOf p = t)
theorem sel1 : ∀ ps, (sel 1 ps).map (pv · 1) = (ps.filterMap Part.comp?).map V.bytes
  | [] => rfl
  | p :: ps => by have ih := sel1 ps; cases p <;> first | exact ih | exact congrArg (List.cons _) ih
theorem sel2 : ∀ ps, (sel 2 ps).map (pv · 1) = (ps.filterMap Part.log?).map nV
  | [] => rfl
  | p :: ps => by have ih := sel2 ps; cases p <;> first | exact ih | exact congrArg (List.cons _) ih
theorem sel3 : ∀ ps, (sel 3 ps).map (pv · 1) = (ps.filterMap Part.nxt?).map nV
  | [] => rfl
  | p :: ps => by have ih := sel3 ps; cases p <;> first | exact ih | exact congrArg (List.cons _) ih
theorem sel4 : ∀ ps, (sel 4 ps).map (pv · 1) = (ps.filterMap Part.seq?).map nV
  | [] => rfl
  | p :: ps => by have ih := sel4 ps; cases p <;> first | exact ih | exact congrArg (List.cons _) ih
theorem sel5 : ∀ ps, (sel 5 ps).map (fun p => V.tup [pv p 1, pv p 2]) = (ps.filterMap Part.ptr?).map ptrV
  | [] => rfl
  | p :: ps => by have ih := sel5 ps; cases p <;> first | exact ih | exact congrArg (List.cons _) ih
theorem sel6 : ∀ ps, (sel 6 ps).map (fun p => V.tup [pv p 1, pv p 2]) = (ps.filterMap Part.del?).map delV
  | [] => rfl
  | p :: ps => by have ih := sel6 ps; cases p <;> first | exact ih | exact congrArg (List.cons _) ih
theorem sel7 : ∀ ps, (sel 7 ps).map (fun p => V.tup [pv p 1, .tup [pv p 2, pv p 3, pv p 4, pv p 5]]) = (ps.filterMap Part.add?).map addRowV
  | [] => rfl
  | p :: ps => by have ih := sel7 ps; cases p <;> first | exact ih | exact congrArg (List.cons _) ih
theorem sel10 : ∀ ps, decide (0 < (sel 10 ps).length) = ps.any Part.rst?
  | [] => rfl
  | p :: ps => by
    have ih := sel10 ps
    cases p with
    | rst => show decide (0 < (sel 10 ps).length + 1) = true; simp
    | _ => exact ih
noncomputable def lastW (ps : List Part) (t : Nat) : V := (((sel t ps).map (pv · 1)).getLast?).getD .none
theorem lastB (l : List Bs) : ((l.map V.bytes).getLast?).getD .none = oB l.getLast? := by
  rw [List.getLast?_map]; cases l.getLast? <;> rfl
theorem lastN (l : List Nat) : ((l.map nV).getLast?).getD .none = oN l.getLast? := by
  rw [List.getLast?_map]; cases l.getLast? <;> rfl
section
variable {m : Loc} {σ : List Cell} {j s : Nat} {xs : XP}
theorem ev_itp {js : List Nat} {c i : Nat} {p : Part} {v : V} (hc : σ[c]? = some (.list (prtV p))) (hi : i < 1000000) (hv : (prtV p)[i]? = some v) : pBin itemV (pVar 0) (pC (nV i)) (locC js m (.cell c)) σ = .ok v σ :=
  ev_bin (ev_var (v := .cell c) rfl) ev_C (itemV_cell hc hi hv)
theorem ev_tag {js : List Nat} {c : Nat} {p : Part} (hc : σ[c]? = some (.list (prtV p))) : pBin itemV (pVar 0) (pC (V.int 0)) (locC js m (.cell c)) σ = .ok (nV (tagOf p)) σ :=
  ev_itp (i := 0) hc (by decide) (by cases p <;> rfl)
theorem dec_int (a b : Nat) : ((a : Int) == (b : Int)) = decide (a = b) := by
  by_cases h : a = b
  · subst h; simp
  · rw [decide_eq_false h]; simp; omega
theorem row_comp {js : List Nat} {ft : Loc → List Cell → Res Bool} {fe : Loc → List Cell → Res V} (t : Nat) (e : Nat × Part → V) (h0 : m 0 = some (.cell j)) (hj : σ[j]? = some (.list (XP.vs xs))) (hl : xs.length ≤ 1000)
    (ht : ∀ x ∈ xs, ft (locC js m (.cell x.1)) σ = .ok (decide (tagOf x.2 = t)) σ) (he : ∀ x ∈ xs, tagOf x.2 = t → fe (locC js m (.cell x.1)) σ = .ok (e x) σ) :
    pComp (pOver (pVar 0)) js ft fe m σ = .ok (.cell σ.length) (σ ++ [.list ((xs.filter fun x => decide (tagOf x.2 = t)).map e)]) :=
  ev_comp (fun x : Nat × Part => V.cell x.1) (fun x => decide (tagOf x.2 = t)) e (ev_over_cell (ev_var h0) hj) hj (fun x hx => ⟨ht x hx, fun h => he x hx (of_decide_eq_true h)⟩) (by omega)
theorem sel_xs (t : Nat) (e : Part → V) : (xs.filter fun x => decide (tagOf x.2 = t)).map (fun x => e x.2) = (sel t (xs.map (·.2))).map e := by
  unfold sel
  rw [List.filter_map, List.map_map]
  rfl
theorem ev_const {js : List Nat} {t c : Nat} {p : Part} (hc : σ[c]? = some (.list (prtV p))) : (pBind (pBin itemV (pVar 0) (pC (V.int 0))) fun a => pBind (pC (nV t)) fun b => pOp fun σ => (eqV σ a b).bind boolV) (locC js m (.cell c)) σ = .ok (decide (tagOf p = t)) σ :=
  ev_num (a := tagOf p) (ev_tag hc) (dec_int _ _)
noncomputable def sdBody : Loc → List Cell → RS := (sSeq (sSet 3 (pComp (pOver (pVar 0)) [2] (pBind (pBin itemV (pVar 0) (pC (V.int 0))) fun a => pBind (pVar 1) fun b => pOp fun σ => (eqV σ a b).bind boolV) (pBin itemV (pVar 0) (pC (V.int 1)))))
  (sSeq (sExpr (pMeth appendK (pVar 1) (pList [(pIf (pBind (pCall (fn1 lenV) [] (pList [(pVar 3)])) fun a => pBind (pC (V.int 0)) fun b => pOp fun σ => (gtV σ a b).bind boolV) (pBin itemV (pVar 3) (pUn negV (pC (V.int 1)))) (pC V.none))])))
  sNil))
theorem ev_last {W : List V} {n : Nat} (h3 : m 3 = some (.cell n)) (hn : σ[n]? = some (.list W)) (hl : W.length ≤ 1000) :
    pIf (pBind (pCall (fn1 lenV) [] (pList [(pVar 3)])) fun a => pBind (pC (V.int 0)) fun b => pOp fun σ => (gtV σ a b).bind boolV) (pBin itemV (pVar 3) (pUn negV (pC (V.int 1)))) (pC V.none) m σ = .ok (W.getLast?.getD .none) σ := by
  have tl : pCall (fn1 lenV) [] (pList [(pVar 3)]) m σ = .ok (nV W.length) σ := ev_call (ev_cons (ev_var h3) ev_nil) (fn1_ok (lenV_cell hn (by omega)))
  by_cases hz : W.length = 0
  · have e : W = [] := List.length_eq_zero_iff.mp hz
    subst e
    exact ev_if_f (ev_cmp tl ev_C (gtV_f (by simp))) ev_C
  · refine ev_if_t (ev_cmp tl ev_C (gtV_t (by omega))) (ev_bin (a := .cell n) (b := .int (-1)) (ev_var h3) (ev_un ev_C rfl) ?_)
    show (match σ[n]? with | some (.list vs) => _ | _ => _) = _
    rw [hn]
    show (if (0 : Int) ≤ -1 then _ else if -(W.length : Int) ≤ -1 ∧ (-1000000 : Int) ≤ -1 then W[(-1 + (W.length : Int)).toNat]? else none) = _
    rw [if_neg (by decide), if_pos ⟨by omega, by decide⟩]
    have e : (-1 + (W.length : Int)).toNat = W.length - 1 := by omega
    rw [e, ← List.getLast?_eq_getElem?]
    cases hW : W.getLast? with
    | some v => rfl
    | none => rw [List.getLast?_eq_none_iff] at hW; subst hW; exact absurd rfl hz
theorem said_one {t : Nat} {acc : List V} (h0 : m 0 = some (.cell j)) (h1 : m 1 = some (.cell s)) (h2 : m 2 = some (nV t)) (hj : σ[j]? = some (.list (XP.vs xs))) (hx : xs.at σ) (hl : xs.length ≤ 1000) (hs : σ[s]? = some (.list acc)) (ha : acc.length ≤ 1000) (ht : 1 ≤ t ∧ t ≤ 4) :
    sdBody m σ = RS.next (upd m 3 (V.cell σ.length)) ((σ ++ [Cell.list ((sel t (xs.map (·.2))).map (pv · 1))]).set s (Cell.list (acc ++ [lastW (xs.map (·.2)) t]))) := by
  unfold sdBody
  have hc := row_comp (m := m) (σ := σ) (js := [2]) (ft := (pBind (pBin itemV (pVar 0) (pC (V.int 0))) fun a => pBind (pVar 1) fun b => pOp fun σ => (eqV σ a b).bind boolV)) (fe := (pBin itemV (pVar 0) (pC (V.int 1)))) t (fun x => pv x.2 1) h0 hj hl
    (fun x hm => ev_cmp (ev_tag (hx x hm)) (ev_var (v := nV t) h2) (by show some (V.bool ((tagOf x.2 : Int) == (t : Int))) = _; rw [dec_int]))
    (fun x hm e => ev_itp (i := 1) (hx x hm) (by decide) (by
      rcases x with ⟨c, p⟩
      dsimp only at e ⊢
      cases p <;> first | rfl | (exfalso; simp only [tagOf] at e; omega)))
  rw [sel_xs t (pv · 1)] at hc
  have hwl : ((sel t (xs.map (·.2))).map (pv · 1)).length ≤ 1000 := by
    have := List.length_filter_le (fun p => decide (tagOf p = t)) (xs.map (·.2))
    rw [List.length_map] at this
    rw [List.length_map]
    exact Nat.le_trans this hl
  exact st_seq (st_set hc) (st_seq (st_expr (ev_meth (ev_var (v := .cell s) (by walk_at "nv")) (appendK_list (app_at hs _)) (ev_cons (ev_last (by walk_at "nv") (get_last _ _) hwl) ev_nil) (append_list (app_at hs _) (by omega)))) st_nil)
end
theorem said_loop {j s : Nat} {xs : XP} (hl : xs.length ≤ 1000) (hjs : j ≠ s) (hxs : ∀ x ∈ xs, x.1 ≠ s) : ∀ (ts : List Nat) (m : Loc) (σ : List Cell) (acc : List V), m 0 = some (.cell j) → m 1 = some (.cell s) → σ[j]? = some (.list (XP.vs xs)) → xs.at σ → σ[s]? = some (.list acc) → acc.length + ts.length ≤ 1000 → (∀ t ∈ ts, 1 ≤ t ∧ t ≤ 4) →
    ∃ m' σ', sFor (stName 2) sdBody (fun _ => True) (ts.map nV) m σ = .next m' σ' ∧ m' 0 = m 0 ∧ m' 1 = m 1 ∧ σ'[s]? = some (.list (acc ++ ts.map (lastW (xs.map (·.2))))) ∧ (∀ i c, i ≠ s → σ[i]? = some c → σ'[i]? = some c)
  | [], m, σ, acc, h0, h1, hj, hx, hs, ha, ht => ⟨m, σ, rfl, rfl, rfl, by simpa using hs, fun _ _ _ h => h⟩
  | t :: ts, m, σ, acc, h0, h1, hj, hx, hs, ha, ht => by
    simp only [List.length_cons] at ha
    have S := said_one (m := upd m 2 (nV t)) (σ := σ) (j := j) (s := s) (xs := xs) (acc := acc) (t := t) (by walk_at "nv") (by walk_at "nv") (by walk_at "nv") hj hx hl hs (by omega) (ht t (List.mem_cons_self ..))
    have keep : ∀ (i : Nat) (c : Cell), i ≠ s → σ[i]? = some c → ((σ ++ [Cell.list ((sel t (xs.map (·.2))).map (pv · 1))]).set s (.list (acc ++ [lastW (xs.map (·.2)) t])))[i]? = some c := fun i c hi hc => by
      rw [List.getElem?_set_ne (Ne.symm hi)]; exact app_at hc _
    have hs1 : ((σ ++ [Cell.list ((sel t (xs.map (·.2))).map (pv · 1))]).set s (.list (acc ++ [lastW (xs.map (·.2)) t])))[s]? = some (.list (acc ++ [lastW (xs.map (·.2)) t])) := by
      have := (List.getElem?_eq_some_iff.mp hs).1
      rw [List.getElem?_set_self (by rw [List.length_append]; omega)]
    generalize (σ ++ [Cell.list ((sel t (xs.map (·.2))).map (pv · 1))]).set s (.list (acc ++ [lastW (xs.map (·.2)) t])) = σ1 at S keep hs1
    obtain ⟨m', σ', I, e0, e1, e2, e3⟩ := said_loop hl hjs hxs ts (upd (upd m 2 (nV t)) 3 (.cell σ.length)) σ1 (acc ++ [lastW (xs.map (·.2)) t]) (by walk_at "nv") (by walk_at "nv") (keep _ _ hjs hj) (fun x hm => keep _ _ (hxs x hm) (hx x hm)) hs1 (by simp; omega) (fun t h => ht t (List.mem_cons_of_mem _ h))
    refine ⟨m', σ', for_cons rfl S trivial I, e0, e1, ?_, fun i c hi hc => e3 i c hi (keep i c hi hc)⟩
    rw [e2]; simp
set_option exponentiation.threshold 3000
open _root_.PySem
/-! the law's row and both -/
section
variable {m : Loc} {σ : List Cell} {j : Nat} {xs : XP}
theorem sel_le (t : Nat) : (sel t (xs.map (·.2))).length ≤ xs.length := by
  have := List.length_filter_le (fun p => decide (tagOf p = t)) (xs.map (·.2))
  rw [List.length_map] at this
  exact this
theorem get5 {i : Nat} (hi : i ≤ 2) : ∀ q, tagOf q = 5 → (prtV q)[i]? = some (pv q i) := fun q h => by
  have : i = 0 ∨ i = 1 ∨ i = 2 := by omega
  cases q <;> first | (rcases this with rfl | rfl | rfl <;> rfl) | (exfalso; simp only [tagOf] at h; omega)
theorem get6 {i : Nat} (hi : i ≤ 2) : ∀ q, tagOf q = 6 → (prtV q)[i]? = some (pv q i) := fun q h => by
  have : i = 0 ∨ i = 1 ∨ i = 2 := by omega
  cases q <;> first | (rcases this with rfl | rfl | rfl <;> rfl) | (exfalso; simp only [tagOf] at h; omega)
theorem get7 {i : Nat} (hi : i ≤ 5) : ∀ q, tagOf q = 7 → (prtV q)[i]? = some (pv q i) := fun q h => by
  have : i = 0 ∨ i = 1 ∨ i = 2 ∨ i = 3 ∨ i = 4 ∨ i = 5 := by omega
  cases q <;> first | (rcases this with rfl | rfl | rfl | rfl | rfl | rfl <;> rfl) | (exfalso; simp only [tagOf] at h; omega)
theorem lrow_spec (hj : σ[j]? = some (.list (XP.vs xs))) (hx : xs.at σ) (hl : xs.length ≤ 1000) : ∃ σ', φ__law_row σ [.cell j] = .ok (rowV (rowOf (xs.map (·.2)))) σ' ∧ Ext σ σ' := by
  show ∃ σ', bodyOf F__law_row (fun i => [V.cell j][i]?) σ = _ ∧ _
  have hjl := (List.getElem?_eq_some_iff.mp hj).1
  obtain ⟨m1, σ1, I, e0, e1, e2, e3⟩ := said_loop (j := j) (s := σ.length) hl (by omega) (fun x hm => by have := (List.getElem?_eq_some_iff.mp (hx x hm)).1; omega) [1, 2, 3, 4] (upd (fun i => [V.cell j][i]?) 1 (.cell σ.length)) (σ ++ [.list []]) [] (by walk_at "nv") (by walk_at "nv") (app_at hj _) (fun x hm => app_at (hx x hm) _) (get_last _ _) (by simp) (by simp)
  have e0 : m1 0 = some (.cell j) := e0.trans rfl
  have e1 : m1 1 = some (.cell σ.length) := e1.trans rfl
  have j1 := e3 j _ (by omega) (app_at hj [Cell.list []])
  have x1 : xs.at σ1 := fun x hm => e3 x.1 _ (by have := (List.getElem?_eq_some_iff.mp (hx x hm)).1; omega) (app_at (hx x hm) [Cell.list []])
  have ex1 : Ext σ σ1 := fun i hi => by
    rw [List.getElem?_eq_getElem hi]
    exact e3 i _ (by omega) (app_at (List.getElem?_eq_getElem hi) [Cell.list []])
  have hsel : ∀ t, (sel t (xs.map (·.2))).length ≤ 1000 := fun t => Nat.le_trans (sel_le t) hl
  have J : ∀ t : List Cell, (σ1 ++ t)[j]? = some (.list (XP.vs xs)) := fun t => app_at j1 t
  have X : ∀ t : List Cell, xs.at (σ1 ++ t) := fun t x hm => app_at (x1 x hm) t
  -- the four gatherings
  have c5 := row_comp (m := m1) (σ := σ1) (js := []) (ft := (pBind (pBin itemV (pVar 0) (pC (V.int 0))) fun a => pBind (pC (V.int 5)) fun b => pOp fun σ => (eqV σ a b).bind boolV)) (fe := pTup (pList [(pBin itemV (pVar 0) (pC (V.int 1))), (pBin itemV (pVar 0) (pC (V.int 2)))])) 5 (fun x => V.tup [pv x.2 1, pv x.2 2]) e0 j1 hl
    (fun x hm => ev_const (t := 5) (x1 x hm)) (fun x hm e => ev_tup (ev_cons (ev_itp (i := 1) (x1 x hm) (by decide) (get5 (by decide) _ e)) (ev_cons (ev_itp (i := 2) (x1 x hm) (by decide) (get5 (by decide) _ e)) ev_nil)) (by simp))
  rw [sel_xs 5 (fun p => V.tup [pv p 1, pv p 2]), sel5] at c5
  have c6 := fun (t : List Cell) (m : Loc) (h0 : m 0 = some (.cell j)) => row_comp (m := m) (σ := σ1 ++ t) (js := []) (ft := (pBind (pBin itemV (pVar 0) (pC (V.int 0))) fun a => pBind (pC (V.int 6)) fun b => pOp fun σ => (eqV σ a b).bind boolV)) (fe := pTup (pList [(pBin itemV (pVar 0) (pC (V.int 1))), (pBin itemV (pVar 0) (pC (V.int 2)))])) 6 (fun x => V.tup [pv x.2 1, pv x.2 2]) h0 (J t) hl
    (fun x hm => ev_const (t := 6) (X t x hm)) (fun x hm e => ev_tup (ev_cons (ev_itp (i := 1) (X t x hm) (by decide) (get6 (by decide) _ e)) (ev_cons (ev_itp (i := 2) (X t x hm) (by decide) (get6 (by decide) _ e)) ev_nil)) (by simp))
  rw [sel_xs 6 (fun p => V.tup [pv p 1, pv p 2]), sel6] at c6
  have c7 := fun (t : List Cell) (m : Loc) (h0 : m 0 = some (.cell j)) => row_comp (m := m) (σ := σ1 ++ t) (js := []) (ft := (pBind (pBin itemV (pVar 0) (pC (V.int 0))) fun a => pBind (pC (V.int 7)) fun b => pOp fun σ => (eqV σ a b).bind boolV))
    (fe := pTup (pList [(pBin itemV (pVar 0) (pC (V.int 1))), (pTup (pList [(pBin itemV (pVar 0) (pC (V.int 2))), (pBin itemV (pVar 0) (pC (V.int 3))), (pBin itemV (pVar 0) (pC (V.int 4))), (pBin itemV (pVar 0) (pC (V.int 5)))]))])) 7 (fun x => V.tup [pv x.2 1, .tup [pv x.2 2, pv x.2 3, pv x.2 4, pv x.2 5]]) h0 (J t) hl
    (fun x hm => ev_const (t := 7) (X t x hm)) (fun x hm e => ev_tup (ev_cons (ev_itp (i := 1) (X t x hm) (by decide) (get7 (by decide) _ e)) (ev_cons (ev_tup (ev_cons (ev_itp (i := 2) (X t x hm) (by decide) (get7 (by decide) _ e)) (ev_cons (ev_itp (i := 3) (X t x hm) (by decide) (get7 (by decide) _ e)) (ev_cons (ev_itp (i := 4) (X t x hm) (by decide) (get7 (by decide) _ e)) (ev_cons (ev_itp (i := 5) (X t x hm) (by decide) (get7 (by decide) _ e)) ev_nil)))) (by simp)) ev_nil)) (by simp))
  rw [sel_xs 7 (fun p => V.tup [pv p 1, .tup [pv p 2, pv p 3, pv p 4, pv p 5]]), sel7] at c7
  have c10 := fun (t : List Cell) (m : Loc) (h0 : m 0 = some (.cell j)) => row_comp (m := m) (σ := σ1 ++ t) (js := []) (ft := (pBind (pBin itemV (pVar 0) (pC (V.int 0))) fun a => pBind (pC (V.int 10)) fun b => pOp fun σ => (eqV σ a b).bind boolV)) (fe := pVar 0) 10 (fun x => V.cell x.1) h0 (J t) hl
    (fun x hm => ev_const (t := 10) (X t x hm)) (fun x hm e => ev_var rfl)
  have h10 : ((xs.filter fun x => decide (tagOf x.2 = 10)).map fun x => V.cell x.1).length = (sel 10 (xs.map (·.2))).length := by
    unfold sel
    rw [List.filter_map, List.length_map, List.length_map]
    rfl
  have l5 : ((xs.map (·.2)).filterMap Part.ptr?).length ≤ 1000 := by have := congrArg List.length (sel5 (xs.map (·.2))); rw [List.length_map, List.length_map] at this; have := hsel 5; omega
  have l6 : ((xs.map (·.2)).filterMap Part.del?).length ≤ 1000 := by have := congrArg List.length (sel6 (xs.map (·.2))); rw [List.length_map, List.length_map] at this; have := hsel 6; omega
  have l7 : ((xs.map (·.2)).filterMap Part.add?).length ≤ 1000 := by have := congrArg List.length (sel7 (xs.map (·.2))); rw [List.length_map, List.length_map] at this; have := hsel 7; omega
  have s10 := hsel 10
  have hany := sel10 (xs.map (·.2))
  generalize hW10 : ((xs.filter fun x => decide (tagOf x.2 = 10)).map fun x => V.cell x.1) = W10 at c10 h10
  have hrow : rowV (rowOf (xs.map (·.2))) = .tup [oB (rowOf (xs.map (·.2))).comp, oN (rowOf (xs.map (·.2))).log, oN (rowOf (xs.map (·.2))).nxt, oN (rowOf (xs.map (·.2))).seq, .tup (((xs.map (·.2)).filterMap Part.ptr?).map ptrV), .tup (((xs.map (·.2)).filterMap Part.del?).map delV), .tup (((xs.map (·.2)).filterMap Part.add?).map addRowV), .bool ((xs.map (·.2)).any Part.rst?)] := rfl
  have w1 : lastW (xs.map (·.2)) 1 = oB (rowOf (xs.map (·.2))).comp := by unfold lastW; rw [sel1]; exact lastB _
  have w2 : lastW (xs.map (·.2)) 2 = oN (rowOf (xs.map (·.2))).log := by unfold lastW; rw [sel2]; exact lastN _
  have w3 : lastW (xs.map (·.2)) 3 = oN (rowOf (xs.map (·.2))).nxt := by unfold lastW; rw [sel3]; exact lastN _
  have w4 : lastW (xs.map (·.2)) 4 = oN (rowOf (xs.map (·.2))).seq := by unfold lastW; rw [sel4]; exact lastN _
  have e2 : σ1[σ.length]? = some (.list [lastW (xs.map (·.2)) 1, lastW (xs.map (·.2)) 2, lastW (xs.map (·.2)) 3, lastW (xs.map (·.2)) 4]) := e2
  rw [w1, w2, w3, w4] at e2
  rw [hrow]
  generalize oB (rowOf (xs.map (·.2))).comp = r1 at *
  generalize oN (rowOf (xs.map (·.2))).log = r2 at *
  generalize oN (rowOf (xs.map (·.2))).nxt = r3 at *
  generalize oN (rowOf (xs.map (·.2))).seq = r4 at *
  generalize ((xs.map (·.2)).filterMap Part.ptr?) = P5 at *
  generalize ((xs.map (·.2)).filterMap Part.del?) = P6 at *
  generalize ((xs.map (·.2)).filterMap Part.add?) = P7 at *
  generalize ((xs.map (·.2)).any Part.rst?) = a8 at *
  have hgt : gtV (σ1 ++ [Cell.list (P5.map ptrV)] ++ [Cell.list (P6.map delV)] ++ [Cell.list (P7.map addRowV)] ++ [Cell.list W10]) (nV W10.length) (.int 0) = some (.bool a8) := by
    rw [← hany, h10]
    by_cases hz : 0 < (sel 10 (xs.map (·.2))).length
    · rw [gtV_t (by omega), decide_eq_true hz]
    · rw [gtV_f (by omega), decide_eq_false hz]
  have q : ∀ {m : Loc} {i : Nat} {v : V} {t : List Cell}, m 1 = some (.cell σ.length) → ([r1, r2, r3, r4] : List V)[i]? = some v → i < 1000000 → pBin itemV (pVar 1) (pC (nV i)) m (σ1 ++ t) = .ok v (σ1 ++ t) := fun {m i v t} h1 hv hi => ev_bin (ev_var h1) ev_C (itemV_cell (app_at e2 t) hi hv)
  refine ⟨σ1 ++ [Cell.list (P5.map ptrV)] ++ [Cell.list (P6.map delV)] ++ [Cell.list (P7.map addRowV)] ++ [Cell.list W10], ?_, ex1.trans (by simp only [List.append_assoc]; exact Ext.app _ _)⟩
  unfold F__law_row
  refine body_ret (st_seq (st_set (ev_newlist ev_nil (by simp))) (st_seq (st_for (ev_range (y := 1) (n := 4) (ev_cons ev_C (ev_cons ev_C ev_nil)) rfl) I) (st_seq (st_set c5) ?_)))
  have c6 := c6 [Cell.list (P5.map ptrV)] (upd m1 4 (.cell σ1.length)) (by walk_at "nv")
  have c7 := c7 ([Cell.list (P5.map ptrV)] ++ [Cell.list (P6.map delV)]) (upd (upd m1 4 (.cell σ1.length)) 5 (.cell (σ1 ++ [Cell.list (P5.map ptrV)]).length)) (by walk_at "nv")
  have c10 := c10 ([Cell.list (P5.map ptrV)] ++ [Cell.list (P6.map delV)] ++ [Cell.list (P7.map addRowV)]) (upd (upd (upd m1 4 (.cell σ1.length)) 5 (.cell (σ1 ++ [Cell.list (P5.map ptrV)]).length)) 6 (.cell (σ1 ++ [Cell.list (P5.map ptrV)] ++ [Cell.list (P6.map delV)]).length)) (by walk_at "nv")
  simp only [← List.append_assoc] at c6 c7 c10
  have i5 : (σ1 ++ [Cell.list (P5.map ptrV)] ++ [Cell.list (P6.map delV)] ++ [Cell.list (P7.map addRowV)] ++ [Cell.list W10])[σ1.length]? = some (.list (P5.map ptrV)) := app_at (app_at (app_at (get_last _ _) _) _) _
  have i6 : (σ1 ++ [Cell.list (P5.map ptrV)] ++ [Cell.list (P6.map delV)] ++ [Cell.list (P7.map addRowV)] ++ [Cell.list W10])[(σ1 ++ [Cell.list (P5.map ptrV)]).length]? = some (.list (P6.map delV)) := app_at (app_at (get_last _ _) _) _
  have i7 : (σ1 ++ [Cell.list (P5.map ptrV)] ++ [Cell.list (P6.map delV)] ++ [Cell.list (P7.map addRowV)] ++ [Cell.list W10])[(σ1 ++ [Cell.list (P5.map ptrV)] ++ [Cell.list (P6.map delV)]).length]? = some (.list (P7.map addRowV)) := app_at (get_last _ _) _
  have Q : ∀ {m : Loc} {i : Nat} {v : V}, m 1 = some (.cell σ.length) → ([r1, r2, r3, r4] : List V)[i]? = some v → i < 1000000 → pBin itemV (pVar 1) (pC (nV i)) m (σ1 ++ [Cell.list (P5.map ptrV)] ++ [Cell.list (P6.map delV)] ++ [Cell.list (P7.map addRowV)] ++ [Cell.list W10]) = .ok v (σ1 ++ [Cell.list (P5.map ptrV)] ++ [Cell.list (P6.map delV)] ++ [Cell.list (P7.map addRowV)] ++ [Cell.list W10]) := fun {m i v} h1 hv hi => by
    have := q (m := m) (t := [Cell.list (P5.map ptrV)] ++ [Cell.list (P6.map delV)] ++ [Cell.list (P7.map addRowV)] ++ [Cell.list W10]) h1 hv hi
    simpa only [← List.append_assoc] using this
  refine st_seq (st_set c6) (st_seq (st_set c7) (st_seq (st_set (ev_bin (ev_call (ev_cons c10 ev_nil) (fn1_ok (lenV_cell (get_last _ _) (by omega)))) ev_C hgt)) (st_seq_ret (st_ret (ev_tup ?_ (by simp))))))
  exact ev_cons (Q (i := 0) (by walk_at "nv") rfl (by decide)) (ev_cons (Q (i := 1) (by walk_at "nv") rfl (by decide)) (ev_cons (Q (i := 2) (by walk_at "nv") rfl (by decide)) (ev_cons (Q (i := 3) (by walk_at "nv") rfl (by decide))
    (ev_cons (ev_call (ev_cons (ev_var (v := .cell σ1.length) (by walk_at "nv")) ev_nil) (fn1_ok (tupleV_cell i5 (by simpa using l5)))) (ev_cons (ev_call (ev_cons (ev_var (v := .cell (σ1 ++ [Cell.list (P5.map ptrV)]).length) (by walk_at "nv")) ev_nil) (fn1_ok (tupleV_cell i6 (by simpa using l6)))) (ev_cons (ev_call (ev_cons (ev_var (v := .cell (σ1 ++ [Cell.list (P5.map ptrV)] ++ [Cell.list (P6.map delV)]).length) (by walk_at "nv")) ev_nil) (fn1_ok (tupleV_cell i7 (by simpa using l7)))) (ev_cons (ev_var upd_same) ev_nil)))))))
end
set_option exponentiation.threshold 3000
open _root_.PySem
/-! both, and the law's write -/
section
variable {m : Loc} {σ : List Cell} {R : Row}
theorem itemV_tup {vs : List V} {i : Nat} {v : V} (hi : i < 1000000) (hv : vs[i]? = some v) : itemV σ (.tup vs) (nV i) = some v := by
  show (if 0 ≤ (i : Int) ∧ (i : Int) < 1000000 then vs[(i : Int).toNat]? else none) = _
  rw [if_pos ⟨by omega, by omega⟩]; exact hv
noncomputable def rowL (R : Row) : List V := [oB R.comp, oN R.log, oN R.nxt, oN R.seq, .tup (R.ptrs.map ptrV), .tup (R.dels.map delV), .tup (R.adds.map addRowV), .bool R.rst]
theorem ev_row {f : Loc → List Cell → Res V} {i : Nat} {v : V} (hf : f m σ = .ok (rowV R) σ) (hi : i < 1000000) (hv : (rowL R)[i]? = some v) : pBin itemV f (pC (nV i)) m σ = .ok v σ :=
  ev_bin hf ev_C (itemV_tup hi hv)
noncomputable def orV2 (a b : V) : V := if isNone b then a else b
theorem orB (a b : Option Bs) : orV2 (oB a) (oB b) = oB (b.or a) := by cases a <;> cases b <;> rfl
theorem orN (a b : Option Nat) : orV2 (oN a) (oN b) = oN (b.or a) := by cases a <;> cases b <;> rfl
theorem addV_tup {a b : List V} (h : a.length + b.length ≤ 1000) : addV σ (.tup a) (.tup b) = some (.tup (a ++ b)) := if_pos h
theorem lboth_spec {A B : Row} (hc : A.cnt + B.cnt ≤ 1000) (σ : List Cell) : φ__law_both σ [rowV A, rowV B] = .ok (rowV (A.both B)) σ := by
  unfold Row.cnt at hc
  suffices h : ∃ σ', ψ__law_both [] [rowV A, rowV B] = .ok (rowV (A.both B)) σ' by
    obtain ⟨σ', e⟩ := h
    exact frame_ok (cl_cons (closed_row _) (cl_cons (closed_row _) cl_nil)) (closed_row _) e
  show ∃ σ', bodyOf F__law_both (fun i => [rowV A, rowV B][i]?) [] = _
  generalize hM : (fun i : Nat => ([rowV A, rowV B] : List V)[i]?) = M
  have a0 : M 0 = some (rowV A) := by rw [← hM]; rfl
  have a1 : M 1 = some (rowV B) := by rw [← hM]; rfl
  have itm : ∀ (R : Row) (i : Nat), i < 4 → (rowL R)[i]? = some ((rowL R).getD i .none) := fun R i hi => by
    have : i = 0 ∨ i = 1 ∨ i = 2 ∨ i = 3 := by omega
    rcases this with rfl | rfl | rfl | rfl <;> rfl
  have c := ev_comp (m := M) (σ := []) (js := [0, 1]) (ft := pC true) (fe := (pIf (pBind (pBin itemV (pVar 2) (pVar 0)) fun a => pBind (pC V.none) fun b => pOp fun σ => (isV σ a b).bind boolV) (pBin itemV (pVar 1) (pVar 0)) (pBin itemV (pVar 2) (pVar 0)))) (f := pRange (pList [(pC (V.int 4))])) nV (fun _ => true) (fun i => orV2 ((rowL A).getD i .none) ((rowL B).getD i .none))
    (ev_range0 (n := 4) (ev_cc (a := 4)) (by decide)) trivial (fun i hi => ⟨ev_C, fun _ => by
      have hi4 : i < 4 := by simpa using hi
      have b : pBin itemV (pVar 2) (pVar 0) (locC [0, 1] M (nV i)) [] = .ok ((rowL B).getD i .none) [] := ev_bin (ev_var (v := rowV B) (show (([0, 1] : List Nat)[1]?).bind M = _ from a1)) (ev_var (v := nV i) rfl) (itemV_tup (by omega) (itm B i hi4))
      have a : pBin itemV (pVar 1) (pVar 0) (locC [0, 1] M (nV i)) [] = .ok ((rowL A).getD i .none) [] := ev_bin (ev_var (v := rowV A) (show (([0, 1] : List Nat)[0]?).bind M = _ from a0)) (ev_var (v := nV i) rfl) (itemV_tup (by omega) (itm A i hi4))
      unfold orV2
      cases hz : isNone ((rowL B).getD i .none) with
      | true => exact ev_if_t (ev_cmp b ev_C (by rw [← hz]; rfl)) a
      | false => exact ev_if_f (ev_cmp b ev_C (by rw [← hz]; rfl)) b⟩) (by simp)
  have e : ((List.range 4).filter fun _ => true).map (fun i => orV2 ((rowL A).getD i .none) ((rowL B).getD i .none)) = [orV2 (oB A.comp) (oB B.comp), orV2 (oN A.log) (oN B.log), orV2 (oN A.nxt) (oN B.nxt), orV2 (oN A.seq) (oN B.seq)] := rfl
  rw [e, orB, orN, orN, orN] at c
  refine ⟨[.list [oB (A.both B).comp, oN (A.both B).log, oN (A.both B).nxt, oN (A.both B).seq]], ?_⟩
  have q : ∀ {i : Nat} {v : V} {m : Loc} {L : List V}, m 2 = some (.cell 0) → L[i]? = some v → i < 1000000 → pBin itemV (pVar 2) (pC (nV i)) m [.list L] = .ok v [.list L] := fun {i v m L} h2 hv hi => ev_bin (ev_var h2) ev_C (itemV_cell rfl hi hv)
  unfold F__law_both
  refine body_ret (st_seq (st_set c) (st_seq_ret (st_ret (ev_tup (vs := rowL (A.both B)) ?_ (by simp [rowL])))))
  have hor : pOr (pBin itemV (pVar 0) (pC (V.int 7))) (pBin itemV (pVar 1) (pC (V.int 7))) (upd M 2 (.cell 0)) [.list [oB (A.both B).comp, oN (A.both B).log, oN (A.both B).nxt, oN (A.both B).seq]] = .ok (.bool (A.both B).rst) [.list [oB (A.both B).comp, oN (A.both B).log, oN (A.both B).nxt, oN (A.both B).seq]] := by
    have r0 := ev_row (R := A) (m := upd M 2 (.cell 0)) (σ := [.list [oB (A.both B).comp, oN (A.both B).log, oN (A.both B).nxt, oN (A.both B).seq]]) (f := pVar 0) (i := 7) (v := .bool A.rst) (ev_var (by walk_at "nv")) (by decide) rfl
    have r1 := ev_row (R := B) (m := upd M 2 (.cell 0)) (σ := [.list [oB (A.both B).comp, oN (A.both B).log, oN (A.both B).nxt, oN (A.both B).seq]]) (f := pVar 1) (i := 7) (v := .bool B.rst) (ev_var (by walk_at "nv")) (by decide) rfl
    show _ = Res.ok (V.bool (A.rst || B.rst)) _
    cases hr : A.rst with
    | true => rw [hr] at r0; exact ev_or_t r0
    | false => rw [hr] at r0; exact ev_or_f r0 r1
  have tt : ∀ {i : Nat} {a b : List V} {σ : List Cell}, i < 1000000 → (rowL A)[i]? = some (.tup a) → (rowL B)[i]? = some (.tup b) → a.length + b.length ≤ 1000 → pBin addV (pBin itemV (pVar 0) (pC (nV i))) (pBin itemV (pVar 1) (pC (nV i))) (upd M 2 (.cell 0)) σ = .ok (.tup (a ++ b)) σ := fun {i a b σ} hi ha hb hl =>
    ev_bin (ev_row (R := A) (ev_var (by walk_at "nv")) hi ha) (ev_row (R := B) (ev_var (by walk_at "nv")) hi hb) (addV_tup hl)
  have m5 : V.tup ((A.both B).ptrs.map ptrV) = .tup (A.ptrs.map ptrV ++ B.ptrs.map ptrV) := by simp [Row.both]
  have m6 : V.tup ((A.both B).dels.map delV) = .tup (A.dels.map delV ++ B.dels.map delV) := by simp [Row.both]
  have m7 : V.tup ((A.both B).adds.map addRowV) = .tup (A.adds.map addRowV ++ B.adds.map addRowV) := by simp [Row.both]
  unfold rowL
  rw [m5, m6, m7]
  exact ev_cons (q (i := 0) (by walk_at "nv") rfl (by decide)) (ev_cons (q (i := 1) (by walk_at "nv") rfl (by decide)) (ev_cons (q (i := 2) (by walk_at "nv") rfl (by decide)) (ev_cons (q (i := 3) (by walk_at "nv") rfl (by decide))
    (ev_cons (tt (i := 4) (by decide) rfl rfl (by simp; omega)) (ev_cons (tt (i := 5) (by decide) rfl rfl (by simp; omega)) (ev_cons (tt (i := 6) (by decide) rfl rfl (by simp; omega)) (ev_cons hor ev_nil)))))))
end
set_option exponentiation.threshold 3000
open _root_.PySem
/-! the law's write -/
section
variable {m : Loc} {σ : List Cell} {R : Row}
theorem enc_s {n : Nat} (h : n < 128) : enc n = [n.toUInt8] := enc_small h
noncomputable def wB1 : Loc → List Cell → RS := (sSeq (sSet 1 (pBin addV (pBin addV (pVar 1) (pCall (fn1 bytesV) [] (pList [(pNewList (pList [(pC (V.int 5)), (pVar 3)]))]))) (pCall φ__law_lengthed [] (pList [(pVar 4)]))))
  sNil)
noncomputable def wB2 : Loc → List Cell → RS := (sSeq (sSet 1 (pBin addV (pBin addV (pVar 1) (pCall (fn1 bytesV) [] (pList [(pNewList (pList [(pC (V.int 6)), (pVar 3)]))]))) (pCall φ__law_varint [] (pList [(pVar 5)]))))
  sNil)
noncomputable def wB3 : Loc → List Cell → RS := (sSeq (sSet 1 (pBin addV (pBin addV (pBin addV (pVar 1) (pCall (fn1 bytesV) [] (pList [(pNewList (pList [(pC (V.int 7)), (pVar 3)]))]))) (pCall φ__law_varint [] (pList [(pBin itemV (pVar 6) (pC (V.int 0)))]))) (pCall φ__law_varint [] (pList [(pBin itemV (pVar 6) (pC (V.int 1)))]))))
  (sSeq (sSet 1 (pBin addV (pBin addV (pVar 1) (pCall φ__law_lengthed [] (pList [(pBin itemV (pVar 6) (pC (V.int 2)))]))) (pCall φ__law_lengthed [] (pList [(pBin itemV (pVar 6) (pC (V.int 3)))]))))
  sNil))
theorem ev_bb {f g : Loc → List Cell → Res V} {a b : Bs} {σ1 σ2 : List Cell} (hf : f m σ = .ok (.bytes a) σ1) (hg : g m σ1 = .ok (.bytes b) σ2) (hl : a.length + b.length ≤ 1000000) : pBin addV f g m σ = .ok (.bytes (a ++ b)) σ2 := ev_bin hf hg (addV_bytes hl)
theorem ev_lv {f : Loc → List Cell → Res V} {n : Nat} (hf : f m σ = .ok (nV n) σ) (hn : n ≤ M64) : pCall φ__law_varint [] (pList [f]) m σ = .ok (.bytes (enc n)) σ := ev_call (ev_cons hf ev_nil) (lvt_spec (Nat.le_succ_of_le hn) σ)
theorem ev_lt {f : Loc → List Cell → Res V} {b : Bs} (hf : f m σ = .ok (.bytes b) σ) (hb : b.length ≤ 10000) : pCall φ__law_lengthed [] (pList [f]) m σ = .ok (.bytes (encT b)) σ := ev_call (ev_cons hf ev_nil) (llg_spec hb σ)
theorem w1_loop : ∀ (as : List (Nat × Bs)) (x : Bs) (m : Loc) (σ : List Cell), m 1 = some (.bytes x) → (∀ a ∈ as, a.1 ≤ 11 ∧ a.2.length ≤ 10000) → x.length + (encAll (as.map fun p => .ptr p.1 p.2)).length ≤ 800000 →
    ∃ m' t, sFor (stTup [3, 4]) wB1 (fun _ => True) (as.map ptrV) m σ = .next m' (σ ++ t) ∧ m' 0 = m 0 ∧ m' 1 = some (.bytes (x ++ encAll (as.map fun p => .ptr p.1 p.2)))
  | [], x, m, σ, h1, hm, hl => ⟨m, [], by simp [for_nil], rfl, by simp [encAll, h1]⟩
  | a :: as, x, m, σ, h1, hm, hl => by
    have e : encAll ((a :: as).map fun p => Part.ptr p.1 p.2) = (enc 5 ++ (enc a.1 ++ encT a.2)) ++ encAll (as.map fun p => .ptr p.1 p.2) := rfl
    rw [e] at hl ⊢
    have ha := hm a List.mem_cons_self
    rw [enc_s (n := 5) (by decide), enc_s (n := a.1) (by omega)] at hl ⊢
    simp only [List.length_append, List.length_cons, List.length_nil] at hl
    have e2 : x ++ (([Nat.toUInt8 5] ++ ([a.1.toUInt8] ++ encT a.2)) ++ encAll (as.map fun p => .ptr p.1 p.2)) = (x ++ [Nat.toUInt8 5, a.1.toUInt8] ++ encT a.2) ++ encAll (as.map fun p => .ptr p.1 p.2) := by simp
    rw [e2]
    obtain ⟨m', t, I, e0, e1⟩ := w1_loop as (x ++ [Nat.toUInt8 5, a.1.toUInt8] ++ encT a.2) (upd (upd (upd m 3 (nV a.1)) 4 (.bytes a.2)) 1 (.bytes (x ++ [Nat.toUInt8 5, a.1.toUInt8] ++ encT a.2))) (σ ++ [.list [nV 5, nV a.1]]) upd_same (fun b hb => hm b (List.mem_cons_of_mem _ hb)) (by simp only [List.length_append, List.length_cons, List.length_nil]; omega)
    refine ⟨m', .list [nV 5, nV a.1] :: t, for_cons (m1 := upd (upd m 3 (nV a.1)) 4 (.bytes a.2)) rfl ?_ trivial (by rw [I]; simp), e0, e1⟩
    unfold wB1
    exact st_seq (st_set (ev_bb (ev_bb (ev_var (v := .bytes x) (by walk_at "nv")) (ev_by2 (n := 5) (k := a.1) (ev_cc (a := 5)) (ev_var (by walk_at "nv")) (by decide) (by omega)) (by simp; omega)) (ev_lt (ev_var (by walk_at "nv")) ha.2) (by simp; omega))) st_nil
theorem w2_loop : ∀ (as : List (Nat × Nat)) (x : Bs) (m : Loc) (σ : List Cell), m 1 = some (.bytes x) → (∀ a ∈ as, a.1 ≤ 11 ∧ a.2 ≤ M64) → x.length + (encAll (as.map fun p => .del p.1 p.2)).length ≤ 800000 →
    ∃ m' t, sFor (stTup [3, 5]) wB2 (fun _ => True) (as.map delV) m σ = .next m' (σ ++ t) ∧ m' 0 = m 0 ∧ m' 1 = some (.bytes (x ++ encAll (as.map fun p => .del p.1 p.2)))
  | [], x, m, σ, h1, hm, hl => ⟨m, [], by simp [for_nil], rfl, by simp [encAll, h1]⟩
  | a :: as, x, m, σ, h1, hm, hl => by
    have e : encAll ((a :: as).map fun p => Part.del p.1 p.2) = (enc 6 ++ (enc a.1 ++ enc a.2)) ++ encAll (as.map fun p => .del p.1 p.2) := rfl
    rw [e] at hl ⊢
    have ha := hm a List.mem_cons_self
    rw [enc_s (n := 6) (by decide), enc_s (n := a.1) (by omega)] at hl ⊢
    simp only [List.length_append, List.length_cons, List.length_nil] at hl
    have e2 : x ++ (([Nat.toUInt8 6] ++ ([a.1.toUInt8] ++ enc a.2)) ++ encAll (as.map fun p => .del p.1 p.2)) = (x ++ [Nat.toUInt8 6, a.1.toUInt8] ++ enc a.2) ++ encAll (as.map fun p => .del p.1 p.2) := by simp
    rw [e2]
    obtain ⟨m', t, I, e0, e1⟩ := w2_loop as (x ++ [Nat.toUInt8 6, a.1.toUInt8] ++ enc a.2) (upd (upd (upd m 3 (nV a.1)) 5 (nV a.2)) 1 (.bytes (x ++ [Nat.toUInt8 6, a.1.toUInt8] ++ enc a.2))) (σ ++ [.list [nV 6, nV a.1]]) upd_same (fun b hb => hm b (List.mem_cons_of_mem _ hb)) (by simp only [List.length_append, List.length_cons, List.length_nil]; omega)
    refine ⟨m', .list [nV 6, nV a.1] :: t, for_cons (m1 := upd (upd m 3 (nV a.1)) 5 (nV a.2)) rfl ?_ trivial (by rw [I]; simp), e0, e1⟩
    unfold wB2
    exact st_seq (st_set (ev_bb (ev_bb (ev_var (v := .bytes x) (by walk_at "nv")) (ev_by2 (n := 6) (k := a.1) (ev_cc (a := 6)) (ev_var (by walk_at "nv")) (by decide) (by omega)) (by simp; omega)) (ev_lv (ev_var (by walk_at "nv")) ha.2) (by simp; omega))) st_nil
theorem w3_loop : ∀ (as : List (Nat × Nat × Nat × Bs × Bs)) (x : Bs) (m : Loc) (σ : List Cell), m 1 = some (.bytes x) → (∀ a ∈ as, a.1 ≤ 11 ∧ a.2.1 ≤ M64 ∧ a.2.2.1 ≤ M64 ∧ a.2.2.2.1.length ≤ 10000 ∧ a.2.2.2.2.length ≤ 10000) → x.length + (encAll (as.map fun p => .add p.1 p.2.1 p.2.2.1 p.2.2.2.1 p.2.2.2.2)).length ≤ 800000 →
    ∃ m' t, sFor (stTup [3, 6]) wB3 (fun _ => True) (as.map addRowV) m σ = .next m' (σ ++ t) ∧ m' 0 = m 0 ∧ m' 1 = some (.bytes (x ++ encAll (as.map fun p => .add p.1 p.2.1 p.2.2.1 p.2.2.2.1 p.2.2.2.2)))
  | [], x, m, σ, h1, hm, hl => ⟨m, [], by simp [for_nil], rfl, by simp [encAll, h1]⟩
  | (lv, n, s, a, b) :: as, x, m, σ, h1, hm, hl => by
    have e : encAll (((lv, n, s, a, b) :: as).map fun p : Nat × Nat × Nat × Bs × Bs => Part.add p.1 p.2.1 p.2.2.1 p.2.2.2.1 p.2.2.2.2) = (enc 7 ++ (enc lv ++ (enc n ++ (enc s ++ (encT a ++ encT b))))) ++ encAll (as.map fun p => .add p.1 p.2.1 p.2.2.1 p.2.2.2.1 p.2.2.2.2) := rfl
    rw [e] at hl ⊢
    obtain ⟨q1, q2, q3, q4, q5⟩ := hm (lv, n, s, a, b) List.mem_cons_self
    dsimp only at q1 q2 q3 q4 q5
    rw [enc_s (n := 7) (by decide), enc_s (n := lv) (by omega)] at hl ⊢
    simp only [List.length_append, List.length_cons, List.length_nil] at hl
    have e2 : x ++ (([Nat.toUInt8 7] ++ ([lv.toUInt8] ++ (enc n ++ (enc s ++ (encT a ++ encT b))))) ++ encAll (as.map fun p => .add p.1 p.2.1 p.2.2.1 p.2.2.2.1 p.2.2.2.2)) = (x ++ [Nat.toUInt8 7, lv.toUInt8] ++ enc n ++ enc s ++ encT a ++ encT b) ++ encAll (as.map fun p => .add p.1 p.2.1 p.2.2.1 p.2.2.2.1 p.2.2.2.2) := by simp
    rw [e2]
    obtain ⟨m', t, I, e0, e1⟩ := w3_loop as (x ++ [Nat.toUInt8 7, lv.toUInt8] ++ enc n ++ enc s ++ encT a ++ encT b) (upd (upd (upd (upd m 3 (nV lv)) 6 (.tup [nV n, nV s, .bytes a, .bytes b])) 1 (.bytes (x ++ [Nat.toUInt8 7, lv.toUInt8] ++ enc n ++ enc s))) 1 (.bytes (x ++ [Nat.toUInt8 7, lv.toUInt8] ++ enc n ++ enc s ++ encT a ++ encT b))) (σ ++ [.list [nV 7, nV lv]]) upd_same (fun b hb => hm b (List.mem_cons_of_mem _ hb)) (by simp only [List.length_append, List.length_cons, List.length_nil]; omega)
    refine ⟨m', .list [nV 7, nV lv] :: t, for_cons (m1 := upd (upd m 3 (nV lv)) 6 (.tup [nV n, nV s, .bytes a, .bytes b])) rfl ?_ trivial (by rw [I]; simp), e0, e1⟩
    unfold wB3
    have it : ∀ {m : Loc} {σ : List Cell} {i : Nat} {v : V}, m 6 = some (.tup [nV n, nV s, .bytes a, .bytes b]) → i < 1000000 → ([nV n, nV s, .bytes a, .bytes b] : List V)[i]? = some v → pBin itemV (pVar 6) (pC (nV i)) m σ = .ok v σ := fun h hi hv => ev_bin (ev_var h) ev_C (itemV_tup hi hv)
    refine st_seq (st_set (ev_bb (ev_bb (ev_bb (ev_var (v := .bytes x) (by walk_at "nv")) (ev_by2 (n := 7) (k := lv) (ev_cc (a := 7)) (ev_var (by walk_at "nv")) (by decide) (by omega)) (by simp; omega)) (ev_lv (it (i := 0) (by walk_at "nv") (by decide) rfl) q2) (by simp; omega)) (ev_lv (it (i := 1) (by walk_at "nv") (by decide) rfl) q3) (by simp; omega))) ?_
    exact st_seq (st_set (ev_bb (ev_bb (ev_var upd_same) (ev_lt (it (i := 2) (by walk_at "nv") (by decide) rfl) q4) (by simp; omega)) (ev_lt (it (i := 3) (by walk_at "nv") (by decide) rfl) q5) (by simp; omega))) st_nil
noncomputable def wB0 : Loc → List Cell → RS := (sSeq (sIf (pBind (pBin itemV (pVar 0) (pVar 2)) fun a => pBind (pC V.none) fun b => pOp fun σ => (isNotV σ a b).bind boolV)
  (sSeq (sSet 1 (pBin addV (pBin addV (pVar 1) (pCall (fn1 bytesV) [] (pList [(pNewList (pList [(pBin addV (pVar 2) (pC (V.int 1)))]))]))) (pCall φ__law_varint [] (pList [(pBin itemV (pVar 0) (pVar 2))]))))
  sNil)
  sNil)
  sNil)
theorem w0_one {i : Nat} {o : Option Nat} {g : Nat → Part} {x : Bs} (h0 : m 0 = some (rowV R)) (h1 : m 1 = some (.bytes x)) (h2 : m 2 = some (nV i)) (hi : i < 100) (hv : (rowL R)[i]? = some (oN o)) (hg : ∀ n, encPart (g n) = enc (i + 1) ++ enc n) (ho : ∀ n, o = some n → n ≤ M64) (hx : x.length ≤ 800000) :
    ∃ m' t, wB0 m σ = .next m' (σ ++ t) ∧ m' 0 = m 0 ∧ m' 1 = some (.bytes (x ++ encAll (oL o g))) := by
  have it : ∀ {σ : List Cell}, pBin itemV (pVar 0) (pVar 2) m σ = .ok (oN o) σ := fun {σ} => ev_bin (ev_var h0) (ev_var h2) (itemV_tup (by omega) hv)
  unfold wB0
  cases o with
  | none =>
    refine ⟨m, [], ?_, rfl, by rw [h1]; simp [oL, encAll]⟩
    rw [List.append_nil]
    exact st_seq (st_if_f (ev_cmp it ev_C isNot_none) st_nil) st_nil
  | some n =>
    have hn := ho n rfl
    have hl := enc_len64 hn
    have e : x ++ encAll (oL (some n) g) = (x ++ [(i + 1).toUInt8]) ++ enc n := by simp [oL, encAll, hg, enc_s (n := i + 1) (by omega)]
    refine ⟨_, _, st_seq (st_if_t (ev_cmp it ev_C isNot_none) (st_seq (st_set (ev_bb (ev_bb (ev_var h1) (ev_by1 (n := i + 1) (ev_add (ev_var h2) (ev_cc (a := 1))) (by omega)) (by simp; omega)) (ev_lv it hn) (by simp; omega))) st_nil)) st_nil, rfl, by rw [e]; exact upd_same⟩
theorem lwrite_spec (hfit : R.Fit) (hw : R.write.length ≤ 1000) (σ : List Cell) : φ__law_write σ [rowV R] = .ok (.bytes R.write) σ := by
  suffices h : ∃ σ', ψ__law_write [] [rowV R] = .ok (.bytes R.write) σ' by
    obtain ⟨σ', e⟩ := h
    exact frame_ok (cl_cons (closed_row _) cl_nil) (.bytes _) e
  show ∃ σ', bodyOf F__law_write (fun i => [rowV R][i]?) [] = _
  obtain ⟨fC, fL, fN, fS, fP, fD, fA⟩ := row_bounds hfit hw
  have hw2 := hw
  unfold Row.write at hw2
  rw [canon_parts] at hw2
  simp only [encAll_append, List.length_append] at hw2
  generalize hM : upd (fun i => [rowV R][i]?) 1 (.bytes []) = M
  have a0 : M 0 = some (rowV R) := by rw [← hM]; rfl
  have a1 : M 1 = some (.bytes []) := by rw [← hM]; exact upd_same
  have sR : ∃ M', sIf (pTest (pBin itemV (pVar 0) (pC (V.int 7)))) (sSeq (sSet 1 (pC (V.bytes [10]))) sNil) sNil M [] = .next M' [] ∧ M' 0 = M 0 ∧ M' 1 = some (.bytes ([] ++ encAll (if R.rst then [.rst] else []))) := by
    have t := ev_row (R := R) (m := M) (σ := []) (f := pVar 0) (i := 7) (v := .bool R.rst) (ev_var a0) (by decide) rfl
    cases hr : R.rst with
    | true =>
      rw [hr] at t
      have : ([] : Bs) ++ encAll (if true = true then [Part.rst] else []) = [10] := by simp [encAll, encPart, enc_s]
      rw [this]
      exact ⟨upd M 1 (.bytes [10]), st_if_t (ev_test t) (st_seq (st_set ev_C) st_nil), rfl, upd_same⟩
    | false =>
      rw [hr] at t
      exact ⟨M, st_if_f (ev_test t) st_nil, rfl, a1⟩
  obtain ⟨M1, S1, b0, b1⟩ := sR
  have b0 := b0.trans a0
  generalize hx0 : ([] : Bs) ++ encAll (if R.rst then [.rst] else []) = x0 at b1
  have lx0 : x0.length = (encAll (if R.rst then [.rst] else [])).length := by rw [← hx0]; rfl
  have sC : ∃ M', sIf (pBind (pBin itemV (pVar 0) (pC (V.int 0))) fun a => pBind (pC V.none) fun b => pOp fun σ => (isNotV σ a b).bind boolV) (sSeq (sSet 1 (pBin addV (pBin addV (pVar 1) (pC (V.bytes [1]))) (pCall φ__law_lengthed [] (pList [(pBin itemV (pVar 0) (pC (V.int 0)))])))) sNil) sNil M1 [] = .next M' [] ∧ M' 0 = M1 0 ∧ M' 1 = some (.bytes (x0 ++ encAll (oL R.comp .comp))) := by
    have t := ev_row (R := R) (m := M1) (σ := []) (f := pVar 0) (i := 0) (v := oB R.comp) (ev_var b0) (by decide) rfl
    cases hr : R.comp with
    | none =>
      rw [hr] at t
      refine ⟨M1, st_if_f (ev_cmp t ev_C isNot_none) st_nil, rfl, by rw [b1]; simp [oL, encAll]⟩
    | some c =>
      rw [hr] at t hw2
      have hc := fC c hr
      have e : x0 ++ encAll (oL (some c) .comp) = (x0 ++ [1]) ++ encT c := by simp [oL, encAll, encPart, enc_s]
      rw [e]
      have hcl : (encT c).length ≤ 1000 := by
        have e3 : encAll (oL (some c) Part.comp) = [1] ++ encT c := by simp [oL, encAll, encPart, enc_s]
        rw [e3, List.length_append] at hw2
        omega
      exact ⟨_, st_if_t (ev_cmp t ev_C isNot_none) (st_seq (st_set (ev_bb (ev_bb (ev_var b1) ev_C (by simp; omega)) (ev_lt t hc) (by simp; omega))) st_nil), rfl, upd_same⟩
  obtain ⟨M2, S2, c0, c1⟩ := sC
  have c0 := c0.trans b0
  obtain ⟨M3, t3, S3, d0, d1⟩ := w0_one (m := upd M2 2 (nV 1)) (σ := []) (R := R) (i := 1) (o := R.log) (g := .log) (x := x0 ++ encAll (oL R.comp .comp)) (by walk_at "nv") (by walk_at "nv") upd_same (by decide) rfl (fun _ => rfl) fL (by simp only [List.length_append]; omega)
  have d0 : M3 0 = some (rowV R) := d0.trans c0
  obtain ⟨M4, t4, S4, f0, f1⟩ := w0_one (m := upd M3 2 (nV 2)) (σ := [] ++ t3) (R := R) (i := 2) (o := R.nxt) (g := .nxt) (by walk_at "nv") (x := x0 ++ encAll (oL R.comp .comp) ++ encAll (oL R.log .log)) (by walk_at "nv") upd_same (by decide) rfl (fun _ => rfl) fN (by simp only [List.length_append]; omega)
  have f0 : M4 0 = some (rowV R) := f0.trans d0
  obtain ⟨M5, t5, S5, g0, g1⟩ := w0_one (m := upd M4 2 (nV 3)) (σ := [] ++ t3 ++ t4) (R := R) (i := 3) (o := R.seq) (g := .seq) (by walk_at "nv") (x := x0 ++ encAll (oL R.comp .comp) ++ encAll (oL R.log .log) ++ encAll (oL R.nxt .nxt)) (by walk_at "nv") upd_same (by decide) rfl (fun _ => rfl) fS (by simp only [List.length_append]; omega)
  have g0 : M5 0 = some (rowV R) := g0.trans f0
  obtain ⟨M6, t6, L1, k0, k1⟩ := w1_loop R.ptrs _ M5 ([] ++ t3 ++ t4 ++ t5) g1 fP (by simp only [List.length_append]; omega)
  have k0 : M6 0 = some (rowV R) := k0.trans g0
  obtain ⟨M7, t7, L2, l0, l1⟩ := w2_loop R.dels _ M6 ([] ++ t3 ++ t4 ++ t5 ++ t6) k1 fD (by simp only [List.length_append]; omega)
  have l0 : M7 0 = some (rowV R) := l0.trans k0
  obtain ⟨M8, t8, L3, n0, n1⟩ := w3_loop R.adds _ M7 ([] ++ t3 ++ t4 ++ t5 ++ t6 ++ t7) l1 fA (by simp only [List.length_append]; omega)
  have e : x0 ++ encAll (oL R.comp .comp) ++ encAll (oL R.log .log) ++ encAll (oL R.nxt .nxt) ++ encAll (oL R.seq .seq) ++ encAll (R.ptrs.map fun p => .ptr p.1 p.2) ++ encAll (R.dels.map fun p => .del p.1 p.2) ++ encAll (R.adds.map fun p => .add p.1 p.2.1 p.2.2.1 p.2.2.2.1 p.2.2.2.2) = R.write := by
    rw [← hx0]
    unfold Row.write
    rw [canon_parts]
    simp only [encAll_append, List.append_assoc, List.nil_append]
  rw [e] at n1
  unfold F__law_write
  refine ⟨_, body_ret (st_seq (st_set ev_C) (st_seq (by rw [hM]; exact S1) (st_seq S2 (st_seq (st_for (ev_range (y := 1) (n := 3) (ev_cons ev_C (ev_cons ev_C ev_nil)) rfl) (for_cons rfl S3 trivial (for_cons rfl S4 trivial (for_cons rfl S5 trivial for_nil)))) (st_seq (st_for (ev_over_tup (ev_row (R := R) (i := 4) (ev_var g0) (by decide) rfl)) L1) (st_seq (st_for (ev_over_tup (ev_row (R := R) (i := 5) (ev_var k0) (by decide) rfl)) L2) (st_seq (st_for (ev_over_tup (ev_row (R := R) (i := 6) (ev_var l0) (by decide) rfl)) L3) (st_seq_ret (st_ret (ev_var n1))))))))))⟩
end
set_option exponentiation.threshold 3000
open _root_.PySem
/-! the law -/
noncomputable def rvV : Pr → V
  | .ok ps => rowV (rowOf ps)
  | _ => .none
noncomputable def agV : Pr → Bs
  | .ok ps => (rowOf ps).write
  | _ => []
theorem told_eq (r : Pr) : toldV r = .tup [nV (prF r), rvV r, .bytes (agV r)] := by cases r <;> rfl
theorem eqOk_oB (n : Nat) (o : Option Bs) : eqOk (n + 1) (oB o) = true := by cases o <;> rfl
theorem eqOk_oN (n : Nat) (o : Option Nat) : eqOk (n + 1) (oN o) = true := by cases o <;> rfl
theorem eqOk_map {α : Type} (n : Nat) (l : List α) (f : α → V) (h : ∀ a, eqOk n (f a) = true) : eqOk (n + 1) (.tup (l.map f)) = true := by
  show (l.map f).all (eqOk n) = true
  rw [List.all_eq_true]
  intro v hv
  obtain ⟨a, _, rfl⟩ := List.mem_map.mp hv
  exact h a
theorem eqOk_row (n : Nat) (R : Row) : eqOk (n + 5) (rowV R) = true := by
  show (rowL R).all (eqOk (n + 4)) = true
  unfold rowL
  simp only [List.all_cons, List.all_nil, eqOk_oB, eqOk_oN, Bool.true_and, Bool.and_true]
  rw [eqOk_map (n + 3) _ _ fun a => rfl, eqOk_map (n + 3) _ _ fun a => rfl, eqOk_map (n + 3) _ _ fun a => rfl]
  rfl
theorem eqOk_rv (n : Nat) (r : Pr) : eqOk (n + 5) (rvV r) = true := by
  cases r with
  | ok ps => exact eqOk_row n _
  | short => rfl
  | corr => rfl
theorem neV_tup {σ : List Cell} {a : List V} (h : eqOk 8 (.tup a) = true) : neV σ (.tup a) (.tup a) = some (.bool false) := by
  unfold neV
  exact if_pos ⟨h, rfl⟩
theorem eqV_tup {σ : List Cell} {a : List V} (h : eqOk 8 (.tup a) = true) : eqV σ (.tup a) (.tup a) = some (.bool true) := by
  unfold eqV
  exact if_pos ⟨h, rfl⟩
theorem neV_f {σ : List Cell} {a b : Int} (h : a = b) : neV σ (.int a) (.int b) = some (.bool false) := by simp [neV, h]
theorem neV_b {σ : List Cell} {a : Bs} : neV σ (.bytes a) (.bytes a) = some (.bool false) := by simp [neV]
noncomputable def A1 : Loc → List Cell → RS := sSet 1 (pComp (pOver (pSlice (pVar 0) (pC V.none) (pC (V.int 5)))) [] (pC true) (pBin modV (pVar 0) (pC (V.int 999983))))
noncomputable def A2 : Loc → List Cell → RS := sIf (pBind (pCall (fn1 lenV) [] (pList [(pVar 1)])) fun a => pBind (pC (V.int 0)) fun b => pOp fun σ => (eqV σ a b).bind boolV)
  (sSeq (sSet 1 (pNewList (pList [(pC (V.int 5))])))
  sNil)
  sNil
noncomputable def hBody : Loc → List Cell → RS := (sSeq (sSet 4 (pIf (pBind (pVar 3) fun a => pBind (pBin modV (pCall φ__law_draw [] (pList [(pVar 1), (pC (V.int 0))])) (pC (V.int 5))) fun b => pOp fun σ => (ltV σ a b).bind boolV) (pC (V.int 0)) (pC (V.int 1))))
  (sSeq (sSetItem (pVar 2) (pVar 4) (pBin addV (pBin itemV (pVar 2) (pVar 4)) (pCall φ__law_token [] (pList [(pCall φ__law_draw [] (pList [(pVar 1), (pBin addV (pC (V.int 1)) (pVar 3))]))]))))
  sNil))
noncomputable def fBody : Loc → List Cell → RS := (sSeq (sUnpack [7, 8] (pCall φ__law_parts [] (pList [(pVar 6)])))
  (sSeq (sSet 9 (pC V.none))
  (sSeq (sIf (pBind (pVar 7) fun a => pBind (pC (V.int 0)) fun b => pOp fun σ => (eqV σ a b).bind boolV)
  (sSeq (sSet 9 (pCall φ__law_row [] (pList [(pVar 8)])))
  sNil)
  sNil)
  (sSeq (sIf (pBind (pSlice (pCallT φ_told (pList [(pVar 6)])) (pC V.none) (pC (V.int 2))) fun a => pBind (pTup (pList [(pVar 7), (pVar 9)])) fun b => pOp fun σ => (neV σ a b).bind boolV)
  (sSeq (sRet (pC (V.bool false)))
  sNil)
  sNil)
  (sSeq (sExpr (pMeth appendK (pVar 5) (pList [(pTup (pList [(pVar 7), (pVar 9)]))])))
  sNil)))))
structure Nums (m : Loc) (σ : List Cell) (k : Nat) (ks : List Nat) : Prop where
  v1 : m 1 = some (.cell k)
  c : σ[k]? = some (.list (ks.map nV))
  p : 0 < ks.length
  q : ks.length ≤ 5
  b : ∀ n ∈ ks, n < 999983
theorem nums_spec (ns : List Int) (hn : ns.length ≤ 63) : ∃ m σ k ks, (∀ g : Loc → List Cell → RS, sSeq A1 (sSeq A2 g) (fun i => [V.clist (ns.map .int)][i]?) [] = g m σ) ∧ Nums m σ k ks := by
  have hcut : cut (ns.map V.int) none (some 5) = (ns.take (min 5 ns.length)).map V.int := by
    unfold cut
    have : clipAt (ns.map V.int).length 5 = min 5 ns.length := by have := clip_nat (ns.map V.int).length 5; rw [List.length_map] at *; exact this
    simp only [Option.elim, this, List.drop_zero, Nat.sub_zero]
    rw [List.map_take]
  have hl : (ns.take (min 5 ns.length)).length ≤ 5 := by rw [List.length_take]; omega
  generalize ns.take (min 5 ns.length) = xs at hcut hl
  generalize hM : (fun i : Nat => ([V.clist (ns.map .int)] : List V)[i]?) = M
  have a0 : M 0 = some (.clist (ns.map .int)) := by rw [← hM]; rfl
  have sl : pSlice (pVar 0) (pC V.none) (pC (V.int 5)) M [] = .ok (.cell 0) [.list (xs.map V.int)] := ev_slice (lo := none) (hi := some 5) (ev_var a0) ev_C ev_C rfl rfl (by
    show (if (ns.map V.int).length ≤ 1000000 then some (V.cell 0, ([] : List Cell) ++ [Cell.list (cut (ns.map V.int) none (some 5))]) else none) = _
    rw [if_pos (by rw [List.length_map]; omega), hcut]; rfl)
  have ov : pOver (pSlice (pVar 0) (pC V.none) (pC (V.int 5))) M [] = .ok (xs.map V.int, fun σ' => σ'[0]? = some (.list (xs.map V.int))) [.list (xs.map V.int)] := ev_over_cell sl rfl
  have hm : ∀ x : Int, 0 ≤ x.fmod 999983 ∧ x.fmod 999983 < 999983 := fun x => ⟨Int.fmod_nonneg_of_pos _ (by decide), Int.fmod_lt_of_pos _ (by decide)⟩
  have hcomp : pComp (pOver (pSlice (pVar 0) (pC V.none) (pC (V.int 5)))) [] (pC true) (pBin modV (pVar 0) (pC (V.int 999983))) M [] = .ok (.cell 1) [.list (xs.map V.int), .list ((xs.map fun x => (x.fmod 999983).toNat).map nV)] := by
    have c := ev_comp (m := M) (σ := [.list (xs.map V.int)]) (js := []) (ft := pC true) (fe := (pBin modV (pVar 0) (pC (V.int 999983)))) (f := fun _ σ => .ok (xs.map V.int, fun σ' => σ'[0]? = some (.list (xs.map V.int))) σ) V.int (fun _ => true) (fun x => V.int (x.fmod 999983)) rfl rfl
      (fun x _ => ⟨ev_C, fun _ => ev_bin (ev_var (v := .int x) rfl) ev_C rfl⟩) (by omega)
    have e : (xs.filter fun _ => true).map (fun x => V.int (x.fmod 999983)) = (xs.map fun x => (x.fmod 999983).toNat).map nV := by
      rw [List.filter_eq_self.mpr (fun _ _ => rfl), List.map_map]
      refine List.map_congr_left fun x _ => ?_
      show V.int (x.fmod 999983) = V.int (((x.fmod 999983).toNat : Nat) : Int)
      rw [Int.toNat_of_nonneg (hm x).1]
    rw [e] at c
    unfold pComp pBind at c ⊢
    rw [ov]
    exact c
  have sA : A1 M [] = .next (upd M 1 (.cell 1)) [.list (xs.map V.int), .list ((xs.map fun x => (x.fmod 999983).toNat).map nV)] := st_set hcomp
  have tl : pCall (fn1 lenV) [] (pList [(pVar 1)]) (upd M 1 (.cell 1)) [.list (xs.map V.int), .list ((xs.map fun x => (x.fmod 999983).toNat).map nV)] = .ok (nV xs.length) [.list (xs.map V.int), .list ((xs.map fun x => (x.fmod 999983).toNat).map nV)] :=
    ev_call (ev_cons (ev_var upd_same) ev_nil) (fn1_ok (by rw [lenV_cell (vs := (xs.map fun x => (x.fmod 999983).toNat).map nV) rfl (by simp; omega)]; simp))
  by_cases hz : xs.length = 0
  · refine ⟨_, _, 2, [5], fun g => st_seq sA (st_seq (st_if_t (ev_num (a := xs.length) tl (by rw [hz]; rfl)) (st_seq (st_set (ev_newlist (ev_cons ev_C ev_nil) (by simp))) st_nil)) rfl), upd_same, rfl, by decide, by decide, by simp⟩
  · refine ⟨_, _, 1, xs.map fun x => (x.fmod 999983).toNat, fun g => st_seq sA (st_seq (st_if_f (ev_num (a := xs.length) tl (ne0 hz)) st_nil) rfl), upd_same, rfl, by rw [List.length_map]; omega, by rw [List.length_map]; omega, fun n hn => ?_⟩
    obtain ⟨x, _, rfl⟩ := List.mem_map.mp hn
    have := hm x; omega
section
variable {m : Loc} {σ : List Cell} {k h i : Nat} {ks : List Nat} {a b : Bs}
theorem half_step (N : Nums m σ k ks) (h2 : m 2 = some (.cell h)) (h3 : m 3 = some (nV i)) (hi : i ≤ 3) (hh : σ[h]? = some (.list [.bytes a, .bytes b])) (hkh : k ≠ h) (hl : a.length + b.length ≤ 1000) :
    ∃ m' σ' a' b', hBody m σ = .next m' σ' ∧ Nums m' σ' k ks ∧ m' 2 = some (.cell h) ∧ σ'[h]? = some (.list [.bytes a', .bytes b']) ∧ a'.length + b'.length ≤ a.length + b.length + 60 := by
  obtain ⟨y, hy, e0⟩ := ldr_spec N.c N.p N.q N.b (i := 0) (by decide)
  obtain ⟨z, hz, e1⟩ := ldr_spec N.c N.p N.q N.b (i := 1 + i) (by omega)
  obtain ⟨t, ht, e2⟩ := ltk_spec z σ
  have d0 : pBin modV (pCall φ__law_draw [] (pList [(pVar 1), (pC (V.int 0))])) (pC (V.int 5)) m σ = .ok (nV (y % 5)) σ := ev_mod (ev_call (ev_cons (ev_var N.v1) (ev_cons ev_C ev_nil)) e0) (ev_cc (a := 5)) (by decide)
  have hhl := (List.getElem?_eq_some_iff.mp hh).1
  have go : ∀ {s : Nat} {x a' b' : Bs}, pIf (pBind (pVar 3) fun a => pBind (pBin modV (pCall φ__law_draw [] (pList [(pVar 1), (pC (V.int 0))])) (pC (V.int 5))) fun b => pOp fun σ => (ltV σ a b).bind boolV) (pC (V.int 0)) (pC (V.int 1)) m σ = .ok (nV s) σ →
      s < 2 → ([.bytes a, .bytes b] : List V)[s]? = some (.bytes x) → x.length ≤ 1000 → ([.bytes a, .bytes b] : List V).set s (.bytes (x ++ t)) = [.bytes a', .bytes b'] → a'.length + b'.length ≤ a.length + b.length + 60 →
      ∃ m' σ' a' b', hBody m σ = .next m' σ' ∧ Nums m' σ' k ks ∧ m' 2 = some (.cell h) ∧ σ'[h]? = some (.list [.bytes a', .bytes b']) ∧ a'.length + b'.length ≤ a.length + b.length + 60 := fun {s x a' b'} hs hs2 hx hxl hset hle => by
    have st := st_setitem (fo := pVar 2) (fi := pVar 4) (fe := (pBin addV (pBin itemV (pVar 2) (pVar 4)) (pCall φ__law_token [] (pList [(pCall φ__law_draw [] (pList [(pVar 1), (pBin addV (pC (V.int 1)) (pVar 3))]))])))) (m := upd m 4 (nV s)) (σ := σ) (j := (s : Int)) (ws := [.bytes a, .bytes b]) (k := h)
      (ev_bb (ev_bin (ev_var (v := .cell h) (by walk_at "nv")) (ev_var upd_same) (itemV_cell hh (by omega) hx)) (ev_call (ev_cons (ev_call (ev_cons (ev_var (v := .cell k) (upd_ne rfl N.v1)) (ev_cons (ev_add (ev_cc (a := 1)) (ev_var (v := nV i) (by walk_at "nv"))) ev_nil)) e1) ev_nil) e2) (by omega)) (ev_var (by walk_at "nv")) (ev_var upd_same) hh ⟨by omega, by simp; omega, by simp⟩
    rw [Int.toNat_natCast, hset] at st
    refine ⟨_, _, a', b', st_seq (st_set hs) (st_seq st st_nil), ⟨upd_ne rfl N.v1, ?_, N.p, N.q, N.b⟩, by walk_at "nv", ?_, hle⟩
    · rw [List.getElem?_set_ne (Ne.symm hkh)]; exact N.c
    · rw [List.getElem?_set_self hhl]
  by_cases hlt : i < y % 5
  · exact go (s := 0) (x := a) (a' := a ++ t) (b' := b) (ev_if_t (ev_cmp (ev_var h3) d0 (ltV_t (by omega))) ev_cc) (by decide) rfl (by omega) rfl (by rw [List.length_append]; omega)
  · exact go (s := 1) (x := b) (a' := a) (b' := b ++ t) (ev_if_f (ev_cmp (ev_var h3) d0 (ltV_f (by omega))) ev_cc) (by decide) rfl (by omega) rfl (by rw [List.length_append]; omega)
theorem halves_spec (N : Nums m σ k ks) : ∃ m' σ' h a b, (∀ g : Loc → List Cell → RS, sSeq (sSet 2 (pNewList (pList [(pC (V.bytes [])), (pC (V.bytes []))]))) (sSeq (sForE (stName 3) (pRange (pList [(pC (V.int 4))])) hBody) g) m σ = g m' σ') ∧ m' 2 = some (.cell h) ∧ σ'[h]? = some (.list [.bytes a, .bytes b]) ∧ a.length + b.length ≤ 240 := by
  have hkl := (List.getElem?_eq_some_iff.mp N.c).1
  have up : ∀ {m : Loc} {σ : List Cell} {j : Nat} {v : V}, (j ≠ 1) → Nums m σ k ks → Nums (upd m j v) σ k ks := fun {m σ j v} hj N => ⟨by unfold upd; rw [if_neg (by omega)]; exact N.v1, N.c, N.p, N.q, N.b⟩
  have N0 : Nums (upd m 2 (.cell σ.length)) (σ ++ [.list [.bytes [], .bytes []]]) k ks := ⟨upd_ne rfl N.v1, app_at N.c _, N.p, N.q, N.b⟩
  obtain ⟨m1, σ1, a1, b1, s1, N1, p1, q1, l1⟩ := half_step (m := upd (upd m 2 (.cell σ.length)) 3 (nV 0)) (h := σ.length) (i := 0) (a := []) (b := []) (up (by decide) N0) (by walk_at "nv") (by walk_at "nv") (by decide) (get_last _ _) (by omega) (by decide)
  simp only [List.length_nil] at l1
  obtain ⟨m2, σ2, a2, b2, s2, N2, p2, q2, l2⟩ := half_step (m := upd m1 3 (nV 1)) (h := σ.length) (i := 1) (up (by decide) N1) (by walk_at "nv") (by walk_at "nv") (by decide) q1 (by omega) (by omega)
  obtain ⟨m3, σ3, a3, b3, s3, N3, p3, q3, l3⟩ := half_step (m := upd m2 3 (nV 2)) (h := σ.length) (i := 2) (up (by decide) N2) (by walk_at "nv") (by walk_at "nv") (by decide) q2 (by omega) (by omega)
  obtain ⟨m4, σ4, a4, b4, s4, N4, p4, q4, l4⟩ := half_step (m := upd m3 3 (nV 3)) (h := σ.length) (i := 3) (up (by decide) N3) (by walk_at "nv") (by walk_at "nv") (by decide) q3 (by omega) (by omega)
  exact ⟨m4, σ4, σ.length, a4, b4, fun g => st_seq (st_set (ev_newlist (ev_cons ev_C (ev_cons ev_C ev_nil)) (by simp))) (st_seq (st_for (ev_range0 (n := 4) (ev_cc (a := 4)) (by decide)) (for_cons rfl s1 trivial (for_cons rfl s2 trivial (for_cons rfl s3 trivial (for_cons rfl s4 trivial for_nil))))) rfl), p4, q4, by omega⟩
end
set_option exponentiation.threshold 3000
open _root_.PySem
/-! the law, joined -/
section
variable {m : Loc} {σ : List Cell} {f : Nat} {D : Bs} {res : Pr}
theorem row_of_pr {ps : List Part} (e : res = .ok ps) : rowV (rowOf (prP res)) = rvV res := by subst e; rfl
theorem ev_told (h : Parse D res) (hl : D.length ≤ 1000) {g : Loc → List Cell → Res V} (hg : g m σ = .ok (.bytes D) σ) : pCallT φ_told (pList [g]) m σ = .ok (toldV res) σ :=
  ev_callT (ev_cons hg ev_nil) (cl_cons (.bytes _) cl_nil) (told_spec h hl) (closed_told _)
theorem fd_step (h : Parse D res) (hl : D.length ≤ 1000) {us : List V} (h5 : m 5 = some (.cell f)) (h6 : m 6 = some (.bytes D)) (hf : σ[f]? = some (.list us)) (hu : us.length ≤ 1000) :
    ∃ m' σ', fBody m σ = .next m' σ' ∧ m' 2 = m 2 ∧ m' 5 = m 5 ∧ σ'[f]? = some (.list (us ++ [.tup [nV (prF res), rvV res]])) ∧ (∀ i c, i ≠ f → σ[i]? = some c → σ'[i]? = some c) := by
  obtain ⟨σ1, j, xs, c1, q1, q2, q3, q4, q5⟩ := lparts_spec h hl σ
  have un : sUnpack [7, 8] (pCall φ__law_parts [] (pList [(pVar 6)])) m σ = .next (upd (upd m 7 (nV (prF res))) 8 (.cell j)) σ1 := st_unpack (ev_call (ev_cons (ev_var h6) ev_nil) c1) rfl
  -- the row, if there is no fault
  have mid : ∃ m2 σ2, sSeq (sSet 9 (pC V.none)) (sSeq (sIf (pBind (pVar 7) fun a => pBind (pC (V.int 0)) fun b => pOp fun σ => (eqV σ a b).bind boolV) (sSeq (sSet 9 (pCall φ__law_row [] (pList [(pVar 8)]))) sNil) sNil) sNil) (upd (upd m 7 (nV (prF res))) 8 (.cell j)) σ1 = .next m2 σ2 ∧ Ext σ1 σ2 ∧
      m2 7 = some (nV (prF res)) ∧ m2 9 = some (rvV res) ∧ m2 2 = m 2 ∧ m2 5 = m 5 ∧ m2 6 = m 6 := by
    cases res with
    | ok ps =>
      obtain ⟨σ2, c2, x2⟩ := lrow_spec q1 q2 q5
      rw [q3] at c2
      exact ⟨_, σ2, st_seq (st_set ev_C) (st_seq (st_if_t (ev_num (a := 0) (ev_var (v := nV 0) (by walk_at "nv")) rfl) (st_seq (st_set (ev_call (ev_cons (ev_var (v := .cell j) (by walk_at "nv")) ev_nil) c2)) st_nil)) st_nil), x2, rfl, upd_same, rfl, rfl, rfl⟩
    | short => exact ⟨_, σ1, st_seq (st_set ev_C) (st_seq (st_if_f (ev_num (a := 1) (ev_var (v := nV 1) (by walk_at "nv")) rfl) st_nil) st_nil), fun _ _ => rfl, rfl, rfl, rfl, rfl, rfl⟩
    | corr => exact ⟨_, σ1, st_seq (st_set ev_C) (st_seq (st_if_f (ev_num (a := 2) (ev_var (v := nV 2) (by walk_at "nv")) rfl) st_nil) st_nil), fun _ _ => rfl, rfl, rfl, rfl, rfl, rfl⟩
  obtain ⟨m2, σ2, M, x2, e7, e9, e2, e5, e6⟩ := mid
  have hx : Ext σ σ2 := q4.trans x2
  have hf2 := hx.at hf
  have hfl := (List.getElem?_eq_some_iff.mp hf2).1
  have t9 : pTup (pList [(pVar 7), (pVar 9)]) m2 σ2 = .ok (.tup [nV (prF res), rvV res]) σ2 := ev_tup (ev_cons (ev_var e7) (ev_cons (ev_var e9) ev_nil)) (by simp)
  have tst : (pBind (pSlice (pCallT φ_told (pList [(pVar 6)])) (pC V.none) (pC (V.int 2))) fun a => pBind (pTup (pList [(pVar 7), (pVar 9)])) fun b => pOp fun σ => (neV σ a b).bind boolV) m2 σ2 = .ok false σ2 := by
    refine ev_cmp (a := .tup [nV (prF res), rvV res]) (ev_slice (lo := none) (hi := some 2) (ev_told h hl (ev_var (e6.trans h6))) ev_C ev_C rfl rfl ?_) t9 (neV_tup ?_)
    · rw [told_eq]
      unfold sliceV
      dsimp only
      rw [if_pos ⟨rfl, ⟨2, rfl, by decide, by simp⟩, by simp⟩]
      rfl
    · show (eqOk 7 (nV (prF res)) && (eqOk 7 (rvV res) && true)) = true
      rw [eqOk_rv 2]; rfl
  refine ⟨m2, σ2.set f (.list (us ++ [.tup [nV (prF res), rvV res]])), ?_, e2, e5, by rw [List.getElem?_set_self hfl], fun i c hi hc => by rw [List.getElem?_set_ne (Ne.symm hi)]; exact hx.at hc⟩
  have tail : sSeq (sIf (pBind (pSlice (pCallT φ_told (pList [(pVar 6)])) (pC V.none) (pC (V.int 2))) fun a => pBind (pTup (pList [(pVar 7), (pVar 9)])) fun b => pOp fun σ => (neV σ a b).bind boolV) (sSeq (sRet (pC (V.bool false))) sNil) sNil)
      (sSeq (sExpr (pMeth appendK (pVar 5) (pList [(pTup (pList [(pVar 7), (pVar 9)]))]))) sNil) m2 σ2 = .next m2 (σ2.set f (.list (us ++ [.tup [nV (prF res), rvV res]]))) :=
    st_seq (st_if_f tst st_nil) (st_seq (st_expr (ev_meth (ev_var (e5.trans h5)) (appendK_list hf2) (ev_cons t9 ev_nil) (append_list hf2 (by omega)))) st_nil)
  have re : ∀ {g1 g2 g3 : Loc → List Cell → RS} {m0 m1 : Loc} {σ0 σ1 : List Cell}, sSeq g1 (sSeq g2 sNil) m0 σ0 = .next m1 σ1 → sSeq g1 (sSeq g2 g3) m0 σ0 = g3 m1 σ1 := fun {g1 g2 g3 m0 m1 σ0 σ1} h => by
    unfold sSeq at h ⊢
    cases h1 : g1 m0 σ0 with
    | next m' σ' =>
      rw [h1] at h
      dsimp only at h ⊢
      cases h2 : g2 m' σ' with
      | next m'' σ'' => rw [h2] at h; cases h; rfl
      | _ => rw [h2] at h; cases h
    | _ => rw [h1] at h; cases h
  unfold fBody
  exact st_seq un ((re M).trans tail)
end
noncomputable def cB : Loc → List Cell → RS := (sIf (pBind (pBin itemV (pBin itemV (pVar 5) (pC (V.int 0))) (pC (V.int 0))) fun a => pBind (pC (V.int 2)) fun b => pOp fun σ => (eqV σ a b).bind boolV)
  (sSeq (sSet 7 (pC (V.int 2)))
  sNil)
  (sSeq (sIf (pBind (pBin itemV (pBin itemV (pVar 5) (pC (V.int 0))) (pC (V.int 0))) fun a => pBind (pC (V.int 1)) fun b => pOp fun σ => (eqV σ a b).bind boolV)
  (sSeq (sUnpack [7, 8] (pCall φ__law_parts [] (pList [(pBin addV (pBin itemV (pVar 2) (pC (V.int 0))) (pBin itemV (pVar 2) (pC (V.int 1))))])))
  (sSeq (sSet 9 (pCall φ__law_row [] (pList [(pVar 8)])))
  sNil))
  (sSeq (sIf (pBind (pVar 7) fun a => pBind (pC (V.int 0)) fun b => pOp fun σ => (eqV σ a b).bind boolV)
  (sSeq (sSet 9 (pCall φ__law_both [] (pList [(pBin itemV (pBin itemV (pVar 5) (pC (V.int 0))) (pC (V.int 1))), (pVar 9)])))
  sNil)
  sNil)
  sNil))
  sNil))
section
variable {m : Loc} {σ : List Cell} {f h : Nat} {a b : Bs} {ra rb rw' : Pr}
theorem ev_whole (h2 : m 2 = some (.cell h)) (hh : σ[h]? = some (.list [.bytes a, .bytes b])) (hl : a.length + b.length ≤ 1000000) : pBin addV (pBin itemV (pVar 2) (pC (V.int 0))) (pBin itemV (pVar 2) (pC (V.int 1))) m σ = .ok (.bytes (a ++ b)) σ :=
  ev_bb (ev_bin (ev_var h2) ev_C (itemV_cell (i := 0) hh (by decide) rfl)) (ev_bin (ev_var h2) ev_C (itemV_cell (i := 1) hh (by decide) rfl)) hl
/-- what the halves foretell of the whole -/
theorem comb_step (pa : Parse a ra) (pb : Parse b rb) (hl : a.length + b.length ≤ 500) (h2 : m 2 = some (.cell h)) (h5 : m 5 = some (.cell f)) (h7 : m 7 = some (nV (prF rb))) (h9 : m 9 = some (rvV rb)) (hh : σ[h]? = some (.list [.bytes a, .bytes b])) (hf : σ[f]? = some (.list [.tup [nV (prF ra), rvV ra], .tup [nV (prF rb), rvV rb]])) :
    ∃ m' σ' r, cB m σ = .next m' σ' ∧ Parse (a ++ b) r ∧ m' 2 = m 2 ∧ σ'[h]? = some (.list [.bytes a, .bytes b]) ∧ m' 7 = some (nV (prF r)) ∧ (∀ ps, r = .ok ps → m' 9 = some (rvV r)) := by
  obtain ⟨pk, pc⟩ := parse_append pa pb
  have i0 : ∀ {i : Nat} {v : V}, i < 1000000 → ([nV (prF ra), rvV ra] : List V)[i]? = some v → pBin itemV (pBin itemV (pVar 5) (pC (V.int 0))) (pC (nV i)) m σ = .ok v σ := fun {i v} hi hv =>
    ev_bin (ev_bin (ev_var h5) ev_C (itemV_cell (i := 0) hf (by decide) rfl)) ev_C (itemV_tup hi hv)
  have f0 : pBin itemV (pBin itemV (pVar 5) (pC (V.int 0))) (pC (V.int 0)) m σ = .ok (nV (prF ra)) σ := i0 (i := 0) (by decide) rfl
  unfold cB
  cases ra with
  | corr => exact ⟨_, σ, .corr, st_if_t (ev_num (a := 2) f0 rfl) (st_seq (st_set ev_C) st_nil), pc rfl, rfl, hh, rfl, fun ps e => by cases e⟩
  | short =>
    obtain ⟨r, pr⟩ := parse_total _ (a ++ b) (Nat.le_refl _)
    obtain ⟨σ1, j, xs, c1, q1, q2, q3, q4, q5⟩ := lparts_spec pr (by rw [List.length_append]; omega) σ
    obtain ⟨σ2, c2, x2⟩ := lrow_spec q1 q2 q5
    rw [q3] at c2
    refine ⟨_, σ2, r, st_if_f (ev_num (a := 1) f0 rfl) (st_seq (st_if_t (ev_num (a := 1) f0 rfl) (st_seq (st_unpack (ev_call (ev_cons (ev_whole h2 hh (by omega)) ev_nil) c1) rfl) (st_seq (st_set (ev_call (ev_cons (ev_var upd_same) ev_nil) c2)) st_nil))) st_nil), pr, rfl, x2.at (q4.at hh), rfl, fun ps e => by rw [← row_of_pr e]; exact upd_same⟩
  | ok ps =>
    have pr := pk ps rfl
    have i1 : pBin itemV (pBin itemV (pVar 5) (pC (V.int 0))) (pC (V.int 1)) m σ = .ok (rowV (rowOf ps)) σ := i0 (i := 1) (by decide) rfl
    cases rb with
    | short => exact ⟨m, σ, .short, st_if_f (ev_num (a := 0) f0 rfl) (st_seq (st_if_f (ev_num (a := 0) f0 rfl) (st_seq (st_if_f (ev_num (a := 1) (ev_var h7) rfl) st_nil) st_nil)) st_nil), pr, rfl, hh, h7, fun ps e => by cases e⟩
    | corr => exact ⟨m, σ, .corr, st_if_f (ev_num (a := 0) f0 rfl) (st_seq (st_if_f (ev_num (a := 0) f0 rfl) (st_seq (st_if_f (ev_num (a := 2) (ev_var h7) rfl) st_nil) st_nil)) st_nil), pr, rfl, hh, h7, fun ps e => by cases e⟩
    | ok qs =>
      have ca := Nat.le_trans (cnt_canon (rowOf ps)) (write_le pa)
      have cb := Nat.le_trans (cnt_canon (rowOf qs)) (write_le pb)
      have hb := lboth_spec (A := rowOf ps) (B := rowOf qs) (by omega) σ
      rw [← rowOf_append] at hb
      exact ⟨_, σ, .ok (ps ++ qs), st_if_f (ev_num (a := 0) f0 rfl) (st_seq (st_if_f (ev_num (a := 0) f0 rfl) (st_seq (st_if_t (ev_num (a := 0) (ev_var h7) rfl) (st_seq (st_set (ev_call (ev_cons i1 (ev_cons (ev_var h9) ev_nil)) hb)) st_nil)) st_nil)) st_nil), pr, rfl, hh, h7, fun _ _ => upd_same⟩
end
theorem law_spec (ns : List Int) (hn : ns.length ≤ 63) : ∃ σ', F_law (fun i => [V.clist (ns.map .int)][i]?) [] = .ret (.bool true) σ' := by
  obtain ⟨m1, σ1, k, ks, g1, N⟩ := nums_spec ns hn
  obtain ⟨m2, σ2, h, a, b, g2, h2, hh, hl⟩ := halves_spec N
  obtain ⟨ra, pa⟩ := parse_total _ a (Nat.le_refl _)
  obtain ⟨rb, pb⟩ := parse_total _ b (Nat.le_refl _)
  have hhl := (List.getElem?_eq_some_iff.mp hh).1
  obtain ⟨m3, σ3, s3, e32, e35, f3, k3⟩ := fd_step pa (by omega) (m := upd (upd m2 5 (.cell σ2.length)) 6 (.bytes a)) (σ := σ2 ++ [.list []]) (f := σ2.length) (us := []) (by walk_at "nv") (by walk_at "nv") (get_last _ _) (by simp)
  have hh3 := k3 h _ (by omega) (app_at hh _)
  have e35 : m3 5 = some (.cell σ2.length) := e35.trans rfl
  have e32 : m3 2 = some (.cell h) := e32.trans h2
  obtain ⟨m4, σ4, s4, e42, e45, f4, k4⟩ := fd_step pb (by omega) (m := upd m3 6 (.bytes b)) (σ := σ3) (f := σ2.length) (by walk_at "nv") (by walk_at "nv") f3 (by simp)
  have hh4 := k4 h _ (by omega) hh3
  have e45 : m4 5 = some (.cell σ2.length) := e45.trans e35
  have e42 : m4 2 = some (.cell h) := e42.trans e32
  obtain ⟨m5, σ5, r, s5, pr, e52, hh5, e57, e59⟩ := comb_step pa pb (by omega) (m := upd (upd m4 7 (nV (prF rb))) 9 (rvV rb)) (σ := σ4) (f := σ2.length) (h := h) (by walk_at "nv") (by walk_at "nv") (by walk_at "nv") (by walk_at "nv") hh4 f4
  have e52 : m5 2 = some (.cell h) := e52.trans e42
  have hab : (a ++ b).length ≤ 1000 := by rw [List.length_append]; omega
  have told : pCallT φ_told (pList [(pBin addV (pBin itemV (pVar 2) (pC (V.int 0))) (pBin itemV (pVar 2) (pC (V.int 1))))]) m5 σ5 = .ok (.tup [nV (prF r), rvV r, .bytes (agV r)]) σ5 := by
    rw [← told_eq]
    exact ev_told pr hab (ev_whole e52 hh5 (by omega))
  refine ⟨σ5, ?_⟩
  unfold F_law
  refine (g1 _).trans ?_
  refine (g2 _).trans ?_
  refine st_seq (st_set (ev_newlist ev_nil (by simp))) ?_
  refine st_seq (st_for (ev_over_cell (ev_var (v := .cell h) (by walk_at "nv")) (app_at hh _)) (for_cons rfl s3 hh3 (for_cons rfl s4 hh4 for_nil))) ?_
  refine st_seq (st_unpack (ev_bin (ev_var e45) ev_C (itemV_cell (i := 1) f4 (by decide) rfl)) rfl) ?_
  refine st_seq s5 ?_
  refine st_seq (m1 := upd (upd (upd m5 10 (nV (prF r))) 11 (rvV r)) 12 (.bytes (agV r))) (st_unpack told rfl) ?_
  refine st_seq (st_if_f (ev_cmp (ev_var (v := nV (prF r)) (by walk_at "nv")) (ev_var (v := nV (prF r)) (upd_ne rfl (upd_ne rfl (upd_ne rfl e57)))) (neV_f rfl)) st_nil) ?_
  have v7 : pVar 7 (upd (upd (upd m5 10 (nV (prF r))) 11 (rvV r)) 12 (.bytes (agV r))) σ5 = .ok (nV (prF r)) σ5 := ev_var (upd_ne rfl (upd_ne rfl (upd_ne rfl e57)))
  cases r with
  | short => exact st_seq_ret (st_if_t (ev_cmp v7 ev_C (gtV_t (by decide))) (st_seq_ret (st_ret ev_C)))
  | corr => exact st_seq_ret (st_if_t (ev_cmp v7 ev_C (gtV_t (by decide))) (st_seq_ret (st_ret ev_C)))
  | ok ps =>
    have e59 : m5 9 = some (rowV (rowOf ps)) := e59 ps rfl
    have hw := write_le pr
    have fit := fit_row (parse_fit pr ps rfl)
    generalize hM : upd (upd (upd m5 10 (nV (prF (.ok ps)))) 11 (rvV (.ok ps))) 12 (.bytes (agV (.ok ps))) = M at v7
    have x9 : M 9 = some (rowV (rowOf ps)) := by rw [← hM]; exact upd_ne rfl (upd_ne rfl (upd_ne rfl e59))
    have x11 : M 11 = some (rowV (rowOf ps)) := by rw [← hM]; rfl
    have x12 : M 12 = some (.bytes (rowOf ps).write) := by rw [← hM]; rfl
    refine st_seq (st_if_f (ev_cmp v7 ev_C (gtV_f (by show ¬ (0 : Int) < ((0 : Nat) : Int); decide))) st_nil) ?_
    have t1 : (pBind (pVar 11) fun a => pBind (pVar 9) fun b => pOp fun σ => (neV σ a b).bind boolV) M σ5 = .ok false σ5 := ev_cmp (ev_var x11) (ev_var x9) (neV_tup (eqOk_row 3 (rowOf ps)))
    have t2 : pNot (pTest (pUn isboolV (pBin itemV (pVar 11) (pC (V.int 7))))) M σ5 = .ok false σ5 := ev_not (y := true) (ev_test (ev_un (a := .bool (rowOf ps).rst) (ev_row (R := rowOf ps) (i := 7) (ev_var x11) (by decide) rfl) rfl))
    have t3 : (pBind (pVar 12) fun a => pBind (pCall φ__law_write [] (pList [(pVar 9)])) fun b => pOp fun σ => (neV σ a b).bind boolV) M σ5 = .ok false σ5 := ev_cmp (ev_var x12) (ev_call (ev_cons (ev_var x9) ev_nil) (lwrite_spec fit (by omega) σ5)) neV_b
    refine st_seq (st_if_f (ev_if_f t1 (ev_if_f t2 (ev_if_f t3 ev_C))) st_nil) ?_
    have pw := parse_write fit
    have tw : toldV (.ok (canon (rowOf ps))) = .tup [nV 0, rowV (rowOf ps), .bytes (rowOf ps).write] := by
      show V.tup [nV 0, rowV (rowOf (canon (rowOf ps))), .bytes (rowOf (canon (rowOf ps))).write] = _
      rw [row_canon]
    have tt := ev_told (m := M) (σ := σ5) pw (by omega) (ev_var x12)
    rw [tw] at tt
    refine st_seq_ret (st_ret (ev_bin tt (ev_tup (ev_cons (ev_cc (a := 0)) (ev_cons (ev_var x9) (ev_cons (ev_var x12) ev_nil))) (by simp)) (eqV_tup ?_)))
    show (eqOk 7 (nV 0) && (eqOk 7 (rowV (rowOf ps)) && (eqOk 7 (.bytes (rowOf ps).write) && true))) = true
    rw [eqOk_row 2]; rfl
theorem holds : _root_.PySem.Challenge.rw_nz0366_01.Holds := holds_of law_spec
end NZ
theorem PySem.Challenge.cw_nz0366_01_holds : PySem.Challenge.rw_nz0366_01.Holds :=
  NZ.holds
