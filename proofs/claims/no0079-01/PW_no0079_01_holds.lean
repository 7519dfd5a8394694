import PyProof.Rows.All
import Wide.All
import OpenK.AllK
import Wide.FinOn
import Lean
import PySem.Challenge.RW_no0079_01
set_option Elab.async false
set_option linter.all false

section
open PySem PySem.W PyProof.Rows PySem.Calls PySem.Spec
set_option maxRecDepth 100000
set_option maxHeartbeats 0
namespace Mine
def Wit {P : Prop} (_ : P) : Prop := True
theorem use {P : Prop} (h : P) (_ : Wit h) : P := h
theorem rm0 {a k n : Nat} (h : a + k < n) : a < n := Nat.lt_of_le_of_lt (Nat.le_add_right a k) h
theorem rm1 {a k n c : Nat} (h : a + k < n) (e : Nat.ble c k = true) : a + c < n := Nat.lt_of_le_of_lt (Nat.add_le_add_left (Nat.le_of_ble_eq_true e) a) h
theorem rm2 {a k n c d : Nat} (h : a + k < n) (e : Nat.ble (c + d) k = true) : a + c + d < n := Nat.add_assoc a c d ▸ rm1 h e
theorem rm3 {a k n c d e : Nat} (h : a + k < n) (z : Nat.ble (c + d + e) k = true) : a + c + d + e < n := by have := Nat.le_of_ble_eq_true z; omega
theorem leL {a k m : Nat} (h : a ≤ k) (e : Nat.ble k m = true) : a ≤ m := Nat.le_trans h (Nat.le_of_ble_eq_true e)
theorem ltL {a k m : Nat} (h : a ≤ k) (e : Nat.ble (k + 1) m = true) : a < m := Nat.lt_of_le_of_lt h (Nat.le_of_ble_eq_true e)
theorem gs1 {a L : Nat} (h : a < L) : L + 1 ≠ a := by omega
theorem gs2 {a L : Nat} (h : a < L) : L + 1 + 1 ≠ a := by omega
theorem ls1 {a L : Nat} (h : a < L) : a ≠ L + 1 := by omega
theorem ls2 {a L : Nat} (h : a < L) : a ≠ L + 1 + 1 := by omega
theorem gt2 {a b c : Nat} (h : a < b) (k : b < c) : c ≠ a := by omega
def badIds : List String := Builtin.Bytes.decodersThatHold ++ ["bytearray.__contains__", "bytearray.__mod__", "bytearray.__rmod__", "_struct.pack_into.held", "bytearray.find.held"]
def okC : Code → Bool
  | .builtin id _ => !badIds.contains id
  | _ => true
def Clean (Γ : PySem.Ctx) : Prop := okC Γ.code = true ∧ ∀ x ∈ Γ.below, okC x.1 = true
theorem Clean.enter {Γ : PySem.Ctx} {c : Code} {h : Option Value} {p : Pos} (k : Clean Γ) (hc : okC c = true) : Clean (Γ.enter c h p) := by
  refine ⟨hc, fun x hx => ?_⟩
  rcases List.mem_cons.mp hx with rfl | hx
  · exact k.1
  · exact k.2 x hx
theorem Clean.goto {Γ : PySem.Ctx} {c : Code} (k : Clean Γ) (hc : okC c = true) : Clean (Γ.goto c) := ⟨hc, k.2⟩

def wpC {α : Type} (M : Model) (A : Around) (t : Sem α) (Q : α → Shared → Prop) (E : Value → Shared → Prop) (s : Shared) : Prop :=
  ∀ Γ p, Γ.In A → Clean Γ → Sem.wp M Γ t (fun a _ s' => Q a s') (fun e _ s' => E e s') p s
def codeC (M : Model) (A : Around) (c : Code) (R : Result → Shared → Prop) (s : Shared) : Prop :=
  ∀ Γ p, Γ.code = c → Γ.Below A → Clean Γ → wpCode M Γ R p s

section
variable {α β : Type} {M : Model} {A : Around} {E : Value → Shared → Prop} {s : Shared} {env : Env}
theorem C_any {t : Sem α} {Q : α → Shared → Prop} (h : wpAny M A t Q E s) : wpC M A t Q E s := fun Γ p hΓ _ => h Γ p hΓ
theorem codeC_any {c : Code} {R : Result → Shared → Prop} (h : codeAny M A c R s) : codeC M A c R s := fun Γ p hc hΓ _ => h Γ p hc hΓ
theorem C_pure {a : α} {Q : α → Shared → Prop} (h : Q a s) : wpC M A (pure a) Q E s := fun _ _ _ _ => h
theorem C_mono {t : Sem α} {Q Q' : α → Shared → Prop} {E' : Value → Shared → Prop} (h : wpC M A t Q E s) (hQ : ∀ a s, Q a s → Q' a s) (hE : ∀ e s, E e s → E' e s) : wpC M A t Q' E' s :=
  fun Γ p hΓ k => Sem.wp_mono M Γ t (fun a _ s => hQ a s) (fun e _ s => hE e s) p s (h Γ p hΓ k)
theorem C_then {t : Sem α} {Q Q' : α → Shared → Prop} (h : wpC M A t Q E s) (hQ : ∀ a s, Q a s → Q' a s) : wpC M A t Q' E s := C_mono h hQ fun _ _ x => x
theorem C_bind {m : Sem α} {f : α → Sem β} {Q : β → Shared → Prop} (h : wpC M A m (fun a s' => wpC M A (f a) Q E s') E s) : wpC M A (m >>= f) Q E s := fun Γ p hΓ k => by
  rw [Sem.wp_bind']
  exact Sem.wp_mono M Γ m (fun a p' s' h' => h' Γ p' hΓ k) (fun _ _ _ h' => h') p s (h Γ p hΓ k)
theorem C_holding {vs : List Value} {m : Sem α} {Q : α → Shared → Prop} (h : wpC M A m Q E s) : wpC M A (holding vs m) Q E s :=
  fun Γ p hΓ k => by rw [Sem.wp_holding]; exact h Γ p hΓ k
theorem C_keep {vs : List Value} {m : Sem α} {Q : α → Shared → Prop} (h : wpC M A m Q E s) : wpC M A (m.keep vs) Q E s :=
  fun Γ p hΓ k => by rw [Sem.wp_keep]; exact h Γ p hΓ k
theorem C_standAt {pos : Pos} {Q : Unit → Shared → Prop} (h : Q () s) : wpC M A (standAt pos) Q E s := fun _ _ _ _ => h
theorem C_eq {t u : Sem α} {Q : α → Shared → Prop} (e : t = u) (h : wpC M A u Q E s) : wpC M A t Q E s := e ▸ h
theorem C_onRaise {m : Sem α} {k : Value → Sem Unit} {Q : α → Shared → Prop} (h : wpC M A m Q (fun _ _ => False) s) : wpC M A (m.onRaise k) Q E s := fun Γ p hΓ c => by
  rw [Sem.wp_onRaise]
  exact Sem.wp_mono M Γ m (fun _ _ _ h' => h') (fun _ _ _ h' => h'.elim) p s (h Γ p hΓ c)
theorem C_attempt {m : Sem α} {Q : Except Value α → Shared → Prop} (h : wpC M A m (fun a => Q (.ok a)) (fun _ _ => False) s) : wpC M A m.attempt Q E s := fun Γ p hΓ c => by
  rw [Sem.wp_attempt]
  exact Sem.wp_mono M Γ m (fun _ _ _ h' => h') (fun _ _ _ h' => h'.elim) p s (h Γ p hΓ c)
theorem C_operate {vs : List Value} {m : Sem Value} {Q : Value → Shared → Prop} (h : wpC M A m Q E s) : wpC M A (operate vs m) Q E s := fun Γ p hΓ c => by
  rw [Sem.wp_operate]; exact h Γ p hΓ c

theorem C_runValue {c : Code} {Q : Value → Shared → Prop} (ok : okC c = true)
    (hc : codeC M A c (fun r s' => match r with | .ok (.ret v) => Q v s' | .ok _ => False | .error e => E e s') s) : wpC M A (runValue c) Q E s :=
  fun Γ p hΓ k => by rw [Sem.wp_runValue]; exact hc _ p rfl (hΓ.enter c none p (by intro x; cases x)) (k.enter ok)
theorem C_call {f : Value} {pos : List Value} {kw : List (PySem.Str × Value)} {Q : Value → Shared → Prop}
    (hc : codeC M A (.call f ⟨pos, kw⟩) (fun r s' => match r with | .ok (.ret v) => Q v s' | .ok _ => False | .error e => E e s') s) : wpC M A (call f pos kw) Q E s := C_runValue rfl hc
theorem C_run {c : Code} {Q : Flow → Shared → Prop} (ok : okC c = true) (hc : codeC M A c (fun r s' => match r with | .ok f => Q f s' | .error e => E e s') s) : wpC M A (run c) Q E s :=
  fun Γ p hΓ k => by rw [Sem.wp_run]; exact hc _ p rfl (hΓ.enter c none p (by intro x; cases x)) (k.enter ok)
theorem C_runOwn {c : Code} {Q : Flow → Shared → Prop} (ok : okC c = true) (hc : codeC M A c (fun r s' => match r with | .ok f => Q f s' | .error _ => False) s) : wpC M A (runOwn c env) Q E s := by
  unfold runOwn
  exact C_onRaise (C_run ok hc)
theorem codeC_of_tree {c : Code} {R : Result → Shared → Prop}
    (h : wpC M (A.under c) (M.den c) (fun fin s' => match fin with | .done f => R (.ok f) s' | .again c' => c'.quiet = true ∧ okC c' = true ∧ codeC M A c' R s') (fun e s' => R (.error e) s') s) : codeC M A c R s := fun Γ p hc hΓ k => by
  rw [wpCode_iff_wp, hc]
  refine Sem.wp_mono M Γ _ (fun fin p' s' h' => ?_) (fun _ _ _ h' => h') p s (h Γ p (hc ▸ hΓ.in) k)
  cases fin with
  | done f => exact h'
  | again c' => exact ⟨h'.1, h'.2.2 (Γ.goto c') p' rfl (hΓ.goto c') (k.goto h'.2.1)⟩
theorem codeC_mono {c : Code} {R R' : Result → Shared → Prop} (h : codeC M A c R s) (hR : ∀ r s, R r s → R' r s) : codeC M A c R' s :=
  fun Γ p hc hΓ k => wpCode_mono hR (h Γ p hc hΓ k)
theorem C_stack_any {f : Code × Pos → Bool} {Q : Bool → Shared → Prop} (hf : ∀ c p, okC c = true → f (c, p) = false) (h : Q false s) : wpC M A (do return (← stack).any f) Q E s := fun Γ p _ k => by
  show Q (((Γ.code, p) :: Γ.below).any f) s
  have e : ((Γ.code, p) :: Γ.below).any f = false := by
    rw [List.any_eq_false]
    intro x hx
    rcases List.mem_cons.mp hx with rfl | hx
    · rw [hf _ _ k.1]; exact Bool.false_ne_true
    · obtain ⟨c, q⟩ := x
      rw [hf _ _ (k.2 _ hx)]; exact Bool.false_ne_true
  rw [e]; exact h

theorem C_execs_cons {st rest} {Q : Flow → Shared → Prop} (h : wpC M A (exec st env) (fun f s' => match f with | .next => wpC M A (execs rest env) Q E s' | f => Q f s') E s) : wpC M A (execs (st :: rest) env) Q E s := by
  rw [execs_cons]
  refine C_bind (C_then h fun f s' h' => ?_)
  cases f <;> first | exact h' | exact C_pure h'
theorem C_Return {e pos} {Q : Flow → Shared → Prop} (h : wpC M A (eval e env) (fun v => Q (.ret v)) E s) : wpC M A (exec (.Return (some e) pos) env) Q E s := by
  rw [exec_Return_some]
  exact C_bind (C_standAt (C_bind (C_then h fun v s' h' => C_pure h')))
theorem C_Assign_Name {x pos' value pos} {Q : Flow → Shared → Prop} (h : wpC M A (eval value env) (fun v s₁ => wpAny M A (storeName env x v) (fun _ => Q .next) E s₁) E s)
    (hs : swapsWith value (some (.Name x pos')) pos.line env = pure false := by rfl) : wpC M A (exec (.Assign [.Name x pos'] value pos) env) Q E s := by
  rw [exec_Assign_Name env x pos' value pos hs]
  exact C_bind (C_standAt (C_bind (C_then h fun v s₁ h₁ => C_bind (C_standAt (C_bind (C_then (C_any (wpAny_bindName h₁)) fun _ s₂ h₂ => C_pure h₂))))))
theorem C_Assign_Tuple {ts k tp value pos} {Q : Flow → Shared → Prop}
    (h : wpC M A (eval value env) (fun v s₁ => wpAny M A (do assignStores env v (← swappedStores [.Tuple ts k tp] value env) ((assignEach [.Tuple ts k tp] env).map (·.2))) Q E s₁) E s)
    (hs : swapsWith value (some (.Tuple ts k tp)) pos.line env = pure false := by rfl) : wpC M A (exec (.Assign [.Tuple ts k tp] value pos) env) Q E s := by
  have e : exec (.Assign [.Tuple ts k tp] value pos) env = (do
      standAt pos
      if ← swapsWith value (some (.Tuple ts k tp)) pos.line env then do
        evalThenUse value env fun v => assignAll v ((assignEach [.Tuple ts k tp] env).map (·.2))
        pure .next
      else do
        let v ← eval value env
        assignStores env v (← swappedStores [.Tuple ts k tp] value env) ((assignEach [.Tuple ts k tp] env).map (·.2))) := rfl
  rw [e, hs]
  refine C_bind (C_standAt (C_bind (C_pure ?_)))
  show wpC M A (do let v ← eval value env; assignStores env v (← swappedStores [.Tuple ts k tp] value env) ((assignEach [.Tuple ts k tp] env).map (·.2))) Q E s
  exact C_bind (C_then h fun v s₁ h₁ => C_any h₁)
theorem C_If {test body orelse pos} {Q : Flow → Shared → Prop} (h : wpC M A (isTrue test env (eval test env)) (fun b s₂ => if b then wpC M A (execs body env) Q E s₂ else wpC M A (execs orelse env) Q E s₂) E s) :
    wpC M A (exec (.If test body orelse pos) env) Q E s := by
  rw [exec_If]
  refine C_bind (C_standAt (C_bind (C_then h fun b s₂ h₂ => ?_)))
  cases b <;> exact h₂
theorem C_BinOp {l op r pos} {Q : Value → Shared → Prop} (h : wpC M A (eval l env) (fun a s₁ => wpC M A (eval r env) (fun b s₂ => wpAny M A (binaryOp op a b) Q E s₂) E s₁) E s) : wpC M A (eval (.BinOp l op r pos) env) Q E s := by
  rw [eval_BinOp]
  exact C_bind (C_then h fun a s₁ h₁ => C_bind (C_holding (C_then h₁ fun b s₂ h₂ => C_bind (C_standAt (C_operate (C_any h₂))))))
theorem C_Compare {l op r pos} {Q : Value → Shared → Prop} (h : wpC M A (eval l env) (fun a s₁ => wpC M A (eval r env) (fun b s₂ => wpAny M A (compareOp op a b) Q E s₂) E s₁) E s)
    (hm : behindInMarks op r = false := by with_unfolding_all rfl) : wpC M A (eval (.Compare l [op] [r] pos) env) Q E s := by
  rw [eval_Compare1, markedBehindIn_of_false hm]
  exact C_bind (C_then h fun a s₁ h₁ => C_bind (C_holding (C_then h₁ fun b s₂ h₂ => C_bind (C_standAt (C_operate (C_any h₂))))))
theorem C_isTrue_Compare {l op r pos whole} {Q : Bool → Shared → Prop} (h : wpC M A (eval l env) (fun a s₁ => wpC M A (eval r env) (fun b s₂ => wpAny M A (compareOp op a b) (fun c s₃ => wpAny M A (truthy c) Q E s₃) E s₂) E s₁) E s)
    (hm : behindInMarks op r = false := by with_unfolding_all rfl) : wpC M A (isTrue (.Compare l [op] [r] pos) env whole) Q E s := by
  rw [isTrue_Compare1, markedBehindIn_of_false hm]
  exact C_bind (C_then h fun a s₁ h₁ => C_bind (C_holding (C_then h₁ fun b s₂ h₂ => C_bind (C_standAt (C_bind (C_operate (C_then (C_any h₂) fun c s₃ h₃ => C_holding (C_any h₃))))))))
theorem C_isTrue_not {x pos whole} {Q : Bool → Shared → Prop} (h : wpC M A (isTrue x env (eval x env)) (fun c s' => Q (!c) s') E s) : wpC M A (isTrue (.UnaryOp .Not x pos) env whole) Q E s := by
  show wpC M A (do return !(← isTrue x env (eval x env))) Q E s
  exact C_bind (C_then h fun c s' h' => C_pure h')
theorem C_isTrue_or_nil {pos whole} {Q : Bool → Shared → Prop} (h : Q false s) : wpC M A (isTrue (.BoolOp .Or [] pos) env whole) Q E s := C_pure (a := false) h
theorem C_isTrue_or {x rest pos whole} {Q : Bool → Shared → Prop} (h : wpC M A (isTrue x env (eval x env)) (fun c s' => if c then Q true s' else wpC M A (isTrue (.BoolOp .Or rest pos) env whole) Q E s') E s) :
    wpC M A (isTrue (.BoolOp .Or (x :: rest) pos) env whole) Q E s := by
  show wpC M A (do
    match BoolOp.Or, ← isTrue x env (eval x env) with
    | .And, false => pure false
    | .Or, true => pure true
    | _, _ => allTrue .Or rest env) Q E s
  refine C_bind (C_then h fun c s' h' => ?_)
  cases c with
  | false => exact h'
  | true => exact C_pure h'
theorem C_isTrue_plain {e : PySem.Expr} {whole : Sem Value} {Q : Bool → Shared → Prop} (h : wpC M A whole (fun v s₁ => wpAny M A (truthy v) Q E s₁) E s)
    (he : isTrue e env whole = (do let v ← whole; standAt e.pos; holding [v] (truthy v)) := by rfl) : wpC M A (isTrue e env whole) Q E s := by
  rw [he]
  exact C_bind (C_then h fun v s₁ h₁ => C_bind (C_standAt (C_holding (C_any h₁))))
theorem C_UnaryOp {op : UnaryOp} {x : PySem.Expr} {pos : Pos} {Q : Value → Shared → Prop} (h : wpC M A (eval x env) (fun v s₁ => wpAny M A (unaryOp op v) Q E s₁) E s) : wpC M A (eval (.UnaryOp op x pos) env) Q E s := by
  show wpC M A (do let v ← eval x env; standAt pos; holding [v] (unaryOp op v)) Q E s
  exact C_bind (C_then h fun v s₁ h₁ => C_bind (C_standAt (C_holding (C_any h₁))))
theorem C_And {x y pos} {Q : Value → Shared → Prop} (h : wpC M A (eval x env) (fun v s₁ => wpAny M A (truthy v) (fun c s₂ => if c then wpC M A (eval y env) Q E s₂ else Q v s₂) E s₁) E s) : wpC M A (eval (.BoolOp .And [x, y] pos) env) Q E s := by
  show wpC M A (do
    let v ← eval x env
    standAt pos
    let t ← holding [v] (truthy v)
    match BoolOp.And, t with
    | .And, false | .Or, true => pure v
    | _, _ => eval y env) Q E s
  refine C_bind (C_then h fun v s₁ h₁ => C_bind (C_standAt (C_bind (C_holding (C_then (C_any h₁) fun c s₂ h₂ => ?_)))))
  cases c with
  | false => exact C_pure h₂
  | true => exact h₂
theorem C_Tuple {elts : List PySem.Expr} {k : Nat} {pos : Pos} {Q : Value → Shared → Prop} (h : wpC M A (spliced (backTo pos (starEach elts env))) (fun vs s₁ => wpAny M A (newTuple vs) Q E s₁) E s) : wpC M A (eval (.Tuple elts k pos) env) Q E s := by
  show wpC M A (do standAt pos; newTuple (← spliced (backTo pos (starEach elts env)))) Q E s
  exact C_bind (C_standAt (C_bind (C_then h fun vs s₁ h₁ => C_any h₁)))
theorem C_spliced_nil {Q : List Value → Shared → Prop} (h : Q [] s) : wpC M A (spliced []) Q E s := C_pure h
theorem C_spliced_cons {x : Sem Value} {rest : List (Bool × Sem Value)} {Q : List Value → Shared → Prop} (h : wpC M A x (fun v s₁ => wpC M A (spliced rest) (fun vs s₂ => Q (v :: vs) s₂) E s₁) E s) : wpC M A (spliced ((false, x) :: rest)) Q E s := by
  rw [spliced]
  refine C_bind (C_then h fun v s₁ h₁ => ?_)
  simp only [Bool.false_eq_true, if_false]
  exact C_bind (C_pure (C_bind (C_holding (C_then h₁ fun vs s₂ h₂ => C_pure h₂))))
theorem C_args_nil {pos : Pos} {Q : List Value → Shared → Prop} (h : Q [] s) : wpC M A (spliced (backTo pos (starEach [] env))) Q E s := C_pure h
theorem C_args_cons {pos : Pos} {e : PySem.Expr} {rest : List PySem.Expr} {Q : List Value → Shared → Prop}
    (h : wpC M A (eval e env) (fun v s₁ => wpC M A (spliced (backTo pos (starEach rest env))) (fun vs s₂ => Q (v :: vs) s₂) E s₁) E s)
    (he : starEach (e :: rest) env = (false, eval e env) :: starEach rest env := by rfl) : wpC M A (spliced (backTo pos (starEach (e :: rest) env))) Q E s := by
  rw [he]
  exact C_spliced_cons (x := eval e env) h
theorem C_Call {id : PySem.Str} {p pos : Pos} {args : List PySem.Expr} {Q : Value → Shared → Prop}
    (h : wpAny M A (eval (.Name id p) env) (fun f s₁ => wpC M A (callWith pos f [] (backTo pos (starEach args env)) []) Q E s₁) E s) : wpC M A (eval (.Call (.Name id p) args [] pos) env) Q E s := by
  show wpC M A (do callWith pos (← eval (.Name id p) env) [] (backTo pos (starEach args env)) []) Q E s
  exact C_bind (C_then (C_any h) fun f s₁ h₁ => h₁)
theorem C_evalArgs {f : Value} {x : Sem Value} {rest : List (Bool × Sem Value)} {Q : PySem.Args → Shared → Prop} (h : wpC M A (spliced ((false, x) :: rest)) (fun vs s' => Q ⟨vs, []⟩ s') E s) : wpC M A (evalArgs f true ((false, x) :: rest) []) Q E s := by
  unfold evalArgs
  show wpC M A (spliced ((false, x) :: rest) >>= _) Q E s
  refine C_bind (C_then h fun vs s' h' => C_holding ?_)
  exact C_bind (C_pure (C_bind (C_pure (C_pure h'))))
theorem C_callWith_of {P : Heap → Prop} {pos : Pos} {f : Value} {args : List (Bool × Sem Value)} {Q : Value → Shared → Prop} (hplain : (args.any (·.1) || ([] : List (Option PySem.Str × Sem Value)).any (·.1.isNone)) = false)
    (hk : ∀ h, P h → ∃ k, (k = Keeper.frame ∨ k = Keeper.machine ∨ k = Keeper.boundFrame) ∧ Looks M h (keeperOf f) k)
    (h : wpC M A (evalArgs f true args []) (fun a s₁ => P s₁.heap ∧ wpC M A (call f a.pos a.kw) Q E s₁) E s) : wpC M A (callWith pos f [] args []) Q E s := by
  unfold callWith
  refine C_bind (C_holding (C_then h fun a s₁ h₁ => C_bind (C_standAt ?_)))
  obtain ⟨k, hk', L⟩ := hk _ h₁.1
  simp only [hplain]
  refine C_bind (C_any (L.here ?_))
  have tail : ∀ {t : Sem Value}, wpC M A t Q E s₁ → wpC M A (t >>= fun r => holding [r] point >>= fun _ => pure r) Q E s₁ :=
    fun ht => C_bind (C_then ht fun r s₂ hr => C_bind (C_any (wpAny_holding (wpAny_point (C_pure hr)))))
  have marked (mk : Value) : wpC M A (callMarked mk f a.pos a.kw) Q E s₁ := by unfold callMarked; exact C_keep h₁.2
  rcases hk' with rfl | rfl | rfl <;> dsimp only [List.nil_append] <;> first | exact tail h₁.2 | (split <;> first | exact tail h₁.2 | exact tail (marked _))
theorem C_callWith {K : Frag} {pos : Pos} {f : Value} {e : PySem.Expr} {rest : List PySem.Expr} {Q : Value → Shared → Prop} (hk : keepIn K f = true)
    (h : wpC M A (spliced (backTo pos (starEach (e :: rest) env))) (fun vs s₁ => K.In s₁.heap ∧ wpC M A (call f vs) Q E s₁) E s)
    (he : starEach (e :: rest) env = (false, eval e env) :: starEach rest env := by rfl) (hplain : (backTo pos (starEach rest env)).any (·.1) = false := by rfl) :
    wpC M A (callWith pos f [] (backTo pos (starEach (e :: rest) env)) []) Q E s := by
  rw [he] at h ⊢
  exact C_callWith_of (by show ((false || (backTo pos (starEach rest env)).any (·.1)) || false) = false; rw [hplain]; rfl) (keeps_K hk) (C_evalArgs h)
theorem C_callWith_builtin {pos : Pos} {id : String} {e : PySem.Expr} {rest : List PySem.Expr} {Q : Value → Shared → Prop}
    (h : wpC M A (spliced (backTo pos (starEach (e :: rest) env))) (fun vs s₁ => wpC M A (call (.builtin id) vs) Q E s₁) E s)
    (he : starEach (e :: rest) env = (false, eval e env) :: starEach rest env := by rfl) (hplain : (backTo pos (starEach rest env)).any (·.1) = false := by rfl) :
    wpC M A (callWith pos (.builtin id) [] (backTo pos (starEach (e :: rest) env)) []) Q E s := by
  rw [he] at h ⊢
  exact C_callWith_of (P := fun _ => True) (by show ((false || (backTo pos (starEach rest env)).any (·.1)) || false) = false; rw [hplain]; rfl) (fun h _ => ⟨.machine, .inr (.inl rfl), Looks.of_pure rfl⟩) (C_evalArgs (C_then h fun vs s' h' => ⟨trivial, h'⟩))
theorem C_callWith_type {pos : Pos} {id : String} {e : PySem.Expr} {rest : List PySem.Expr} {Q : Value → Shared → Prop}
    (h : wpC M A (spliced (backTo pos (starEach (e :: rest) env))) (fun vs s₁ => wpC M A (call (.type id) vs) Q E s₁) E s)
    (he : starEach (e :: rest) env = (false, eval e env) :: starEach rest env := by rfl) (hplain : (backTo pos (starEach rest env)).any (·.1) = false := by rfl) :
    wpC M A (callWith pos (.type id) [] (backTo pos (starEach (e :: rest) env)) []) Q E s := by
  rw [he] at h ⊢
  exact C_callWith_of (P := fun _ => True) (by show ((false || (backTo pos (starEach rest env)).any (·.1)) || false) = false; rw [hplain]; rfl) (fun h _ => ⟨.machine, .inr (.inl rfl), Looks.of_pure rfl⟩) (C_evalArgs (C_then h fun vs s' h' => ⟨trivial, h'⟩))
end
end Mine
end

section
open PySem PySem.W PyProof.Rows PySem.Calls PySem.Spec
set_option maxRecDepth 100000
set_option maxHeartbeats 0
namespace Mine
section
variable {prog : Program} {w : World} {A : Around} {R : Result → Shared → Prop} {s : Shared}
theorem codeC_func {body : List Stmt} {env : Env} (h : wpC (model prog w) (A.deeper env) (execs body env) (fun f s' => R (.ok (.ret (match f with | .ret v => v | _ => .none))) s') (fun _ _ => False) s) : codeC (model prog w) A (.func body env) R s := by
  refine codeC_of_tree ?_
  show wpC _ (A.deeper env) (do point; match ← (execs body env).onRaise (leaving env) with | .ret v => ret v | _ => ret .none) _ _ s
  refine C_bind (C_any (wpAny_point (C_bind (C_onRaise (C_then h fun f s' h' => ?_)))))
  cases f <;> exact C_pure h'
theorem codeC_call {a : Addr} {args : PySem.Args} {o : Obj} {fd : FuncData} {body : List Stmt} {binds : List (PySem.Str × Value)} (hroom : A.depth < recursionLimit) (ho : s.heap.get? a = some o)
    (hd : o.data = .func fd) (hlim : s.heap.NoLimit) (hcd : s.heap.CodeRec fd.code fd.qualname) (hbody : fd.body = .stmts body) (hbind : BindsTo s fd args binds)
    (hcell : ∀ x ∈ fd.scope.names, x.2 ≠ .cell) (hloc : ∀ x ∈ binds, fd.scope.names.lookup x.1 = some .local)
    (h : ∀ h₀, h₀.Ns s.heap.objs.size (fun x => binds.reverse.lookup x) → (∀ b o, s.heap.get? b = some o → h₀.get? b = some o) →
      wpC (model prog w) (A.deeper (callEnv fd s.heap.objs.size a)) (execs body (callEnv fd s.heap.objs.size a)) (fun f s' => R (.ok (.ret (match f with | .ret v => v | _ => .none))) s') (fun _ _ => False)
        { s with heap := h₀, toks := s.toks + binds.length })
    (hco : fd.scope.isCoroutine = false := by rfl) (hgen : fd.scope.isGenerator = false := by rfl) (hk : fd.scope.kind = .function := by rfl) : codeC (model prog w) A (.call (.ref a) args) R s := by
  refine codeC_of_tree (C_any ?_)
  show wpAny _ A.in1 (callAny (.ref a) args) _ _ s
  simp only [callAny]
  refine wpAny_bind (wpAny_load ho ?_)
  obtain ⟨c, oc, vs, tq, hc, hoc, hdc, hq⟩ := hcd
  simp only [hd, callFunction, hco, hgen, hbody, hc]
  refine wpAny_bind (m := field (.ref c) 1) (wpAny_field hoc hdc hq (wpAny_bind (wpAny_pure ?_)))
  refine wpAny_bind (wpAny_mono (hbind _ _ _ (fun bs s₁ => bs = binds ∧ s₁ = s) ⟨rfl, rfl⟩) (fun bs s₁ e => ?_) fun _ _ x => x)
  obtain ⟨rfl, rfl⟩ := e
  refine wpAny_bind (wpAny_newFunctionEnv hcell hloc (fun h₀ hns₀ hsb₀ => wpAny_bind (wpAny_enterFrame (hlim.fresh _ hsb₀) hroom (wpAny_pure ⟨rfl, rfl, ?_⟩))) hk)
  refine codeC_func ?_
  have := h h₀ hns₀ fun b o e => hsb₀.extBut b o (Nat.ne_of_lt (Heap.lt_size e)) (Heap.get?_push_of_some _ e)
  simpa only [callEnv, hc] using this
end

section
variable {prog : Program} {w : World} {A₀ A : Around} {s : Shared} {K : Frag} {base h₀ : Heap} {L : Addr} {m mg mb : PySem.Str → Option Value} {news : List (Addr × Obj)} {p : Program} {loose : List PySem.Str} {mean : ExcName → Option Value}
theorem code_defK {env : Env} {outer : List Env} {R : Result → Shared → Prop} {name qual : PySem.Str} {params : Arguments} {body : List Stmt} {scope : Scope} {dV kV doc pm cdv ct oc : Value} {an od : Option Addr} {osl : Array (Option Value)} {f : Addr} {args : PySem.Args} {binds : List (PySem.Str × Value)}
    (B : Below A₀ base outer h₀) (F : Fr h₀ L s.heap m) (X₀ : K.In h₀) (N : News h₀ L s.heap news) (T : Top p loose mean mg mb h₀) (hA : A.frames = some (env :: outer)) (hf : env.frame = some L) (hke : env.scope.kind = .function)
    (ho : K.lookup f = some ⟨oc, od, .func (fnOf name qual params body scope dV kV doc pm an cdv ct), osl⟩) (hcd : codeIn K cdv qual = true) (hroom : A.depth < recursionLimit)
    (hbind : BindsTo s (fnOf name qual params body scope dV kV doc pm an cdv ct) args binds) (hloc : ∀ y ∈ binds, scope.names.lookup y.1 = some .local)
    (h : ∀ g L' h₁, Fr h₀ L g m → Fr g L' h₁ (fun y => binds.reverse.lookup y) → News g L' h₁ news → Below A base (env :: outer) g → K.In g → Top p loose mean mg mb g →
      wpC (model prog w) (A.deeper (envOf qual scope L' f cdv)) (execs body (envOf qual scope L' f cdv)) (fun fl s' => LeaveK h₀ L m g R (match fl with | .ret v => v | _ => .none) s') (fun _ _ => False) { s with heap := h₁, toks := s.toks + binds.length })
    (hco : scope.isCoroutine = false) (hgen : scope.isGenerator = false) (hk : scope.kind = .function) (hcell : ∀ x ∈ scope.names, x.2 ≠ .cell) : codeC (model prog w) A (.call (.ref f) args) R s := by
  have X := X₀.keeps F.keep
  obtain ⟨FG, BG, st, lv⟩ := groundX (R := R) B F N hA hf hke
  refine codeC_call (fd := fnOf name qual params body scope dV kV doc pm an cdv ct) (body := body) (binds := binds) hroom (X _ _ ho) rfl (T.nolimit.keeps F.keep) (codeRec_of X hcd) rfl hbind hcell hloc (fun h₁ hns hk₁ => ?_) hco hgen hk
  exact C_then (h _ s.heap.objs.size h₁ FG ⟨hns, fun b o e => hk₁ b o (of_hideAll _ e), Nat.le_of_eq (hideAll_size _ _)⟩
    (fun p hp => ⟨hk₁ _ _ (N p hp).1, Nat.ne_of_lt (Heap.lt_size (N p hp).1), hideAll_none _ (List.mem_map_of_mem hp)⟩) BG (X₀.keeps st) (T.keeps st)) fun fl s' hl => lv _ _ hl
end
end Mine
end

section
open PySem PySem.W PyProof.Rows PySem.Calls PySem.Spec
set_option maxRecDepth 100000
set_option maxHeartbeats 0
namespace Mine
theorem caller_clean : Clean ⟨.builtin "claim.caller" {}, none, none, [], none⟩ := ⟨by show (!badIds.contains "claim.caller") = true; decide +kernel, fun _ h => nomatch h⟩
theorem ends_clean {prog : Program} {w : World} {t : Sem PySem.Fin} {s : Shared} {R : Result → Shared → Prop} (hreg : s.asleep)
    (h : wpC (model prog w) callerA t (fun fin s' => ∃ f, fin = .done f ∧ (R (.ok f) s' ∧ leftWithCleanup s'.gens = false)) (fun e s' => R (.error e) s' ∧ leftWithCleanup s'.gens = false) s) :
    ∃ n r s' s'', runN (denote table) prog w n s ⟨t, .builtin "claim.caller" {}, default, []⟩ = .halted (outcomeOf r) s' ∧
      schedN (denote table) prog w n (.single s ⟨t, .builtin "claim.caller" {}, default, []⟩) = .halted (outcomeOf r) s' ∧ s'.forget = s''.forget ∧ R r s'' := by
  have hp := h _ default caller_in caller_clean
  obtain ⟨n, r, s₁, s₂, hs, hn, hfo, hR⟩ := wp_halts_full (M := model prog w) (R := R) hreg (Sem.wp_mono _ _ t (fun fin p' s' h' => by
    obtain ⟨f, rfl, hf⟩ := h'
    exact hf) (fun _ _ _ x => x) _ _ hp)
  exact ⟨n, r, s₂, s₁, hn, hs, hfo, hR⟩

abbrev WalkC (q : Program) (loose : List PySem.Str) (XP : (PySem.Str → Option Value) → Heap → Prop) (YP : World → Heap → Prop) (r : RowW) (d : DefRec) (kwd : List (PySem.Str × PySem.Expr)) : Prop :=
  ∀ (w : World) (s₀ s₁ : Shared) (mg mb : PySem.Str → Option Value), Ground q loose r.records XP w s₀ mg mb s₁.heap → YP w s₁.heap → ∀ (a : Addr) (o : Obj) (pm cd doc dV kV : Value), s₁.heap.get? a = some o →
    o.data = .func { docDef d.name d.params d.body d.scope pm cd doc with defaults := dV, kwdefaults := kV } → s₁.heap.CodeRec cd d.name → Dflts mg s₁.heap d.params kwd dV kV → mg d.name = some (.ref a) → s₁.gens = #[] →
    ∀ (args : List WData) (vals : List Value) (as : List Addr), r.claim.pre args = true → WData.layableAll args = true → ReadsAllW r.records (classAt s₀.heap) s₁.heap vals args as → WellAll w.params s₁.heap vals args → (∀ a ∈ as, (a == sysModules) = false) →
      wpC (model r.prog w) callerA (PySem.call (.ref a) vals) (fun v s' => GoodWG r.claim (classAt s₀.heap) (ExcName.means s₀.heap) args s₁ (.ok (.ret v)) s') (fun _ _ => False) s₁

theorem via_p {G : Prop} (h : ∀ P : Prop, (G → P) → P) : G := h G id
namespace PySem.W
theorem holds_open {r : OpenRow} {q : Program} {loose : List PySem.Str} {Xt : Shared → Bool} {XP : (PySem.Str → Option Value) → Heap → Prop} {α : Type} {Yf : Shared → α} {Ya : World → α} {YP : World → Heap → Prop} {d : DefRec} {kwd : List (PySem.Str × PySem.Expr)} {N : Nat}
    (left : LeftO r.prog q loose Xt Yf Ya N) (hY : ∀ w s, Yf s = Ya w → YP w s.heap) (hYk : ∀ w h h', YP w h → (∀ b o, h.get? b = some o → h'.get? b = some o) → YP w h')
    (hX : ∀ s, Xt s = true → XP (s.heap.nsMap mainGlobals) s.heap) (hXk : ∀ mg h h', XP mg h → (∀ b o, h.get? b = some o → h'.get? b = some o) → XP mg h')
    (hdef : defOf q r.name = some (d, kwd)) (hp : r.prog.theDef r.name = some (d.params, d.body, d.scope)) (hk : kwWritten? d.params.kwonlyargs d.params.kw_defaults = some kwd) (hRf : ∀ s, Xt s = true → RecFacts r.records s.heap) (hwr : (!r.writes || r.records.isEmpty) = true)
    (k1 : r.wellSaid = true) (ok : (chainsOk q && opensWell r.prog && (frees r.toRowW && r.within.isEmpty)) = true) (hb : r.prog.bare) (hw : r.toRowW.promised)
    (call : WalkC q loose XP YP r.toRowW d kwd) : r.Holds := by
  obtain ⟨ok', k5⟩ := Bool.and_eq_true_iff.mp ok
  obtain ⟨hch, o1⟩ := Bool.and_eq_true_iff.mp ok'
  obtain ⟨k5, k6⟩ := Bool.and_eq_true_iff.mp k5
  obtain ⟨hsame, hu, ha, hap, hm⟩ := frees_parts k5
  have hi := ident_freeW hu ha hap
  have hwi : r.toRowW.claim.within = [] := List.isEmpty_iff.mp k6
  refine ⟨k1, hw, ⟨hb, o1, by show r.makers.map _ = []; rw [hm]; rfl⟩, hw.witness, fun w => ⟨(left.behind hX hch w).1, fun s' hs' => ?_⟩⟩
  refine via_p fun P9 ret9 => ?_
  obtain ⟨s₀, hf, hg0, s, hT, hz, hgens, hg, G00, y⟩ := (left.behind (XP := fun mg h => XP mg h ∧ RecFacts r.records h) (fun s hs => ⟨hX s hs, hRf s hs⟩) hch w).2 s' hs'
  have G0 : Ground q loose [] XP w s (s.heap.nsMap mainGlobals) (s.heap.nsMap builtinsNs) s.heap := ⟨G00.T, G00.B, G00.D, G00.TE, G00.TD, G00.W, G00.X.1, G00.cls, G00.has, G00.apart, G00.once, G00.K⟩
  have RF := G00.X.2
  have hT' := hT
  have hgens : s.gens = #[] := Array.eq_empty_of_size_eq_zero (beq_iff_eq.mp hgens)
  have G : Ground q loose r.records XP w s _ _ s.heap := RF.ground G0
  refine ret9 ⟨s₀, hf, hg0, s, hT, fun n hn => ?_, RF.1, RF.2.1, fun args hpre hlay ord hord => ?_⟩
  · obtain rfl : n = r.name := by split at hn <;> simp_all
    exact pinned_of_view hg G0 hdef hp hk
  refine via_p fun P8 ret8 => ?_
  obtain ⟨⟨vs, s₁⟩, hlaid⟩ := Option.isSome_iff_exists.mp (layAllW_isSome (P := w.params) (ord := ord) G.has args r.args s (pre_splitW hpre).1)
  have keeps := layAllW_keeps _ _ _ hlaid
  have hal := layAllW_rest _ _ _ hlaid
  obtain ⟨as, hrd, hin, hold⟩ := reads_layAllW hord _ _ _ hlaid hlay s₁.heap (fun _ _ e => e)
  have L : Laid r.records w s s₁ args vs as := ⟨⟨ord, hord, hlaid⟩, hrd, hin, hold, keeps, hal.1.trans hgens, hal.2.2.1⟩
  have G₁ := G.keeps hXk keeps
  obtain ⟨a, o, pm, cd, doc, dV, kV, h1, h2, h3, h4, h5⟩ := G₁.fn hdef
  have run := call w s s₁ _ _ G₁ (hYk _ _ _ (hY w s y) keeps) a o pm cd doc dV kV h2 h3 h4 h5 (defOf_name hdef ▸ h1) L.gens args vs as hpre hlay L.reads L.well (L.low G.low)
  obtain ⟨k, res, s₂, s₃, hrun, hsched, hfo, hcase, hos, hkp⟩ := ends_clean (prog := r.prog) (w := w)
    (t := do match ← nsGet mainNs r.name with
      | some f => do ret (← PySem.call f vs)
      | none => unsupported "claim.caller:no-such-global") (s := s₁)
    (R := fun x s' => r.toRowW.claim.Ends s args vs s₁ x s' ∧ s'.os = s.os ∧ (r.writes = true → namesKept r.prog r.keeps s.heap s'.heap ∧ ∀ x ∈ r.records, ∀ a, classAt s.heap x.1 = some a → recordClass s'.heap a x.1 (x.2.map (·.1)) = true))
    (Shared.asleep_of_life hal.2.2.2 hz) (C_bind (C_any (wpAny_nsGet G₁.T.g (by
      rw [h1]
      exact C_bind (C_mono run (fun v s' g => C_pure ⟨_, rfl, by
        have z := g.laid (c := r.toRowW.claim) hsame hwi hi L
        exact ⟨⟨z.1, z.2.1, fun q => ⟨namesKept_of hT' hg r.keeps keeps g.2.1.old, noTable hwr q⟩⟩, leftWithCleanup_false_of_bare z.2.2⟩⟩) fun _ _ x => x.elim)))))
  obtain ⟨eh, _, _, eo, _⟩ := Shared.forget_eq hfo
  have hcase := hcase.congr eh
  rw [← eh] at hkp
  rw [← eo] at hos
  have hlife : s₂.heap.life = s.heap.life := (runN_life _ _ _ hrun).trans hal.2.2.2
  refine ret8 ⟨vs, s₁, hlaid, k, _, s₂, hsched, ?_, (fun _ i x hx => by rw [hgens] at hx; simp at hx), hkp, by rw [hlife], Shared.rest_eq hos⟩
  rcases hcase with ⟨v, rfl, d1, d2, d3, d4, d5⟩ | ⟨e, ob, cls, rfl, d1, d2, d3, d4, d5⟩
  · exact .inl ⟨v, rfl, d1, d2, d3, fun b o y _ => d4 b o y, d5⟩
  · exact .inr ⟨e, ob, cls, rfl, d1, d2, d3, d4, fun b o y _ => d5 b o y⟩
end PySem.W
end Mine
end

section
open PySem PySem.W PyProof.Rows PySem.Calls
set_option maxRecDepth 100000
set_option maxHeartbeats 0
namespace Mine
theorem through_endAt (t : Thread) : through t = (endAt 0 t).isSome := by
  obtain ⟨cur, code, pos, st⟩ := t
  cases st with
  | nil =>
    cases cur with
    | pure f => cases f <;> rfl
    | _ => rfl
  | cons f r => rfl
theorem top_of_seg {tb : String → Option Builtin} {p : Program} {w : World} {n₀ : Nat} {ann : Option Value} : ∀ {n : Nat} {s s' : Shared} {t : Thread} {f : Flow} {c : Code} {q : Pos},
    segRun tb p w n₀ ann 0 n s t = some (f, s', c, q) → topRun tb p w n₀ ann n s t = some s'
  | 0, _, _, _, _, _, _, h => by cases h
  | n + 1, s, s', t, f, c, q, h => by
    unfold segRun at h
    unfold topRun
    rw [through_endAt]
    cases he : endAt 0 t with
    | some x => rw [he] at h; cases h; rfl
    | none =>
      rw [he] at h
      cases hk : stepOk n₀ ann t with
      | false => rw [hk] at h; cases h
      | true =>
        rw [hk] at h
        cases hs : step (denote tb) p w s t with
        | halt o s₂ => rw [hs] at h; cases h
        | go s₂ t₂ => rw [hs] at h; exact top_of_seg h
noncomputable abbrev ran (p : Program) (m₀ : Nat) (ann : Option Value) (M : Nat) (T₀ : Params → BT) (life : Life) (gs₀ : Array GenState) (d₀ : Drawn) (k₀ : Nat) (w : World) (os : OsState) :=
  segRunT treeTable p w m₀ ann 0 M ⟨T₀ w.params, m₀, life, gs₀, d₀, k₀, os⟩ (topStub p)
theorem left_of_tree {p q : Program} {loose : List PySem.Str} {Xt : Shared → Bool} {α : Type} {Yf : Shared → α} {Ya : World → α} {N M m₀ : Nat} {ann : Option Value} {T₀ : Params → BT} {H₀ : Params → Heap} {life : Life} {gs₀ : Array GenState} {d₀ : Drawn} {k₀ : Nat}
    (open_ : ∀ w : World, (fencedOpening treeTable p w N).map (fun s => (s.heap, s.gens, s.drawn, s.toks)) = some (H₀ w.params, gs₀, d₀, k₀))
    (tree : ∀ P, absHeap (T₀ P) m₀ life = H₀ P)
    (size : ∀ w : World, ((H₀ w.params).isNs mainGlobals && gs₀.size == 0, (H₀ w.params).objs.size, (H₀ w.params).nsMap mainGlobals "__annotations__") = (true, m₀, ann))
    (le : Nat.ble M N = true)
    (run : ∀ w : World, (fun os => (ran p m₀ ann M T₀ life gs₀ d₀ k₀ w os).map (fun r => ((staticsOk (importedModules p.main.body) (H₀ w.params) r.2.1.abs.heap && namesBound p r.2.1.abs.heap && gensDone r.2.1.abs && laidKept (H₀ w.params) r.2.1.abs.heap), Yf r.2.1.abs))) = fun _ => some (true, Ya w))
    (run1 : ∀ w : World, (fun os => (ran p m₀ ann M T₀ life gs₀ d₀ k₀ w os).map (fun r => (seen ((recsOf q).map (·.name)) (ownsOf q) [] { r.2.1.abs with gens := #[] }, r.2.1.abs.heap.bltView))) = fun _ => some (expectedOf q, bltViewBooted))
    (run2 : ∀ w : World, (fun os => (ran p m₀ ann M T₀ life gs₀ d₀ k₀ w os).map (fun r => r.2.1.abs.heap.keysOk (looseW q loose) ((recsOf q).map (·.name)) ((litsOf q).map (·.1)) ((clssOf q (looseW q loose)).map (·.name)) && r.2.1.abs.heap.accountedOkI (importedModules p.main.body) && r.2.1.abs.heap.isNs mainGlobals && r.2.1.abs.heap.isNs builtinsNs)) = fun _ => some true)
    (run3 : ∀ w : World, (fun os => (ran p m₀ ann M T₀ life gs₀ d₀ k₀ w os).map (fun r => (tablesOk q r.2.1.abs.heap, Xt r.2.1.abs, (if true then r.2.1.abs.gens.size == 0 else !leftWithCleanup r.2.1.abs.gens), tabsOk q r.2.1.abs, pinSeenD q (drecsOf q) r.2.1.abs))) = fun _ => some (true, true, true, true, pinGoodD (drecsOf q)))
    (run4 : ∀ w : World, (fun os => (ran p m₀ ann M T₀ life gs₀ d₀ k₀ w os).map (fun r => (plainSeenE q (looseW q loose) r.2.1.abs, plainSeenD q loose r.2.1.abs, wideSeen q r.2.1.abs, clsSeenW q loose r.2.1.abs))) = fun _ => some (plainGoodE q (looseW q loose), plainGoodD q loose, wideGood q, clsGoodW q loose)) : LeftO p q loose Xt Yf Ya N := fun w => by
  obtain ⟨⟨h, gs, d, k, os⟩, e, e'⟩ := Option.map_eq_some_iff.mp (open_ w)
  obtain ⟨rfl, rfl, rfl, rfl⟩ : h = H₀ w.params ∧ gs = gs₀ ∧ d = d₀ ∧ k = k₀ := by simpa using e'
  obtain ⟨z1, z2, z3⟩ : _ ∧ _ ∧ _ := by simpa only [Prod.mk.injEq] using size w
  obtain ⟨⟨f, s', c, q'⟩, r1, r2⟩ := Option.map_eq_some_iff.mp (congrFun (run w) os)
  obtain ⟨l1, l3⟩ : _ ∧ _ := by simpa only [Prod.mk.injEq] using r2
  have l2 : openSeen q loose (importedModules p.main.body) Xt true s'.abs = openGood q loose := by
    have z1 := congrFun (run1 w) os
    have z2 := congrFun (run2 w) os
    have z3 := congrFun (run3 w) os
    have z4 := congrFun (run4 w) os
    dsimp only at z1 z2 z3 z4
    rw [r1] at z1 z2 z3 z4
    have z1 := Option.some.inj z1
    have z2 := Option.some.inj z2
    have z3 := Option.some.inj z3
    have z4 := Option.some.inj z4
    dsimp only at z1 z2 z3 z4
    unfold openSeen openGood
    obtain ⟨y1, y2⟩ := Prod.mk.inj z1
    simp only [Prod.mk.injEq] at z3 z4
    obtain ⟨a1, a2, a3, y4, y5⟩ := z3
    obtain ⟨y6, y7, y8, y9⟩ := z4
    exact Prod.ext y1 (Prod.ext y2 (Prod.ext (look_both (look_both (look_both z2 a1) a2) a3) (Prod.ext y4 (Prod.ext y5 (Prod.ext y6 (Prod.ext y7 (Prod.ext y8 y9)))))))
  have r := top_of_seg (segRun_of r1)
  rw [show (SharedT.abs ⟨T₀ w.params, m₀, life, gs, d, k, os⟩) = ⟨H₀ w.params, gs, d, k, os⟩ by unfold SharedT.abs; dsimp only; rw [tree]] at r
  have r := topRun_mono (N - M) _ _ _ _ r
  rw [show M + (N - M) = N by have := Nat.le_of_ble_eq_true le; omega] at r
  have t : topFrom treeTable p w N ⟨H₀ w.params, gs, d, k, os⟩ = some s'.abs := by
    unfold topFrom
    dsimp only
    rw [z1, z2, z3, r]
    show (match staticsOk (importedModules p.main.body) (H₀ w.params) s'.abs.heap && namesBound p s'.abs.heap && gensDone s'.abs && laidKept (H₀ w.params) s'.abs.heap with | true => _ | false => _) = _
    rw [l1]
  unfold openEnds
  rw [e]
  show ((topFrom treeTable p w N ⟨H₀ w.params, gs, d, k, os⟩).map _) = _
  rw [t]
  show some (_, _) = _
  rw [l2, l3]
noncomputable def T0 (P : Params) : BT := ((((((((((BT.nil.ins 0 (boot_o_0 P)).ins 1 (boot_o_1 P)).ins 2 (boot_o_2 P)).ins 3 (boot_o_3 P)).ins 4 (boot_o_4 P)).ins 5 (boot_o_5 P)).ins 6 (boot_o_6 P)).ins 7 (boot_o_7 P)).ins 8 (boot_o_8 P)).ins 9 (boot_o_9 P)).ins 10 (boot_o_10 P)
theorem tree0 (P : Params) : absHeap (T0 P) 11 {} = boot_heap P := by kernel_rfl
end Mine
end

section
open PySem PySem.W PyProof.Rows
set_option maxRecDepth 100000
set_option maxHeartbeats 0
namespace Mine
noncomputable def view : Program := { PySem.Challenge.pw_no0079_01 with main := { PySem.Challenge.pw_no0079_01.main with body := ((((((((PySem.Challenge.pw_no0079_01.main.body.eraseIdx 48).eraseIdx 46).eraseIdx 36).eraseIdx 29).eraseIdx 13).eraseIdx 11).eraseIdx 6).eraseIdx 1) } }
abbrev LV : List (PySem.Str × WData) := [(PySem.Str.ofString "MODULUS", WData.int 170141183460469231731687303715884105727)]
abbrev LO : List PySem.Str := [PySem.Str.ofString "LONG_KINDS", PySem.Str.ofString "MODULUS"]
theorem seen1 : ∀ w : World, (fun os => (ran PySem.Challenge.rw_no0079_01.row.prog 11 (some (.ref 6)) 2600 T0 {} (Array.mk []) boot_drawn boot_toks w os).map (fun r => (seen ((recsOf Mine.view).map (·.name)) (ownsOf Mine.view) [] { r.2.1.abs with gens := #[] }, r.2.1.abs.heap.bltView))) = fun _ => some (expectedOf Mine.view, bltViewBooted) := by
  intro w
  unfold ran
  rw [PySem.W.Fast.te10110043849684766642, PySem.W.Fast.te14364793385576792824, PySem.W.Fast.te5160383126252970620]
  kernel_rfl
theorem seen2 : ∀ w : World, (fun os => (ran PySem.Challenge.rw_no0079_01.row.prog 11 (some (.ref 6)) 2600 T0 {} (Array.mk []) boot_drawn boot_toks w os).map (fun r => r.2.1.abs.heap.keysOk (looseW Mine.view Mine.LO) ((recsOf Mine.view).map (·.name)) ((litsOf Mine.view).map (·.1)) ((clssOf Mine.view (looseW Mine.view Mine.LO)).map (·.name)) && r.2.1.abs.heap.accountedOkI (importedModules PySem.Challenge.rw_no0079_01.row.prog.main.body) && r.2.1.abs.heap.isNs mainGlobals && r.2.1.abs.heap.isNs builtinsNs)) = fun _ => some true := by
  intro w
  unfold ran
  rw [PySem.W.Fast.te10110043849684766642, PySem.W.Fast.te14364793385576792824, PySem.W.Fast.te10880121769531294198, PySem.W.Fast.te14722251495701143533]
  kernel_rfl
theorem seen3 : ∀ w : World, (fun os => (ran PySem.Challenge.rw_no0079_01.row.prog 11 (some (.ref 6)) 2600 T0 {} (Array.mk []) boot_drawn boot_toks w os).map (fun r => (tablesOk Mine.view r.2.1.abs.heap, (xlAt Mine.view LV r.2.1.abs && recOk (RowW.records PySem.Challenge.rw_no0079_01.row.toRowW) r.2.1.abs), (if true then r.2.1.abs.gens.size == 0 else !leftWithCleanup r.2.1.abs.gens), tabsOk Mine.view r.2.1.abs, pinSeenD Mine.view (drecsOf Mine.view) r.2.1.abs))) = fun _ => some (true, true, true, true, pinGoodD (drecsOf Mine.view)) := by
  intro w
  unfold ran
  rw [PySem.W.Fast.te10110043849684766642, PySem.W.Fast.te14364793385576792824, PySem.W.Fast.te10994771534591457954, PySem.W.Fast.te479339242167458305, PySem.W.Fast.te16090120013241838585]
  kernel_rfl
theorem seen4 : ∀ w : World, (fun os => (ran PySem.Challenge.rw_no0079_01.row.prog 11 (some (.ref 6)) 2600 T0 {} (Array.mk []) boot_drawn boot_toks w os).map (fun r => (plainSeenE Mine.view (looseW Mine.view Mine.LO) r.2.1.abs, plainSeenD Mine.view Mine.LO r.2.1.abs, wideSeen Mine.view r.2.1.abs, clsSeenW Mine.view Mine.LO r.2.1.abs))) = fun _ => some (plainGoodE Mine.view (looseW Mine.view Mine.LO), plainGoodD Mine.view Mine.LO, wideGood Mine.view, clsGoodW Mine.view Mine.LO) := by
  intro w
  unfold ran
  rw [PySem.W.Fast.te10110043849684766642, PySem.W.Fast.te14364793385576792824, PySem.W.Fast.te2386780881361962483, PySem.W.Fast.te11698064438423848299, PySem.W.Fast.te7317090234206586261, PySem.W.Fast.te7369524293546568484]
  kernel_rfl
set_option hygiene false
local macro_rules | `(tactic| o_head $H) => `(tactic| (refine Mine.PySem.W.holds_open (q := Mine.view) (loose := Mine.LO) (Xt := fun s => xlAt Mine.view LV s && recOk (RowW.records PySem.Challenge.rw_no0079_01.row.toRowW) s) (XP := XL Mine.view LV) (Yf := Hook.obs $H) (Ya := Hook.val $H) (YP := Hook.says $H) (N := 5194) ?hl (Hook.of $H) (Hook.keeps $H) (fun s e => xl_of s (Bool.and_eq_true_iff.mp e).1) XL.keeps (by rfl) (by rfl) (by rfl) (fun s e => recFacts_of (Bool.and_eq_true_iff.mp e).2) (by rfl) (by assumption) (by decide +kernel) ⟨rfl, rfl, rfl, rfl, rfl, by decide +kernel⟩ ?hw ?hc; (case hl => (refine left_of_tree (T₀ := T0) (H₀ := boot_heap) (life := {}) (gs₀ := Array.mk []) (d₀ := boot_drawn) (k₀ := boot_toks) (M := 2600) (m₀ := 11) (ann := some (.ref 6)) (boot_open ?h1 ?h2 ?h3) tree0 ?h4 ?h5 ?h6 Mine.seen1 Mine.seen2 Mine.seen3 Mine.seen4; (case h1 => kernel_rfl); (case h2 => kernel_rfl); (case h3 => (intro s; kernel_rfl)); (case h4 => (intro w; kernel_rfl)); (case h5 => kernel_rfl); (case h6 => (intro w; unfold Mine.ran; rw [PySem.W.Fast.te10110043849684766642, PySem.W.Fast.te14364793385576792824]; kernel_rfl))))))
theorem said : OpenLaw.wellSaid PySem.Challenge.rw_no0079_01 = true := by
  rw [PySem.W.Fast.te9446332074065402090]
  unfold PySem.W.Fast.tw9446332074065402090 PySem.W.Fast.tw17960256430627541270 PySem.W.Fast.tw2436336058641802641 PySem.W.Fast.tw12908688711261696721
  repeat' (with_reducible refine look_both ?_ ?_)
  all_goals decide +kernel
local macro_rules | `(tactic| o_law) => `(tactic| refine PySem.W.holds_law Mine.said fun said => ?_)
open_top hd for PySem.Challenge.rw_no0079_01
end Mine
end

section
open PySem PySem.W PyProof.Rows PySem.Calls PySem.Spec
set_option maxRecDepth 100000
set_option maxHeartbeats 0
namespace Mine
theorem ba_mro : mroOf (.type "bytearray") = pure [.type "bytearray", .type "object"] := by rw [mroOf_type]; kernel_rfl
theorem ba_new : typeLookup (.type "bytearray") "__new__" = pure (some (.builtin "bytearray.__new__")) := by rw [typeLookup_type, builtinLookup_eq_fast]; kernel_rfl
theorem ba_slot_init : Slot "bytearray" "__init__" "bytearray.__init__" :=
  .of (owner := "bytearray") (n := "__init__") (by rw [typeLookup_type, builtinLookup_eq_fast]; kernel_rfl) (by decide +kernel) (by decide +kernel) (by decide +kernel)
    (by first | exact .inl (by decide +kernel) | exact .inr (by decide +kernel)) (by rw [isSubtype_type]; kernel_rfl)
theorem ba_slot_set : Slot "bytearray" "__setitem__" "bytearray.__setitem__" :=
  .of (owner := "bytearray") (n := "__setitem__") (by rw [typeLookup_type, builtinLookup_eq_fast]; kernel_rfl) (by decide +kernel) (by decide +kernel) (by decide +kernel)
    (by first | exact .inl (by decide +kernel) | exact .inr (by decide +kernel)) (by rw [isSubtype_type]; kernel_rfl)
theorem ba_called : TypeCalled "bytearray" "bytearray.__new__" "bytearray.__init__" :=
  ⟨by decide +kernel, by decide +kernel, ⟨_, _, ba_mro⟩, madeBy_type ba_mro ba_new (by decide +kernel), by decide +kernel, by rw [isSubtype_type]; kernel_rfl, ba_slot_init⟩
theorem ba_typeCall (a : Value) : checkTypeCall "bytearray" ⟨[a], []⟩ = pure () := by kernel_rfl
theorem ba_newCall (a : Value) : checkBuiltinCall "bytearray.__new__" ⟨[.type "bytearray", a], []⟩ = pure () := by kernel_rfl
theorem ba_plain_new : plainId "bytearray.__new__" = true := by decide +kernel
theorem ba_entry_new : entryFor table "bytearray.__new__" = some Builtin.«list.__new__» := entryFor_alias (id' := "list.__new__") (by kernel_rfl) rfl (by decide +kernel) (by kernel_rfl)
theorem ba_entry_init : entryFor table "bytearray.__init__" = some Builtin.«bytearray.__init__» := by first | exact entryFor_of_fast (by kernel_rfl) | exact entryFor_of_tree (by kernel_rfl)
theorem ba_entry_set : entryFor table "bytearray.__setitem__" = some Builtin.«bytearray.__setitem__» := by first | exact entryFor_of_fast (by kernel_rfl) | exact entryFor_of_tree (by kernel_rfl)
theorem ba_args_init (a b : Value) : argsOk "bytearray.__init__" ⟨[a, b], []⟩ := by unfold argsOk; kernel_rfl
theorem ba_args_set (a b c : Value) : argsOk "bytearray.__setitem__" ⟨[a, b, c], []⟩ := by unfold argsOk; kernel_rfl
theorem ba_sub : isSubtype (.type "bytearray") (.type "bytearray") = pure true := by rw [isSubtype_type]; kernel_rfl
theorem ba_bind (v : Value) : Builtin.Bytes.bindOptional "bytearray.__init__" "bytearray" ["source", "encoding", "errors"] [v] [] = pure [some v, none, none] := by kernel_rfl
theorem ba_release : typeLookup (.type "bytearray") "__release_buffer__" = pure (some (.builtin "bytearray.__release_buffer__")) := by rw [typeLookup_type, builtinLookup_eq_fast]; kernel_rfl
theorem ba_buffer : typeLookup (.type "bytearray") "__buffer__" = pure (some (.builtin "bytearray.__buffer__")) := by rw [typeLookup_type, builtinLookup_eq_fast]; kernel_rfl
theorem ba_no_bytes : typeLookup (.type "bytearray") "__bytes__" = pure none := by rw [typeLookup_type, builtinLookup_eq_fast]; kernel_rfl
theorem ba_no_index : typeLookup (.type "bytearray") "__index__" = pure none := by rw [typeLookup_type, builtinLookup_eq_fast]; kernel_rfl
theorem ba_int_index : typeLookup (.type "int") "__index__" = pure (some (.builtin "int.__index__")) := by rw [typeLookup_type, builtinLookup_eq_fast]; kernel_rfl

abbrev baOf (b : Array UInt8) : Obj := { cls := .type "bytearray", data := .bytearray b }
section
variable {prog : Program} {w : World} {A : Around} {E : Value → Shared → Prop} {s : Shared}
theorem ba_code_new (a : Value) {Q₁ : Value → Shared → Prop} (h : Q₁ (.ref s.heap.objs.size) { s with heap := s.heap.push (baOf #[]) }) :
    codeAny (model prog w) A (.call (.builtin "bytearray.__new__") ⟨[.type "bytearray", a], []⟩) (wants Q₁ E) s := by
  refine codeAny_of_tree ?_
  show wpAny _ A.in1 (do checkBuiltinCall "bytearray.__new__" ⟨[.type "bytearray", a], []⟩; again (.builtin "bytearray.__new__" ⟨[.type "bytearray", a], []⟩)) _ _ s
  refine wpAny_bind (wpAny_of_eq (ba_newCall a) (wpAny_pure ⟨plainId_quiet ba_plain_new _, codeAny_builtin_stack ba_entry_new rfl fun p st => ?_⟩))
  rw [Around.under_plainId ba_plain_new _]
  have hsub := ba_sub
  have hown : ("bytearray.__new__".splitOn ".__new__").headD "" = "bytearray" := by rw [split_bytearray]; rfl
  obtain ⟨hp, g, d, tk, os⟩ := s
  simp only [hown]
  wp_walk
  exact h
end
end Mine
end

section
open PySem PySem.W PyProof.Rows PySem.Calls PySem.Spec
set_option maxRecDepth 100000
set_option maxHeartbeats 0
namespace Mine
section
variable {prog : Program} {w : World} {A : Around} {E : Value → Shared → Prop} {s : Shared}
theorem ba_typeIs {S : Addr} {b : Array UInt8} (hS : s.heap.get? S = some (baOf b)) : s.TypeIs (.ref S) "bytearray" := ⟨_, hS, rfl⟩
theorem ba_ownRelease {S : Addr} {b : Array UInt8} {Q : Bool → Shared → Prop} (hS : s.heap.get? S = some (baOf b)) (h : Q false s) : wpAny (model prog w) A (Builtin.Bytes.ownRelease (.ref S)) Q E s := by
  unfold Builtin.Bytes.ownRelease Builtin.Bytes.slotIsOwn
  refine wpAny_bind (wpAny_bind (wpAny_specialOf (ba_typeIs hS) ba_release ?_))
  dsimp only
  rw [if_neg (by decide +kernel)]
  have e : ("bytearray.__release_buffer__".dropRight ("__release_buffer__".length + 1)) = "bytearray" := by decide +kernel
  rw [e]
  exact wpAny_isInstance (ba_typeIs hS) ba_sub (wpAny_pure h)
theorem C_exported {M : Model} {v : Value} {Q : Bool → Shared → Prop} (h : Q false s) : wpC M A (Builtin.Bytes.exported v) Q E s := by
  unfold Builtin.Bytes.exported
  refine C_stack_any (fun c p hc => ?_) h
  cases c with
  | builtin id args =>
    have hb : badIds.contains id = false := by simpa [okC] using hc
    have ne : ∀ x ∈ badIds, id ≠ x := fun x hx e => by
      subst e
      rw [List.contains_iff_mem.mpr hx] at hb; cases hb
    have hd : Builtin.Bytes.decodersThatHold.contains id = false := by
      cases hq : Builtin.Bytes.decodersThatHold.contains id with
      | false => rfl
      | true => exact absurd rfl (ne id (List.mem_append_left _ (List.contains_iff_mem.mp hq)))
    have n1 := ne "bytearray.__contains__" (by decide +kernel)
    have n2 := ne "bytearray.__mod__" (by decide +kernel)
    have n3 := ne "bytearray.__rmod__" (by decide +kernel)
    have n4 := ne "_struct.pack_into.held" (by decide +kernel)
    have n5 := ne "bytearray.find.held" (by decide +kernel)
    obtain ⟨pos, kw⟩ := args
    delta PySem.Builtin.Bytes.exported.match_1
    with_unfolding_all refine Eq.trans (dif_neg n1) ?_
    refine Eq.trans (dif_neg n2) ?_
    refine Eq.trans (dif_neg n3) ?_
    refine Eq.trans (dif_neg n4) ?_
    refine Eq.trans (dif_neg n5) ?_
    cases pos with
    | nil => rfl
    | cons a r =>
      show (Builtin.Bytes.sameRef a v && Builtin.Bytes.decodersThatHold.contains id) = false
      rw [hd]
      exact Bool.and_false _
  | _ => rfl
theorem C_if_false {α : Type} {M : Model} {c : Bool} {a b : Sem α} {Q : α → Shared → Prop} (hc : c = false) (h : wpC M A b Q E s) : wpC M A (if c = true then a else b) Q E s := by
  subst hc
  exact h
theorem C_if_true {α : Type} {M : Model} {c : Bool} {a b : Sem α} {Q : α → Shared → Prop} (hc : c = true) (h : wpC M A a Q E s) : wpC M A (if c = true then a else b) Q E s := by
  subst hc
  exact h
theorem ba_write {S : Addr} {b : Array UInt8} {f : Array UInt8 → Array UInt8} {Q : Unit → Shared → Prop} (hS : s.heap.get? S = some (baOf b)) (hz : (f b).size ≤ sizeLine)
    (h : ∀ h', h'.get? S = some (baOf (f b)) → Heap.SameBut S s.heap h' → Q () { s with heap := h' }) : wpAny (model prog w) A (Builtin.Bytes.write (.ref S) f) Q E s := by
  show wpAny _ _ (updateBytearray S f) _ _ _
  unfold updateBytearray
  refine wpAny_bind (wpAny_load hS ?_)
  show wpAny _ _ (update S (Obj.mapBytearray f) >>= fun _ => lookBehind S) _ _ _
  refine wpAny_bind (wpAny_update hS ?_)
  have hS₂ : (s.heap.update S (Obj.mapBytearray f)).get? S = some (baOf (f b)) := Heap.get?_update_self (Obj.mapBytearray f) hS rfl
  refine wpAny_lookBehind hS₂ ?_ (h _ hS₂ (Heap.SameBut.update ..))
  show (if (f b).size > sizeLine then some "bytearray:memory" else none) = none
  rw [if_neg (Nat.not_lt.mpr hz)]
theorem C_ba_init {S : Addr} {n : Int} {t : Tok} {Q : Fin → Shared → Prop} (hS : s.heap.get? S = some (baOf #[])) (h0 : 0 ≤ n) (h1 : n ≤ 1000)
    (h : ∀ h', h'.get? S = some (baOf (Array.replicate n.toNat 0)) → Heap.SameBut S s.heap h' → Q (.done (.ret .none)) { s with heap := h' }) :
    wpC (model prog w) A (Builtin.«bytearray.__init__» ⟨[.ref S, .int n t], []⟩) Q E s := by
  unfold Builtin.«bytearray.__init__»
  refine C_bind (C_any (ba_ownRelease hS ?_))
  refine C_if_false rfl ?_
  refine C_bind (C_eq (ba_bind _) (C_pure ?_))
  refine C_bind (C_eq (u := pure ()) rfl (C_pure ?_))
  refine C_bind (C_eq (u := pure ()) rfl (C_pure ?_))
  refine C_bind (C_bind (C_exported ?_))
  refine C_bind (C_any (wpAny_bind (wpAny_load hS (wpAny_pure (C_pure ?_)))))
  refine C_if_false rfl ?_
  refine C_bind (C_any (ba_write hS (Nat.zero_le _) fun h₁ hS₁ e₁ => ?_))
  refine C_bind (C_any (wpAny_of_eq (a := none) rfl ?_))
  refine C_if_false rfl ?_
  refine C_bind (C_eq (u := pure ()) rfl (C_pure ?_))
  refine C_bind (C_any (wpAny_specialOf (s := { s with heap := h₁ }) (T := "int") rfl ba_int_index ?_))
  refine C_if_true rfl ?_
  refine C_bind (C_eq (u := pure (.ok n)) rfl (C_pure ?_))
  dsimp only
  refine C_if_false ?_ ?_
  · simp only [Builtin.Bytes.fitsIndex, Bool.not_eq_false', Bool.and_eq_true, decide_eq_true_eq]; omega
  rw [if_neg (by omega)]
  refine C_if_false (by simp only [beq_eq_false_iff_ne]; omega) ?_
  refine C_if_false (by simp only [Builtin.Bytes.tooLong, decide_eq_false_iff_not, PySem.sizeLine_eq]; omega) ?_
  refine C_bind (C_any (wpAny_rule ?_))
  by_cases hn : n > 0
  · rw [if_pos hn]
    refine C_bind (C_any (ba_write hS₁ ?_ fun h₂ hS₂ e₂ => C_pure (h h₂ hS₂ (e₁.trans e₂))))
    rw [Array.size_replicate, PySem.sizeLine_eq]; omega
  · rw [if_neg hn]
    have e : n.toNat = 0 := by omega
    rw [e] at h
    exact C_pure (h h₁ hS₁ e₁)
end
end Mine
end

section
open PySem PySem.W PyProof.Rows PySem.Calls PySem.Spec
set_option maxRecDepth 100000
set_option maxHeartbeats 0
namespace Mine
section
variable {prog : Program} {w : World} {A : Around} {E : Value → Shared → Prop} {s : Shared} {R : Result → Shared → Prop}
theorem codeC_builtin_at {id : String} {args : PySem.Args} {b : Builtin} (hb : entryFor table id = some b)
    (h : wpC (model prog w) (A.under (.builtin id args)) (b args) (fun fin s' => match fin with | .done f => R (.ok f) s' | .again c' => c'.quiet = true ∧ okC c' = true ∧ codeC (model prog w) A c' R s') (fun e s' => R (.error e) s') s) :
    codeC (model prog w) A (.builtin id args) R s := by
  refine codeC_of_tree ?_
  show wpC _ _ (match entryFor table id with | some b => b args | none => unsupported ((withoutEnding? id "#data").getD id)) _ _ s
  rw [hb]; exact h
theorem codeC_builtin {id : String} {args : PySem.Args} {b : Builtin} (hp : plainId id = true) (hb : entryFor table id = some b)
    (h : wpC (model prog w) A.in1 (b args) (fun fin s' => match fin with | .done f => R (.ok f) s' | .again c' => c'.quiet = true ∧ okC c' = true ∧ codeC (model prog w) A c' R s') (fun e s' => R (.error e) s') s) :
    codeC (model prog w) A (.builtin id args) R s := by
  refine codeC_of_tree ?_
  rw [Around.under_plainId hp args]
  show wpC _ _ (match entryFor table id with | some b => b args | none => unsupported ((withoutEnding? id "#data").getD id)) _ _ s
  rw [hb]; exact h
theorem codeC_call_builtin {id : String} {args : PySem.Args} {b : Builtin} (hp : plainId id = true) (ok : okC (.builtin id args) = true) (hb : entryFor table id = some b)
    (h : wpC (model prog w) A.in1 (checkBuiltinCall id args) (fun _ s₁ => wpC (model prog w) A.in1 (b args) (fun fin s' => match fin with | .done f => R (.ok f) s' | .again c' => c'.quiet = true ∧ okC c' = true ∧ codeC (model prog w) A c' R s') (fun e s' => R (.error e) s') s₁) (fun e s' => R (.error e) s') s) :
    codeC (model prog w) A (.call (.builtin id) args) R s := by
  refine codeC_of_tree ?_
  show wpC _ A.in1 (do checkBuiltinCall id args; again (.builtin id args)) _ _ s
  exact C_bind (C_then h fun _ s₁ h₁ => C_pure ⟨plainId_quiet hp _, ok, codeC_builtin hp hb h₁⟩)
theorem C_callSpecial {M : Model} {self : Value} {T : String} {name : PySem.Str} {id : String} {args : List Value} {kw : List (PySem.Str × Value)}
    {Q : Option Value → Shared → Prop} (hT : s.TypeIs self T) (h : Slot T name id)
    (hc : wpC M A (call (.builtin id) (self :: args) kw) (fun v => Q (some v)) E s) : wpC M A (callSpecial? self name args kw) Q E s := by
  simp only [callSpecial?]
  refine C_bind (C_any (wpAny_specialOf hT h.lookup ?_))
  simp only [h.bind]
  exact C_holding (C_bind (C_pure (C_bind (C_then hc fun v s' h' => C_pure h'))))
theorem ba_isType : (Value.type "bytearray" == Value.type "type") = false := by decide +kernel
theorem C_ba_call {n : Int} {t : Tok} {Q : Value → Shared → Prop} (h0 : 0 ≤ n) (h1 : n ≤ 1000)
    (h : ∀ h', h'.get? s.heap.objs.size = some (baOf (Array.replicate n.toNat 0)) → Heap.SameBut s.heap.objs.size (s.heap.push (baOf #[])) h' → Q (.ref s.heap.objs.size) { s with heap := h' }) :
    wpC (model prog w) A (call (.type "bytearray") [.int n t]) Q E s := by
  refine C_call (codeC_of_tree ?_)
  show wpC _ _ (callAny (.type "bytearray") _) _ _ _
  refine C_pure ⟨Code.quiet_builtin _ (by decide +kernel), show (!badIds.contains "type.__call__") = true by decide +kernel, codeC_builtin_at F.entry_type_call ?_⟩
  rw [Around.under_plain (weight_type_call_type "bytearray" [.int n t] []) rfl]
  unfold Builtin.«type.__call__»
  dsimp only
  refine C_if_false ba_isType ?_
  refine C_if_false ba_called.canCreate ?_
  refine C_bind (C_eq (ba_typeCall _) (C_pure ?_))
  refine C_bind (C_eq ba_mro (C_pure ?_))
  refine C_if_false rfl ?_
  refine C_bind (C_eq ba_called.made (C_pure ?_))
  dsimp only
  refine C_bind (C_pure ?_)
  refine C_bind (C_holding (C_any (wpAny_call (codeAny_mono (ba_code_new (E := fun _ _ => False) (.int n t) (Q₁ := fun v s' => v = .ref s.heap.objs.size ∧ s' = { s with heap := s.heap.push (baOf #[]) }) ⟨rfl, rfl⟩) fun r s' hr => ?_))))
  cases r with
  | error e => exact hr.elim
  | ok fl =>
    cases fl with
    | ret obj =>
      obtain ⟨rfl, rfl⟩ : obj = .ref s.heap.objs.size ∧ s' = { s with heap := s.heap.push (baOf #[]) } := hr
      have hS : (s.heap.push (baOf #[])).get? s.heap.objs.size = some (baOf #[]) := Heap.get?_push_size _ rfl
      have hT : ({ s with heap := s.heap.push (baOf #[]) } : Shared).TypeIs (.ref s.heap.objs.size) "bytearray" := ⟨_, hS, rfl⟩
      refine C_bind (C_any (wpAny_isInstance hT ba_sub ?_))
      refine C_if_false rfl ?_
      refine C_bind (C_holding (C_callSpecial hT ba_slot_init (C_call (codeC_call_builtin ba_slot_init.plain (show (!badIds.contains "bytearray.__init__") = true by decide +kernel) ba_entry_init (C_any (ba_slot_init.check _ _ _ _ _ _ _ _ hT (ba_args_init _ _) ?_))))))
      exact C_ba_init hS h0 h1 fun h' hS' e' => C_if_false rfl (C_pure (h h' hS' e'))
    | _ => exact hr.elim
end
end Mine
end

section
open PySem PySem.W PyProof.Rows PySem.Calls PySem.Spec
set_option maxRecDepth 100000
set_option maxHeartbeats 0
namespace Mine
section
variable {prog : Program} {w : World} {A : Around} {E : Value → Shared → Prop} {s : Shared}
theorem ba_setItem {S : Addr} {b : Array UInt8} {k v : Int} {t u : Tok} {Q : Unit → Shared → Prop} (hS : s.heap.get? S = some (baOf b)) (h0 : 0 ≤ k) (h1 : k < b.size) (hz : b.size ≤ 1000) (v0 : 0 ≤ v) (v1 : v < 256)
    (h : ∀ h', h'.get? S = some (baOf (b.setIfInBounds k.toNat v.toNat.toUInt8)) → Heap.SameBut S s.heap h' → Q () { s with heap := h' }) : wpAny (model prog w) A (setItem (.ref S) (.int k t) (.int v u)) Q E s := by
  have hT := ba_typeIs hS
  unfold setItem
  refine wpAny_holding ?_
  refine wpAny_bind (wpAny_sequenceKey hT (by decide) ?_)
  refine wpAny_bind (wpAny_callSpecial?_slot (name := PySem.Str.ofString "__setitem__") hT ba_slot_set (wpAny_call_entry ba_slot_set hT ba_entry_set ?_ (ba_args_set _ _ _)))
  unfold Builtin.«bytearray.__setitem__»
  refine bm_if_false rfl ?_
  dsimp only
  refine wpAny_bind ?_
  unfold Builtin.Bytes.subscript?
  refine wpAny_bind (wpAny_specialOf (T := "int") rfl ba_int_index ?_)
  refine bm_if_false rfl ?_
  refine wpAny_bind (wpAny_of_eq (a := k) rfl ?_)
  refine bm_if_false (by simp only [Builtin.Bytes.fitsIndex, Bool.not_eq_false', Bool.and_eq_true, decide_eq_true_eq]; omega) ?_
  refine wpAny_pure ?_
  dsimp only
  refine wpAny_bind ?_
  unfold Builtin.Bytes.byteValue
  refine wpAny_bind (wpAny_of_eq (a := v) rfl ?_)
  refine bm_if_false (by simp only [Bool.or_eq_false_iff, decide_eq_false_iff_not]; omega) ?_
  refine wpAny_pure ?_
  refine wpAny_bind ?_
  unfold Builtin.Bytes.payload Builtin.Bytes.payload?
  refine wpAny_bind (wpAny_bind (wpAny_load hS (wpAny_pure (wpAny_pure ?_))))
  have hi : seqIndex? k b.size = some k.toNat := by
    have a1 : ¬ k < 0 := by omega
    simp [seqIndex?, a1, h0, h1]
  rw [hi]
  dsimp only
  refine wpAny_bind (ba_write hS (by rw [Array.size_setIfInBounds, PySem.sizeLine_eq]; omega) fun h' hS' e' => ?_)
  exact wpAny_pure ⟨.none, rfl, wpAny_pure (h h' hS' e')⟩
theorem ba_bytes_bind (v : Value) : Builtin.Bytes.bindOptional "bytes.__new__" "bytes" ["source", "encoding", "errors"] [v] [] = pure [some v, none, none] := by kernel_rfl
theorem ba_bytes_new {S : Addr} {b : Array UInt8} {Q : Value → Shared → Prop} (hS : s.heap.get? S = some (baOf b)) (hz : b.size ≤ 1000) (hQ : ∀ t k, Q (.bytes b t) { s with toks := k }) :
    codeAny (model prog w) A (.call (.builtin "bytes.__new__") ⟨[.type "bytes", .ref S], []⟩) (wants Q E) s := by
  have hT := ba_typeIs hS
  refine codeAny_of_tree ?_
  show wpAny _ A.in1 (do checkBuiltinCall "bytes.__new__" ⟨[.type "bytes", .ref S], []⟩; again (.builtin "bytes.__new__" ⟨[.type "bytes", .ref S], []⟩)) _ _ s
  refine wpAny_bind (wpAny_of_eq (F.bm_newCall _) (wpAny_pure ⟨plainId_quiet F.bm_plain _, codeAny_builtin F.bm_entry ?_⟩))
  rw [Around.under_plainId F.bm_plain _]
  unfold Builtin.«bytes.__new__»
  refine wpAny_bind (wpAny_of_eq (a := true) rfl ?_)
  refine bm_if_false rfl ?_
  refine wpAny_bind (wpAny_of_eq F.bm_sub ?_)
  refine bm_if_false rfl ?_
  refine wpAny_bind (wpAny_of_eq (F.bm_bind _) ?_)
  refine wpAny_bind (wpAny_of_eq (a := ()) rfl ?_)
  refine wpAny_bind (wpAny_of_eq (a := ()) rfl ?_)
  refine bm_if_false rfl ?_
  refine wpAny_bind (wpAny_specialOf hT ba_no_bytes ?_)
  refine wpAny_bind (wpAny_bind ?_)
  show wpAny _ _ (load S >>= _) _ _ _
  refine wpAny_bind (wpAny_load hS ?_)
  refine wpAny_pure (wpAny_pure ?_)
  refine bm_if_false rfl ?_
  refine wpAny_bind (wpAny_specialOf hT ba_no_index ?_)
  refine bm_if_true rfl ?_
  show wpAny _ _ (Builtin.Bytes.buffer? "bytes.__new__" (.ref S) true >>= _) _ _ _
  refine wpAny_bind ?_
  unfold Builtin.Bytes.buffer?
  refine wpAny_bind (wpAny_specialOf hT ba_buffer ?_)
  refine wpAny_bind ?_
  unfold Builtin.Bytes.slotIsOwn
  refine wpAny_bind (wpAny_specialOf hT ba_buffer ?_)
  dsimp only
  rw [if_neg (by decide +kernel)]
  have e : ("bytearray.__buffer__".dropRight ("__buffer__".length + 1)) = "bytearray" := by decide +kernel
  rw [e]
  refine wpAny_isInstance hT ba_sub ?_
  refine bm_if_false rfl ?_
  refine wpAny_bind (wpAny_specialOf hT ba_buffer ?_)
  refine wpAny_bind (ba_ownRelease hS ?_)
  refine bm_if_false rfl ?_
  refine wpAny_bind ?_
  unfold Builtin.Bytes.payload Builtin.Bytes.payload?
  refine wpAny_bind (wpAny_bind (wpAny_load hS (wpAny_pure (wpAny_pure (wpAny_pure ?_)))))
  dsimp only
  refine wpAny_bind (wpAny_rule ?_)
  refine wpAny_bind (wpAny_mkBytes ?_ (by rw [PySem.sizeLine_eq]; omega))
  show wpAny _ _ (if (Value.type "bytes" == Value.type "bytes") = true then _ else _) _ _ _
  refine bm_if_true (by decide) ?_
  first
    | exact wpAny_pure (hQ _ _)
    | exact wpAny_bind (wpAny_pure (wpAny_pure (hQ _ _)))
theorem ba_bytes {S : Addr} {b : Array UInt8} {Q : Value → Shared → Prop} (hS : s.heap.get? S = some (baOf b)) (hz : b.size ≤ 1000) (hQ : ∀ t k, Q (.bytes b t) { s with toks := k }) :
    wpAny (model prog w) A (call (.type "bytes") [.ref S]) Q E s := by
  refine callType_codes (Q₁ := fun obj s₁ => s₁.TypeIs obj "bytes" ∧ Q obj s₁) F.bm_called (F.bm_typeCall _) F.entry_object_init
    (ba_bytes_new hS hz fun t k => ⟨PySem.W.typeIs_bytes _ _ _, hQ t k⟩) fun obj s₁ h₁ => ?_
  exact ⟨h₁.1, F.args_object_init_2 obj _, object_init_meets F.bm_called.init.lookup F.bm_called.made (by decide) prog w A.in1 _ s₁ ⟨h₁.1, rfl, h₁.2⟩⟩
end
end Mine
end

section
open PySem PySem.W PyProof.Rows PySem.Calls PySem.Spec
set_option maxRecDepth 100000
set_option maxHeartbeats 0
namespace Mine
noncomputable abbrev Lo : List PySem.Str := looseW Mine.view [PySem.Str.ofString "LONG_KINDS", PySem.Str.ofString "MODULUS"]

def Ctr (w : World) (f : Addr) (D U : Nat) (vs : List Value) (news : List (Addr × Obj)) (post : Value → List (Addr × Obj) → Prop) : Prop :=
  ∀ (mean : ExcName → Option Value) (mg mb : PySem.Str → Option Value) (dp un : Nat) (gd : Option (List Code)) (cn : PySem.Str) (cs : Scope) (a : Addr) (ccd : Value) (cl : List (PySem.Str × Addr)) (outer : List Env) (A₀ : Around) (base h₀ : Heap) (L : Addr) (m : PySem.Str → Option Value) (s : Shared) (Q E : Value → Shared → Prop),
    Below A₀ base outer h₀ → Fr h₀ L s.heap m → (Mine.hd.heap_1 w.params).In h₀ → News h₀ L s.heap news → Top Mine.view Lo mean mg mb h₀ → cs.kind = .function →
    dp + D < 1000 → un + U < 9900 →
    (∀ r news' h' tk', Fr h₀ L h' m → News h₀ L h' news' → post r news' → Q r { s with heap := h', toks := tk' }) →
    wpAny (model PySem.Challenge.rw_no0079_01.row.prog w) (ktrTop dp un gd cn cs L a ccd cl outer) (call (.ref f) vs) Q E s

def CtrC (w : World) (f : Addr) (D U : Nat) (vs : List Value) (news : List (Addr × Obj)) (post : Value → List (Addr × Obj) → Prop) : Prop :=
  ∀ (mean : ExcName → Option Value) (mg mb : PySem.Str → Option Value) (dp un : Nat) (gd : Option (List Code)) (cn : PySem.Str) (cs : Scope) (a : Addr) (ccd : Value) (cl : List (PySem.Str × Addr)) (outer : List Env) (A₀ : Around) (base h₀ : Heap) (L : Addr) (m : PySem.Str → Option Value) (s : Shared) (Q E : Value → Shared → Prop),
    Below A₀ base outer h₀ → Fr h₀ L s.heap m → (Mine.hd.heap_1 w.params).In h₀ → News h₀ L s.heap news → Top Mine.view Lo mean mg mb h₀ → cs.kind = .function →
    dp + D < 1000 → un + U < 9900 →
    (∀ r news' h' tk', Fr h₀ L h' m → News h₀ L h' news' → post r news' → Q r { s with heap := h', toks := tk' }) →
    wpC (model PySem.Challenge.rw_no0079_01.row.prog w) (ktrTop dp un gd cn cs L a ccd cl outer) (call (.ref f) vs) Q E s

def DrawsOk (r : Addr) (od oR : Obj) : Prop :=
  ∃ (sd : Int) (ts : Tok) (n1 : Nat) (vs : List Value) (ns : List Int) (n2 : Nat), od = PySem.W.listOf #[.ref r, .int sd ts] n1 ∧ oR = PySem.W.listOf vs.toArray n2 ∧ IntsAre vs ns ∧ (∀ n ∈ ns, 0 ≤ n) ∧ 0 ≤ sd ∧ sd < 2147483647 ∧ ns.length ≤ 40
theorem ne_of_allLt {x : Addr} {l : List (Addr × Obj)} (h : AllLt x l) : ∀ p ∈ l, p.1 ≠ x := fun p hp => Nat.ne_of_lt (ktn_ltOf h p hp)
theorem gt_of_allLt {x : Addr} {l : List (Addr × Obj)} (h : AllLt x l) {P : Addr × Obj → Prop} (hP : ∀ p, p.1 < x → P p) : ∀ p ∈ l, P p := fun p hp => hP p (ktn_ltOf h p hp)
theorem upd_mem {c : Addr} {o : Obj} {news : List (Addr × Obj)} {g : Obj → List (Addr × Obj)} (U : UpdF c o news g) : (c, o) ∈ news ∧ ∀ o' p, p ∈ g o' → p = (c, o') ∨ (p ∈ news ∧ p.1 ≠ c) := by
  obtain ⟨pre, post, rfl, hg, h1, h2⟩ := U.split
  refine ⟨List.mem_append_right _ (.head _), fun o' p hp => ?_⟩
  rw [hg o'] at hp
  rcases List.mem_append.mp hp with hp | hp
  · exact .inr ⟨List.mem_append_left _ hp, h1 p hp⟩
  · rcases List.mem_cons.mp hp with rfl | hp
    · exact .inl rfl
    · exact .inr ⟨List.mem_append_right _ (.tail _ hp), h2 p hp⟩

def DCtr (w : World) (f : Addr) (D U : Nat) (vs : Addr → List Value) (post : Value → Prop) : Prop :=
  ∀ (d r : Addr) (od oR : Obj) (rest : List (Addr × Obj)), d ≠ r → (∀ p ∈ rest, p.1 ≠ d) → (∀ p ∈ rest, p.1 ≠ r) → DrawsOk r od oR →
    Ctr w f D U (vs d) ((d, od) :: (r, oR) :: rest) fun v news' => post v ∧ ∃ od' or', news' = (d, od') :: (r, or') :: rest ∧ DrawsOk r od' or'

section
variable {w : World} {f : Addr} {D U : Nat} {vs : Addr → List Value} {post : Value → Prop} {d r : Addr} {od oR : Obj} {news : List (Addr × Obj)} {g1 : Obj → List (Addr × Obj)} {g2 : Obj → Obj → List (Addr × Obj)}
  {mean : ExcName → Option Value} {mg mb : PySem.Str → Option Value} {dp un : Nat} {gd : Option (List Code)} {cn : PySem.Str} {cs : Scope} {a : Addr} {ccd : Value} {cl : List (PySem.Str × Addr)} {outer : List Env} {A₀ : Around} {base h₀ : Heap} {L : Addr} {m : PySem.Str → Option Value} {s : Shared} {Q E : Value → Shared → Prop}
theorem DCtr.use (C : DCtr w f D U vs post) (B : Below A₀ base outer h₀) (F : Fr h₀ L s.heap m) (X : (Mine.hd.heap_1 w.params).In h₀) (N : News h₀ L s.heap news) (T : Top Mine.view Lo mean mg mb h₀) (hk : cs.kind = .function)
    (ok : DrawsOk r od oR) (hne : d ≠ r) (U1 : UpdF d od news g1) (U2 : ∀ o, UpdF r oR (g1 o) (g2 o)) (hd : dp + D < 1000) (hu : un + U < 9900)
    (ret : ∀ v od' or' h' tk', post v → DrawsOk r od' or' → Fr h₀ L h' m → News h₀ L h' (g2 od' or') → Q v { s with heap := h', toks := tk' }) :
    wpAny (model PySem.Challenge.rw_no0079_01.row.prog w) (ktrTop dp un gd cn cs L a ccd cl outer) (call (.ref f) (vs d)) Q E s := by
  have m1 := (upd_mem U1).1
  have m2 : (r, oR) ∈ news := by
    rcases (upd_mem U1).2 od _ (upd_mem (U2 od)).1 with e | e
    · exact absurd (congrArg Prod.fst e).symm hne
    · exact e.1
  have N1 : News h₀ L s.heap ((d, od) :: (r, oR) :: news.filter fun p => decide (p.1 ≠ d) && decide (p.1 ≠ r)) := by
    intro p hp
    rcases List.mem_cons.mp hp with rfl | hp
    · exact N _ m1
    · rcases List.mem_cons.mp hp with rfl | hp
      · exact N _ m2
      · exact N p (List.mem_filter.mp hp).1
  have hr : ∀ p ∈ news.filter fun p => decide (p.1 ≠ d) && decide (p.1 ≠ r), p.1 ≠ d ∧ p.1 ≠ r := fun p hp => by
    have := (List.mem_filter.mp hp).2
    simpa using this
  refine C d r od oR _ hne (fun p hp => (hr p hp).1) (fun p hp => (hr p hp).2) ok mean mg mb dp un gd cn cs a ccd cl outer A₀ base h₀ L m s Q E B F X N1 T hk hd hu ?_
  rintro v news' h' tk' F' N' ⟨hv, od', or', rfl, ok'⟩
  refine ret v od' or' h' tk' hv ok' F' fun p hp => ?_
  rcases (upd_mem (U2 od')).2 or' p hp with rfl | ⟨hp, n2⟩
  · exact N' _ (.tail _ (.head _))
  · rcases (upd_mem U1).2 od' p hp with rfl | ⟨hp, n1⟩
    · exact N' _ (.head _)
    · exact N' p (.tail _ (.tail _ (List.mem_filter.mpr ⟨hp, by simp only [ne_eq, n1, n2, not_false_eq_true, decide_true, Bool.and_self]⟩)))
end
theorem clip_of {n : Nat} {i : Int} (h : 0 ≤ i) : clipAt n i = min i.toNat n := by
  obtain ⟨k, rfl⟩ := Int.eq_ofNat_of_zero_le h
  exact clipAt_nat n k
section
variable {M : Model} {A : Around} {E : Value → Shared → Prop} {s : Shared} {h₀ : Heap} {L a : Addr} {m : PySem.Str → Option Value} {news : List (Addr × Obj)} {x cn : PySem.Str} {v ccd : Value} {cs : Scope} {cl : List (PySem.Str × Addr)} {Q : Unit → Shared → Prop}
theorem storeL (F : Fr h₀ L s.heap m) (N : News h₀ L s.heap news)
    (h : ∀ h', let m' := fun y => if y = x then some v else m y; Fr h₀ L h' m' → News h₀ L h' news → Q () { s with heap := h', toks := s.toks + 1 })
    (hk : cs.kind = .function := by rfl) (hx : (envX cn cs L a ccd cl).kindOf x = some .local := by rfl) : wpAny M A (storeName (envX cn cs L a ccd cl) x v) Q E s :=
  storeX_L F N h hk hx
theorem letm {G : Prop} {g h : Heap} {L : Addr} {m : PySem.Str → Option Value} (k : let m' := m; Fr g L h m' → G) : Fr g L h m → G := k
end
end Mine
end

section
open PySem PySem.W PyProof.Rows PySem.Calls PySem.Spec
set_option maxRecDepth 100000
set_option maxHeartbeats 0
namespace Mine
noncomputable def be (n : Int) : Nat → List Int
  | 0 => []
  | k + 1 => (n / 256 ^ k) % 256 :: be n k
def unbe (ks : List Int) : Int := ks.foldl (fun a k => a * 256 + k) 0
theorem be_length (n : Int) : ∀ k, (be n k).length = k
  | 0 => rfl
  | k + 1 => by show (be n k).length + 1 = k + 1; rw [be_length n k]
theorem be_in (n : Int) : ∀ k, ∀ x ∈ be n k, 0 ≤ x ∧ x < 256
  | 0, _, h => nomatch h
  | k + 1, x, h => by
    rcases List.mem_cons.mp h with rfl | h
    · omega
    · exact be_in n k x h
theorem unbe_be_from (n : Int) : ∀ (k : Nat) (a : Int), (be n k).foldl (fun a k => a * 256 + k) a = a * 256 ^ k + n % 256 ^ k
  | 0, a => by simp [be, Int.emod_one]
  | k + 1, a => by
    have h := unbe_be_from n k (a * 256 + n / 256 ^ k % 256)
    have e : be n (k + 1) = (n / 256 ^ k) % 256 :: be n k := rfl
    rw [e, List.foldl_cons, h]
    have hp : (0 : Int) < 256 ^ k := Int.pow_pos (by decide)
    have d1 := Int.mul_ediv_add_emod n (256 ^ k)
    have d2 := Int.mul_ediv_add_emod (n / 256 ^ k) 256
    have d3 : n % 256 ^ (k + 1) = (n / 256 ^ k % 256) * 256 ^ k + n % 256 ^ k := by
      have hm : n = 256 ^ (k + 1) * (n / 256 ^ k / 256) + ((n / 256 ^ k % 256) * 256 ^ k + n % 256 ^ k) := by
        calc n = 256 ^ k * (n / 256 ^ k) + n % 256 ^ k := d1.symm
          _ = 256 ^ k * (256 * (n / 256 ^ k / 256) + n / 256 ^ k % 256) + n % 256 ^ k := by rw [d2]
          _ = 256 ^ (k + 1) * (n / 256 ^ k / 256) + ((n / 256 ^ k % 256) * 256 ^ k + n % 256 ^ k) := by
            rw [Int.mul_add, Int.pow_succ, Int.mul_assoc, Int.mul_comm (256 ^ k) (n / 256 ^ k % 256), Int.add_assoc]
      have r0 := Int.emod_nonneg n (Int.ne_of_gt hp)
      have r1 := Int.emod_lt_of_pos n hp
      have q0 : 0 ≤ n / 256 ^ k % 256 := by omega
      have q1 : n / 256 ^ k % 256 ≤ 255 := by omega
      have b1 : (n / 256 ^ k % 256) * 256 ^ k ≤ 255 * 256 ^ k := Int.mul_le_mul_of_nonneg_right q1 (Int.le_of_lt hp)
      have b0 : 0 ≤ (n / 256 ^ k % 256) * 256 ^ k := Int.mul_nonneg q0 (Int.le_of_lt hp)
      have hs : (256 : Int) ^ (k + 1) = 256 * 256 ^ k := by rw [Int.pow_succ, Int.mul_comm]
      generalize hy : (n / 256 ^ k % 256) * 256 ^ k + n % 256 ^ k = y at hm ⊢
      rw [hm, Int.mul_add_emod_self_left]
      exact Int.emod_eq_of_lt (by omega) (by rw [hs]; omega)
    rw [d3, Int.add_mul, Int.mul_assoc, Int.pow_succ, Int.mul_comm 256 (256 ^ k), Int.add_assoc]
theorem unbe_be {n : Int} {k : Nat} (h0 : 0 ≤ n) (h1 : n < 256 ^ k) : unbe (be n k) = n := by
  unfold unbe
  rw [unbe_be_from, Int.zero_mul, Int.zero_add, Int.emod_eq_of_lt h0 h1]

theorem pow256_div (n : Int) (k : Nat) : n / 256 ^ k / 256 = n / 256 ^ (k + 1) := by
  rw [Int.pow_succ, Int.ediv_ediv_of_nonneg (Int.le_of_lt (Int.pow_pos (by decide)))]

section
variable {prog : Program} {w : World} {A : Around} {E : Value → Shared → Prop} {s : Shared} {env : Env} {h₀ : Heap} {x : PySem.Str} {body : List Stmt} {Q : Flow → Shared → Prop}
theorem iter_rangeJ {r : Addr} {a₀ b₀ c₀ : Int} {t₀ u₀ v₀ : Tok} {n : Nat} {m₀ : PySem.Str → Option Value} {news : List (Addr × Obj)} (J : Nat → (PySem.Str → Option Value) → List (Addr × Obj) → Prop)
    (hh : A.handled = none) (hr : IsRange s.heap r a₀ b₀ c₀ t₀ u₀ v₀) (hsmall : Builtin.Range.small a₀ b₀ c₀ = true) (hn : Builtin.Range.rangeSize a₀ b₀ c₀ = (n : Int)) (F : Fr h₀ env.locals s.heap m₀) (N : News h₀ env.locals s.heap news) (hj : J 0 m₀ news)
    (turn : ∀ i t m₁ news₁ h tk own, i < n → OwnOff own (news.map (·.1)) → J i m₁ news₁ → Fr h₀ env.locals h (fun y => if y = x then some (.int (a₀ + i * c₀) t) else m₁ y) → News h₀ env.locals h (news₁ ++ own) →
      wpAny (model prog w) A (execs body env) (InvPostN h₀ env.locals (J (i + 1)) own (news.map (·.1)) { s with heap := h, toks := tk } Q) E { s with heap := h, toks := tk })
    (done : ∀ m₁ news₁ h tk, J n m₁ news₁ → Fr h₀ env.locals h m₁ → News h₀ env.locals h news₁ → Q .next { s with heap := h, toks := tk }) :
    wpAny (model prog w) A (pyIter (.ref r)) (fun it s₂ => LoopAtV prog w A h₀ env x body Q E it s₂) E s := by
  refine wpAny_pyIter_range hr hsmall ?_
  have W : Walks prog w A s.heap.objs.size [s.heap.objs.size] [s.heap.objs.size] n (fun i v => i < n ∧ ∃ t, v = .int (a₀ + i * c₀) t)
      (fun i h => IsRangeIter h s.heap.objs.size (a₀ + (i : Nat) * c₀) ((n : Int) - (i : Nat)) c₀) := (Walks.range hh _ a₀ c₀ n).bound
  refine loop_invN J W ?_ ?_ ?_ ?_ (by show IsRangeIter _ _ _ _ _; rw [hn]; simpa using Heap.get?_push_size _ rfl) (F.push _) (fun p hp => ⟨Heap.get?_push_of_some _ (N p hp).1, (N p hp).2⟩) hj ?_ ?_
  · intro hm
    exact absurd F.ns.lt ((List.mem_singleton.mp hm) ▸ Nat.lt_irrefl _)
  · intro b hb
    rw [List.mem_singleton.mp hb]
    exact next_is_new F
  · intro p hp hI
    exact absurd (Heap.lt_size (N p hp).1) ((List.mem_singleton.mp hI) ▸ Nat.lt_irrefl _)
  · intro p hp hI
    exact absurd (Heap.lt_size (N p hp).1) ((List.mem_singleton.mp hI) ▸ Nat.lt_irrefl _)
  · rintro i v m₁ nx h tk own hi ⟨_, t, rfl⟩ _ hoff hJ F₁ N₁
    exact turn i t m₁ nx h tk own hi hoff hJ F₁ N₁
  · intro m₁ nx h tk hJ F₁ N₁
    exact done m₁ nx h tk hJ F₁ N₁
end
section
variable {prog : Program} {w : World} {A : Around} {E : Value → Shared → Prop} {s : Shared} {h₀ : Heap} {L S : Addr} {m : PySem.Str → Option Value} {news news' : List (Addr × Obj)} {b : Array UInt8}
theorem C_ba_K {n : Int} {t : Tok} {Q : Value → Shared → Prop} (F : Fr h₀ L s.heap m) (N : News h₀ L s.heap news) (h0 : 0 ≤ n) (h1 : n ≤ 1000)
    (h : ∀ S h', Fr h₀ L h' m → News h₀ L h' ((S, baOf (Array.replicate n.toNat 0)) :: news) → AllLt S news → Q (.ref S) { s with heap := h' }) :
    wpC (model prog w) A (call (.type "bytearray") [.int n t]) Q E s := by
  refine C_ba_call h0 h1 fun h' hS e => ?_
  have F1 := F.push (baOf #[])
  have N1 := News.push F N (baOf #[])
  have nL : s.heap.objs.size ≠ L := (N1 _ (.head _)).2.1
  have n0 : h₀.get? s.heap.objs.size = none := (N1 _ (.head _)).2.2
  refine h _ h' (F1.change e nL n0) (fun p hp => ?_) (allLt_of fun p hp => Heap.lt_size (N p hp).1)
  rcases List.mem_cons.mp hp with rfl | hp
  · exact ⟨hS, nL, n0⟩
  · have q := N1 p (.tail _ hp)
    exact ⟨(e.2 p.1 (Nat.ne_of_lt (Heap.lt_size (N p hp).1))).trans q.1, q.2⟩
theorem ba_set_K {k v : Int} {t u : Tok} {Q : Unit → Shared → Prop} (F : Fr h₀ L s.heap m) (N : News h₀ L s.heap news) (h0 : 0 ≤ k) (h1 : k < b.size) (hz : b.size ≤ 1000) (v0 : 0 ≤ v) (v1 : v < 256)
    (U : Upd S (baOf b) (baOf (b.setIfInBounds k.toNat v.toNat.toUInt8)) news news') (h : ∀ h', Fr h₀ L h' m → News h₀ L h' news' → Q () { s with heap := h' }) : wpAny (model prog w) A (setItem (.ref S) (.int k t) (.int v u)) Q E s := by
  obtain ⟨pre, post, rfl, rfl, a, c⟩ := U.split
  have z := N (S, baOf b) (List.mem_append_right _ (.head _))
  exact ba_setItem z.1 h0 h1 hz v0 v1 fun h' hS e => h h' (F.change e z.2.1 z.2.2) (news_set N a c e hS)
theorem ba_bytes_K {Q : Value → Shared → Prop} (N : News h₀ L s.heap news) (hm : (S, baOf b) ∈ news) (hz : b.size ≤ 1000) (hQ : ∀ t k, Q (.bytes b t) { s with toks := k }) : wpAny (model prog w) A (call (.type "bytes") [.ref S]) Q E s := ba_bytes (N _ hm).1 hz hQ
end
end Mine
end

section
open PySem PySem.W PyProof.Rows PySem.Calls PySem.Spec
set_option maxRecDepth 100000
set_option maxHeartbeats 0
namespace Mine
theorem C_callK {M : Model} {A : Around} {E : Value → Shared → Prop} {s : Shared} {env : Env} {K : Frag} {h₀ : Heap} {pos : Pos} {f : Value} {e : PySem.Expr} {rest : List PySem.Expr} {Q : Value → Shared → Prop} (fX : K.In h₀) (hk : keepIn K f = true)
    (h : wpC M A (spliced (backTo pos (starEach (e :: rest) env))) (fun vs s₁ => K.In s₁.heap ∧ wpC M A (call f vs) Q E s₁) E s)
    (he : starEach (e :: rest) env = (false, eval e env) :: starEach rest env := by rfl) (hplain : (backTo pos (starEach rest env)).any (·.1) = false := by rfl) :
    wpC M A (callWith pos f [] (backTo pos (starEach (e :: rest) env)) []) Q E s := C_callWith hk h he hplain
theorem bInts_set {b : Array UInt8} {j : Nat} {v : Int} (v0 : 0 ≤ v) (v1 : v < 256) : KBw.bInts (b.setIfInBounds j v.toNat.toUInt8) = (KBw.bInts b).set j v := by
  have e : (((v.toNat.toUInt8).toNat : Nat) : Int) = v := by
    have h1 : (v.toNat.toUInt8).toNat = v.toNat := by
      show (UInt8.ofNat v.toNat).toNat = v.toNat
      rw [UInt8.toNat_ofNat']; omega
    rw [h1]; omega
  unfold KBw.bInts
  rw [Array.toList_setIfInBounds, List.map_set, e]
theorem set_zeros (k : Nat) (v : Int) (l : List Int) : (List.replicate (k + 1) (0 : Int) ++ l).set k v = List.replicate k 0 ++ v :: l := by
  rw [List.replicate_succ', List.append_assoc, List.set_append_right _ _ (by rw [List.length_replicate]; exact Nat.le_refl _), List.length_replicate, Nat.sub_self]
  rfl
theorem bInts_zeros (n : Nat) : KBw.bInts (Array.replicate n 0) = List.replicate n 0 := by
  unfold KBw.bInts
  rw [Array.toList_replicate, List.map_replicate]
  rfl
section
variable {prog : Program} {w : World} {A : Around} {E : Value → Shared → Prop} {s : Shared} {env : Env} {h₀ : Heap} {body : List Stmt} {Q : Flow → Shared → Prop}
theorem put_iter {r S : Addr} {n size : Int} {t₀ u₀ v₀ t1 : Tok} {m₀ : PySem.Str → Option Value} {news : List (Addr × Obj)} {x y : PySem.Str} (h0 : 0 ≤ n) (h2 : 0 ≤ size) (h3 : size ≤ 16)
    (hh : A.handled = none) (hr : IsRange s.heap r (size - 1) (-1) (-1) t₀ u₀ v₀) (F : Fr h₀ env.locals s.heap m₀) (N : News h₀ env.locals s.heap ((S, baOf (Array.replicate size.toNat 0)) :: news)) (hm : m₀ y = some (.int n t1))
    (turn : ∀ (i : Nat) t arr a ta h tk own, i < size.toNat → arr.size = size.toNat → 0 ≤ a → OwnOff own (S :: news.map (·.1)) →
      Fr h₀ env.locals h (fun z => if z = x then some (.int (size - 1 - i) t) else if z = y then some (.int a ta) else m₀ z) → News h₀ env.locals h ((S, baOf arr) :: (news ++ own)) →
      wpAny (model prog w) A (execs body env) (InvPostN h₀ env.locals (fun m' nx => nx = (S, baOf (arr.setIfInBounds (size - 1 - i).toNat (a.fmod 256).toNat.toUInt8)) :: news ∧ (∃ t', m' y = some (.int (a.fdiv 256) t')) ∧ ∀ z, z ≠ x → z ≠ y → m' z = m₀ z) own (S :: news.map (·.1)) { s with heap := h, toks := tk } Q) E { s with heap := h, toks := tk })
    (done : ∀ (u : PySem.Str → Option Value) arr a ta h tk, KBw.bInts arr = be n size.toNat → Fr h₀ env.locals h (fun z => if z = x then u z else if z = y then some (.int a ta) else m₀ z) → News h₀ env.locals h ((S, baOf arr) :: news) → Q .next { s with heap := h, toks := tk }) :
    wpAny (model prog w) A (pyIter (.ref r)) (fun it s₂ => LoopAtV prog w A h₀ env x body Q E it s₂) E s := by
  refine iter_rangeJ (n := size.toNat) (fun i m nx => (∃ arr, nx = (S, baOf arr) :: news ∧ KBw.bInts arr = List.replicate (size.toNat - i) 0 ++ be n i) ∧ (∃ t, m y = some (.int (n / 256 ^ i) t)) ∧ ∀ z, z ≠ x → z ≠ y → m z = m₀ z) hh hr
    (small_down (by omega) (by omega) (by omega) (by omega)) (by rw [rangeSize_downNat]; omega) F N ⟨⟨_, rfl, by rw [bInts_zeros]; simp [be]⟩, ⟨t1, by rw [hm]; simp⟩, fun _ _ _ => rfl⟩ ?_ ?_
  · rintro i t m₁ news₁ h tk own hi hoff ⟨⟨arr, rfl, harr⟩, ⟨ta, ha⟩, hm₁⟩ F₁ N₁
    have e1 : size - 1 + (i : Int) * -1 = size - 1 - i := by omega
    rw [e1] at F₁
    have hlen : arr.size = size.toNat := by
      rw [← KBw.ints_length, harr, List.length_append, List.length_replicate, be_length]; omega
    have hp : (0 : Int) < 256 ^ i := Int.pow_pos (by decide)
    have ha0 : 0 ≤ n / 256 ^ i := Int.ediv_nonneg h0 (Int.le_of_lt hp)
    refine wpAny_mono (turn i t arr _ ta h tk own hi hlen ha0 hoff (map_one (v := .int (size - 1 - i) t) ha hm₁ ▸ F₁) N₁) (fun f s₂ p => ?_) fun _ _ e => e
    have fin : InvEndN h₀ env.locals (fun m' nx => nx = (S, baOf (arr.setIfInBounds (size - 1 - i).toNat ((n / 256 ^ i).fmod 256).toNat.toUInt8)) :: news ∧ (∃ t', m' y = some (.int ((n / 256 ^ i).fdiv 256) t')) ∧ ∀ z, z ≠ x → z ≠ y → m' z = m₀ z) own (S :: news.map (·.1)) { s with heap := h, toks := tk } s₂ →
        InvEndN h₀ env.locals (fun m nx => (∃ arr, nx = (S, baOf arr) :: news ∧ KBw.bInts arr = List.replicate (size.toNat - (i + 1)) 0 ++ be n (i + 1)) ∧ (∃ t, m y = some (.int (n / 256 ^ (i + 1)) t)) ∧ ∀ z, z ≠ x → z ≠ y → m z = m₀ z) own (S :: news.map (·.1)) { s with heap := h, toks := tk } s₂ := by
      rintro ⟨h', tk', m', news', nx, e, F', N', hn, ho, hadr, rfl, ⟨t', ht'⟩, hm'⟩
      refine ⟨h', tk', m', news', _, e, F', N', hn, ho, hadr, ⟨_, rfl, ?_⟩, ⟨t', ?_⟩, hm'⟩
      · rw [bInts_set (fmod_lo _ (by decide)) (fmod_hi _ (by decide)), harr, show size.toNat - i = (size.toNat - (i + 1)) + 1 by omega, show (size - 1 - (i : Int)).toNat = size.toNat - (i + 1) by omega, set_zeros, Int.fmod_eq_emod_of_nonneg _ (by decide)]
        rfl
      · rw [ht', Int.fdiv_eq_ediv_of_nonneg _ (by decide), pow256_div]
    cases f with
    | ret v => exact p
    | brk => exact p
    | next => exact fin p
    | cont => exact fin p
  · rintro m₁ news₁ h tk ⟨⟨arr, rfl, harr⟩, ⟨ta, ha⟩, hm₁⟩ F₁ N₁
    refine done m₁ arr (n / 256 ^ size.toNat) ta h tk (by rw [harr]; simp) ?_ N₁
    have e : (fun z => if z = x then m₁ z else if z = y then some (Value.int (n / 256 ^ size.toNat) ta) else m₀ z) = m₁ := by
      funext z
      by_cases h1 : z = x
      · simp [h1]
      · simp only [if_neg h1]
        by_cases h2 : z = y
        · subst h2; simp [ha]
        · simp only [if_neg h2]; exact (hm₁ z h1 h2).symm
    rw [e]; exact F₁
end
end Mine
end

section
open PySem PySem.W PyProof.Rows PySem.Calls PySem.Spec
open PyProof.Rows.LCg (NsObj lst CompRest CompEnd Off3)
set_option maxRecDepth 100000
set_option maxHeartbeats 0
namespace Mine
section
variable {prog : Program} {w : World} {A : Around} {h₀ : Heap} {L : Addr} {m : PySem.Str → Option Value} {env : Env} {elt : PySem.Expr} {x : PySem.Str} {scope : Scope} {cl : List (PySem.Str × Addr)} {s : Shared} {S : List (Addr × Obj) → Prop} {Pv : Nat → Value → Prop} {Fin : List Value → List (Addr × Obj) → Prop}
theorem comp_draws {n : Nat} {r : Addr} (g : Obj → Obj → List (Addr × Obj)) (P : Value → Prop) {od oR : Obj} (ok : DrawsOk r od oR)
    (turn : ∀ od oR ys v I oI C oC D m₂ h tk (i : Nat) (E' : Value → Shared → Prop), DrawsOk r od oR → i < n → Pv i v → NsObj oC m₂ → m₂ x = some v → Fr h₀ L h m → News h₀ L h ((I, oI) :: (C, oC) :: (D, lst ys) :: g od oR) → Off3 I C D (g od oR) → ((@Ne Nat I C) ∧ (@Ne Nat I D) ∧ (@Ne Nat C D)) →
      wpAny (model prog w) A (eval elt (compEnvC scope cl C env)) (CompEnd h₀ L m { s with heap := h, toks := tk } I oI C oC D (lst ys) S (fun y news' => P y ∧ ∃ od' oR', news' = g od' oR' ∧ DrawsOk r od' oR')) E' { s with heap := h, toks := tk })
    (fin : ∀ ys od oR, ys.length = n → (∀ y ∈ ys, P y) → DrawsOk r od oR → Fin ys (g od oR)) : CompRest prog w A h₀ L m env elt x scope cl s S Pv Fin n 0 [] (g od oR) := by
  have key : ∀ (j i : Nat) (ys : List Value) od oR, i + j = n → ys.length = i → (∀ y ∈ ys, P y) → DrawsOk r od oR → CompRest prog w A h₀ L m env elt x scope cl s S Pv Fin j i ys (g od oR) := by
    intro j
    induction j with
    | zero =>
      intro i ys od oR hi hl hy ok
      exact CompRest.zero (fin ys od oR (by omega) hy ok)
    | succ j ih =>
      intro i ys od oR hi hl hy ok
      refine CompRest.succ ?_
      intro v I oI C oC D m₂ h tk E' hv hC hx F N off ne
      refine wpAny_mono (turn od oR ys v I oI C oC D m₂ h tk i E' ok (by omega) hv hC hx F N off ne) (fun y s₂ hq => ?_) fun _ _ e => e
      obtain ⟨h', tk', nw, e, F', N', off', hS, hy', od', oR', rfl, ok'⟩ := hq
      exact ⟨h', tk', _, e, F', N', off', hS, ih (i + 1) _ od' oR' (by omega) (by simp [hl]) (fun y hy2 => by
        rcases List.mem_append.mp hy2 with h | h
        · exact hy y h
        · rw [List.mem_singleton.mp h]; exact hy') ok'⟩
  exact key n 0 [] od oR (by omega) rfl (fun _ h => by simp at h) ok
end
theorem octs_of : ∀ {ys : List Value}, (∀ y ∈ ys, ∃ k t, y = Value.int k t ∧ 0 ≤ k ∧ k < 256) → ∃ ks, IntsAre ys ks ∧ ks.length = ys.length ∧ KBa.In ks
  | [], _ => ⟨[], .nil, rfl, fun _ h => by simp at h⟩
  | y :: ys, h => by
    obtain ⟨k, t, rfl, h0, h1⟩ := h y List.mem_cons_self
    obtain ⟨ks, e1, e2, e3⟩ := octs_of (ys := ys) fun z hz => h z (List.mem_cons_of_mem _ hz)
    refine ⟨k :: ks, .cons k t e1, by simp [e2], fun n hn => ?_⟩
    rcases List.mem_cons.mp hn with rfl | hn
    · exact ⟨h0, h1⟩
    · exact e3 n hn
end Mine
end

section
open PySem PySem.W PyProof.Rows PySem.Calls PySem.Spec
set_option maxRecDepth 100000
set_option maxHeartbeats 0
namespace Mine
def RawO (w : World) (od : Obj) (kind : PySem.Str) (first version : Int) (bd bs bt bg : Array UInt8) (V : Addr) (zl : Int) : Prop :=
  ∃ k1 k2 k3 k4 k5 k6 k7 k8 k9 k10 k11 u1 u2 u3 u4 u5 u6 u7 u8 u9 u10 : Tok, od = dictOf [{ hash := PyData.keyHash w.params (PySem.Str.ofString "kind"), key := .str (PySem.Str.ofString "kind") k1, val := .str kind u1 }, { hash := PyData.keyHash w.params (PySem.Str.ofString "first"), key := .str (PySem.Str.ofString "first") k2, val := .int first u2 }, { hash := PyData.keyHash w.params (PySem.Str.ofString "version"), key := .str (PySem.Str.ofString "version") k3, val := .int version u3 }, { hash := PyData.keyHash w.params (PySem.Str.ofString "dcid"), key := .str (PySem.Str.ofString "dcid") k4, val := .bytes bd u4 }, { hash := PyData.keyHash w.params (PySem.Str.ofString "scid"), key := .str (PySem.Str.ofString "scid") k5, val := .bytes bs u5 }, { hash := PyData.keyHash w.params (PySem.Str.ofString "token"), key := .str (PySem.Str.ofString "token") k6, val := .bytes bt u6 }, { hash := PyData.keyHash w.params (PySem.Str.ofString "tag"), key := .str (PySem.Str.ofString "tag") k7, val := .bytes bg u7 }, { hash := PyData.keyHash w.params (PySem.Str.ofString "versions"), key := .str (PySem.Str.ofString "versions") k8, val := .ref V }, { hash := PyData.keyHash w.params (PySem.Str.ofString "start"), key := .str (PySem.Str.ofString "start") k9, val := .int 0 u8 }, { hash := PyData.keyHash w.params (PySem.Str.ofString "number_at"), key := .str (PySem.Str.ofString "number_at") k10, val := .int 0 u9 }, { hash := PyData.keyHash w.params (PySem.Str.ofString "end"), key := .str (PySem.Str.ofString "end") k11, val := .int zl u10 }] 11
section
variable {w : World} {A : Around} {E : Value → Shared → Prop} {s : Shared} {h₀ : Heap} {L x d : Addr} {m : PySem.Str → Option Value} {news : List (Addr × Obj)} {od : Obj} {kind : PySem.Str} {first version zl : Int} {bd bs bt bg : Array UInt8} {V : Addr} {expr : Bool} {Q : Value → Shared → Prop}
theorem raw_kind (F : Fr h₀ L s.heap m) (X : (Mine.hd.heap_1 w.params).In h₀) (N : News h₀ L s.heap news) (hx : (x, instObj 177 d) ∈ news) (hd : (d, od) ∈ news) (hr : RawO w od kind first version bd bs bt bg V zl) (h : ∀ t, Q (.str kind t) { s with toks := s.toks + 1 }) :
    wpAny (model PySem.Challenge.rw_no0079_01.row.prog w) A (getAttr (.ref x) (PySem.Str.ofString "kind") expr) Q E s := by
  revert X
  k_fill
  intro X
  obtain ⟨k1, k2, k3, k4, k5, k6, k7, k8, k9, k10, k11, u1, u2, u3, u4, u5, u6, u7, u8, u9, u10, rfl⟩ := hr
  k_dflt (refine' get_own F X (InstAt.of_news N hx hd) ?k4 ?k5 ?k6 ?k7 ?k8 ?k9 ?_; (case k4 => k_is); (case k5 => k_is); (case k6 => k_is); (case k7 => k_is); (case k8 => k_get); (case k9 => k_handed))
  exact h _
theorem raw_version (F : Fr h₀ L s.heap m) (X : (Mine.hd.heap_1 w.params).In h₀) (N : News h₀ L s.heap news) (hx : (x, instObj 177 d) ∈ news) (hd : (d, od) ∈ news) (hr : RawO w od kind first version bd bs bt bg V zl) (h : ∀ t, Q (.int version t) { s with toks := s.toks + 1 }) :
    wpAny (model PySem.Challenge.rw_no0079_01.row.prog w) A (getAttr (.ref x) (PySem.Str.ofString "version") expr) Q E s := by
  revert X
  k_fill
  intro X
  obtain ⟨k1, k2, k3, k4, k5, k6, k7, k8, k9, k10, k11, u1, u2, u3, u4, u5, u6, u7, u8, u9, u10, rfl⟩ := hr
  k_dflt (refine' get_own F X (InstAt.of_news N hx hd) ?k4 ?k5 ?k6 ?k7 ?k8 ?k9 ?_; (case k4 => k_is); (case k5 => k_is); (case k6 => k_is); (case k7 => k_is); (case k8 => k_get); (case k9 => k_handed))
  exact h _
theorem raw_dcid (F : Fr h₀ L s.heap m) (X : (Mine.hd.heap_1 w.params).In h₀) (N : News h₀ L s.heap news) (hx : (x, instObj 177 d) ∈ news) (hd : (d, od) ∈ news) (hr : RawO w od kind first version bd bs bt bg V zl) (h : ∀ t, Q (.bytes bd t) { s with toks := s.toks + 1 }) :
    wpAny (model PySem.Challenge.rw_no0079_01.row.prog w) A (getAttr (.ref x) (PySem.Str.ofString "dcid") expr) Q E s := by
  revert X
  k_fill
  intro X
  obtain ⟨k1, k2, k3, k4, k5, k6, k7, k8, k9, k10, k11, u1, u2, u3, u4, u5, u6, u7, u8, u9, u10, rfl⟩ := hr
  k_dflt (refine' get_own F X (InstAt.of_news N hx hd) ?k4 ?k5 ?k6 ?k7 ?k8 ?k9 ?_; (case k4 => k_is); (case k5 => k_is); (case k6 => k_is); (case k7 => k_is); (case k8 => k_get); (case k9 => k_handed))
  exact h _
theorem raw_scid (F : Fr h₀ L s.heap m) (X : (Mine.hd.heap_1 w.params).In h₀) (N : News h₀ L s.heap news) (hx : (x, instObj 177 d) ∈ news) (hd : (d, od) ∈ news) (hr : RawO w od kind first version bd bs bt bg V zl) (h : ∀ t, Q (.bytes bs t) { s with toks := s.toks + 1 }) :
    wpAny (model PySem.Challenge.rw_no0079_01.row.prog w) A (getAttr (.ref x) (PySem.Str.ofString "scid") expr) Q E s := by
  revert X
  k_fill
  intro X
  obtain ⟨k1, k2, k3, k4, k5, k6, k7, k8, k9, k10, k11, u1, u2, u3, u4, u5, u6, u7, u8, u9, u10, rfl⟩ := hr
  k_dflt (refine' get_own F X (InstAt.of_news N hx hd) ?k4 ?k5 ?k6 ?k7 ?k8 ?k9 ?_; (case k4 => k_is); (case k5 => k_is); (case k6 => k_is); (case k7 => k_is); (case k8 => k_get); (case k9 => k_handed))
  exact h _
theorem raw_token (F : Fr h₀ L s.heap m) (X : (Mine.hd.heap_1 w.params).In h₀) (N : News h₀ L s.heap news) (hx : (x, instObj 177 d) ∈ news) (hd : (d, od) ∈ news) (hr : RawO w od kind first version bd bs bt bg V zl) (h : ∀ t, Q (.bytes bt t) { s with toks := s.toks + 1 }) :
    wpAny (model PySem.Challenge.rw_no0079_01.row.prog w) A (getAttr (.ref x) (PySem.Str.ofString "token") expr) Q E s := by
  revert X
  k_fill
  intro X
  obtain ⟨k1, k2, k3, k4, k5, k6, k7, k8, k9, k10, k11, u1, u2, u3, u4, u5, u6, u7, u8, u9, u10, rfl⟩ := hr
  k_dflt (refine' get_own F X (InstAt.of_news N hx hd) ?k4 ?k5 ?k6 ?k7 ?k8 ?k9 ?_; (case k4 => k_is); (case k5 => k_is); (case k6 => k_is); (case k7 => k_is); (case k8 => k_get); (case k9 => k_handed))
  exact h _
theorem raw_tag (F : Fr h₀ L s.heap m) (X : (Mine.hd.heap_1 w.params).In h₀) (N : News h₀ L s.heap news) (hx : (x, instObj 177 d) ∈ news) (hd : (d, od) ∈ news) (hr : RawO w od kind first version bd bs bt bg V zl) (h : ∀ t, Q (.bytes bg t) { s with toks := s.toks + 1 }) :
    wpAny (model PySem.Challenge.rw_no0079_01.row.prog w) A (getAttr (.ref x) (PySem.Str.ofString "tag") expr) Q E s := by
  revert X
  k_fill
  intro X
  obtain ⟨k1, k2, k3, k4, k5, k6, k7, k8, k9, k10, k11, u1, u2, u3, u4, u5, u6, u7, u8, u9, u10, rfl⟩ := hr
  k_dflt (refine' get_own F X (InstAt.of_news N hx hd) ?k4 ?k5 ?k6 ?k7 ?k8 ?k9 ?_; (case k4 => k_is); (case k5 => k_is); (case k6 => k_is); (case k7 => k_is); (case k8 => k_get); (case k9 => k_handed))
  exact h _
theorem raw_versions (F : Fr h₀ L s.heap m) (X : (Mine.hd.heap_1 w.params).In h₀) (N : News h₀ L s.heap news) (hx : (x, instObj 177 d) ∈ news) (hd : (d, od) ∈ news) (hr : RawO w od kind first version bd bs bt bg V zl) (h : Q (.ref V) { s with toks := s.toks + 1 }) :
    wpAny (model PySem.Challenge.rw_no0079_01.row.prog w) A (getAttr (.ref x) (PySem.Str.ofString "versions") expr) Q E s := by
  revert X
  k_fill
  intro X
  obtain ⟨k1, k2, k3, k4, k5, k6, k7, k8, k9, k10, k11, u1, u2, u3, u4, u5, u6, u7, u8, u9, u10, rfl⟩ := hr
  k_dflt (refine' get_own F X (InstAt.of_news N hx hd) ?k4 ?k5 ?k6 ?k7 ?k8 ?k9 ?_; (case k4 => k_is); (case k5 => k_is); (case k6 => k_is); (case k7 => k_is); (case k8 => k_get); (case k9 => k_handed))
  exact h
theorem raw_end (F : Fr h₀ L s.heap m) (X : (Mine.hd.heap_1 w.params).In h₀) (N : News h₀ L s.heap news) (hx : (x, instObj 177 d) ∈ news) (hd : (d, od) ∈ news) (hr : RawO w od kind first version bd bs bt bg V zl) (h : ∀ t, Q (.int zl t) { s with toks := s.toks + 1 }) :
    wpAny (model PySem.Challenge.rw_no0079_01.row.prog w) A (getAttr (.ref x) (PySem.Str.ofString "end") expr) Q E s := by
  revert X
  k_fill
  intro X
  obtain ⟨k1, k2, k3, k4, k5, k6, k7, k8, k9, k10, k11, u1, u2, u3, u4, u5, u6, u7, u8, u9, u10, rfl⟩ := hr
  k_dflt (refine' get_own F X (InstAt.of_news N hx hd) ?k4 ?k5 ?k6 ?k7 ?k8 ?k9 ?_; (case k4 => k_is); (case k5 => k_is); (case k6 => k_is); (case k7 => k_is); (case k8 => k_get); (case k9 => k_handed))
  exact h _
end
end Mine
end

section
open PySem PySem.W PyProof.Rows PySem.Calls PySem.Spec
set_option maxRecDepth 100000
set_option maxHeartbeats 0
namespace Mine
theorem updF_upd {c : Addr} {o o' : Obj} {news : List (Addr × Obj)} {g : Obj → List (Addr × Obj)} (U : UpdF c o news g) : Upd c o o' news (g o') := by
  induction U with
  | head h => exact .head h
  | tail h _ ih => exact .tail h ih
section
variable {w : World} {A : Around} {E : Value → Shared → Prop} {s : Shared} {h₀ : Heap} {L x d : Addr} {m : PySem.Str → Option Value} {news : List (Addr × Obj)} {od : Obj} {kind : PySem.Str} {first version zl : Int} {bd bs bt bg : Array UInt8} {V : Addr} {t : Tok} {g : Obj → List (Addr × Obj)} {Q : Unit → Shared → Prop}
theorem set_raw_kind {kind' : PySem.Str} (F : Fr h₀ L s.heap m) (X : (Mine.hd.heap_1 w.params).In h₀) (N : News h₀ L s.heap news) (hx : (x, instObj 177 d) ∈ news) (U : UpdF d od news g) (hr : RawO w od kind first version bd bs bt bg V zl)
    (h : ∀ h' od', Fr h₀ L h' m → News h₀ L h' (g od') → RawO w od' kind' first version bd bs bt bg V zl → Q () { s with heap := h', toks := s.toks + 2 }) :
    wpAny (model PySem.Challenge.rw_no0079_01.row.prog w) A (setAttr (.ref x) (PySem.Str.ofString "kind") (.str kind' t)) Q E s := by
  revert X
  k_fill
  intro X
  have hd := (upd_mem U).1
  obtain ⟨k1, k2, k3, k4, k5, k6, k7, k8, k9, k10, k11, u1, u2, u3, u4, u5, u6, u7, u8, u9, u10, rfl⟩ := hr
  k_dflt (refine' set_dict F X N (InstAt.of_news N hx hd) ?k5 ?k6 ?k7 ?k8 ?k9 ?k10 ?k11 (updF_upd U) ?k13 ?_; (case k5 => exact rfl); (case k6 => k_is); (case k7 => k_is); (case k8 => k_is); (case k9 => k_is); (case k10 => k_get); (case k11 => k_put); (case k13 => exact Nat.le_of_ble_eq_true rfl))
  exact fun h' F' N' => h h' _ F' N' ⟨_, _, _, _, _, _, _, _, _, _, _, _, _, _, _, _, _, _, _, _, _, rfl⟩
theorem set_raw_version {version' : Int} (F : Fr h₀ L s.heap m) (X : (Mine.hd.heap_1 w.params).In h₀) (N : News h₀ L s.heap news) (hx : (x, instObj 177 d) ∈ news) (U : UpdF d od news g) (hr : RawO w od kind first version bd bs bt bg V zl)
    (h : ∀ h' od', Fr h₀ L h' m → News h₀ L h' (g od') → RawO w od' kind first version' bd bs bt bg V zl → Q () { s with heap := h', toks := s.toks + 2 }) :
    wpAny (model PySem.Challenge.rw_no0079_01.row.prog w) A (setAttr (.ref x) (PySem.Str.ofString "version") (.int version' t)) Q E s := by
  revert X
  k_fill
  intro X
  have hd := (upd_mem U).1
  obtain ⟨k1, k2, k3, k4, k5, k6, k7, k8, k9, k10, k11, u1, u2, u3, u4, u5, u6, u7, u8, u9, u10, rfl⟩ := hr
  k_dflt (refine' set_dict F X N (InstAt.of_news N hx hd) ?k5 ?k6 ?k7 ?k8 ?k9 ?k10 ?k11 (updF_upd U) ?k13 ?_; (case k5 => exact rfl); (case k6 => k_is); (case k7 => k_is); (case k8 => k_is); (case k9 => k_is); (case k10 => k_get); (case k11 => k_put); (case k13 => exact Nat.le_of_ble_eq_true rfl))
  exact fun h' F' N' => h h' _ F' N' ⟨_, _, _, _, _, _, _, _, _, _, _, _, _, _, _, _, _, _, _, _, _, rfl⟩
theorem set_raw_scid {bs' : Array UInt8} (F : Fr h₀ L s.heap m) (X : (Mine.hd.heap_1 w.params).In h₀) (N : News h₀ L s.heap news) (hx : (x, instObj 177 d) ∈ news) (U : UpdF d od news g) (hr : RawO w od kind first version bd bs bt bg V zl)
    (h : ∀ h' od', Fr h₀ L h' m → News h₀ L h' (g od') → RawO w od' kind first version bd bs' bt bg V zl → Q () { s with heap := h', toks := s.toks + 2 }) :
    wpAny (model PySem.Challenge.rw_no0079_01.row.prog w) A (setAttr (.ref x) (PySem.Str.ofString "scid") (.bytes bs' t)) Q E s := by
  revert X
  k_fill
  intro X
  have hd := (upd_mem U).1
  obtain ⟨k1, k2, k3, k4, k5, k6, k7, k8, k9, k10, k11, u1, u2, u3, u4, u5, u6, u7, u8, u9, u10, rfl⟩ := hr
  k_dflt (refine' set_dict F X N (InstAt.of_news N hx hd) ?k5 ?k6 ?k7 ?k8 ?k9 ?k10 ?k11 (updF_upd U) ?k13 ?_; (case k5 => exact rfl); (case k6 => k_is); (case k7 => k_is); (case k8 => k_is); (case k9 => k_is); (case k10 => k_get); (case k11 => k_put); (case k13 => exact Nat.le_of_ble_eq_true rfl))
  exact fun h' F' N' => h h' _ F' N' ⟨_, _, _, _, _, _, _, _, _, _, _, _, _, _, _, _, _, _, _, _, _, rfl⟩
theorem set_raw_token {bt' : Array UInt8} (F : Fr h₀ L s.heap m) (X : (Mine.hd.heap_1 w.params).In h₀) (N : News h₀ L s.heap news) (hx : (x, instObj 177 d) ∈ news) (U : UpdF d od news g) (hr : RawO w od kind first version bd bs bt bg V zl)
    (h : ∀ h' od', Fr h₀ L h' m → News h₀ L h' (g od') → RawO w od' kind first version bd bs bt' bg V zl → Q () { s with heap := h', toks := s.toks + 2 }) :
    wpAny (model PySem.Challenge.rw_no0079_01.row.prog w) A (setAttr (.ref x) (PySem.Str.ofString "token") (.bytes bt' t)) Q E s := by
  revert X
  k_fill
  intro X
  have hd := (upd_mem U).1
  obtain ⟨k1, k2, k3, k4, k5, k6, k7, k8, k9, k10, k11, u1, u2, u3, u4, u5, u6, u7, u8, u9, u10, rfl⟩ := hr
  k_dflt (refine' set_dict F X N (InstAt.of_news N hx hd) ?k5 ?k6 ?k7 ?k8 ?k9 ?k10 ?k11 (updF_upd U) ?k13 ?_; (case k5 => exact rfl); (case k6 => k_is); (case k7 => k_is); (case k8 => k_is); (case k9 => k_is); (case k10 => k_get); (case k11 => k_put); (case k13 => exact Nat.le_of_ble_eq_true rfl))
  exact fun h' F' N' => h h' _ F' N' ⟨_, _, _, _, _, _, _, _, _, _, _, _, _, _, _, _, _, _, _, _, _, rfl⟩
theorem set_raw_tag {bg' : Array UInt8} (F : Fr h₀ L s.heap m) (X : (Mine.hd.heap_1 w.params).In h₀) (N : News h₀ L s.heap news) (hx : (x, instObj 177 d) ∈ news) (U : UpdF d od news g) (hr : RawO w od kind first version bd bs bt bg V zl)
    (h : ∀ h' od', Fr h₀ L h' m → News h₀ L h' (g od') → RawO w od' kind first version bd bs bt bg' V zl → Q () { s with heap := h', toks := s.toks + 2 }) :
    wpAny (model PySem.Challenge.rw_no0079_01.row.prog w) A (setAttr (.ref x) (PySem.Str.ofString "tag") (.bytes bg' t)) Q E s := by
  revert X
  k_fill
  intro X
  have hd := (upd_mem U).1
  obtain ⟨k1, k2, k3, k4, k5, k6, k7, k8, k9, k10, k11, u1, u2, u3, u4, u5, u6, u7, u8, u9, u10, rfl⟩ := hr
  k_dflt (refine' set_dict F X N (InstAt.of_news N hx hd) ?k5 ?k6 ?k7 ?k8 ?k9 ?k10 ?k11 (updF_upd U) ?k13 ?_; (case k5 => exact rfl); (case k6 => k_is); (case k7 => k_is); (case k8 => k_is); (case k9 => k_is); (case k10 => k_get); (case k11 => k_put); (case k13 => exact Nat.le_of_ble_eq_true rfl))
  exact fun h' F' N' => h h' _ F' N' ⟨_, _, _, _, _, _, _, _, _, _, _, _, _, _, _, _, _, _, _, _, _, rfl⟩
theorem set_raw_versions {V' : Addr} (F : Fr h₀ L s.heap m) (X : (Mine.hd.heap_1 w.params).In h₀) (N : News h₀ L s.heap news) (hx : (x, instObj 177 d) ∈ news) (U : UpdF d od news g) (hr : RawO w od kind first version bd bs bt bg V zl)
    (h : ∀ h' od', Fr h₀ L h' m → News h₀ L h' (g od') → RawO w od' kind first version bd bs bt bg V' zl → Q () { s with heap := h', toks := s.toks + 2 }) :
    wpAny (model PySem.Challenge.rw_no0079_01.row.prog w) A (setAttr (.ref x) (PySem.Str.ofString "versions") (.ref V')) Q E s := by
  revert X
  k_fill
  intro X
  have hd := (upd_mem U).1
  obtain ⟨k1, k2, k3, k4, k5, k6, k7, k8, k9, k10, k11, u1, u2, u3, u4, u5, u6, u7, u8, u9, u10, rfl⟩ := hr
  k_dflt (refine' set_dict F X N (InstAt.of_news N hx hd) ?k5 ?k6 ?k7 ?k8 ?k9 ?k10 ?k11 (updF_upd U) ?k13 ?_; (case k5 => exact rfl); (case k6 => k_is); (case k7 => k_is); (case k8 => k_is); (case k9 => k_is); (case k10 => k_get); (case k11 => k_put); (case k13 => exact Nat.le_of_ble_eq_true rfl))
  exact fun h' F' N' => h h' _ F' N' ⟨_, _, _, _, _, _, _, _, _, _, _, _, _, _, _, _, _, _, _, _, _, rfl⟩
theorem set_raw_end {zl' : Int} (F : Fr h₀ L s.heap m) (X : (Mine.hd.heap_1 w.params).In h₀) (N : News h₀ L s.heap news) (hx : (x, instObj 177 d) ∈ news) (U : UpdF d od news g) (hr : RawO w od kind first version bd bs bt bg V zl)
    (h : ∀ h' od', Fr h₀ L h' m → News h₀ L h' (g od') → RawO w od' kind first version bd bs bt bg V zl' → Q () { s with heap := h', toks := s.toks + 2 }) :
    wpAny (model PySem.Challenge.rw_no0079_01.row.prog w) A (setAttr (.ref x) (PySem.Str.ofString "end") (.int zl' t)) Q E s := by
  revert X
  k_fill
  intro X
  have hd := (upd_mem U).1
  obtain ⟨k1, k2, k3, k4, k5, k6, k7, k8, k9, k10, k11, u1, u2, u3, u4, u5, u6, u7, u8, u9, u10, rfl⟩ := hr
  k_dflt (refine' set_dict F X N (InstAt.of_news N hx hd) ?k5 ?k6 ?k7 ?k8 ?k9 ?k10 ?k11 (updF_upd U) ?k13 ?_; (case k5 => exact rfl); (case k6 => k_is); (case k7 => k_is); (case k8 => k_is); (case k9 => k_is); (case k10 => k_get); (case k11 => k_put); (case k13 => exact Nat.le_of_ble_eq_true rfl))
  exact fun h' F' N' => h h' _ F' N' ⟨_, _, _, _, _, _, _, _, _, _, _, _, _, _, _, _, _, _, _, _, _, rfl⟩
end
end Mine
end

section
open PySem PySem.W PyProof.Rows PySem.Calls PySem.Spec
set_option maxRecDepth 100000
set_option maxHeartbeats 0
namespace Mine
def RdO (w : World) (od : Obj) (b : Array UInt8) (at_ : Int) : Prop :=
  ∃ k1 k2 u1 u2 : Tok, od = dictOf [{ hash := PyData.keyHash w.params (PySem.Str.ofString "data"), key := .str (PySem.Str.ofString "data") k1, val := .bytes b u1 }, { hash := PyData.keyHash w.params (PySem.Str.ofString "at"), key := .str (PySem.Str.ofString "at") k2, val := .int at_ u2 }] 2
section
variable {w : World} {A : Around} {E : Value → Shared → Prop} {s : Shared} {h₀ : Heap} {L x d : Addr} {m : PySem.Str → Option Value} {news : List (Addr × Obj)} {od : Obj} {b : Array UInt8} {at_ at' : Int} {t : Tok} {expr : Bool} {g : Obj → List (Addr × Obj)}
theorem rd_data {Q : Value → Shared → Prop} (F : Fr h₀ L s.heap m) (X : (Mine.hd.heap_1 w.params).In h₀) (N : News h₀ L s.heap news) (hx : (x, instObj 155 d) ∈ news) (hd : (d, od) ∈ news) (hr : RdO w od b at_) (h : ∀ t, Q (.bytes b t) { s with toks := s.toks + 1 }) :
    wpAny (model PySem.Challenge.rw_no0079_01.row.prog w) A (getAttr (.ref x) (PySem.Str.ofString "data") expr) Q E s := by
  revert X
  k_fill
  intro X
  obtain ⟨k1, k2, u1, u2, rfl⟩ := hr
  k_dflt (refine' get_own F X (InstAt.of_news N hx hd) ?k4 ?k5 ?k6 ?k7 ?k8 ?k9 ?_; (case k4 => k_is); (case k5 => k_is); (case k6 => k_is); (case k7 => k_is); (case k8 => k_get); (case k9 => k_handed))
  exact h _
theorem rd_at {Q : Value → Shared → Prop} (F : Fr h₀ L s.heap m) (X : (Mine.hd.heap_1 w.params).In h₀) (N : News h₀ L s.heap news) (hx : (x, instObj 155 d) ∈ news) (hd : (d, od) ∈ news) (hr : RdO w od b at_) (h : ∀ t, Q (.int at_ t) { s with toks := s.toks + 1 }) :
    wpAny (model PySem.Challenge.rw_no0079_01.row.prog w) A (getAttr (.ref x) (PySem.Str.ofString "at") expr) Q E s := by
  revert X
  k_fill
  intro X
  obtain ⟨k1, k2, u1, u2, rfl⟩ := hr
  k_dflt (refine' get_own F X (InstAt.of_news N hx hd) ?k4 ?k5 ?k6 ?k7 ?k8 ?k9 ?_; (case k4 => k_is); (case k5 => k_is); (case k6 => k_is); (case k7 => k_is); (case k8 => k_get); (case k9 => k_handed))
  exact h _
theorem set_rd_at {Q : Unit → Shared → Prop} (F : Fr h₀ L s.heap m) (X : (Mine.hd.heap_1 w.params).In h₀) (N : News h₀ L s.heap news) (hx : (x, instObj 155 d) ∈ news) (U : UpdF d od news g) (hr : RdO w od b at_)
    (h : ∀ h' od', Fr h₀ L h' m → News h₀ L h' (g od') → RdO w od' b at' → Q () { s with heap := h', toks := s.toks + 2 }) :
    wpAny (model PySem.Challenge.rw_no0079_01.row.prog w) A (setAttr (.ref x) (PySem.Str.ofString "at") (.int at' t)) Q E s := by
  revert X
  k_fill
  intro X
  have hd := (upd_mem U).1
  obtain ⟨k1, k2, u1, u2, rfl⟩ := hr
  k_dflt (refine' set_dict F X N (InstAt.of_news N hx hd) ?k5 ?k6 ?k7 ?k8 ?k9 ?k10 ?k11 (updF_upd U) ?k13 ?_; (case k5 => exact rfl); (case k6 => k_is); (case k7 => k_is); (case k8 => k_is); (case k9 => k_is); (case k10 => k_get); (case k11 => k_put); (case k13 => exact Nat.le_of_ble_eq_true rfl))
  exact fun h' F' N' => h h' _ F' N' ⟨_, _, _, _, rfl⟩
theorem rd_m_whole {pl : Sem Bool} {Q : Value × List Value → Shared → Prop} (F : Fr h₀ L s.heap m) (X : (Mine.hd.heap_1 w.params).In h₀) (N : News h₀ L s.heap news) (hx : (x, instObj 155 d) ∈ news) (hd : (d, od) ∈ news) (hr : RdO w od b at_) (h : Q (.ref 145, [.ref x]) s) :
    wpAny (model PySem.Challenge.rw_no0079_01.row.prog w) A (getMethod (.ref x) (PySem.Str.ofString "whole") pl) Q E s := by
  revert X
  k_fill
  intro X
  obtain ⟨k1, k2, u1, u2, rfl⟩ := hr
  k_dflt (refine' method_inst F X (InstAt.of_news N hx hd) ?k4 ?k5 ?k6 ?k7 h; (case k4 => k_is); (case k5 => k_is); (case k6 => k_is); (case k7 => k_get))
theorem rd_m_take {pl : Sem Bool} {Q : Value × List Value → Shared → Prop} (F : Fr h₀ L s.heap m) (X : (Mine.hd.heap_1 w.params).In h₀) (N : News h₀ L s.heap news) (hx : (x, instObj 155 d) ∈ news) (hd : (d, od) ∈ news) (hr : RdO w od b at_) (h : Q (.ref 131, [.ref x]) s) :
    wpAny (model PySem.Challenge.rw_no0079_01.row.prog w) A (getMethod (.ref x) (PySem.Str.ofString "take") pl) Q E s := by
  revert X
  k_fill
  intro X
  obtain ⟨k1, k2, u1, u2, rfl⟩ := hr
  k_dflt (refine' method_inst F X (InstAt.of_news N hx hd) ?k4 ?k5 ?k6 ?k7 h; (case k4 => k_is); (case k5 => k_is); (case k6 => k_is); (case k7 => k_get))
theorem rd_m_left {pl : Sem Bool} {Q : Value × List Value → Shared → Prop} (F : Fr h₀ L s.heap m) (X : (Mine.hd.heap_1 w.params).In h₀) (N : News h₀ L s.heap news) (hx : (x, instObj 155 d) ∈ news) (hd : (d, od) ∈ news) (hr : RdO w od b at_) (h : Q (.ref 124, [.ref x]) s) :
    wpAny (model PySem.Challenge.rw_no0079_01.row.prog w) A (getMethod (.ref x) (PySem.Str.ofString "left") pl) Q E s := by
  revert X
  k_fill
  intro X
  obtain ⟨k1, k2, u1, u2, rfl⟩ := hr
  k_dflt (refine' method_inst F X (InstAt.of_news N hx hd) ?k4 ?k5 ?k6 ?k7 h; (case k4 => k_is); (case k5 => k_is); (case k6 => k_is); (case k7 => k_get))
end
def RCtr (w : World) (f : Addr) (D U : Nat) (vs : List Value) (P : Obj → Prop) (post : Value → Obj → Prop) : Prop :=
  ∀ (x d : Addr) (od : Obj) (rest : List (Addr × Obj)), @Ne Nat x d → (∀ p ∈ rest, p.1 ≠ d) → (∀ p ∈ rest, p.1 ≠ x) → P od →
    Ctr w f D U (.ref x :: vs) ((x, instObj 155 d) :: (d, od) :: rest) fun v news' => ∃ od', post v od' ∧ news' = (x, instObj 155 d) :: (d, od') :: rest
section
variable {w : World} {f : Addr} {D U : Nat} {vs : List Value} {P : Obj → Prop} {post : Value → Obj → Prop} {x d : Addr} {od : Obj} {news : List (Addr × Obj)} {g : Obj → List (Addr × Obj)}
  {mean : ExcName → Option Value} {mg mb : PySem.Str → Option Value} {dp un : Nat} {gd : Option (List Code)} {cn : PySem.Str} {cs : Scope} {a : Addr} {ccd : Value} {cl : List (PySem.Str × Addr)} {outer : List Env} {A₀ : Around} {base h₀ : Heap} {L : Addr} {m : PySem.Str → Option Value} {s : Shared} {Q E : Value → Shared → Prop}
theorem RCtr.use (C : RCtr w f D U vs P post) (B : Below A₀ base outer h₀) (F : Fr h₀ L s.heap m) (X : (Mine.hd.heap_1 w.params).In h₀) (N : News h₀ L s.heap news) (T : Top Mine.view Lo mean mg mb h₀) (hk : cs.kind = .function)
    (hx : (x, instObj 155 d) ∈ news) (U1 : UpdF d od news g) (hP : P od) (hne : @Ne Nat x d) (hd : dp + D < 1000) (hu : un + U < 9900)
    (ret : ∀ v od' h' tk', post v od' → Fr h₀ L h' m → News h₀ L h' (g od') → Q v { s with heap := h', toks := tk' }) :
    wpAny (model PySem.Challenge.rw_no0079_01.row.prog w) (ktrTop dp un gd cn cs L a ccd cl outer) (call (.ref f) (.ref x :: vs)) Q E s := by
  have m1 := (upd_mem U1).1
  have N1 : News h₀ L s.heap ((x, instObj 155 d) :: (d, od) :: news.filter fun p => decide (p.1 ≠ d) && decide (p.1 ≠ x)) := by
    intro p hp
    rcases List.mem_cons.mp hp with rfl | hp
    · exact N _ hx
    · rcases List.mem_cons.mp hp with rfl | hp
      · exact N _ m1
      · exact N p (List.mem_filter.mp hp).1
  have hr : ∀ p ∈ news.filter fun p => decide (p.1 ≠ d) && decide (p.1 ≠ x), p.1 ≠ d ∧ p.1 ≠ x := fun p hp => by
    have := (List.mem_filter.mp hp).2
    simpa using this
  refine C x d od _ hne (fun p hp => (hr p hp).1) (fun p hp => (hr p hp).2) hP mean mg mb dp un gd cn cs a ccd cl outer A₀ base h₀ L m s Q E B F X N1 T hk hd hu ?_
  rintro v news' h' tk' F' N' ⟨od', hv, rfl⟩
  refine ret v od' h' tk' hv F' fun p hp => ?_
  rcases (upd_mem U1).2 od' p hp with rfl | ⟨hp, n1⟩
  · exact N' _ (.tail _ (.head _))
  · by_cases e : p.1 = x
    · have hh := N' _ (.head _)
      obtain ⟨pa, po⟩ := p
      obtain rfl : pa = x := e
      have e1 := (N _ hx).1
      have e2 := (N _ hp).1
      obtain rfl : po = instObj 155 d := Option.some.inj (e2.symm.trans e1)
      exact hh
    · exact N' p (.tail _ (.tail _ (List.mem_filter.mpr ⟨hp, by simp only [ne_eq, n1, e, not_false_eq_true, decide_true, Bool.and_self]⟩)))
end
end Mine
end

local macro_rules | `(tactic| walk_at $s:str) => `(tactic| k_extra $(Lean.Syntax.mkStrLit ("m " ++ s.getString)))
local macro_rules | `(tactic| units_room) => `(tactic| k_extra "units_room")
local macro_rules | `(tactic| ktr_room) => `(tactic| k_extra "ktr_room")
local macro_rules | `(tactic| k_room) => `(tactic| k_extra "k_room")
local macro_rules | `(tactic| k_all) => `(tactic| k_extra "k_all")
local macro_rules | `(tactic| k_ne) => `(tactic| k_extra "k_ne")
local macro_rules | `(tactic| kba_size) => `(tactic| k_extra "kba_size")
local macro_rules | `(tactic| k_steps) => `(tactic| k_extra "k_steps")
local macro_rules | `(tactic| omega) => `(tactic| k_extra "omega")

section
open PySem PySem.W PyProof.Rows PySem.Calls PySem.Spec
set_option maxRecDepth 100000
set_option maxHeartbeats 0
namespace Mine
section
variable {prog : Program} {w : World} {A : Around} {E : Value → Shared → Prop} {s : Shared} {h₀ h : Heap} {L D : Addr} {m : PySem.Str → Option Value} {news news' : List (Addr × Obj)} {n : Nat}
theorem pop0 {u : Tok} {y : Value} {vs : List Value} {Q : Value → Shared → Prop} (F : Fr h₀ L s.heap m) (N : News h₀ L s.heap news)
    (U : Upd D (PySem.W.listOf (y :: vs).toArray n) (PySem.W.listOf vs.toArray (n + 1)) news news')
    (hz : vs.length ≤ 1000) (h : ∀ h', Fr h₀ L h' m → News h₀ L h' news' → Q y { s with heap := h' }) : wpAny (model prog w) A (call (.builtin "list.pop") [.ref D, .int 0 u]) Q E s :=
  kl_popAt (k := 0) (p := []) (q := vs) (y := y) F N rfl (by simp [seqIndex?]) rfl U (by rw [PySem.sizeLine_eq]; simp; omega) h
end
section
theorem regT1x1 : True := by
  k_with_none
  k_with "k_steps" => ((repeat' (first | (k_unfold; (try dsimp only)) | (k_end; wrow_close) | ((fail_if_success (with_reducible show wpAny _ _ (subscriptTail _ _ _ _) _ _ _)); dsimp only; walk1) | walk1 | (dsimp only; walk1) | (leave1; walk_say "STEP leave1"; try dsimp only) | fail "no step")))
  k_with "omega" => ((first
  | ((with_reducible show @LT.lt Nat _ _ _); first | (with_reducible assumption) | ((with_reducible refine' rm2 ?omA ?omB); (case omA => with_reducible assumption); (case omB => exact rfl)) | ((with_reducible refine' rm1 ?omA ?omB); (case omA => with_reducible assumption); (case omB => exact rfl)) | ((with_reducible refine' rm0 ?omA); (case omA => with_reducible assumption)) | ((with_reducible refine' ltL ?omA ?omB); (case omA => with_reducible assumption); (case omB => exact rfl)) | ((with_reducible refine' rm3 ?omA ?omB); (case omA => with_reducible assumption); (case omB => exact rfl)) | (simp only [Nat.reduceAdd, Nat.reduceMul, Nat.reduceSub, Nat.reducePow, Nat.reduceLeDiff, Nat.reduceLT, Nat.zero_le, Nat.le_refl, Nat.zero_lt_one]; done))
  | ((with_reducible show @LE.le Nat _ _ _); first | (with_reducible assumption) | (with_reducible exact Nat.zero_le _) | ((with_reducible refine' leL ?omA ?omB); (case omA => with_reducible assumption); (case omB => exact rfl)) | (simp only [Nat.reduceAdd, Nat.reduceMul, Nat.reduceSub, Nat.reducePow, Nat.reduceLeDiff, Nat.reduceLT, Nat.zero_le, Nat.le_refl, Nat.zero_lt_one]; done))
  | ((with_reducible show @Ne Nat _ _); (with_reducible first
  | assumption
  | exact Ne.symm (by with_reducible assumption)
  | exact Nat.ne_of_gt (by with_reducible assumption)
  | exact Nat.ne_of_gt (And.left (by with_reducible assumption))
  | exact Nat.ne_of_gt (And.left (And.right (by with_reducible assumption)))
  | exact Nat.ne_of_gt (And.left (And.right (And.right (by with_reducible assumption))))
  | exact Nat.ne_of_gt (And.right (by with_reducible assumption))
  | exact Nat.ne_of_gt (And.right (And.right (by with_reducible assumption)))
  | exact gs1 (by with_reducible assumption)
  | exact gs1 (And.left (by with_reducible assumption))
  | exact gs1 (And.left (And.right (by with_reducible assumption)))
  | exact gs1 (And.left (And.right (And.right (by with_reducible assumption))))
  | exact gs1 (And.right (by with_reducible assumption))
  | exact gs1 (And.right (And.right (by with_reducible assumption)))
  | exact gs2 (by with_reducible assumption)
  | exact gs2 (And.left (by with_reducible assumption))
  | exact gs2 (And.left (And.right (by with_reducible assumption)))
  | exact gs2 (And.left (And.right (And.right (by with_reducible assumption))))
  | exact gs2 (And.right (by with_reducible assumption))
  | exact gs2 (And.right (And.right (by with_reducible assumption)))
  | exact Nat.ne_of_lt (by with_reducible assumption)
  | exact Nat.ne_of_lt (And.left (by with_reducible assumption))
  | exact Nat.ne_of_lt (And.left (And.right (by with_reducible assumption)))
  | exact Nat.ne_of_lt (And.left (And.right (And.right (by with_reducible assumption))))
  | exact Nat.ne_of_lt (And.right (by with_reducible assumption))
  | exact Nat.ne_of_lt (And.right (And.right (by with_reducible assumption)))
  | exact ls1 (by with_reducible assumption)
  | exact ls1 (And.left (by with_reducible assumption))
  | exact ls1 (And.left (And.right (by with_reducible assumption)))
  | exact ls1 (And.left (And.right (And.right (by with_reducible assumption))))
  | exact ls1 (And.right (by with_reducible assumption))
  | exact ls1 (And.right (And.right (by with_reducible assumption)))
  | exact ls2 (by with_reducible assumption)
  | exact ls2 (And.left (by with_reducible assumption))
  | exact ls2 (And.left (And.right (by with_reducible assumption)))
  | exact ls2 (And.left (And.right (And.right (by with_reducible assumption))))
  | exact ls2 (And.right (by with_reducible assumption))
  | exact ls2 (And.right (And.right (by with_reducible assumption)))
  | exact Ne.symm (And.left (by with_reducible assumption))
  | exact Ne.symm (And.left (And.right (by with_reducible assumption)))
  | exact Ne.symm (And.left (And.right (And.right (by with_reducible assumption))))
  | exact Ne.symm (And.right (And.right (And.right (by with_reducible assumption))))
  | exact Ne.symm (And.left (And.left (by with_reducible assumption)))
  | exact Ne.symm (And.left (And.right (And.left (by with_reducible assumption))))
  | exact Ne.symm (And.right (And.right (And.left (by with_reducible assumption))))
  | exact Ne.symm (And.left (And.left (And.right (by with_reducible assumption))))
  | exact Ne.symm (And.left (And.right (And.left (And.right (by with_reducible assumption)))))
  | exact Ne.symm (And.right (And.right (And.left (And.right (by with_reducible assumption)))))
  | exact Ne.symm (And.left (And.left (And.right (And.right (by with_reducible assumption)))))
  | exact Ne.symm (And.left (And.right (And.left (And.right (And.right (by with_reducible assumption))))))
  | exact Ne.symm (And.right (And.right (And.left (And.right (And.right (by with_reducible assumption))))))
  | exact Ne.symm (And.left (And.right (And.right (And.right (by with_reducible assumption)))))
  | exact Ne.symm (And.left (And.right (And.right (And.right (And.right (by with_reducible assumption))))))
  | exact Ne.symm (And.right (And.right (And.right (And.right (And.right (by with_reducible assumption))))))
  | exact (And.left (by with_reducible assumption))
  | exact (And.left (And.right (by with_reducible assumption)))
  | exact (And.left (And.right (And.right (by with_reducible assumption))))
  | exact (And.right (And.right (And.right (by with_reducible assumption))))
  | exact (And.left (And.left (by with_reducible assumption)))
  | exact (And.left (And.right (And.left (by with_reducible assumption))))
  | exact (And.right (And.right (And.left (by with_reducible assumption))))
  | exact (And.left (And.left (And.right (by with_reducible assumption))))
  | exact (And.left (And.right (And.left (And.right (by with_reducible assumption)))))
  | exact (And.right (And.right (And.left (And.right (by with_reducible assumption)))))
  | exact (And.left (And.left (And.right (And.right (by with_reducible assumption)))))
  | exact (And.left (And.right (And.left (And.right (And.right (by with_reducible assumption))))))
  | exact (And.right (And.right (And.left (And.right (And.right (by with_reducible assumption))))))
  | exact (And.left (And.right (And.right (And.right (by with_reducible assumption)))))
  | exact (And.left (And.right (And.right (And.right (And.right (by with_reducible assumption))))))
  | exact (And.right (And.right (And.right (And.right (And.right (by with_reducible assumption))))))
  | exact gt2 (by with_reducible assumption) (by with_reducible assumption)
  | fail "no ne"))))
  k_with "units_room" => ((simp only [units_under_make, units_in1, units_deeper, Around.mark_units, units_caller, cLine]; (try dsimp only [ktrTop]); omega))
  k_with "ktr_room" => (((simp only [depth_under_make, depth_under_kw, depth_in1, depth_deeper, depth_caller, recursionLimit]); (try dsimp only [ktrTop]); omega))
  k_with "k_room" => (((simp only [depth_under_make, depth_under_kw, depth_in1, depth_deeper, depth_caller, recursionLimit]); (try dsimp only [ktrTop]); omega))
  k_with "k_all" => (first | assumption | exact ne_of_allLt (by assumption) | exact ne_of_allLt (And.right (by assumption)) | exact ne_of_allLt (And.right (And.right (by assumption))) | exact ne_of_allLt (And.right (And.right (And.right (by assumption)))))
  k_with "m exec For" => (((with_reducible show wpAny _ _ (exec (Stmt.For (PySem.Expr.Name _ _) _ _ [] _) _) _ _ _); (rename Fr _ _ _ _ => lF'); (with_unfolding_all refine' For_invVF lF' ?k1 ?k2 ?_; (case k1 => exact rfl); (case k2 => exact rfl); k_whole)))
  k_with "m InvEndN" => ((refine InvEndN.intro (by assumption) (by assumption) ⟨rfl, ⟨_, by with_unfolding_all rfl⟩, fun z h1 h2 => by first | (simp only [if_neg h1, if_neg h2]; done) | (simp only [if_neg h1, if_neg h2]; rfl) | exact (if_neg h1).trans (if_neg h2)⟩ rfl ?zz1 ?zz2; (case zz1 => exact fun p hp => List.mem_append_left _ hp); (case zz2 => exact fun p hp => List.mem_append_right _ hp)))
  k_with "m ite" => (first | refine ite_pos (by (simp; done)) ?_ | refine ite_neg (by (simp; done)) ?_)
  k_with "kba_size" => (((try simp only [List.length_append, be_length, List.length_cons, List.length_nil, List.length_map, List.length_take, List.length_drop, Int.reduceToNat]); omega))
  k_with "m call builtin:list.pop" => ((k_dflt (refine' pop0 ?F ?N ?U ?z ?_; (case F => k_asm); (case N => k_asm); (case U => k_upd); (case z => ((have hL9 := IntsAre.length (by assumption)); (simp only [List.length_cons] at *); omega))); intro h' F' N'))
  trivial
theorem take_ctr (w : World) (many : Int) (tk : Tok) (h1 : 1 ≤ many) (hm : many < 2 ^ 62) :
    DCtr w 331 10 1000 (fun d => [.ref d, .int many tk]) (fun v => ∃ k t, v = .int k t ∧ 0 ≤ k ∧ k < many) := use _ (by exact True.intro : Wit (by
  intro d r od oR rest hne hrd hrr ok
  obtain ⟨sd, ts, n1, vs, ns, n2, rfl, rfl, hi, hpos, hs0, hs1, hlen⟩ := ok
  replace hne := neN hne
  unfold Ctr
  k_fill
  intro mean mg mb dp un gd cn cs a ccd cl outer A₀ base h₀ L m s Q E B F X N T hk hd hu hret
  refine wpAny_call ?_
  k_dflt cell_enter
  cases hi
  all_goals k_steps
  · exact hret _ ((d, _) :: (r, _) :: rest) _ _ (by k_asm) (cb_drop (by k_asm) fun p hp => .tail _ hp)
      ⟨⟨_, _, rfl, fmod_lo _ (by omega), fmod_hi _ (by omega)⟩, _, _, rfl, _, _, _, _, _, _, rfl, rfl, .nil, hpos, fmod_lo _ (by omega), fmod_hi _ (by omega), by simp⟩
  · exact hret _ ((d, _) :: (r, _) :: rest) _ _ (by k_asm) (cb_drop (by k_asm) fun p hp => .tail _ hp)
      ⟨⟨_, _, rfl, fmod_lo _ (by omega), fmod_hi _ (by omega)⟩, _, _, rfl, _, _, _, _, _, _, rfl, rfl, by assumption, fun n hn => hpos n (.tail _ hn), hs0, hs1, by simp at hlen; omega⟩
  ))

end
section
theorem regT1x2 : True := by
  k_with_none
  k_with "k_steps" => ((repeat' (first | (k_unfold; (try dsimp only)) | (k_end; wrow_close) | ((fail_if_success (with_reducible show wpAny _ _ (subscriptTail _ _ _ _) _ _ _)); dsimp only; walk1) | walk1 | (dsimp only; walk1) | (leave1; walk_say "STEP leave1"; try dsimp only) | fail "no step")))
  k_with "omega" => ((first
  | ((with_reducible show @LT.lt Nat _ _ _); first | (with_reducible assumption) | ((with_reducible refine' rm2 ?omA ?omB); (case omA => with_reducible assumption); (case omB => exact rfl)) | ((with_reducible refine' rm1 ?omA ?omB); (case omA => with_reducible assumption); (case omB => exact rfl)) | ((with_reducible refine' rm0 ?omA); (case omA => with_reducible assumption)) | ((with_reducible refine' ltL ?omA ?omB); (case omA => with_reducible assumption); (case omB => exact rfl)) | ((with_reducible refine' rm3 ?omA ?omB); (case omA => with_reducible assumption); (case omB => exact rfl)) | (simp only [Nat.reduceAdd, Nat.reduceMul, Nat.reduceSub, Nat.reducePow, Nat.reduceLeDiff, Nat.reduceLT, Nat.zero_le, Nat.le_refl, Nat.zero_lt_one]; done))
  | ((with_reducible show @LE.le Nat _ _ _); first | (with_reducible assumption) | (with_reducible exact Nat.zero_le _) | ((with_reducible refine' leL ?omA ?omB); (case omA => with_reducible assumption); (case omB => exact rfl)) | (simp only [Nat.reduceAdd, Nat.reduceMul, Nat.reduceSub, Nat.reducePow, Nat.reduceLeDiff, Nat.reduceLT, Nat.zero_le, Nat.le_refl, Nat.zero_lt_one]; done))
  | ((with_reducible show @Ne Nat _ _); (with_reducible first
  | assumption
  | exact Ne.symm (by with_reducible assumption)
  | exact Nat.ne_of_gt (by with_reducible assumption)
  | exact Nat.ne_of_gt (And.left (by with_reducible assumption))
  | exact Nat.ne_of_gt (And.left (And.right (by with_reducible assumption)))
  | exact Nat.ne_of_gt (And.left (And.right (And.right (by with_reducible assumption))))
  | exact Nat.ne_of_gt (And.right (by with_reducible assumption))
  | exact Nat.ne_of_gt (And.right (And.right (by with_reducible assumption)))
  | exact gs1 (by with_reducible assumption)
  | exact gs1 (And.left (by with_reducible assumption))
  | exact gs1 (And.left (And.right (by with_reducible assumption)))
  | exact gs1 (And.left (And.right (And.right (by with_reducible assumption))))
  | exact gs1 (And.right (by with_reducible assumption))
  | exact gs1 (And.right (And.right (by with_reducible assumption)))
  | exact gs2 (by with_reducible assumption)
  | exact gs2 (And.left (by with_reducible assumption))
  | exact gs2 (And.left (And.right (by with_reducible assumption)))
  | exact gs2 (And.left (And.right (And.right (by with_reducible assumption))))
  | exact gs2 (And.right (by with_reducible assumption))
  | exact gs2 (And.right (And.right (by with_reducible assumption)))
  | exact Nat.ne_of_lt (by with_reducible assumption)
  | exact Nat.ne_of_lt (And.left (by with_reducible assumption))
  | exact Nat.ne_of_lt (And.left (And.right (by with_reducible assumption)))
  | exact Nat.ne_of_lt (And.left (And.right (And.right (by with_reducible assumption))))
  | exact Nat.ne_of_lt (And.right (by with_reducible assumption))
  | exact Nat.ne_of_lt (And.right (And.right (by with_reducible assumption)))
  | exact ls1 (by with_reducible assumption)
  | exact ls1 (And.left (by with_reducible assumption))
  | exact ls1 (And.left (And.right (by with_reducible assumption)))
  | exact ls1 (And.left (And.right (And.right (by with_reducible assumption))))
  | exact ls1 (And.right (by with_reducible assumption))
  | exact ls1 (And.right (And.right (by with_reducible assumption)))
  | exact ls2 (by with_reducible assumption)
  | exact ls2 (And.left (by with_reducible assumption))
  | exact ls2 (And.left (And.right (by with_reducible assumption)))
  | exact ls2 (And.left (And.right (And.right (by with_reducible assumption))))
  | exact ls2 (And.right (by with_reducible assumption))
  | exact ls2 (And.right (And.right (by with_reducible assumption)))
  | exact Ne.symm (And.left (by with_reducible assumption))
  | exact Ne.symm (And.left (And.right (by with_reducible assumption)))
  | exact Ne.symm (And.left (And.right (And.right (by with_reducible assumption))))
  | exact Ne.symm (And.right (And.right (And.right (by with_reducible assumption))))
  | exact Ne.symm (And.left (And.left (by with_reducible assumption)))
  | exact Ne.symm (And.left (And.right (And.left (by with_reducible assumption))))
  | exact Ne.symm (And.right (And.right (And.left (by with_reducible assumption))))
  | exact Ne.symm (And.left (And.left (And.right (by with_reducible assumption))))
  | exact Ne.symm (And.left (And.right (And.left (And.right (by with_reducible assumption)))))
  | exact Ne.symm (And.right (And.right (And.left (And.right (by with_reducible assumption)))))
  | exact Ne.symm (And.left (And.left (And.right (And.right (by with_reducible assumption)))))
  | exact Ne.symm (And.left (And.right (And.left (And.right (And.right (by with_reducible assumption))))))
  | exact Ne.symm (And.right (And.right (And.left (And.right (And.right (by with_reducible assumption))))))
  | exact Ne.symm (And.left (And.right (And.right (And.right (by with_reducible assumption)))))
  | exact Ne.symm (And.left (And.right (And.right (And.right (And.right (by with_reducible assumption))))))
  | exact Ne.symm (And.right (And.right (And.right (And.right (And.right (by with_reducible assumption))))))
  | exact (And.left (by with_reducible assumption))
  | exact (And.left (And.right (by with_reducible assumption)))
  | exact (And.left (And.right (And.right (by with_reducible assumption))))
  | exact (And.right (And.right (And.right (by with_reducible assumption))))
  | exact (And.left (And.left (by with_reducible assumption)))
  | exact (And.left (And.right (And.left (by with_reducible assumption))))
  | exact (And.right (And.right (And.left (by with_reducible assumption))))
  | exact (And.left (And.left (And.right (by with_reducible assumption))))
  | exact (And.left (And.right (And.left (And.right (by with_reducible assumption)))))
  | exact (And.right (And.right (And.left (And.right (by with_reducible assumption)))))
  | exact (And.left (And.left (And.right (And.right (by with_reducible assumption)))))
  | exact (And.left (And.right (And.left (And.right (And.right (by with_reducible assumption))))))
  | exact (And.right (And.right (And.left (And.right (And.right (by with_reducible assumption))))))
  | exact (And.left (And.right (And.right (And.right (by with_reducible assumption)))))
  | exact (And.left (And.right (And.right (And.right (And.right (by with_reducible assumption))))))
  | exact (And.right (And.right (And.right (And.right (And.right (by with_reducible assumption))))))
  | exact gt2 (by with_reducible assumption) (by with_reducible assumption)
  | fail "no ne"))))
  k_with "units_room" => ((simp only [units_under_make, units_in1, units_deeper, Around.mark_units, units_caller, cLine]; (try dsimp only [ktrTop]); omega))
  k_with "ktr_room" => (((simp only [depth_under_make, depth_under_kw, depth_in1, depth_deeper, depth_caller, recursionLimit]); (try dsimp only [ktrTop]); omega))
  k_with "k_room" => (((simp only [depth_under_make, depth_under_kw, depth_in1, depth_deeper, depth_caller, recursionLimit]); (try dsimp only [ktrTop]); omega))
  k_with "k_all" => (first | assumption | exact ne_of_allLt (by assumption) | exact ne_of_allLt (And.right (by assumption)) | exact ne_of_allLt (And.right (And.right (by assumption))) | exact ne_of_allLt (And.right (And.right (And.right (by assumption)))))
  k_with "m exec For" => (((with_reducible show wpAny _ _ (exec (Stmt.For (PySem.Expr.Name _ _) _ _ [] _) _) _ _ _); (rename Fr _ _ _ _ => lF'); (with_unfolding_all refine' For_invVF lF' ?k1 ?k2 ?_; (case k1 => exact rfl); (case k2 => exact rfl); k_whole)))
  k_with "m InvEndN" => ((refine InvEndN.intro (by assumption) (by assumption) ⟨rfl, ⟨_, by with_unfolding_all rfl⟩, fun z h1 h2 => by first | (simp only [if_neg h1, if_neg h2]; done) | (simp only [if_neg h1, if_neg h2]; rfl) | exact (if_neg h1).trans (if_neg h2)⟩ rfl ?zz1 ?zz2; (case zz1 => exact fun p hp => List.mem_append_left _ hp); (case zz2 => exact fun p hp => List.mem_append_right _ hp)))
  k_with "m ite" => (first | refine ite_pos (by (simp; done)) ?_ | refine ite_neg (by (simp; done)) ?_)
  k_with "kba_size" => (((try simp only [List.length_append, be_length, List.length_cons, List.length_nil, List.length_map, List.length_take, List.length_drop, Int.reduceToNat]); omega))
  k_with "m pyIter bytes" => (((rename Fr _ _ _ _ => lF'); (rename News _ _ _ _ => lN'); (with_unfolding_all refine' KBw.iterBytes_acc1 (y := PySem.Str.ofString "found") (fun a k => a * 256 + k) (by kba_ints) (by rfl) lF' lN' (by rfl) (fun k' t' a' ta' h' tk' own' hmem' hlo' hhi' hoff' F' N' => ?_) (fun u' t' h' tk' F' N' => ?_))))
  trivial
theorem get_whole_ctr (w : World) (b : Array UInt8) (ks : List Int) (tb : Tok) (at_ size : Int) (t1 t2 : Tok) (news : List (Addr × Obj)) (hb : KBw.bInts b = ks) (h0 : 0 ≤ at_) (h1 : 0 ≤ size) (h2 : at_ + size ≤ ks.length) (h3 : ks.length ≤ 1000) :
    Ctr w 96 10 1000 [.bytes b tb, .int at_ t1, .int size t2] news (fun v news' => ∃ t, v = .int (((ks.drop at_.toNat).take size.toNat).foldl (fun a k => a * 256 + k) 0) t ∧ news' = news) := use _ (by exact True.intro : Wit (by
  unfold Ctr
  k_fill
  intro mean mg mb dp un gd cn cs a ccd cl outer A₀ base h₀ L m s Q E B F X N T hk hd hu hret
  refine wpAny_call ?_
  k_dflt cell_enter
  k_steps
  have e : List.take (clipAt ks.length (at_ + size) - clipAt ks.length at_) (List.drop (clipAt ks.length at_) ks) = (ks.drop at_.toNat).take size.toNat := by
    rw [clip_of (by omega), clip_of h0, Nat.min_eq_left (by omega), Nat.min_eq_left (by omega), show (at_ + size).toNat - at_.toNat = size.toNat by omega]
  rw [e]
  exact hret _ _ _ _ (by k_asm) (by k_asm) ⟨_, rfl, rfl⟩
  ))

end
end Mine
end

section
open PySem PySem.W PyProof.Rows PySem.Calls PySem.Spec
set_option maxRecDepth 100000
set_option maxHeartbeats 0
namespace Mine
theorem regT9x1 : True := by
  k_with_none
  k_with "k_steps" => ((repeat' (first | (k_unfold; (try dsimp only)) | (k_end; wrow_close) | ((fail_if_success (with_reducible show wpAny _ _ (subscriptTail _ _ _ _) _ _ _)); dsimp only; walk1) | walk1 | (dsimp only; walk1) | (leave1; walk_say "STEP leave1"; try dsimp only) | fail "no step")))
  k_with "omega" => ((first
  | ((with_reducible show @LT.lt Nat _ _ _); first | (with_reducible assumption) | ((with_reducible refine' rm2 ?omA ?omB); (case omA => with_reducible assumption); (case omB => exact rfl)) | ((with_reducible refine' rm1 ?omA ?omB); (case omA => with_reducible assumption); (case omB => exact rfl)) | ((with_reducible refine' rm0 ?omA); (case omA => with_reducible assumption)) | ((with_reducible refine' ltL ?omA ?omB); (case omA => with_reducible assumption); (case omB => exact rfl)) | ((with_reducible refine' rm3 ?omA ?omB); (case omA => with_reducible assumption); (case omB => exact rfl)) | (simp only [Nat.reduceAdd, Nat.reduceMul, Nat.reduceSub, Nat.reducePow, Nat.reduceLeDiff, Nat.reduceLT, Nat.zero_le, Nat.le_refl, Nat.zero_lt_one]; done))
  | ((with_reducible show @LE.le Nat _ _ _); first | (with_reducible assumption) | (with_reducible exact Nat.zero_le _) | ((with_reducible refine' leL ?omA ?omB); (case omA => with_reducible assumption); (case omB => exact rfl)) | (simp only [Nat.reduceAdd, Nat.reduceMul, Nat.reduceSub, Nat.reducePow, Nat.reduceLeDiff, Nat.reduceLT, Nat.zero_le, Nat.le_refl, Nat.zero_lt_one]; done))
  | ((with_reducible show @Ne Nat _ _); (with_reducible first
  | assumption
  | exact Ne.symm (by with_reducible assumption)
  | exact Nat.ne_of_gt (by with_reducible assumption)
  | exact Nat.ne_of_gt (And.left (by with_reducible assumption))
  | exact Nat.ne_of_gt (And.left (And.right (by with_reducible assumption)))
  | exact Nat.ne_of_gt (And.left (And.right (And.right (by with_reducible assumption))))
  | exact Nat.ne_of_gt (And.right (by with_reducible assumption))
  | exact Nat.ne_of_gt (And.right (And.right (by with_reducible assumption)))
  | exact gs1 (by with_reducible assumption)
  | exact gs1 (And.left (by with_reducible assumption))
  | exact gs1 (And.left (And.right (by with_reducible assumption)))
  | exact gs1 (And.left (And.right (And.right (by with_reducible assumption))))
  | exact gs1 (And.right (by with_reducible assumption))
  | exact gs1 (And.right (And.right (by with_reducible assumption)))
  | exact gs2 (by with_reducible assumption)
  | exact gs2 (And.left (by with_reducible assumption))
  | exact gs2 (And.left (And.right (by with_reducible assumption)))
  | exact gs2 (And.left (And.right (And.right (by with_reducible assumption))))
  | exact gs2 (And.right (by with_reducible assumption))
  | exact gs2 (And.right (And.right (by with_reducible assumption)))
  | exact Nat.ne_of_lt (by with_reducible assumption)
  | exact Nat.ne_of_lt (And.left (by with_reducible assumption))
  | exact Nat.ne_of_lt (And.left (And.right (by with_reducible assumption)))
  | exact Nat.ne_of_lt (And.left (And.right (And.right (by with_reducible assumption))))
  | exact Nat.ne_of_lt (And.right (by with_reducible assumption))
  | exact Nat.ne_of_lt (And.right (And.right (by with_reducible assumption)))
  | exact ls1 (by with_reducible assumption)
  | exact ls1 (And.left (by with_reducible assumption))
  | exact ls1 (And.left (And.right (by with_reducible assumption)))
  | exact ls1 (And.left (And.right (And.right (by with_reducible assumption))))
  | exact ls1 (And.right (by with_reducible assumption))
  | exact ls1 (And.right (And.right (by with_reducible assumption)))
  | exact ls2 (by with_reducible assumption)
  | exact ls2 (And.left (by with_reducible assumption))
  | exact ls2 (And.left (And.right (by with_reducible assumption)))
  | exact ls2 (And.left (And.right (And.right (by with_reducible assumption))))
  | exact ls2 (And.right (by with_reducible assumption))
  | exact ls2 (And.right (And.right (by with_reducible assumption)))
  | exact Ne.symm (And.left (by with_reducible assumption))
  | exact Ne.symm (And.left (And.right (by with_reducible assumption)))
  | exact Ne.symm (And.left (And.right (And.right (by with_reducible assumption))))
  | exact Ne.symm (And.right (And.right (And.right (by with_reducible assumption))))
  | exact Ne.symm (And.left (And.left (by with_reducible assumption)))
  | exact Ne.symm (And.left (And.right (And.left (by with_reducible assumption))))
  | exact Ne.symm (And.right (And.right (And.left (by with_reducible assumption))))
  | exact Ne.symm (And.left (And.left (And.right (by with_reducible assumption))))
  | exact Ne.symm (And.left (And.right (And.left (And.right (by with_reducible assumption)))))
  | exact Ne.symm (And.right (And.right (And.left (And.right (by with_reducible assumption)))))
  | exact Ne.symm (And.left (And.left (And.right (And.right (by with_reducible assumption)))))
  | exact Ne.symm (And.left (And.right (And.left (And.right (And.right (by with_reducible assumption))))))
  | exact Ne.symm (And.right (And.right (And.left (And.right (And.right (by with_reducible assumption))))))
  | exact Ne.symm (And.left (And.right (And.right (And.right (by with_reducible assumption)))))
  | exact Ne.symm (And.left (And.right (And.right (And.right (And.right (by with_reducible assumption))))))
  | exact Ne.symm (And.right (And.right (And.right (And.right (And.right (by with_reducible assumption))))))
  | exact (And.left (by with_reducible assumption))
  | exact (And.left (And.right (by with_reducible assumption)))
  | exact (And.left (And.right (And.right (by with_reducible assumption))))
  | exact (And.right (And.right (And.right (by with_reducible assumption))))
  | exact (And.left (And.left (by with_reducible assumption)))
  | exact (And.left (And.right (And.left (by with_reducible assumption))))
  | exact (And.right (And.right (And.left (by with_reducible assumption))))
  | exact (And.left (And.left (And.right (by with_reducible assumption))))
  | exact (And.left (And.right (And.left (And.right (by with_reducible assumption)))))
  | exact (And.right (And.right (And.left (And.right (by with_reducible assumption)))))
  | exact (And.left (And.left (And.right (And.right (by with_reducible assumption)))))
  | exact (And.left (And.right (And.left (And.right (And.right (by with_reducible assumption))))))
  | exact (And.right (And.right (And.left (And.right (And.right (by with_reducible assumption))))))
  | exact (And.left (And.right (And.right (And.right (by with_reducible assumption)))))
  | exact (And.left (And.right (And.right (And.right (And.right (by with_reducible assumption))))))
  | exact (And.right (And.right (And.right (And.right (And.right (by with_reducible assumption))))))
  | exact gt2 (by with_reducible assumption) (by with_reducible assumption)
  | fail "no ne"))))
  k_with "units_room" => ((simp only [units_under_make, units_in1, units_deeper, Around.mark_units, units_caller, cLine]; (try dsimp only [ktrTop]); omega))
  k_with "ktr_room" => (((simp only [depth_under_make, depth_under_kw, depth_in1, depth_deeper, depth_caller, recursionLimit]); (try dsimp only [ktrTop]); omega))
  k_with "k_room" => (((simp only [depth_under_make, depth_under_kw, depth_in1, depth_deeper, depth_caller, recursionLimit]); (try dsimp only [ktrTop]); omega))
  k_with "k_all" => (first | assumption | exact ne_of_allLt (by assumption) | exact ne_of_allLt (And.right (by assumption)) | exact ne_of_allLt (And.right (And.right (by assumption))) | exact ne_of_allLt (And.right (And.right (And.right (by assumption)))))
  k_with "m exec For" => (((with_reducible show wpAny _ _ (exec (Stmt.For (PySem.Expr.Name _ _) _ _ [] _) _) _ _ _); (rename Fr _ _ _ _ => lF'); (with_unfolding_all refine' For_invVF lF' ?k1 ?k2 ?_; (case k1 => exact rfl); (case k2 => exact rfl); k_whole)))
  k_with "m InvEndN" => ((refine InvEndN.intro (by assumption) (by assumption) ⟨rfl, ⟨_, by with_unfolding_all rfl⟩, fun z h1 h2 => by first | (simp only [if_neg h1, if_neg h2]; done) | (simp only [if_neg h1, if_neg h2]; rfl) | exact (if_neg h1).trans (if_neg h2)⟩ rfl ?zz1 ?zz2; (case zz1 => exact fun p hp => List.mem_append_left _ hp); (case zz2 => exact fun p hp => List.mem_append_right _ hp)))
  k_with "m ite" => (first | refine ite_pos (by (simp; done)) ?_ | refine ite_neg (by (simp; done)) ?_)
  k_with "kba_size" => (((try simp only [List.length_append, be_length, List.length_cons, List.length_nil, List.length_map, List.length_take, List.length_drop, Int.reduceToNat]); omega))
  k_with "m storeName" => ((k_dflt (refine' storeL ?F ?N ?_ ?a ?b; (case F => k_asm); (case N => k_asm); (case a => rfl); (case b => rfl); k_whole; intro h' m' F' N'; (try k_sweep))))
  trivial
theorem raw_new (w : World) (kind : PySem.Str) (first : Int) (bd : Array UInt8) (tk t1 td ts : Tok) (news : List (Addr × Obj)) :
    Ctr w 177 15 1500 [.str kind tk, .int first t1, .bytes bd td, .int 0 ts] news (fun v news' => ∃ x d V od, v = .ref x ∧ @LT.lt Nat _ d x ∧ @LT.lt Nat _ x V ∧ AllLt d news ∧ RawO w od kind first 0 bd #[] #[] #[] V 0 ∧ news' = (V, W.listOf #[] 0) :: (x, instObj 177 d) :: (d, od) :: news) := use _ (by exact True.intro : Wit (by
  unfold Ctr
  k_fill
  intro mean mg mb dp un gd cn cs a ccd cl outer A₀ base h₀ L m s Q E B F X N T hk hd hu hret
  k_dflt (refine' call_cls ?k1 ?k2 ?k3 ?k4 ?k5 ?k6 ?_; (case k1 => k_asm); (case k2 => k_asm); (case k3 => k_asm); (case k4 => k_is); (case k5 => k_is); (case k6 => k_is); k_whole; intro x' d' h' F' N' l1 l2; (try k_lt l1); (try k_lt2 l2); (try k_sweep))
  k_dflt cell_enter
  k_steps
  refine' hret _ _ _ _ (by k_asm) ?zzn ⟨_, _, _, _, rfl, ?zza, ?zzb, ?zzc, ⟨_, _, _, _, _, _, _, _, _, _, _, _, _, _, _, _, _, _, _, _, _, rfl⟩, rfl⟩
  case zzn => k_asm
  case zza => omega
  case zzb => omega
  case zzc => first | assumption | exact allLt_of (by assumption)
  ))

end Mine
end

section
open PySem PySem.W PyProof.Rows PySem.Calls PySem.Spec
set_option maxRecDepth 100000
set_option maxHeartbeats 0
namespace Mine
section
theorem regT2x1 : True := by
  k_with_none
  k_with "k_steps" => ((repeat' (first | (k_unfold; (try dsimp only)) | (k_end; wrow_close) | ((fail_if_success (with_reducible show wpAny _ _ (subscriptTail _ _ _ _) _ _ _)); dsimp only; walk1) | walk1 | (dsimp only; walk1) | (leave1; walk_say "STEP leave1"; try dsimp only) | fail "no step")))
  k_with "omega" => ((first
  | ((with_reducible show @LT.lt Nat _ _ _); first | (with_reducible assumption) | ((with_reducible refine' rm2 ?omA ?omB); (case omA => with_reducible assumption); (case omB => exact rfl)) | ((with_reducible refine' rm1 ?omA ?omB); (case omA => with_reducible assumption); (case omB => exact rfl)) | ((with_reducible refine' rm0 ?omA); (case omA => with_reducible assumption)) | ((with_reducible refine' ltL ?omA ?omB); (case omA => with_reducible assumption); (case omB => exact rfl)) | ((with_reducible refine' rm3 ?omA ?omB); (case omA => with_reducible assumption); (case omB => exact rfl)) | (simp only [Nat.reduceAdd, Nat.reduceMul, Nat.reduceSub, Nat.reducePow, Nat.reduceLeDiff, Nat.reduceLT, Nat.zero_le, Nat.le_refl, Nat.zero_lt_one]; done))
  | ((with_reducible show @LE.le Nat _ _ _); first | (with_reducible assumption) | (with_reducible exact Nat.zero_le _) | ((with_reducible refine' leL ?omA ?omB); (case omA => with_reducible assumption); (case omB => exact rfl)) | (simp only [Nat.reduceAdd, Nat.reduceMul, Nat.reduceSub, Nat.reducePow, Nat.reduceLeDiff, Nat.reduceLT, Nat.zero_le, Nat.le_refl, Nat.zero_lt_one]; done))
  | ((with_reducible show @Ne Nat _ _); (with_reducible first
  | assumption
  | exact Ne.symm (by with_reducible assumption)
  | exact Nat.ne_of_gt (by with_reducible assumption)
  | exact Nat.ne_of_gt (And.left (by with_reducible assumption))
  | exact Nat.ne_of_gt (And.left (And.right (by with_reducible assumption)))
  | exact Nat.ne_of_gt (And.left (And.right (And.right (by with_reducible assumption))))
  | exact Nat.ne_of_gt (And.right (by with_reducible assumption))
  | exact Nat.ne_of_gt (And.right (And.right (by with_reducible assumption)))
  | exact gs1 (by with_reducible assumption)
  | exact gs1 (And.left (by with_reducible assumption))
  | exact gs1 (And.left (And.right (by with_reducible assumption)))
  | exact gs1 (And.left (And.right (And.right (by with_reducible assumption))))
  | exact gs1 (And.right (by with_reducible assumption))
  | exact gs1 (And.right (And.right (by with_reducible assumption)))
  | exact gs2 (by with_reducible assumption)
  | exact gs2 (And.left (by with_reducible assumption))
  | exact gs2 (And.left (And.right (by with_reducible assumption)))
  | exact gs2 (And.left (And.right (And.right (by with_reducible assumption))))
  | exact gs2 (And.right (by with_reducible assumption))
  | exact gs2 (And.right (And.right (by with_reducible assumption)))
  | exact Nat.ne_of_lt (by with_reducible assumption)
  | exact Nat.ne_of_lt (And.left (by with_reducible assumption))
  | exact Nat.ne_of_lt (And.left (And.right (by with_reducible assumption)))
  | exact Nat.ne_of_lt (And.left (And.right (And.right (by with_reducible assumption))))
  | exact Nat.ne_of_lt (And.right (by with_reducible assumption))
  | exact Nat.ne_of_lt (And.right (And.right (by with_reducible assumption)))
  | exact ls1 (by with_reducible assumption)
  | exact ls1 (And.left (by with_reducible assumption))
  | exact ls1 (And.left (And.right (by with_reducible assumption)))
  | exact ls1 (And.left (And.right (And.right (by with_reducible assumption))))
  | exact ls1 (And.right (by with_reducible assumption))
  | exact ls1 (And.right (And.right (by with_reducible assumption)))
  | exact ls2 (by with_reducible assumption)
  | exact ls2 (And.left (by with_reducible assumption))
  | exact ls2 (And.left (And.right (by with_reducible assumption)))
  | exact ls2 (And.left (And.right (And.right (by with_reducible assumption))))
  | exact ls2 (And.right (by with_reducible assumption))
  | exact ls2 (And.right (And.right (by with_reducible assumption)))
  | exact Ne.symm (And.left (by with_reducible assumption))
  | exact Ne.symm (And.left (And.right (by with_reducible assumption)))
  | exact Ne.symm (And.left (And.right (And.right (by with_reducible assumption))))
  | exact Ne.symm (And.right (And.right (And.right (by with_reducible assumption))))
  | exact Ne.symm (And.left (And.left (by with_reducible assumption)))
  | exact Ne.symm (And.left (And.right (And.left (by with_reducible assumption))))
  | exact Ne.symm (And.right (And.right (And.left (by with_reducible assumption))))
  | exact Ne.symm (And.left (And.left (And.right (by with_reducible assumption))))
  | exact Ne.symm (And.left (And.right (And.left (And.right (by with_reducible assumption)))))
  | exact Ne.symm (And.right (And.right (And.left (And.right (by with_reducible assumption)))))
  | exact Ne.symm (And.left (And.left (And.right (And.right (by with_reducible assumption)))))
  | exact Ne.symm (And.left (And.right (And.left (And.right (And.right (by with_reducible assumption))))))
  | exact Ne.symm (And.right (And.right (And.left (And.right (And.right (by with_reducible assumption))))))
  | exact Ne.symm (And.left (And.right (And.right (And.right (by with_reducible assumption)))))
  | exact Ne.symm (And.left (And.right (And.right (And.right (And.right (by with_reducible assumption))))))
  | exact Ne.symm (And.right (And.right (And.right (And.right (And.right (by with_reducible assumption))))))
  | exact (And.left (by with_reducible assumption))
  | exact (And.left (And.right (by with_reducible assumption)))
  | exact (And.left (And.right (And.right (by with_reducible assumption))))
  | exact (And.right (And.right (And.right (by with_reducible assumption))))
  | exact (And.left (And.left (by with_reducible assumption)))
  | exact (And.left (And.right (And.left (by with_reducible assumption))))
  | exact (And.right (And.right (And.left (by with_reducible assumption))))
  | exact (And.left (And.left (And.right (by with_reducible assumption))))
  | exact (And.left (And.right (And.left (And.right (by with_reducible assumption)))))
  | exact (And.right (And.right (And.left (And.right (by with_reducible assumption)))))
  | exact (And.left (And.left (And.right (And.right (by with_reducible assumption)))))
  | exact (And.left (And.right (And.left (And.right (And.right (by with_reducible assumption))))))
  | exact (And.right (And.right (And.left (And.right (And.right (by with_reducible assumption))))))
  | exact (And.left (And.right (And.right (And.right (by with_reducible assumption)))))
  | exact (And.left (And.right (And.right (And.right (And.right (by with_reducible assumption))))))
  | exact (And.right (And.right (And.right (And.right (And.right (by with_reducible assumption))))))
  | exact gt2 (by with_reducible assumption) (by with_reducible assumption)
  | fail "no ne"))))
  k_with "units_room" => ((simp only [units_under_make, units_in1, units_deeper, Around.mark_units, units_caller, cLine]; (try dsimp only [ktrTop]); omega))
  k_with "ktr_room" => (((simp only [depth_under_make, depth_under_kw, depth_in1, depth_deeper, depth_caller, recursionLimit]); (try dsimp only [ktrTop]); omega))
  k_with "k_room" => (((simp only [depth_under_make, depth_under_kw, depth_in1, depth_deeper, depth_caller, recursionLimit]); (try dsimp only [ktrTop]); omega))
  k_with "k_all" => (first | assumption | exact ne_of_allLt (by assumption) | exact ne_of_allLt (And.right (by assumption)) | exact ne_of_allLt (And.right (And.right (by assumption))) | exact ne_of_allLt (And.right (And.right (And.right (by assumption)))))
  k_with "m exec For" => (((with_reducible show wpAny _ _ (exec (Stmt.For (PySem.Expr.Name _ _) _ _ [] _) _) _ _ _); (rename Fr _ _ _ _ => lF'); (with_unfolding_all refine' For_invVF lF' ?k1 ?k2 ?_; (case k1 => exact rfl); (case k2 => exact rfl); k_whole)))
  k_with "m InvEndN" => ((refine InvEndN.intro (by assumption) (by assumption) ⟨rfl, ⟨_, by with_unfolding_all rfl⟩, fun z h1 h2 => by first | (simp only [if_neg h1, if_neg h2]; done) | (simp only [if_neg h1, if_neg h2]; rfl) | exact (if_neg h1).trans (if_neg h2)⟩ rfl ?zz1 ?zz2; (case zz1 => exact fun p hp => List.mem_append_left _ hp); (case zz2 => exact fun p hp => List.mem_append_right _ hp)))
  k_with "m ite" => (first | refine ite_pos (by (simp; done)) ?_ | refine ite_neg (by (simp; done)) ?_)
  k_with "kba_size" => (((try simp only [List.length_append, be_length, List.length_cons, List.length_nil, List.length_map, List.length_take, List.length_drop, Int.reduceToNat]); omega))
  k_with "m pyIter ref" => (((rename Fr _ _ _ _ => lF'); (rename News _ _ _ _ => lN'); (with_unfolding_all refine' put_iter (y := PySem.Str.ofString "n") ?q0 ?q2 ?q3 (by rfl) (by assumption) lF' lN' (by rfl) (fun i' t' arr' a' ta' h' tk' own' hi' hz' ha' hoff' F' N' => ?_) (fun u' arr' a' ta' h' tk' hb' F' N' => ?_); (case q0 => assumption); (case q2 => assumption); (case q3 => assumption))))
  k_with "m setItem ref int" => ((k_dflt (refine' ba_set_K ?F ?N ?a ?b ?c ?d ?e ?U ?_; (case F => k_asm); (case N => k_asm); (case U => exact Upd.head (fun p hp => (List.mem_append.mp hp).elim (fun hp => ne_of_allLt (by assumption) p hp) (fun hp => OwnOff.ne (by assumption) (.head _) p hp))); (case a => omega); (case b => omega); (case c => omega); (case d => exact fmod_lo _ (by decide)); (case e => exact fmod_hi _ (by decide))); intro h' F' N'))
  k_with "m InvEndN" => ((refine InvEndN.intro (by assumption) (by assumption) ⟨rfl, ⟨_, by with_unfolding_all rfl⟩, fun z h1 h2 => by first | (simp only [if_neg h1, if_neg h2]; done) | (simp only [if_neg h1, if_neg h2]; rfl) | exact (if_neg h1).trans (if_neg h2)⟩ rfl ?zz1 ?zz2; (case zz1 => exact fun p hp => (List.mem_cons.mp hp).elim (fun e => e ▸ .head _) (fun hp => .tail _ (List.mem_append_left _ hp))); (case zz2 => exact fun p hp => .tail _ (List.mem_append_right _ hp))))
  k_with "m call type:bytes" => ((refine ba_bytes_K (by k_asm) (.head _) ?_ ?_; rotate_left; intro _ _))
  trivial
theorem put_whole_ctr (w : World) (n size : Int) (t1 t2 : Tok) (news : List (Addr × Obj)) (h0 : 0 ≤ n) (h1 : n < 256 ^ size.toNat) (h2 : 0 ≤ size) (h3 : size ≤ 16) :
    CtrC w 89 10 1000 [.int n t1, .int size t2] news (fun v news' => ∃ b t, v = .bytes b t ∧ KBw.bInts b = be n size.toNat ∧ news' = news) := use _ (by exact True.intro : Wit (by
  unfold CtrC
  k_fill
  intro mean mg mb dp un gd cn cs a ccd cl outer A₀ base h₀ L m s Q E B F X N T hk hd hu hret
  refine C_call ?_
  k_dflt (refine' code_defK ?k1 ?k2 ?k3 ?k4 ?k5 ?kA ?kF ?kK ?k6 ?k7 ?k8 ?k9 ?kB ?_ ?c2 ?c3 ?c4 ?c5; (case kA => exact rfl); (case kF => exact rfl); (case kK => assumption); (case k1 => k_asm); (case k2 => k_asm); (case k3 => k_asm); (case k4 => k_asm); (case k5 => k_asm); (case k6 => k_is); (case k7 => k_is); (case k8 => ktr_room); (case k9 => exact BindsTo.of_eq rfl); (case c5 => decide); (case kB => exact locs rfl); (case c2 => exact rfl); (case c3 => exact rfl); (case c4 => exact rfl); k_whole; intro g' L' h' FG' F' N' B' X' T'; (try (revert F'; refine letm ?_; intro m' F')); (try dsimp only); (try k_lift B'))
  have hz : n.fdiv (2 ^ (8 * size).toNat) = 0 := by
    have e : (8 * size).toNat = 8 * size.toNat := by omega
    rw [e, Int.pow_mul, show (2 : Int) ^ 8 = 256 by decide, Int.fdiv_eq_ediv_of_nonneg _ (Int.le_of_lt (Int.pow_pos (by decide)))]
    exact Int.ediv_eq_zero_of_lt h0 h1
  refine C_execs_cons (C_any ?_)
  k_fold
  k_steps
  · exact absurd hz (by assumption)
  refine C_execs_cons (C_Assign_Name (C_Call ?_))
  k_fold
  k_steps
  refine C_callWith_type ?_
  refine C_args_cons (C_any ?_)
  k_fold
  k_steps
  refine C_args_nil ?_
  refine C_ba_K (by k_asm) (by k_asm) h2 (by omega) ?_
  intro S h9 F9 N9 l9
  k_fold
  k_steps
  refine C_any ?_
  k_fold
  k_steps
  · refine hret _ _ _ _ (by k_asm) (cb_drop (by k_asm) fun p hp => .tail _ hp) ⟨_, _, rfl, by assumption, rfl⟩
  · rw [← KBw.ints_length, ‹KBw.bInts _ = be n size.toNat›, be_length]; omega
  ))

end
end Mine
end

section
open PySem PySem.W PyProof.Rows PySem.Calls PySem.Spec
set_option maxRecDepth 100000
set_option maxHeartbeats 0
namespace Mine
noncomputable def MM : Int := 170141183460469231731687303715884105727
noncomputable def mixF (a k : Int) : Int := (a * 6364136223846793005 + k + 1).fmod 170141183460469231731687303715884105727
noncomputable def mix (s : Int) (ks : List Int) : Int := ks.foldl mixF (s.fmod 170141183460469231731687303715884105727)
theorem mix_in (s : Int) (ks : List Int) : 0 ≤ mix s ks ∧ mix s ks < 170141183460469231731687303715884105727 := by
  unfold mix
  have h : ∀ (l : List Int) (a : Int), 0 ≤ a ∧ a < 170141183460469231731687303715884105727 → 0 ≤ l.foldl mixF a ∧ l.foldl mixF a < 170141183460469231731687303715884105727 := by
    intro l
    induction l with
    | nil => exact fun a h => h
    | cons k l ih => exact fun a _ => ih _ ⟨fmod_lo _ (by decide), fmod_hi _ (by decide)⟩
  exact h ks _ ⟨fmod_lo _ (by decide), fmod_hi _ (by decide)⟩
noncomputable def tag (key : List Int) (number : Int) (head body : List Int) : List Int := be (mix (mix (number + 1) key) (be (head.length : Int) 4 ++ head ++ body)) 16
theorem lt256_4 {n : Int} (h : n < 4294967296) : n < 256 ^ (Int.toNat 4) := h
theorem lt256_8 {n : Int} (h : n < 18446744073709551616) : n < 256 ^ (Int.toNat 8) := h
theorem lt256_16 {n : Int} (h : n < 340282366920938463463374607431768211456) : n < 256 ^ (Int.toNat 16) := h
section
theorem regT3x1 : True := by
  k_with_none
  k_with "k_steps" => ((repeat' (first | (k_unfold; (try dsimp only)) | (k_end; wrow_close) | ((fail_if_success (with_reducible show wpAny _ _ (subscriptTail _ _ _ _) _ _ _)); dsimp only; walk1) | walk1 | (dsimp only; walk1) | (leave1; walk_say "STEP leave1"; try dsimp only) | fail "no step")))
  k_with "omega" => ((first
  | ((with_reducible show @LT.lt Nat _ _ _); first | (with_reducible assumption) | ((with_reducible refine' rm2 ?omA ?omB); (case omA => with_reducible assumption); (case omB => exact rfl)) | ((with_reducible refine' rm1 ?omA ?omB); (case omA => with_reducible assumption); (case omB => exact rfl)) | ((with_reducible refine' rm0 ?omA); (case omA => with_reducible assumption)) | ((with_reducible refine' ltL ?omA ?omB); (case omA => with_reducible assumption); (case omB => exact rfl)) | ((with_reducible refine' rm3 ?omA ?omB); (case omA => with_reducible assumption); (case omB => exact rfl)) | (simp only [Nat.reduceAdd, Nat.reduceMul, Nat.reduceSub, Nat.reducePow, Nat.reduceLeDiff, Nat.reduceLT, Nat.zero_le, Nat.le_refl, Nat.zero_lt_one]; done))
  | ((with_reducible show @LE.le Nat _ _ _); first | (with_reducible assumption) | (with_reducible exact Nat.zero_le _) | ((with_reducible refine' leL ?omA ?omB); (case omA => with_reducible assumption); (case omB => exact rfl)) | (simp only [Nat.reduceAdd, Nat.reduceMul, Nat.reduceSub, Nat.reducePow, Nat.reduceLeDiff, Nat.reduceLT, Nat.zero_le, Nat.le_refl, Nat.zero_lt_one]; done))
  | ((with_reducible show @Ne Nat _ _); (with_reducible first
  | assumption
  | exact Ne.symm (by with_reducible assumption)
  | exact Nat.ne_of_gt (by with_reducible assumption)
  | exact Nat.ne_of_gt (And.left (by with_reducible assumption))
  | exact Nat.ne_of_gt (And.left (And.right (by with_reducible assumption)))
  | exact Nat.ne_of_gt (And.left (And.right (And.right (by with_reducible assumption))))
  | exact Nat.ne_of_gt (And.right (by with_reducible assumption))
  | exact Nat.ne_of_gt (And.right (And.right (by with_reducible assumption)))
  | exact gs1 (by with_reducible assumption)
  | exact gs1 (And.left (by with_reducible assumption))
  | exact gs1 (And.left (And.right (by with_reducible assumption)))
  | exact gs1 (And.left (And.right (And.right (by with_reducible assumption))))
  | exact gs1 (And.right (by with_reducible assumption))
  | exact gs1 (And.right (And.right (by with_reducible assumption)))
  | exact gs2 (by with_reducible assumption)
  | exact gs2 (And.left (by with_reducible assumption))
  | exact gs2 (And.left (And.right (by with_reducible assumption)))
  | exact gs2 (And.left (And.right (And.right (by with_reducible assumption))))
  | exact gs2 (And.right (by with_reducible assumption))
  | exact gs2 (And.right (And.right (by with_reducible assumption)))
  | exact Nat.ne_of_lt (by with_reducible assumption)
  | exact Nat.ne_of_lt (And.left (by with_reducible assumption))
  | exact Nat.ne_of_lt (And.left (And.right (by with_reducible assumption)))
  | exact Nat.ne_of_lt (And.left (And.right (And.right (by with_reducible assumption))))
  | exact Nat.ne_of_lt (And.right (by with_reducible assumption))
  | exact Nat.ne_of_lt (And.right (And.right (by with_reducible assumption)))
  | exact ls1 (by with_reducible assumption)
  | exact ls1 (And.left (by with_reducible assumption))
  | exact ls1 (And.left (And.right (by with_reducible assumption)))
  | exact ls1 (And.left (And.right (And.right (by with_reducible assumption))))
  | exact ls1 (And.right (by with_reducible assumption))
  | exact ls1 (And.right (And.right (by with_reducible assumption)))
  | exact ls2 (by with_reducible assumption)
  | exact ls2 (And.left (by with_reducible assumption))
  | exact ls2 (And.left (And.right (by with_reducible assumption)))
  | exact ls2 (And.left (And.right (And.right (by with_reducible assumption))))
  | exact ls2 (And.right (by with_reducible assumption))
  | exact ls2 (And.right (And.right (by with_reducible assumption)))
  | exact Ne.symm (And.left (by with_reducible assumption))
  | exact Ne.symm (And.left (And.right (by with_reducible assumption)))
  | exact Ne.symm (And.left (And.right (And.right (by with_reducible assumption))))
  | exact Ne.symm (And.right (And.right (And.right (by with_reducible assumption))))
  | exact Ne.symm (And.left (And.left (by with_reducible assumption)))
  | exact Ne.symm (And.left (And.right (And.left (by with_reducible assumption))))
  | exact Ne.symm (And.right (And.right (And.left (by with_reducible assumption))))
  | exact Ne.symm (And.left (And.left (And.right (by with_reducible assumption))))
  | exact Ne.symm (And.left (And.right (And.left (And.right (by with_reducible assumption)))))
  | exact Ne.symm (And.right (And.right (And.left (And.right (by with_reducible assumption)))))
  | exact Ne.symm (And.left (And.left (And.right (And.right (by with_reducible assumption)))))
  | exact Ne.symm (And.left (And.right (And.left (And.right (And.right (by with_reducible assumption))))))
  | exact Ne.symm (And.right (And.right (And.left (And.right (And.right (by with_reducible assumption))))))
  | exact Ne.symm (And.left (And.right (And.right (And.right (by with_reducible assumption)))))
  | exact Ne.symm (And.left (And.right (And.right (And.right (And.right (by with_reducible assumption))))))
  | exact Ne.symm (And.right (And.right (And.right (And.right (And.right (by with_reducible assumption))))))
  | exact (And.left (by with_reducible assumption))
  | exact (And.left (And.right (by with_reducible assumption)))
  | exact (And.left (And.right (And.right (by with_reducible assumption))))
  | exact (And.right (And.right (And.right (by with_reducible assumption))))
  | exact (And.left (And.left (by with_reducible assumption)))
  | exact (And.left (And.right (And.left (by with_reducible assumption))))
  | exact (And.right (And.right (And.left (by with_reducible assumption))))
  | exact (And.left (And.left (And.right (by with_reducible assumption))))
  | exact (And.left (And.right (And.left (And.right (by with_reducible assumption)))))
  | exact (And.right (And.right (And.left (And.right (by with_reducible assumption)))))
  | exact (And.left (And.left (And.right (And.right (by with_reducible assumption)))))
  | exact (And.left (And.right (And.left (And.right (And.right (by with_reducible assumption))))))
  | exact (And.right (And.right (And.left (And.right (And.right (by with_reducible assumption))))))
  | exact (And.left (And.right (And.right (And.right (by with_reducible assumption)))))
  | exact (And.left (And.right (And.right (And.right (And.right (by with_reducible assumption))))))
  | exact (And.right (And.right (And.right (And.right (And.right (by with_reducible assumption))))))
  | exact gt2 (by with_reducible assumption) (by with_reducible assumption)
  | fail "no ne"))))
  k_with "units_room" => ((simp only [units_under_make, units_in1, units_deeper, Around.mark_units, units_caller, cLine]; (try dsimp only [ktrTop]); omega))
  k_with "ktr_room" => (((simp only [depth_under_make, depth_under_kw, depth_in1, depth_deeper, depth_caller, recursionLimit]); (try dsimp only [ktrTop]); omega))
  k_with "k_room" => (((simp only [depth_under_make, depth_under_kw, depth_in1, depth_deeper, depth_caller, recursionLimit]); (try dsimp only [ktrTop]); omega))
  k_with "k_all" => (first | assumption | exact ne_of_allLt (by assumption) | exact ne_of_allLt (And.right (by assumption)) | exact ne_of_allLt (And.right (And.right (by assumption))) | exact ne_of_allLt (And.right (And.right (And.right (by assumption)))))
  k_with "m exec For" => (((with_reducible show wpAny _ _ (exec (Stmt.For (PySem.Expr.Name _ _) _ _ [] _) _) _ _ _); (rename Fr _ _ _ _ => lF'); (with_unfolding_all refine' For_invVF lF' ?k1 ?k2 ?_; (case k1 => exact rfl); (case k2 => exact rfl); k_whole)))
  k_with "m InvEndN" => ((refine InvEndN.intro (by assumption) (by assumption) ⟨rfl, ⟨_, by with_unfolding_all rfl⟩, fun z h1 h2 => by first | (simp only [if_neg h1, if_neg h2]; done) | (simp only [if_neg h1, if_neg h2]; rfl) | exact (if_neg h1).trans (if_neg h2)⟩ rfl ?zz1 ?zz2; (case zz1 => exact fun p hp => List.mem_append_left _ hp); (case zz2 => exact fun p hp => List.mem_append_right _ hp)))
  k_with "m ite" => (first | refine ite_pos (by (simp; done)) ?_ | refine ite_neg (by (simp; done)) ?_)
  k_with "kba_size" => (((try simp only [List.length_append, be_length, List.length_cons, List.length_nil, List.length_map, List.length_take, List.length_drop, Int.reduceToNat]); omega))
  k_with "m pyIter bytes" => (((rename Fr _ _ _ _ => lF'); (rename News _ _ _ _ => lN'); (with_unfolding_all refine' KBw.iterBytes_acc1 (y := PySem.Str.ofString "found") (fun a k => (a * 6364136223846793005 + k + 1).fmod 170141183460469231731687303715884105727) (by kba_ints) (by rfl) lF' lN' (by rfl) (fun k' t' a' ta' h' tk' own' hmem' hlo' hhi' hoff' F' N' => ?_) (fun u' t' h' tk' F' N' => ?_))))
  trivial
theorem mixed_ctr (w : World) (b : Array UInt8) (ks : List Int) (tb : Tok) (st : Int) (t1 : Tok) (news : List (Addr × Obj)) (hb : KBw.bInts b = ks) (h0 : 0 ≤ st) (h1 : st < 2 ^ 130) :
    Ctr w 249 10 1000 [.int st t1, .bytes b tb] news (fun v news' => ∃ t, v = .int (mix st ks) t ∧ 0 ≤ mix st ks ∧ mix st ks < 170141183460469231731687303715884105727 ∧ news' = news) := use _ (by exact True.intro : Wit (by
  unfold Ctr
  k_fill
  intro mean mg mb dp un gd cn cs a ccd cl outer A₀ base h₀ L m s Q E B F X N T hk hd hu hret
  refine wpAny_call ?_
  k_dflt cell_enter
  k_steps
  exact hret _ _ _ _ (by k_asm) (by k_asm) ⟨_, rfl, (mix_in _ _).1, (mix_in _ _).2, rfl⟩
  ))

end
theorem regT3x2 : True := by
  k_with_none
  k_with "k_steps" => ((repeat' (first | (k_unfold; (try dsimp only)) | (k_end; wrow_close) | ((fail_if_success (with_reducible show wpAny _ _ (subscriptTail _ _ _ _) _ _ _)); dsimp only; walk1) | walk1 | (dsimp only; walk1) | (leave1; walk_say "STEP leave1"; try dsimp only) | fail "no step")))
  k_with "omega" => ((first
  | ((with_reducible show @LT.lt Nat _ _ _); first | (with_reducible assumption) | ((with_reducible refine' rm2 ?omA ?omB); (case omA => with_reducible assumption); (case omB => exact rfl)) | ((with_reducible refine' rm1 ?omA ?omB); (case omA => with_reducible assumption); (case omB => exact rfl)) | ((with_reducible refine' rm0 ?omA); (case omA => with_reducible assumption)) | ((with_reducible refine' ltL ?omA ?omB); (case omA => with_reducible assumption); (case omB => exact rfl)) | ((with_reducible refine' rm3 ?omA ?omB); (case omA => with_reducible assumption); (case omB => exact rfl)) | (simp only [Nat.reduceAdd, Nat.reduceMul, Nat.reduceSub, Nat.reducePow, Nat.reduceLeDiff, Nat.reduceLT, Nat.zero_le, Nat.le_refl, Nat.zero_lt_one]; done))
  | ((with_reducible show @LE.le Nat _ _ _); first | (with_reducible assumption) | (with_reducible exact Nat.zero_le _) | ((with_reducible refine' leL ?omA ?omB); (case omA => with_reducible assumption); (case omB => exact rfl)) | (simp only [Nat.reduceAdd, Nat.reduceMul, Nat.reduceSub, Nat.reducePow, Nat.reduceLeDiff, Nat.reduceLT, Nat.zero_le, Nat.le_refl, Nat.zero_lt_one]; done))
  | ((with_reducible show @Ne Nat _ _); (with_reducible first
  | assumption
  | exact Ne.symm (by with_reducible assumption)
  | exact Nat.ne_of_gt (by with_reducible assumption)
  | exact Nat.ne_of_gt (And.left (by with_reducible assumption))
  | exact Nat.ne_of_gt (And.left (And.right (by with_reducible assumption)))
  | exact Nat.ne_of_gt (And.left (And.right (And.right (by with_reducible assumption))))
  | exact Nat.ne_of_gt (And.right (by with_reducible assumption))
  | exact Nat.ne_of_gt (And.right (And.right (by with_reducible assumption)))
  | exact gs1 (by with_reducible assumption)
  | exact gs1 (And.left (by with_reducible assumption))
  | exact gs1 (And.left (And.right (by with_reducible assumption)))
  | exact gs1 (And.left (And.right (And.right (by with_reducible assumption))))
  | exact gs1 (And.right (by with_reducible assumption))
  | exact gs1 (And.right (And.right (by with_reducible assumption)))
  | exact gs2 (by with_reducible assumption)
  | exact gs2 (And.left (by with_reducible assumption))
  | exact gs2 (And.left (And.right (by with_reducible assumption)))
  | exact gs2 (And.left (And.right (And.right (by with_reducible assumption))))
  | exact gs2 (And.right (by with_reducible assumption))
  | exact gs2 (And.right (And.right (by with_reducible assumption)))
  | exact Nat.ne_of_lt (by with_reducible assumption)
  | exact Nat.ne_of_lt (And.left (by with_reducible assumption))
  | exact Nat.ne_of_lt (And.left (And.right (by with_reducible assumption)))
  | exact Nat.ne_of_lt (And.left (And.right (And.right (by with_reducible assumption))))
  | exact Nat.ne_of_lt (And.right (by with_reducible assumption))
  | exact Nat.ne_of_lt (And.right (And.right (by with_reducible assumption)))
  | exact ls1 (by with_reducible assumption)
  | exact ls1 (And.left (by with_reducible assumption))
  | exact ls1 (And.left (And.right (by with_reducible assumption)))
  | exact ls1 (And.left (And.right (And.right (by with_reducible assumption))))
  | exact ls1 (And.right (by with_reducible assumption))
  | exact ls1 (And.right (And.right (by with_reducible assumption)))
  | exact ls2 (by with_reducible assumption)
  | exact ls2 (And.left (by with_reducible assumption))
  | exact ls2 (And.left (And.right (by with_reducible assumption)))
  | exact ls2 (And.left (And.right (And.right (by with_reducible assumption))))
  | exact ls2 (And.right (by with_reducible assumption))
  | exact ls2 (And.right (And.right (by with_reducible assumption)))
  | exact Ne.symm (And.left (by with_reducible assumption))
  | exact Ne.symm (And.left (And.right (by with_reducible assumption)))
  | exact Ne.symm (And.left (And.right (And.right (by with_reducible assumption))))
  | exact Ne.symm (And.right (And.right (And.right (by with_reducible assumption))))
  | exact Ne.symm (And.left (And.left (by with_reducible assumption)))
  | exact Ne.symm (And.left (And.right (And.left (by with_reducible assumption))))
  | exact Ne.symm (And.right (And.right (And.left (by with_reducible assumption))))
  | exact Ne.symm (And.left (And.left (And.right (by with_reducible assumption))))
  | exact Ne.symm (And.left (And.right (And.left (And.right (by with_reducible assumption)))))
  | exact Ne.symm (And.right (And.right (And.left (And.right (by with_reducible assumption)))))
  | exact Ne.symm (And.left (And.left (And.right (And.right (by with_reducible assumption)))))
  | exact Ne.symm (And.left (And.right (And.left (And.right (And.right (by with_reducible assumption))))))
  | exact Ne.symm (And.right (And.right (And.left (And.right (And.right (by with_reducible assumption))))))
  | exact Ne.symm (And.left (And.right (And.right (And.right (by with_reducible assumption)))))
  | exact Ne.symm (And.left (And.right (And.right (And.right (And.right (by with_reducible assumption))))))
  | exact Ne.symm (And.right (And.right (And.right (And.right (And.right (by with_reducible assumption))))))
  | exact (And.left (by with_reducible assumption))
  | exact (And.left (And.right (by with_reducible assumption)))
  | exact (And.left (And.right (And.right (by with_reducible assumption))))
  | exact (And.right (And.right (And.right (by with_reducible assumption))))
  | exact (And.left (And.left (by with_reducible assumption)))
  | exact (And.left (And.right (And.left (by with_reducible assumption))))
  | exact (And.right (And.right (And.left (by with_reducible assumption))))
  | exact (And.left (And.left (And.right (by with_reducible assumption))))
  | exact (And.left (And.right (And.left (And.right (by with_reducible assumption)))))
  | exact (And.right (And.right (And.left (And.right (by with_reducible assumption)))))
  | exact (And.left (And.left (And.right (And.right (by with_reducible assumption)))))
  | exact (And.left (And.right (And.left (And.right (And.right (by with_reducible assumption))))))
  | exact (And.right (And.right (And.left (And.right (And.right (by with_reducible assumption))))))
  | exact (And.left (And.right (And.right (And.right (by with_reducible assumption)))))
  | exact (And.left (And.right (And.right (And.right (And.right (by with_reducible assumption))))))
  | exact (And.right (And.right (And.right (And.right (And.right (by with_reducible assumption))))))
  | exact gt2 (by with_reducible assumption) (by with_reducible assumption)
  | fail "no ne"))))
  k_with "units_room" => ((simp only [units_under_make, units_in1, units_deeper, Around.mark_units, units_caller, cLine]; (try dsimp only [ktrTop]); omega))
  k_with "ktr_room" => (((simp only [depth_under_make, depth_under_kw, depth_in1, depth_deeper, depth_caller, recursionLimit]); (try dsimp only [ktrTop]); omega))
  k_with "k_room" => (((simp only [depth_under_make, depth_under_kw, depth_in1, depth_deeper, depth_caller, recursionLimit]); (try dsimp only [ktrTop]); omega))
  k_with "k_all" => (first | assumption | exact ne_of_allLt (by assumption) | exact ne_of_allLt (And.right (by assumption)) | exact ne_of_allLt (And.right (And.right (by assumption))) | exact ne_of_allLt (And.right (And.right (And.right (by assumption)))))
  k_with "m exec For" => (((with_reducible show wpAny _ _ (exec (Stmt.For (PySem.Expr.Name _ _) _ _ [] _) _) _ _ _); (rename Fr _ _ _ _ => lF'); (with_unfolding_all refine' For_invVF lF' ?k1 ?k2 ?_; (case k1 => exact rfl); (case k2 => exact rfl); k_whole)))
  k_with "m InvEndN" => ((refine InvEndN.intro (by assumption) (by assumption) ⟨rfl, ⟨_, by with_unfolding_all rfl⟩, fun z h1 h2 => by first | (simp only [if_neg h1, if_neg h2]; done) | (simp only [if_neg h1, if_neg h2]; rfl) | exact (if_neg h1).trans (if_neg h2)⟩ rfl ?zz1 ?zz2; (case zz1 => exact fun p hp => List.mem_append_left _ hp); (case zz2 => exact fun p hp => List.mem_append_right _ hp)))
  k_with "m ite" => (first | refine ite_pos (by (simp; done)) ?_ | refine ite_neg (by (simp; done)) ?_)
  k_with "kba_size" => (((try simp only [List.length_append, be_length, List.length_cons, List.length_nil, List.length_map, List.length_take, List.length_drop, Int.reduceToNat]); omega))
  k_with "m wpC" => ((
  (fail_if_success (with_reducible show wpC _ _ (call (Value.ref 89) _) _ _ _));
  (fail_if_success (with_reducible show wpC _ _ (call (Value.ref 200) _) _ _ _));
  (fail_if_success (with_reducible show wpC _ _ (call (Value.ref 207) _) _ _ _));
  (fail_if_success (with_reducible show wpC _ _ (call (Value.ref 256) _) _ _ _));
  (fail_if_success (with_reducible show wpC _ _ (call (Value.ref 270) _) _ _ _));
  (fail_if_success (with_reducible show wpC _ _ (call (Value.ref 284) _) _ _ _));
  (fail_if_success (with_reducible show wpC _ _ (call (Value.ref 291) _) _ _ _));
  (fail_if_success (with_reducible show wpC _ _ (call (Value.ref 298) _) _ _ _));
  (fail_if_success (with_reducible show wpC _ _ (call (Value.ref 305) _) _ _ _));
  (fail_if_success (with_reducible show wpC _ _ (call (Value.ref 312) _) _ _ _));
  (fail_if_success (with_reducible show wpC _ _ (call (Value.ref 348) _) _ _ _));
  (fail_if_success (with_reducible show wpC _ _ (call (Value.ref 355) _) _ _ _));
  (fail_if_success (with_reducible show wpC _ _ (call (Value.ref 362) _) _ _ _));
  refine C_any ?_; (try k_fold)))
  k_with "m wpC" => ((k_dflt (with_reducible first
  | refine C_execs_cons ?_
  | refine C_Return ?_
  | refine C_BinOp ?_
  | refine C_Tuple ?_
  | refine C_Call ?_)))
  k_with "m wpC" => ((k_dflt (first
  | ((with_reducible show wpC _ _ (exec (Stmt.Assign [PySem.Expr.Name _ _] _ _) _) _ _ _); refine C_Assign_Name ?_)
  | ((with_reducible show wpC _ _ (eval (PySem.Expr.Compare _ [_] [_] _) _) _ _ _); refine C_Compare ?_)
  | ((with_reducible show wpC _ _ (spliced (backTo _ (starEach (_ :: _) _))) _ _ _); refine C_args_cons ?_)
  | ((with_reducible show wpC _ _ (spliced (backTo _ (starEach [] _))) _ _ _); refine C_args_nil ?_)
  | ((with_reducible show wpC _ _ (callWith _ (Value.builtin _) _ _ _) _ _ _); refine C_callWith_builtin ?_)
  | ((with_reducible show wpC _ _ (callWith _ (Value.type _) _ _ _) _ _ _); refine C_callWith_type ?_)
  | ((with_reducible show wpC _ _ (callWith _ (Value.ref _) _ _ _) _ _ _); refine' C_callK ?k0 ?k1 ?_; (case k0 => k_asm); (case k1 => k_is)))))
  k_with "m wpC" => ((k_dflt (with_reducible first
  | refine C_If ?_
  | refine C_isTrue_Compare ?_
  | refine C_isTrue_not ?_
  | refine C_isTrue_or_nil ?_
  | refine C_isTrue_or ?_
  | refine C_And ?_)))
  k_with "m wpC" => ((k_dflt (first
  | ((with_reducible show wpC _ _ (isTrue (PySem.Expr.Call _ _ _ _) _ _) _ _ _); refine C_isTrue_plain ?_)
  | ((with_reducible show wpC _ _ (isTrue (PySem.Expr.Name _ _) _ _) _ _ _); refine C_isTrue_plain ?_)
  | ((with_reducible show wpC _ _ (eval (PySem.Expr.UnaryOp _ _ _) _) _ _ _); refine C_UnaryOp ?_))))
  k_with "m call ref" => (((with_reducible show wpAny _ _ (call (Value.ref 249) _) _ _ _); k_dflt (refine' (mixed_ctr _ _ _ _ _ _ _ ?p1 ?p2 ?p3) _ _ _ _ _ _ _ _ _ _ _ _ _ _ _ _ _ _ _ _ ?kB ?kF ?kX ?kN ?kT ?kK ?kD ?kW ?_; (case kB => k_asm); (case kF => k_asm); (case kX => k_asm); (case kN => k_asm); (case kT => k_asm); (case kK => first | exact rfl | assumption); (case kD => ((simp only [depth_under_make, depth_under_kw, depth_in1, depth_deeper, depth_caller]); (try dsimp only [ktrTop]); omega)); (case kW => ((simp only [units_under_make, units_in1, units_deeper, Around.mark_units, units_caller]); (try dsimp only [ktrTop]); omega)); (case p1 => kba_ints); (case p2 => omega); (case p3 => omega)); (intro v' nw' h' tk' F' N' hv'); (obtain ⟨t', e', lo', hi', en'⟩ := hv'; subst e'; subst en'); (try k_sweep)))
  k_with "m wpC" => (((with_reducible show wpC _ _ (call (Value.ref 89) _) _ _ _); k_dflt (refine' (put_whole_ctr _ _ _ _ _ _ ?p1 ?p2 ?p3 ?p4) _ _ _ _ _ _ _ _ _ _ _ _ _ _ _ _ _ _ _ _ ?kB ?kF ?kX ?kN ?kT ?kK ?kD ?kW ?_; (case kB => k_asm); (case kF => k_asm); (case kX => k_asm); (case kN => k_asm); (case kT => k_asm); (case kK => first | exact rfl | assumption); (case kD => ((simp only [depth_under_make, depth_under_kw, depth_in1, depth_deeper, depth_caller]); (try dsimp only [ktrTop]); omega)); (case kW => ((simp only [units_under_make, units_in1, units_deeper, Around.mark_units, units_caller]); (try dsimp only [ktrTop]); omega)); (case p1 => omega); (case p2 => first | exact lt256_4 (by omega) | exact lt256_8 (by omega) | exact lt256_16 (by omega)); (case p3 => omega); (case p4 => omega)); (intro v' nw' h' tk' F' N' hv'); (obtain ⟨b', t', e', hb', en'⟩ := hv'; subst e'; subst en'; (try simp only [Int.reduceToNat] at hb')); (try k_sweep)))
  trivial
theorem tag_ctr (w : World) (bk bh bb : Array UInt8) (kk kh kb : List Int) (tk th tb tn : Tok) (number : Int) (news : List (Addr × Obj)) (hk1 : KBw.bInts bk = kk) (hh1 : KBw.bInts bh = kh) (hb1 : KBw.bInts bb = kb) (h0 : 0 ≤ number) (h1 : number < 1000) (l2 : kh.length ≤ 1000) (l3 : kb.length ≤ 1000) :
    CtrC w 256 20 2000 [.bytes bk tk, .int number tn, .bytes bh th, .bytes bb tb] news (fun v news' => ∃ b t, v = .bytes b t ∧ KBw.bInts b = tag kk number kh kb ∧ news' = news) := use _ (by exact True.intro : Wit (by
  unfold CtrC
  k_fill
  intro mean mg mb dp un gd cn cs a ccd cl outer A₀ base h₀ L m s Q E B F X N T hk hd hu hret
  refine C_call ?_
  k_dflt (refine' code_defK ?k1 ?k2 ?k3 ?k4 ?k5 ?kA ?kF ?kK ?k6 ?k7 ?k8 ?k9 ?kB ?_ ?c2 ?c3 ?c4 ?c5; (case kA => exact rfl); (case kF => exact rfl); (case kK => assumption); (case k1 => k_asm); (case k2 => k_asm); (case k3 => k_asm); (case k4 => k_asm); (case k5 => k_asm); (case k6 => k_is); (case k7 => k_is); (case k8 => ktr_room); (case k9 => exact BindsTo.of_eq rfl); (case c5 => decide); (case kB => exact locs rfl); (case c2 => exact rfl); (case c3 => exact rfl); (case c4 => exact rfl); k_whole; intro g' L' h' FG' F' N' B' X' T'; (try (revert F'; refine letm ?_; intro m' F')); (try dsimp only); (try k_lift B'))
  k_steps
  exact hret _ _ _ _ (by k_asm) (by k_asm) ⟨_, _, rfl, by assumption, rfl⟩
  ))

end Mine
end

section
open PySem PySem.W PyProof.Rows PySem.Calls PySem.Spec
namespace Mine
theorem tag_length (k : List Int) (n : Int) (h b : List Int) : (tag k n h b).length = 16 := be_length _ _
noncomputable def idsOf (d s : List Int) : List Int := [(d.length : Int)] ++ d ++ [(s.length : Int)] ++ s
theorem idsOf_length (d s : List Int) : (idsOf d s).length = d.length + s.length + 2 := by
  simp only [idsOf, List.length_append, List.length_cons, List.length_nil]; omega
noncomputable def bodyOf (time : Int) (kd : List Int) : List Int := be time 8 ++ [(kd.length : Int)] ++ kd
theorem bodyOf_length (time : Int) (kd : List Int) : (bodyOf time kd).length = 9 + kd.length := by
  simp only [bodyOf, List.length_append, List.length_cons, List.length_nil, be_length]
noncomputable def tokOf (ks ka kd : List Int) (time : Int) : List Int := bodyOf time kd ++ tag ks ka.length ka (bodyOf time kd)
theorem tokOf_length (ks ka kd : List Int) (time : Int) : (tokOf ks ka kd time).length = 25 + kd.length := by
  simp only [tokOf, List.length_append, bodyOf_length, tag_length]; omega
noncomputable def chk (ks ka kt : List Int) (now life : Int) : Option (List Int) :=
  if kt.length < 25 then none else
    let body := kt.take (kt.length - 16)
    let size := kt.getD 8 0
    if 20 < size ∨ (body.length : Int) ≠ 9 + size ∨ tag ks ka.length ka body ≠ kt.drop (kt.length - 16) then none
    else if unbe (body.take 8) ≤ now ∧ now ≤ unbe (body.take 8) + life then some (body.drop 9) else none
noncomputable def RK : List Int := [114, 101, 116, 114, 121]
noncomputable def retryRaw (low version : Int) (kd ks kt kg : List Int) : List Int := [240 + low.fmod 16] ++ be version 4 ++ idsOf kd ks ++ kt ++ kg
theorem retryRaw_length (low version : Int) (kd ks kt kg : List Int) : (retryRaw low version kd ks kt kg).length = 7 + kd.length + ks.length + kt.length + kg.length := by
  simp only [retryRaw, List.length_append, List.length_cons, List.length_nil, be_length, idsOf_length]; omega
noncomputable def retryTag (ko kh : List Int) : List Int := tag RK ko.length ko kh
theorem retryTag_length (ko kh : List Int) : (retryTag ko kh).length = 16 := be_length _ _
noncomputable def retryPkt (low version : Int) (kd ks kt ko : List Int) : List Int := retryRaw low version kd ks kt [] ++ retryTag ko (retryRaw low version kd ks kt [])
theorem retryPkt_length (low version : Int) (kd ks kt ko : List Int) : (retryPkt low version kd ks kt ko).length = 23 + kd.length + ks.length + kt.length := by
  simp only [retryPkt, List.length_append, retryRaw_length, retryTag_length, List.length_nil]; omega
noncomputable def negPkt (low : Int) (kd ks vers : List Int) : List Int := [128 + low.fmod 128] ++ be 0 4 ++ idsOf kd ks ++ vers.flatMap (be · 4)
theorem flat4_length (vers : List Int) : (vers.flatMap (be · 4)).length = 4 * vers.length := by
  induction vers with
  | nil => rfl
  | cons v l ih => simp only [List.flatMap_cons, List.length_append, be_length, ih, List.length_cons]; omega
theorem negPkt_length (low : Int) (kd ks vers : List Int) : (negPkt low kd ks vers).length = 7 + kd.length + ks.length + 4 * vers.length := by
  simp only [negPkt, List.length_append, List.length_cons, List.length_nil, be_length, idsOf_length, flat4_length]; omega
theorem u8_back {n : Int} (h0 : 0 ≤ n) (h1 : n < 256) : ((n.toNat.toUInt8.toNat : Nat) : Int) = n := by
  have : (n.toNat.toUInt8).toNat = n.toNat := by
    show (UInt8.ofNat n.toNat).toNat = n.toNat
    rw [UInt8.toNat_ofNat']; omega
  rw [this]; omega
end Mine
end

section
open PySem PySem.W PyProof.Rows PySem.Calls PySem.Spec
namespace Mine
theorem bInts_inj {b c : Array UInt8} (h : KBw.bInts b = KBw.bInts c) : b.toList = c.toList := by
  unfold KBw.bInts at h
  have key : ∀ l l' : List UInt8, (l.map fun c => ((c.toNat : Nat) : Int)) = (l'.map fun c => ((c.toNat : Nat) : Int)) → l = l' := by
    intro l
    induction l with
    | nil => intro l' h; cases l' with
      | nil => rfl
      | cons a r => cases h
    | cons a r ih => intro l' h; cases l' with
      | nil => cases h
      | cons a' r' =>
        simp only [List.map_cons, List.cons.injEq] at h
        rw [ih r' h.2, UInt8.toNat_inj.1 (Int.ofNat.inj h.1)]
  exact key _ _ h
theorem bne_ints {b c : Array UInt8} {kb kc : List Int} (hb : KBw.bInts b = kb) (hc : KBw.bInts c = kc) (h : (b.toList != c.toList) = true) : kb ≠ kc := by
  intro e
  rw [← hb, ← hc] at e
  rw [bInts_inj e] at h
  simp at h
theorem beq_ints {b c : Array UInt8} {kb kc : List Int} (hb : KBw.bInts b = kb) (hc : KBw.bInts c = kc) (h : (b.toList != c.toList) = false) : kb = kc := by
  have e : b.toList = c.toList := by simpa using h
  rw [← hb, ← hc]; unfold KBw.bInts; rw [e]
abbrev bodyW (kt : List Int) : List Int := List.take (clipAt kt.length ((kt.length : Int) - 16)) kt
abbrev timeW (kt : List Int) : Int := List.foldl (fun a k => a * 256 + k) 0 (List.take (Int.toNat 8) (List.drop (Int.toNat 0) (bodyW kt)))
abbrev lenW (kt : List Int) : Nat := min (clipAt kt.length ((kt.length : Int) - 16)) kt.length
abbrev tailW (kt : List Int) : List Int := List.take (kt.length - min (lenW kt) kt.length) (List.drop (min (lenW kt) kt.length) kt)
section
variable {ks ka kt : List Int} {now life : Int}
theorem clipW (g1 : ¬ (kt.length : Int) < 9 + 16) : clipAt kt.length ((kt.length : Int) - 16) = kt.length - 16 := by
  rw [clip_of (by omega)]; omega
theorem bodyW_eq (g1 : ¬ (kt.length : Int) < 9 + 16) : bodyW kt = kt.take (kt.length - 16) := by unfold bodyW; rw [clipW g1]
theorem lenW_eq (g1 : ¬ (kt.length : Int) < 9 + 16) : lenW kt = kt.length - 16 := by unfold lenW; rw [clipW g1]; omega
theorem tailW_eq (g1 : ¬ (kt.length : Int) < 9 + 16) : tailW kt = kt.drop (kt.length - 16) := by
  unfold tailW; rw [lenW_eq g1, Nat.min_eq_left (by omega)]
  exact List.take_of_length_le (by rw [List.length_drop]; exact Nat.le_refl _)
theorem body_len (g1 : ¬ (kt.length : Int) < 9 + 16) : (kt.take (kt.length - 16)).length = kt.length - 16 := by rw [List.length_take]; omega
theorem timeW_eq (g1 : ¬ (kt.length : Int) < 9 + 16) : timeW kt = unbe ((kt.take (kt.length - 16)).take 8) := by
  unfold timeW; rw [bodyW_eq g1]; rfl
theorem time_len (g1 : ¬ (kt.length : Int) < 9 + 16) : 0 + 8 ≤ ((bodyW kt).length : Int) := by rw [bodyW_eq g1, body_len g1]; omega
theorem time_le (h : kt.length ≤ 255) : (bodyW kt).length ≤ 1000 := by
  unfold bodyW; rw [List.length_take]; omega
theorem chk_n1 (h : (kt.length : Int) < 9 + 16) : chk ks ka kt now life = none := by
  unfold chk; rw [if_pos (by omega)]
theorem chk_n2 (g1 : ¬ (kt.length : Int) < 9 + 16) (h : 20 < kt.getD (Int.toNat 8) 0) : chk ks ka kt now life = none := by
  unfold chk; rw [if_neg (by omega)]; exact if_pos (.inl h)
theorem chk_n3 (g1 : ¬ (kt.length : Int) < 9 + 16) (h : ((lenW kt : Nat) : Int) ≠ 9 + kt.getD (Int.toNat 8) 0) : chk ks ka kt now life = none := by
  unfold chk; rw [if_neg (by omega)]
  refine if_pos (.inr (.inl ?_))
  rw [lenW_eq g1] at h
  rw [body_len g1]; exact h
theorem chk_n4 {b c : Array UInt8} (g1 : ¬ (kt.length : Int) < 9 + 16) (hb : KBw.bInts b = tag ks ka.length ka (bodyW kt)) (hc : KBw.bInts c = tailW kt) (h : (b.toList != c.toList) = true) : chk ks ka kt now life = none := by
  have := bne_ints hb hc h
  rw [bodyW_eq g1, tailW_eq g1] at this
  unfold chk; rw [if_neg (by omega)]
  exact if_pos (.inr (.inr this))
theorem chk_n5 (g1 : ¬ (kt.length : Int) < 9 + 16) (h : ¬ (timeW kt ≤ now ∧ now ≤ timeW kt + life)) : chk ks ka kt now life = none := by
  rw [timeW_eq g1] at h
  unfold chk; rw [if_neg (by omega)]
  dsimp only
  rw [if_neg h]
  exact ite_self _
theorem chk_s {b c p : Array UInt8} (g1 : ¬ (kt.length : Int) < 9 + 16) (h2 : ¬ 20 < kt.getD (Int.toNat 8) 0) (h3 : ((lenW kt : Nat) : Int) = 9 + kt.getD (Int.toNat 8) 0) (hb : KBw.bInts b = tag ks ka.length ka (bodyW kt)) (hc : KBw.bInts c = tailW kt) (h : (b.toList != c.toList) = false)
    (h5 : timeW kt ≤ now) (h6 : now ≤ timeW kt + life) (hp : KBw.bInts p = List.take ((bodyW kt).length - clipAt (bodyW kt).length 9) (List.drop (clipAt (bodyW kt).length 9) (bodyW kt))) : chk ks ka kt now life = some (KBw.bInts p) := by
  have := beq_ints hb hc h
  rw [bodyW_eq g1, tailW_eq g1] at this
  rw [timeW_eq g1] at h5 h6
  rw [lenW_eq g1] at h3
  rw [hp, bodyW_eq g1, body_len g1, clip_of (by omega)]
  unfold chk; rw [if_neg (by omega)]
  dsimp only
  rw [if_neg (by rw [body_len g1]; exact fun x => x.elim h2 fun x => x.elim (fun x => x h3) (fun x => x this)), if_pos ⟨h5, h6⟩]
  have e : min (Int.toNat 9) (kt.length - 16) = 9 := by
    show min 9 (kt.length - 16) = 9
    omega
  rw [e]
  exact congrArg some (List.take_of_length_le (by rw [List.length_drop, body_len g1]; exact Nat.le_refl _)).symm
end
end Mine
end

section
open PySem PySem.W PyProof.Rows PySem.Calls PySem.Spec
set_option maxRecDepth 100000
namespace Mine
def isS (k : PySem.Str) : Value → Bool
  | .str b _ => b.cps.toList == k.cps.toList
  | _ => false
noncomputable def allS : List Value → Bool
  | [] => true
  | .str _ _ :: l => allS l
  | _ => false
theorem isS_eq {k : PySem.Str} {t : Tok} : ∀ {l : List Value}, allS l = true → ∀ y, y ∈ l → MeetsSeq.EqGives y (.str k t) (isS k y)
  | [], _, _, hy => nomatch hy
  | x :: r, h, y, hy => by
    cases x with
    | str a u =>
      rcases List.mem_cons.mp hy with rfl | hy
      · exact SeqRoads2.EqGives.str a k u t
      · exact isS_eq (l := r) h y hy
    | _ => cases h
section
variable {prog : Program} {w : World} {A : Around} {E : Value → Shared → Prop} {s : Shared} {h₀ h : Heap} {L D : Addr} {m : PySem.Str → Option Value} {K : Frag}
theorem strs_method {pl : Sem Bool} {its : List Value} {n : Nat} {Q : Value × List Value → Shared → Prop} (X : K.In h₀) (F : Fr h₀ L s.heap m) (ho : K.lookup D = some ⟨.type "list", none, .seq its.toArray n, #[]⟩)
    (h : Q (.builtin "list.index", [.ref D]) s) : wpAny (model prog w) A (getMethod (.ref D) (PySem.Str.ofString "index") pl) Q E s :=
  getMethod_builtin ⟨_, F.keep _ _ (X _ _ ho), rfl⟩ PySem.F.plainAttrs_list PySem.F.slot_list_index PySem.F.type_list_index (fun a e => by cases e; exact ⟨_, F.keep _ _ (X _ _ ho), rfl⟩) h
theorem strs_index3 {a b c d k : PySem.Str} {t1 t2 t3 t4 t : Tok} {n : Nat} {Q : Value → Shared → Prop} (X : K.In h₀) (F : Fr h₀ L s.heap m) (ho : K.lookup D = some ⟨.type "list", none, .seq [.str a t1, .str b t2, .str c t3, .str d t4].toArray n, #[]⟩)
    (ea : (a.cps.toList == k.cps.toList) = false) (eb : (b.cps.toList == k.cps.toList) = false) (ec : (c.cps.toList == k.cps.toList) = false) (ed : (d.cps.toList == k.cps.toList) = true)
    (h : Q (.int 3 s.toks) { s with toks := s.toks + 1 }) : wpAny (model prog w) A (call (.builtin "list.index") [.ref D, .str k t]) Q E s := by
  refine call_meets PySem.F.slot_list_index ⟨_, F.keep _ _ (X _ _ ho), rfl⟩ PySem.F.entry_list_index (PySem.F.args_list_index_2 _ _)
    (MeetsSeq.list_index D #[.str a t1, .str b t2, .str c t3, .str d t4] n (.str k t) (isS k) (fun y hy => isS_eq (l := [.str a t1, .str b t2, .str c t3, .str d t4]) rfl y (by simpa using hy)) 3 (Nat.lt_succ_self 3) (by decide) ed (fun i hi hlt => ?_)) ⟨F.keep _ _ (X _ _ ho), h⟩
  match i, hlt with
  | 0, _ => exact ea
  | 1, _ => exact eb
  | 2, _ => exact ec
end
end Mine
end

section
open PySem PySem.W PyProof.Rows PySem.Calls PySem.Spec
namespace Mine
theorem turned_is {kd : List Int} {k t : Int} {b : Array UInt8} (lo : 0 ≤ k) (hi : k < kd.length) (t0 : 0 ≤ t) (t1 : t < 255)
    (hb : KBw.bInts b = List.take (clipAt kd.length k) kd ++ List.map (fun c => ((c.toNat : Nat) : Int)) [((kd.getD k.toNat 0 + 1 + t).fmod 256).toNat.toUInt8] ++ List.take (kd.length - clipAt kd.length (k + 1)) (List.drop (clipAt kd.length (k + 1)) kd)) :
    ∃ b' t' i y, b' = b ∧ t' = t ∧ i < kd.length ∧ 0 ≤ y ∧ y < 256 ∧ kd[i]? ≠ some y ∧ KBw.bInts b' = kd.set i y := by
  have hi' : k.toNat < kd.length := by omega
  have y0 : 0 ≤ (kd.getD k.toNat 0 + 1 + t).fmod 256 := fmod_lo _ (by decide)
  have y1 : (kd.getD k.toNat 0 + 1 + t).fmod 256 < 256 := fmod_hi _ (by decide)
  refine ⟨b, t, k.toNat, (kd.getD k.toNat 0 + 1 + t).fmod 256, rfl, rfl, hi', y0, y1, fun e => ?_, ?_⟩
  · have h1 : kd.getD k.toNat 0 = (kd.getD k.toNat 0 + 1 + t).fmod 256 := (List.getD_eq_getElem?_getD ..).trans (by rw [e]; exact Option.getD_some)
    rw [Int.fmod_eq_emod_of_nonneg _ (by decide)] at h1
    omega
  · rw [hb, List.map_cons, List.map_nil, u8_back y0 y1, clip_of lo, clip_of (by omega), show min k.toNat kd.length = k.toNat by omega, show min (k + 1).toNat kd.length = k.toNat + 1 by omega,
      List.take_of_length_le (l := List.drop (k.toNat + 1) kd) (by rw [List.length_drop]; exact Nat.le_refl _), List.append_assoc]
    exact (List.set_eq_take_append_cons_drop.trans (if_pos hi')).symm
end Mine
end

section
open PySem PySem.W PyProof.Rows PySem.Calls PySem.Spec
namespace Mine
theorem beq_iff_ints {b c : Array UInt8} {kb kc : List Int} (hb : KBw.bInts b = kb) (hc : KBw.bInts c = kc) : ((b.toList == c.toList) = true) ↔ kb = kc := by
  constructor
  · intro h
    have e : b.toList = c.toList := by simpa using h
    rw [← hb, ← hc]; unfold KBw.bInts; rw [e]
  · intro h
    have e := bInts_inj (hb.trans (h.trans hc.symm))
    rw [e]; simp
def Takes (seen : Bool) (kd kn ks ko kt kg kz : List Int) : Prop := seen = false ∧ kd = kn ∧ ks ≠ ko ∧ 0 < kt.length ∧ kg = retryTag ko (kz.take (kz.length - 16))
section
variable {seen : Bool} {kd kn ks ko kt kg kz : List Int} {bd bn bs bo bg bx : Array UInt8}
theorem takes_1 (h : seen = true) : (false = true ↔ Takes seen kd kn ks ko kt kg kz) := ⟨fun x => (by cases x), fun x => by rw [h] at x; cases x.1⟩
theorem takes_2 (hd : KBw.bInts bd = kd) (hn : KBw.bInts bn = kn) (h : (bd.toList != bn.toList) = true) : (false = true ↔ Takes seen kd kn ks ko kt kg kz) := ⟨fun x => (by cases x), fun x => absurd x.2.1 (bne_ints hd hn h)⟩
theorem takes_3 (hd : KBw.bInts bs = ks) (hn : KBw.bInts bo = ko) (h : (bs.toList == bo.toList) = true) : (false = true ↔ Takes seen kd kn ks ko kt kg kz) := ⟨fun x => (by cases x), fun x => absurd ((beq_iff_ints hd hn).1 h) x.2.2.1⟩
theorem takes_4 (h : (kt.length : Int) = 0) : (false = true ↔ Takes seen kd kn ks ko kt kg kz) := ⟨fun x => (by cases x), fun x => by have := x.2.2.2.1; omega⟩
theorem takes_5 (l7 : 16 ≤ kz.length) (h1 : seen = false) (hd : KBw.bInts bd = kd) (hn : KBw.bInts bn = kn) (h2 : (bd.toList != bn.toList) = false) (hs : KBw.bInts bs = ks) (ho : KBw.bInts bo = ko) (h3 : (bs.toList == bo.toList) = false) (h4 : (kt.length : Int) ≠ 0)
    (hg : KBw.bInts bg = kg) (hx : KBw.bInts bx = retryTag ko (List.take (clipAt kz.length ((kz.length : Int) - 16)) kz)) : ((bg.toList == bx.toList) = true ↔ Takes seen kd kn ks ko kt kg kz) := by
  rw [clip_of (by omega), show min ((kz.length : Int) - 16).toNat kz.length = kz.length - 16 by omega] at hx
  rw [beq_iff_ints hg hx]
  refine ⟨fun x => ⟨h1, beq_ints hd hn h2, fun e => ?_, by omega, x⟩, fun x => x.2.2.2.2⟩
  rw [(beq_iff_ints hs ho).2 e] at h3
  cases h3
end
end Mine
end

section
open PySem PySem.W PyProof.Rows PySem.Calls PySem.Spec
namespace Mine
theorem slice_mid {kz A M R : List Int} {lo hi : Int} (e : kz = A ++ M ++ R) (h1 : lo = A.length) (h2 : hi = (A.length : Int) + M.length) : List.take (clipAt kz.length hi - clipAt kz.length lo) (List.drop (clipAt kz.length lo) kz) = M := by
  have hl : kz.length = A.length + M.length + R.length := by rw [e]; simp only [List.length_append]
  rw [clip_of (by omega), clip_of (by omega), show min lo.toNat kz.length = A.length by omega, show min hi.toNat kz.length = A.length + M.length by omega, e, List.append_assoc, List.drop_left, Nat.add_sub_cancel_left, List.take_left]
theorem unbe_mid {kz A M R : List Int} {a : Nat} {k : Nat} (e : kz = A ++ M ++ R) (h1 : a = A.length) (h2 : M.length = k) : unbe (List.take k (List.drop a kz)) = unbe M := by
  rw [h1, e, List.append_assoc, List.drop_left, ← h2, List.take_left]
theorem unbe_one (n : Int) : unbe [n] = n := by show 0 * 256 + n = n; omega
section
variable {kz kd ks rest : List Int} {first version : Int}
theorem inv_len (e : kz = [first] ++ be version 4 ++ idsOf kd ks ++ rest) : kz.length = 7 + kd.length + ks.length + rest.length := by
  rw [e]; simp only [List.length_append, List.length_cons, List.length_nil, be_length, idsOf_length]; omega
theorem inv_1 (e : kz = [first] ++ be version 4 ++ idsOf kd ks ++ rest) (a : Nat) (h : a = 0) : unbe (List.take 1 (List.drop a kz)) = first :=
  (unbe_mid (A := []) (M := [first]) (R := be version 4 ++ idsOf kd ks ++ rest) (by rw [e]; simp) (by simpa using h) rfl).trans (unbe_one _)
theorem inv_2 (e : kz = [first] ++ be version 4 ++ idsOf kd ks ++ rest) (h0 : 0 ≤ version) (h1 : version < 4294967296) (a : Nat) (h : a = 1) : unbe (List.take 4 (List.drop a kz)) = version :=
  (unbe_mid (A := [first]) (M := be version 4) (R := idsOf kd ks ++ rest) (by rw [e]; simp) (by simpa using h) (be_length _ _)).trans (unbe_be h0 h1)
theorem inv_3 (e : kz = [first] ++ be version 4 ++ idsOf kd ks ++ rest) (a : Nat) (h : a = 5) : unbe (List.take 1 (List.drop a kz)) = kd.length :=
  (unbe_mid (A := [first] ++ be version 4) (M := [(kd.length : Int)]) (R := kd ++ [(ks.length : Int)] ++ ks ++ rest) (by rw [e]; simp [idsOf]) (by simp only [List.length_append, List.length_cons, List.length_nil, be_length]; omega) rfl).trans (unbe_one _)
theorem inv_4 (e : kz = [first] ++ be version 4 ++ idsOf kd ks ++ rest) (a : Nat) (h : a = 6 + kd.length) : unbe (List.take 1 (List.drop a kz)) = ks.length :=
  (unbe_mid (A := [first] ++ be version 4 ++ [(kd.length : Int)] ++ kd) (M := [(ks.length : Int)]) (R := ks ++ rest) (by rw [e]; simp [idsOf]) (by simp only [List.length_append, List.length_cons, List.length_nil, be_length]; omega) rfl).trans (unbe_one _)
theorem inv_5 (e : kz = [first] ++ be version 4 ++ idsOf kd ks ++ rest) {lo hi : Int} (h1 : lo = 6) (h2 : hi = 6 + kd.length) : List.take (clipAt kz.length hi - clipAt kz.length lo) (List.drop (clipAt kz.length lo) kz) = kd :=
  slice_mid (A := [first] ++ be version 4 ++ [(kd.length : Int)]) (M := kd) (R := [(ks.length : Int)] ++ ks ++ rest) (by rw [e]; simp [idsOf]) (by simp only [List.length_append, List.length_cons, List.length_nil, be_length]; omega) (by simp only [List.length_append, List.length_cons, List.length_nil, be_length]; omega)
theorem inv_6 (e : kz = [first] ++ be version 4 ++ idsOf kd ks ++ rest) {lo hi : Int} (h1 : lo = 7 + kd.length) (h2 : hi = 7 + (kd.length : Int) + ks.length) : List.take (clipAt kz.length hi - clipAt kz.length lo) (List.drop (clipAt kz.length lo) kz) = ks :=
  slice_mid (A := [first] ++ be version 4 ++ [(kd.length : Int)] ++ kd ++ [(ks.length : Int)]) (M := ks) (R := rest) (by rw [e]; simp [idsOf]) (by simp only [List.length_append, List.length_cons, List.length_nil, be_length]; omega) (by simp only [List.length_append, List.length_cons, List.length_nil, be_length]; omega)
end
end Mine
end

section
open PySem PySem.W PyProof.Rows PySem.Calls PySem.Spec
namespace Mine
theorem fmodM (x : Int) : x.fmod 170141183460469231731687303715884105727 = x % 170141183460469231731687303715884105727 := Int.fmod_eq_emod_of_nonneg _ (by decide)
theorem mixF_in (a k : Int) : 0 ≤ mixF a k ∧ mixF a k < 170141183460469231731687303715884105727 := ⟨fmod_lo _ (by decide), fmod_hi _ (by decide)⟩
theorem linA (x y k : Int) : x - y = x + k + 1 - (y + k + 1) := by omega
theorem xA1 (a a' k q : Int) (hq : a * 6364136223846793005 + k + 1 - (a' * 6364136223846793005 + k + 1) =  170141183460469231731687303715884105727 * q) : (a - a') * 6364136223846793005 = 170141183460469231731687303715884105727 * q :=
  (Int.sub_mul a a' 6364136223846793005).trans ((linA _ _ _).trans hq)
theorem coefA (x : Int) (F G M H q : Int) (hfg : F * G = 1 + M * H) (hd : x * F = M * q) : x = M * (q * G - x * H) := by
  have h2 : x * (F * G) = M * (q * G) := by rw [← Int.mul_assoc, hd, Int.mul_assoc]
  rw [hfg, Int.mul_add, Int.mul_one, Int.mul_left_comm] at h2
  rw [Int.mul_sub, ← h2, Int.add_sub_cancel]
theorem xA2 (x q : Int) (hd : x * 6364136223846793005 = 170141183460469231731687303715884105727 * q) : ∃ z, x = 170141183460469231731687303715884105727 * z :=
  ⟨_, coefA x 6364136223846793005 111159958757776452325671795171527994789 170141183460469231731687303715884105727 4157941691618991872 q (by decide) hd⟩
theorem xA3 (x z : Int) (ha : -170141183460469231731687303715884105727 < x) (hb : x < 170141183460469231731687303715884105727) (key : x = 170141183460469231731687303715884105727 * z) : x = 0 := by omega
theorem xA4 (a a' k : Int) (h0 : 0 ≤ a) (h1 : a < 170141183460469231731687303715884105727) (g0 : 0 ≤ a') (g1 : a' < 170141183460469231731687303715884105727) (e : (a * 6364136223846793005 + k + 1) % 170141183460469231731687303715884105727 = (a' * 6364136223846793005 + k + 1) % 170141183460469231731687303715884105727) : a = a' := by
  have d : (170141183460469231731687303715884105727 : Int) ∣ (a * 6364136223846793005 + k + 1) - (a' * 6364136223846793005 + k + 1) := Int.dvd_of_emod_eq_zero (Int.emod_eq_emod_iff_emod_sub_eq_zero.1 e)
  obtain ⟨q, hq⟩ := d
  obtain ⟨z, hz⟩ := xA2 _ _ (xA1 _ _ _ _ hq)
  clear hq e
  have := xA3 (a - a') z (by omega) (by omega) hz
  clear hz
  omega
theorem mixF_inj {a a' k : Int} (h0 : 0 ≤ a) (h1 : a < 170141183460469231731687303715884105727) (g0 : 0 ≤ a') (g1 : a' < 170141183460469231731687303715884105727) (e : mixF a k = mixF a' k) : a = a' := by
  unfold mixF at e
  rw [fmodM, fmodM] at e
  exact xA4 a a' k h0 h1 g0 g1 e
theorem mixF_ne {a k k' : Int} (h0 : 0 ≤ k) (h1 : k < 256) (g0 : 0 ≤ k') (g1 : k' < 256) (e : mixF a k = mixF a k') : k = k' := by
  unfold mixF at e
  rw [fmodM, fmodM] at e
  generalize a * 6364136223846793005 = c at e
  omega
theorem fold_in : ∀ (l : List Int) (a : Int), 0 ≤ a ∧ a < 170141183460469231731687303715884105727 → 0 ≤ l.foldl mixF a ∧ l.foldl mixF a < 170141183460469231731687303715884105727
  | [], _, h => h
  | _ :: l, _, _ => fold_in l _ (mixF_in _ _)
theorem fold_inj : ∀ (l : List Int) {a a' : Int}, (0 ≤ a ∧ a < 170141183460469231731687303715884105727) → (0 ≤ a' ∧ a' < 170141183460469231731687303715884105727) → l.foldl mixF a = l.foldl mixF a' → a = a'
  | [], _, _, _, _, e => e
  | _ :: l, _, _, h, g, e => mixF_inj h.1 h.2 g.1 g.2 (fold_inj l (mixF_in _ _) (mixF_in _ _) e)
theorem fold_set {ks : List Int} {i : Nat} {v a : Int} (hi : i < ks.length) (v0 : 0 ≤ v) (v1 : v < 256) (hk : ∀ x ∈ ks, 0 ≤ x ∧ x < 256) (hv : v ≠ ks[i]) : (ks.set i v).foldl mixF a ≠ ks.foldl mixF a := by
  intro e
  have e1 : ks.set i v = ks.take i ++ v :: ks.drop (i + 1) := List.set_eq_take_append_cons_drop.trans (if_pos hi)
  have e2 : ks = ks.take i ++ ks[i] :: ks.drop (i + 1) := by rw [← List.drop_eq_getElem_cons hi, List.take_append_drop]
  rw [e1] at e
  conv at e => rhs; rw [e2]
  rw [List.foldl_append, List.foldl_append, List.foldl_cons, List.foldl_cons] at e
  have := mixF_ne v0 v1 (hk _ (List.getElem_mem hi)).1 (hk _ (List.getElem_mem hi)).2 (fold_inj _ (mixF_in _ _) (mixF_in _ _) e)
  exact hv this
theorem mix_set {ks : List Int} {i : Nat} {v s : Int} (hi : i < ks.length) (v0 : 0 ≤ v) (v1 : v < 256) (hk : ∀ x ∈ ks, 0 ≤ x ∧ x < 256) (hv : v ≠ ks[i]) : mix s (ks.set i v) ≠ mix s ks := fold_set hi v0 v1 hk hv
theorem mix_start {ks : List Int} {s s' : Int} (h : 0 ≤ s ∧ s < 170141183460469231731687303715884105727) (h' : 0 ≤ s' ∧ s' < 170141183460469231731687303715884105727) (e : mix s ks = mix s' ks) : s = s' := by
  unfold mix at e
  have := fold_inj ks ⟨fmod_lo _ (by decide), fmod_hi _ (by decide)⟩ ⟨fmod_lo _ (by decide), fmod_hi _ (by decide)⟩ e
  rw [fmodM, fmodM, Int.emod_eq_of_lt h.1 h.2, Int.emod_eq_of_lt h'.1 h'.2] at this
  exact this
theorem be16_inj {n m : Int} (h : 0 ≤ n ∧ n < 170141183460469231731687303715884105727) (h' : 0 ≤ m ∧ m < 170141183460469231731687303715884105727) (e : be n 16 = be m 16) : n = m := by
  rw [← unbe_be (n := n) (k := 16) h.1 (by omega), ← unbe_be (n := m) (k := 16) h'.1 (by omega), e]
theorem tag_inj {key key' head body head' body' : List Int} {number number' : Int} (e : tag key number head body = tag key' number' head' body') :
    mix (mix (number + 1) key) (be (head.length : Int) 4 ++ head ++ body) = mix (mix (number' + 1) key') (be (head'.length : Int) 4 ++ head' ++ body') := be16_inj (mix_in _ _) (mix_in _ _) e
theorem tag_key {key head body : List Int} {number : Int} {i : Nat} {v : Int} (hi : i < key.length) (v0 : 0 ≤ v) (v1 : v < 256) (hk : ∀ x ∈ key, 0 ≤ x ∧ x < 256) (hv : v ≠ key[i]) : tag (key.set i v) number head body ≠ tag key number head body := fun e =>
  mix_set hi v0 v1 hk hv (mix_start (mix_in _ _) (mix_in _ _) (tag_inj e))
theorem tag_text {key head body head' body' : List Int} {number : Int} {i : Nat} {v : Int} (e' : be (head'.length : Int) 4 ++ head' ++ body' = (be (head.length : Int) 4 ++ head ++ body).set i v) (hi : i < (be (head.length : Int) 4 ++ head ++ body).length) (v0 : 0 ≤ v) (v1 : v < 256)
    (hk : ∀ x ∈ head, 0 ≤ x ∧ x < 256) (hb : ∀ x ∈ body, 0 ≤ x ∧ x < 256) (hv : v ≠ (be (head.length : Int) 4 ++ head ++ body)[i]) : tag key number head' body' ≠ tag key number head body := fun e => by
  have := tag_inj e
  rw [e'] at this
  refine mix_set hi v0 v1 (fun x hx => ?_) hv this
  rcases List.mem_append.mp hx with hx | hx
  · rcases List.mem_append.mp hx with hx | hx
    · exact be_in _ _ x hx
    · exact hk x hx
  · exact hb x hx
theorem tag_head {key head body : List Int} {number : Int} {i : Nat} {v : Int} (hi : i < head.length) (v0 : 0 ≤ v) (v1 : v < 256) (hk : ∀ x ∈ head, 0 ≤ x ∧ x < 256) (hb : ∀ x ∈ body, 0 ≤ x ∧ x < 256) (hv : v ≠ head[i]) : tag key number (head.set i v) body ≠ tag key number head body := by
  refine tag_text (i := 4 + i) (v := v) ?_ ?_ v0 v1 hk hb ?_
  · rw [List.length_set, List.append_assoc, List.append_assoc, List.set_append_right _ _ (by rw [be_length]; omega), be_length, Nat.add_sub_cancel_left, List.set_append_left _ _ hi]
  · simp only [List.length_append, be_length]; omega
  · rw [List.getElem_append_left (by simp only [List.length_append, be_length]; omega), List.getElem_append_right (by rw [be_length]; omega)]
    simpa only [be_length, Nat.add_sub_cancel_left] using hv
theorem tag_body {key head body : List Int} {number : Int} {i : Nat} {v : Int} (hi : i < body.length) (v0 : 0 ≤ v) (v1 : v < 256) (hk : ∀ x ∈ head, 0 ≤ x ∧ x < 256) (hb : ∀ x ∈ body, 0 ≤ x ∧ x < 256) (hv : v ≠ body[i]) : tag key number head (body.set i v) ≠ tag key number head body := by
  have hl : (be (head.length : Int) 4 ++ head).length = 4 + head.length := by rw [List.length_append, be_length]
  refine tag_text (i := 4 + head.length + i) (v := v) ?_ ?_ v0 v1 hk hb ?_
  · rw [List.set_append_right _ _ (by rw [hl]; omega), hl, Nat.add_sub_cancel_left]
  · rw [List.length_append, hl]; omega
  · rw [List.getElem_append_right (by rw [hl]; omega)]
    simpa only [hl, Nat.add_sub_cancel_left] using hv
section
variable {ks ka kd : List Int} {time now life : Int}
theorem tok_split : tokOf ks ka kd time = bodyOf time kd ++ tag ks ka.length ka (bodyOf time kd) := rfl
theorem tok_body : (tokOf ks ka kd time).take ((tokOf ks ka kd time).length - 16) = bodyOf time kd := by
  rw [tokOf_length, tok_split, show 25 + kd.length - 16 = (bodyOf time kd).length by rw [bodyOf_length]; omega, List.take_left]
theorem tok_tail : (tokOf ks ka kd time).drop ((tokOf ks ka kd time).length - 16) = tag ks ka.length ka (bodyOf time kd) := by
  rw [tokOf_length, tok_split, show 25 + kd.length - 16 = (bodyOf time kd).length by rw [bodyOf_length]; omega, List.drop_left]
theorem tok_size : (tokOf ks ka kd time).getD 8 0 = kd.length := by
  unfold tokOf bodyOf
  rw [List.getD_eq_getElem?_getD, List.append_assoc, List.append_assoc, List.getElem?_append_right (by rw [be_length]; omega), be_length]
  rfl
theorem chk_good (h0 : 0 ≤ time) (h1 : time < 1099511627776) (l : kd.length ≤ 20) : chk ks ka (tokOf ks ka kd time) now life = if time ≤ now ∧ now ≤ time + life then some kd else none := by
  unfold chk
  rw [if_neg (by rw [tokOf_length]; omega)]
  dsimp only
  rw [tok_body, tok_tail, tok_size]
  rw [if_neg (by rw [bodyOf_length]; exact fun x => x.elim (fun h => by omega) fun x => x.elim (fun h => h (by omega)) fun h => h rfl)]
  have e1 : unbe ((bodyOf time kd).take 8) = time := by
    unfold bodyOf
    rw [List.append_assoc, List.take_append_of_le_length (by rw [be_length]; omega), List.take_of_length_le (by rw [be_length]; omega), unbe_be h0 (by omega)]
  have e2 : (bodyOf time kd).drop 9 = kd := by
    unfold bodyOf
    rw [List.drop_append_of_le_length (by simp only [List.length_append, be_length, List.length_cons, List.length_nil]; omega), List.drop_of_length_le (by simp only [List.length_append, be_length, List.length_cons, List.length_nil]; omega), List.nil_append]
  rw [e1, e2]
theorem chk_tag {kt : List Int} (h : tag ks ka.length ka (kt.take (kt.length - 16)) ≠ kt.drop (kt.length - 16)) : chk ks ka kt now life = none := by
  unfold chk
  split
  · rfl
  · exact if_pos (.inr (.inr h))
theorem body_in (hd : ∀ x ∈ kd, 0 ≤ x ∧ x < 256) (l : kd.length ≤ 20) : ∀ x ∈ bodyOf time kd, 0 ≤ x ∧ x < 256 := fun x hx => by
  rcases List.mem_append.mp hx with hx | hx
  · rcases List.mem_append.mp hx with hx | hx
    · exact be_in _ _ x hx
    · rw [List.mem_singleton.mp hx]; omega
  · exact hd x hx
theorem chk_turned {i : Nat} {v : Int} (ha : ∀ x ∈ ka, 0 ≤ x ∧ x < 256) (hd : ∀ x ∈ kd, 0 ≤ x ∧ x < 256) (l : kd.length ≤ 20) (hi : i < (tokOf ks ka kd time).length) (v0 : 0 ≤ v) (v1 : v < 256) (hv : v ≠ (tokOf ks ka kd time)[i]) : chk ks ka ((tokOf ks ka kd time).set i v) now life = none := by
  refine chk_tag ?_
  have hB : (bodyOf time kd).length = 9 + kd.length := bodyOf_length _ _
  rw [List.length_set]
  by_cases hb : i < (bodyOf time kd).length
  · rw [List.take_set, List.drop_set_of_lt (by rw [tokOf_length]; omega), tok_body, tok_tail]
    refine tag_body hb v0 v1 ha (body_in hd l) ?_
    rwa [show (tokOf ks ka kd time)[i] = (bodyOf time kd)[i] from List.getElem_append_left hb] at hv
  · rw [List.take_set_of_le (by rw [tokOf_length]; omega), tok_body]
    have e : (tokOf ks ka kd time).set i v = bodyOf time kd ++ (tag ks ka.length ka (bodyOf time kd)).set (i - (bodyOf time kd).length) v := List.set_append_right _ _ (by omega)
    rw [e, tokOf_length, show 25 + kd.length - 16 = (bodyOf time kd).length by omega, List.drop_left]
    intro e
    have hl : i - (bodyOf time kd).length < (tag ks ka.length ka (bodyOf time kd)).length := by
      rw [tokOf_length] at hi; rw [tag_length]; omega
    have := congrArg (fun l => l[i - (bodyOf time kd).length]?) e
    replace this : (tag ks ka.length ka (bodyOf time kd))[i - (bodyOf time kd).length]? = ((tag ks ka.length ka (bodyOf time kd)).set (i - (bodyOf time kd).length) v)[i - (bodyOf time kd).length]? := this
    rw [List.getElem?_set_self hl, List.getElem?_eq_getElem hl] at this
    refine hv ?_
    rw [show (tokOf ks ka kd time)[i] = (tag ks ka.length ka (bodyOf time kd))[i - (bodyOf time kd).length] from List.getElem_append_right (by omega)]
    exact (Option.some.inj this).symm
theorem chk_secret {i : Nat} {v : Int} (hs : ∀ x ∈ ks, 0 ≤ x ∧ x < 256) (hi : i < ks.length) (v0 : 0 ≤ v) (v1 : v < 256) (hv : v ≠ ks[i]) : chk (ks.set i v) ka (tokOf ks ka kd time) now life = none := by
  refine chk_tag ?_
  rw [tok_body, tok_tail]
  exact tag_key hi v0 v1 hs hv
theorem chk_address {i : Nat} {v : Int} (ha : ∀ x ∈ ka, 0 ≤ x ∧ x < 256) (hd : ∀ x ∈ kd, 0 ≤ x ∧ x < 256) (l : kd.length ≤ 20) (hi : i < ka.length) (v0 : 0 ≤ v) (v1 : v < 256) (hv : v ≠ ka[i]) : chk ks (ka.set i v) (tokOf ks ka kd time) now life = none := by
  refine chk_tag ?_
  rw [tok_body, tok_tail, List.length_set]
  exact tag_head hi v0 v1 ha (body_in hd l) hv
theorem chk_cut {n : Nat} (h : n < (tokOf ks ka kd time).length) : chk ks ka ((tokOf ks ka kd time).take n) now life = none := by
  have hl : ((tokOf ks ka kd time).take n).length = n := by rw [List.length_take]; omega
  unfold chk
  rw [hl]
  split
  · rfl
  · rename_i hn
    dsimp only
    refine if_pos (.inr (.inl ?_))
    have e : ((tokOf ks ka kd time).take n).getD 8 0 = kd.length := by
      rw [← tok_size (ks := ks) (ka := ka) (kd := kd) (time := time), List.getD_eq_getElem?_getD, List.getElem?_take_of_lt (by omega), ← List.getD_eq_getElem?_getD]
    rw [e, List.length_take, hl]
    rw [tokOf_length] at h
    omega
end
end Mine
end

section
open PySem PySem.W PyProof.Rows PySem.Calls PySem.Spec
namespace Mine
theorem in_of {b : Array UInt8} {ks : List Int} (h : KBw.bInts b = ks) : ∀ x ∈ ks, 0 ≤ x ∧ x < 256 := fun _ hx => KBw.ints_in (h ▸ hx)
theorem ne_get {ks : List Int} {i : Nat} {y : Int} (hi : i < ks.length) (h : ks[i]? ≠ some y) : y ≠ ks[i] := fun e => h (by rw [List.getElem?_eq_getElem hi, e])
section
variable {ks ka kd : List Int} {time now life y : Int} {i : Nat}
theorem chk_t1 (ha : ∀ x ∈ ka, 0 ≤ x ∧ x < 256) (hd : ∀ x ∈ kd, 0 ≤ x ∧ x < 256) (l : kd.length ≤ 20) (hi : i < (tokOf ks ka kd time).length) (v0 : 0 ≤ y) (v1 : y < 256) (hv : (tokOf ks ka kd time)[i]? ≠ some y) : chk ks ka ((tokOf ks ka kd time).set i y) now life = none :=
  chk_turned ha hd l hi v0 v1 (ne_get hi hv)
theorem chk_t2 (hs : ∀ x ∈ ks, 0 ≤ x ∧ x < 256) (hi : i < ks.length) (v0 : 0 ≤ y) (v1 : y < 256) (hv : ks[i]? ≠ some y) : chk (ks.set i y) ka (tokOf ks ka kd time) now life = none := chk_secret hs hi v0 v1 (ne_get hi hv)
theorem chk_t3 (ha : ∀ x ∈ ka, 0 ≤ x ∧ x < 256) (hd : ∀ x ∈ kd, 0 ≤ x ∧ x < 256) (l : kd.length ≤ 20) (hi : i < ka.length) (v0 : 0 ≤ y) (v1 : y < 256) (hv : ka[i]? ≠ some y) : chk ks (ka.set i y) (tokOf ks ka kd time) now life = none := chk_address ha hd l hi v0 v1 (ne_get hi hv)
theorem chk_t4 {n : Nat} {k : Int} (hn : n = (tokOf ks ka kd time).length) (h0 : 0 ≤ k) (h1 : k < (n : Int)) : chk ks ka ((tokOf ks ka kd time).take (clipAt n k)) now life = none := chk_cut (by rw [clip_of h0]; omega)
end
end Mine
end

section
open PySem PySem.W PyProof.Rows PySem.Calls PySem.Spec
open PyProof.Rows.LCg (NsObj lst lst_snoc ns_obj fr_but news_but)
set_option maxRecDepth 100000
set_option maxHeartbeats 0
namespace Mine
section
variable {M : Model} {A : Around} {E : Value → Shared → Prop} {s : Shared} {env : Env} {R : Result → Shared → Prop}
theorem codeC_loop {c : Code} (ok : okC c = true) (hq : c.quiet = true) (I : Nat → Shared → Prop)
    (turn : ∀ n s, I n s → wpC M (A.under c) (M.den c) (fun fin s' => match fin with | .done f => R (.ok f) s' | .again c' => c' = c ∧ ∃ m, m < n ∧ I m s') (fun e s' => R (.error e) s') s)
    (n : Nat) (h : I n s) : codeC M A c R s := by
  induction n using Nat.strongRecOn generalizing s with
  | ind n ih =>
    refine codeC_of_tree (C_mono (turn n s h) (fun fin s' hf => ?_) fun _ _ h' => h')
    cases fin with
    | done f => exact hf
    | again c' => obtain ⟨rfl, m, hm, hI⟩ := hf; exact ⟨hq, ok, ih m hm hI⟩
theorem C_ite {α : Type} {c : Prop} [Decidable c] {t u : Sem α} {Q : α → Shared → Prop} (h1 : c → wpC M A t Q E s) (h2 : ¬ c → wpC M A u Q E s) : wpC M A (if c then t else u) Q E s := by
  split
  · exact h1 (by assumption)
  · exact h2 (by assumption)
theorem C_standIf {α : Type} {c : Prop} [Decidable c] {pos : Pos} {k : PUnit → Sem α} {Q : α → Shared → Prop} (h : wpC M A (k ()) Q E s) :
    wpC M A (if c then (standAt pos >>= k) else k ()) Q E s := by
  split
  · exact C_bind (C_standAt h)
  · exact h
theorem C_comprehension {e : PySem.Expr} {scope : Scope} {pos : Pos} {newAcc first : Sem Value} {g : Comprehension} {gs : List Comprehension} {cl : List (PySem.Str × Addr)} {u : Value → Sem Unit} {Q : Value → Shared → Prop}
    (hcl : clausesOf e = g :: gs) (hs : ∀ x, foldedSetIterable g.iter env x = pure x) (hclos : closureFor scope env = pure cl)
    (hkind : scope.kind = .function) (hnames : ∀ x ∈ scope.names, x.2 = .local → scope.names.lookup x.1 = some .local)
    (h : wpAny M A first (fun x s₁ => wpAny M A (pyIter x) (fun it s₂ => wpAny M A newAcc (fun acc s₃ =>
      wpAny M A (newFunctionEnv scope env.globals cl [] env.qual none .none (some env)) (fun cenv s₄ =>
        codeC M A (.compStart e 0 it acc { cenv with scope := relabel scope env }) (fun r s' => match r with
          | .ok _ => wpAny M A (u acc) (fun _ s'' => ∃ m, s''.heap.Ns cenv.locals m ∧ ∀ h', Heap.SameBut cenv.locals s''.heap h' → Q .none { s'' with heap := h' }) E s'
          | .error _ => False) s₄) E s₃) E s₂) E s₁) E s) :
    wpC M A (comprehension e scope env pos newAcc false first (some u)) Q E s := by
  unfold comprehension
  rw [hclos, hcl]
  refine C_bind (C_then (C_any h) fun x s₁ h₁ => ?_)
  refine C_bind (C_standAt ?_)
  refine C_bind (C_eq (hs x) (C_pure ?_))
  refine C_bind (C_holding (C_then (C_any h₁) fun it s₂ h₂ => ?_))
  refine C_standIf ?_
  refine C_bind (C_then (C_any h₂) fun acc s₃ h₃ => ?_)
  refine C_bind (C_pure ?_)
  refine C_bind (C_then (C_any h₃) fun cenv s₄ h₄ => ?_)
  dsimp only
  have hv : ∀ x ∈ (scope.names.filter fun x => (x.2 == .local || x.2 == .cell) && x.1 != (".0" : PySem.Str)).reverse, x.2 = .local →
      Env.kindOf { cenv with scope := relabel scope env } x.1 = some .local := fun x hx hl => lookup_relabel_local (hnames x (List.mem_filter.mp (List.mem_reverse.mp hx)).1 hl)
  have hv' : ∀ x ∈ (scope.names.filter fun x => (x.2 == .local || x.2 == .cell) && x.1 != (".0" : PySem.Str)).reverse.drop 1 ++ (scope.names.filter fun x => (x.2 == .local || x.2 == .cell) && x.1 != (".0" : PySem.Str)).reverse.take 1,
      x.2 = .local → Env.kindOf { cenv with scope := relabel scope env } x.1 = some .local := fun x hx hl => by
    rcases List.mem_append.mp hx with h1 | h1
    · exact hv x (List.mem_of_mem_drop h1) hl
    · exact hv x (List.mem_of_mem_take h1) hl
  refine C_holding (C_bind (C_attempt (C_holding (C_run rfl (codeC_mono h₄ fun r s' hr => ?_)))))
  cases r with
  | ok f =>
    refine C_any (wpAny_bind (wpAny_rule (wpAny_bind (wpAny_holding (wpAny_mono hr (fun _ s'' hr' => ?_) fun _ _ h' => h')))))
    obtain ⟨m, hn, hr'⟩ := hr'
    exact wpAny_bind (wpAny_comp_letGo (cenv := { cenv with scope := relabel scope env }) hkind _ s'' m hv' hn fun h' m' _ hs' => wpAny_pure (hr' h' hs'))
  | error x => exact hr.elim
end
section
variable {prog : Program} {w : World} {A : Around} {E : Value → Shared → Prop} {s : Shared} {env : Env} {R : Result → Shared → Prop}
theorem codeC_compLoop {elt target iter : PySem.Expr} {scope : Scope} {pos : Pos} {it acc : Value} (I : Nat → Shared → Prop)
    (turn : ∀ n s, I n s → wpAny (model prog w) A (pyNext it) (fun r s₁ => match r with
      | none => R (.ok .next) s₁
      | some v => wpAny (model prog w) A (assign target env v) (fun _ s₂ => wpC (model prog w) A (eval elt env) (fun x s₃ =>
          wpAny (model prog w) A (call (.builtin "list.append") [acc, x]) (fun _ s₄ => ∃ m, m < n ∧ I m s₄) (fun _ _ => False) s₃) (fun _ _ => False) s₂) (fun _ _ => False) s₁) (fun _ _ => False) s)
    (n : Nat) (h : I n s) (ht : ∀ v, letOwnedTupleGo target it v = pure () := by intro _; rfl) :
    codeC (model prog w) A (.compLoop (.ListComp elt [⟨target, iter, [], 0⟩] scope pos) 0 it acc env) R s := by
  refine codeC_loop rfl rfl I (fun n s hI => ?_) n h
  show wpC _ A ((compTurn (.ListComp elt [⟨target, iter, [], 0⟩] scope pos) 0 it acc env).onRaise (fun x => do noteFrame x env; theTreesLotGoes x)) _ _ s
  refine C_onRaise ?_
  rw [compTurn_list1]
  refine C_bind (C_standAt (C_bind (C_then (C_any (turn n s hI)) (fun r s₁ h₁ => ?_))))
  cases r with
  | none => exact C_pure h₁
  | some v =>
    refine C_bind (C_eq (ht v) (C_pure ?_))
    exact C_bind (C_then (C_any h₁) fun _ s₂ h₂ => C_bind (C_bind (C_then h₂ fun x s₃ h₃ => C_bind (C_then (C_any h₃) fun _ s₄ h₄ => C_pure (C_pure ⟨rfl, h₄⟩)))))
theorem codeC_compStart {elt target iter : PySem.Expr} {ifs : List PySem.Expr} {rest : List Comprehension} {scope : Scope} {pos : Pos} {it acc : Value}
    (h0 : codeC (model prog w) A (.compLoop (.ListComp elt (⟨target, iter, ifs, 0⟩ :: rest) scope pos) 0 it acc env) R s)
    (h : wpAny (model prog w) A (pyIter it) (fun it' s' => codeC (model prog w) A (.compLoop (.ListComp elt (⟨target, iter, ifs, 0⟩ :: rest) scope pos) 0 it' acc env) R s') (fun _ _ => False) s) :
    codeC (model prog w) A (.compStart (.ListComp elt (⟨target, iter, ifs, 0⟩ :: rest) scope pos) 0 it acc env) R s := by
  refine codeC_of_tree ?_
  show wpC _ _ ((compStart (.ListComp elt (⟨target, iter, ifs, 0⟩ :: rest) scope pos) 0 it acc env).onRaise (fun x => do noteFrame x env; standAt theWindowsPlace)) _ _ s
  refine C_onRaise ?_
  unfold compStart
  show wpC _ _ (ask >>= _) _ _ s
  refine C_bind (C_any (wpAny_askSetting (C_ite (fun _ => ?_) fun _ => ?_)))
  · exact C_bind (C_pure (C_pure ⟨rfl, rfl, h0⟩))
  · refine C_bind (C_any (wpAny_rule ?_))
    show wpC _ _ (standAt iter.pos >>= _) _ _ s
    exact C_bind (C_standAt (C_bind (C_then (C_any h) (fun it' s' h' => C_pure ⟨rfl, rfl, h'⟩))))
end
end Mine
end

section
open PySem PySem.W PyProof.Rows PySem.Calls PySem.Spec
open PyProof.Rows.LCg (NsObj lst lst_snoc ns_obj fr_but news_but)
set_option maxRecDepth 100000
set_option maxHeartbeats 0
namespace Mine
section
variable {prog : Program} {w : World} {A : Around} {E : Value → Shared → Prop} {s : Shared} {env : Env} {h₀ : Heap} {m : PySem.Str → Option Value}
theorem C_Assign_comp {elt iter : PySem.Expr} {x y : PySem.Str} {px py : Pos} {scope : Scope} {cl : List (PySem.Str × Addr)} {pos spos : Pos} {Q : Flow → Shared → Prop} {V : Addr} {its : List Value} {kV : Nat} {news : List (Addr × Obj)} (G : Nat → Value → Prop)
    (hh : A.handled = none) (F : Fr h₀ env.locals s.heap m) (N : News h₀ env.locals s.heap news) (hm : (V, W.listOf its.toArray kV) ∈ news) (hsz : its.length ≤ 1000)
    (hsw : swapsWith (.ListComp elt [⟨.Name x px, iter, [], 0⟩] scope pos) (some (.Name y py)) spos.line env = pure true)
    (hclos : closureFor scope env = pure cl) (hcell : ∀ z ∈ scope.names, z.2 ≠ .cell) (hkind : scope.kind = .function)
    (hnames : ∀ z ∈ scope.names, z.2 = .local → scope.names.lookup z.1 = some .local) (hx : scope.names.lookup x = some .local)
    (hy : env.kindOf y = some .local) (hp : (env.scope.kind == .class || (env.scope.kind == .module && env.locals != env.globals)) = false)
    (hit : ∀ (Q' : Value → Shared → Prop), Q' (.ref V) s → wpAny (model prog w) A (eval iter env) Q' E s)
    (step : ∀ i v ys I oI C oC D m₂ h tk, its[i]? = some v → NsObj oC m₂ → m₂ x = some v → Fr h₀ env.locals h m → News h₀ env.locals h ((I, oI) :: (C, oC) :: (D, lst ys) :: news) →
      wpC (model prog w) A (eval elt (compEnvC scope cl C env)) (fun z s₂ => ∃ h' tk', s₂ = { s with heap := h', toks := tk' } ∧ Fr h₀ env.locals h' m ∧ News h₀ env.locals h' ((I, oI) :: (C, oC) :: (D, lst ys) :: news) ∧ G i z) (fun _ _ => False) { s with heap := h, toks := tk })
    (done : ∀ ys D h tk, ys.length = its.length → (∀ i z, ys[i]? = some z → G i z) → (∀ p ∈ news, p.1 ≠ D) → Fr h₀ env.locals h (fun z => if z = y then some (.ref D) else m z) → News h₀ env.locals h ((D, lst ys) :: news) → Q .next { s with heap := h, toks := tk })
    (hs : ∀ x, foldedSetIterable iter env x = pure x := by intro _; rfl) :
    wpC (model prog w) A (exec (.Assign [.Name y py] (.ListComp elt [⟨.Name x px, iter, [], 0⟩] scope pos) spos) env) Q E s := by
  rw [exec_Assign_Name_used _ _ _ _ hsw]
  refine C_bind (C_standAt (C_bind ?_))
  show wpC _ A (do let _ ← comprehension (.ListComp elt [⟨.Name x px, iter, [], 0⟩] scope pos) scope env _ (newList []) false (eval iter env) (some (assign (.Name y py) env))) _ _ s
  refine C_bind (C_then (C_comprehension (Q := fun _ s' => Q .next s') rfl hs hclos hkind hnames ?_) fun _ s' hq => C_pure (C_pure hq))
  have hl : s.heap.IsList V its.toArray := ⟨_, (N _ hm).1, rfl, _, rfl⟩
  have hVlt : V < s.heap.objs.size := Heap.lt_size (N _ hm).1
  refine hit _ (wpAny_pyIter_list hl ?_)
  refine wpAny_newObj_type (wpAny_newFunctionEnv hcell (by intro y hy; simp at hy) (fun h₁ hns₁ hsb₁ => ?_) hkind)
  dsimp only at hns₁ hsb₁ ⊢
  generalize hH1 : s.heap.push { cls := .type "list_iterator", data := .fields #[.ref V, .int 0 0] } = H1 at hns₁ hsb₁ ⊢
  generalize hH2 : H1.push { cls := .type "list", dict := none, data := .seq ([] : List Value).toArray } = H2 at hns₁ hsb₁ ⊢
  have zI : H1.objs.size = s.heap.objs.size + 1 := by rw [← hH1, Heap.size_push]
  have zC : H2.objs.size = s.heap.objs.size + 2 := by rw [← hH2, Heap.size_push, zI]
  have hID : s.heap.objs.size ≠ H1.objs.size := by omega
  have hIC : s.heap.objs.size ≠ H2.objs.size := by omega
  have hDC : H1.objs.size ≠ H2.objs.size := by omega
  have below : ∀ b, b < s.heap.objs.size → b ≠ s.heap.objs.size ∧ b ≠ H1.objs.size ∧ b ≠ H2.objs.size := fun b hb => ⟨Nat.ne_of_lt hb, by omega, by omega⟩
  have up1 : ∀ b o, s.heap.get? b = some o → H1.get? b = some o := fun b o e => hH1 ▸ Heap.get?_push_of_some _ e
  have up2 : ∀ b o, H1.get? b = some o → H2.get? b = some o := fun b o e => hH2 ▸ Heap.get?_push_of_some _ e
  have up3 : ∀ b o, b ≠ H2.objs.size → H2.get? b = some o → h₁.get? b = some o := fun b o hb e => hsb₁.extBut b o hb (Heap.get?_push_of_some _ e)
  have old : ∀ b o, s.heap.get? b = some o → h₁.get? b = some o := fun b o e => up3 b o (below b (Heap.lt_size e)).2.2 (up2 b o (up1 b o e))
  have hI1 : h₁.get? s.heap.objs.size = some { cls := .type "list_iterator", data := .fields #[.ref V, .int 0 0] } := up3 _ _ hIC (up2 _ _ (hH1 ▸ Heap.get?_push_size _ rfl))
  have hD1 : h₁.get? H1.objs.size = some (lst []) := up3 _ _ hDC (hH2 ▸ Heap.get?_push_size _ rfl)
  have fresh₀ : ∀ a, s.heap.objs.size ≤ a → h₀.get? a = none := fun a ha => by
    cases e : h₀.get? a with
    | none => rfl
    | some o' => exact absurd (Heap.lt_size (F.keep a o' e)) (Nat.not_lt.mpr ha)
  have hI₀ := fresh₀ _ (Nat.le_refl _)
  have hD₀ : h₀.get? H1.objs.size = none := fresh₀ _ (by omega)
  have hC₀ : h₀.get? H2.objs.size = none := fresh₀ _ (by omega)
  have hLlt : env.locals < s.heap.objs.size := F.ns.lt
  have hLI : env.locals ≠ s.heap.objs.size := (below _ hLlt).1
  have hDL : H1.objs.size ≠ env.locals := Ne.symm (below _ hLlt).2.1
  have hCL : H2.objs.size ≠ env.locals := Ne.symm (below _ hLlt).2.2
  have off : ∀ p ∈ news, p.1 ≠ s.heap.objs.size ∧ p.1 ≠ H1.objs.size ∧ p.1 ≠ H2.objs.size := fun p hp => below _ (Heap.lt_size (N p hp).1)
  have hVI : V ≠ s.heap.objs.size := (below _ hVlt).1
  have W := Walks.list (prog := prog) (w := w) hh s.heap.objs.size V hVI its.toArray
  have hsz2 : its.toArray.size = its.length := List.size_toArray
  have loop : ∀ s₃ : Shared, s₃ = { s with heap := h₁, toks := s.toks + ([] : List (PySem.Str × Value)).length } →
      codeC (model prog w) A (.compLoop (.ListComp elt [⟨.Name x px, iter, [], 0⟩] scope pos) 0 (.ref s.heap.objs.size) (.ref H1.objs.size) (compEnvC scope cl H2.objs.size env))
        (fun r s' => match r with
          | .ok _ => wpAny (model prog w) A (assign (.Name y py) env (.ref H1.objs.size)) (fun _ s'' => ∃ m, s''.heap.Ns H2.objs.size m ∧ ∀ h', Heap.SameBut H2.objs.size s''.heap h' → Q .next { s'' with heap := h' }) E s'
          | .error _ => False) s₃ := by
    rintro s₃ rfl
    refine codeC_compLoop
      (fun k s' => ∃ h' tk i ys m', s' = { s with heap := h', toks := tk } ∧ i ≤ its.length ∧ k = its.length + 1 - i ∧ ys.length = i ∧ (∀ j z, ys[j]? = some z → G j z) ∧ (h'.IsListIter s.heap.objs.size V i ∧ h'.IsList V its.toArray) ∧ Fr h₀ env.locals h' m ∧ h'.Ns H2.objs.size m' ∧ News h₀ env.locals h' ((H1.objs.size, lst ys) :: news)) ?_ (its.length + 1)
      ⟨h₁, _, 0, [], _, rfl, Nat.zero_le _, rfl, rfl, fun j z e => by simp at e, ⟨⟨_, hI1, rfl, rfl⟩, hl.at fun o e => old _ o e⟩, F.keeps old, hns₁, fun p hp => ?_⟩
    · rintro k s' ⟨h', tk, i, ys, m', rfl, hi, rfl, hyl, hG, hst, F', hn', N'⟩
      by_cases hlt : i < its.length
      · refine W.item i _ _ _ (by rw [hsz2]; exact hlt) hst fun v h₂ tk₂ hPv hst₂ hk₂ => ?_
        refine wpAny_assign_Name (wpAny_storeName_local (lookup_relabel_local hx) (hn'.at' fun o e => hk₂ _ o (by simpa using Ne.symm hIC) e) (fun h₃ hn₃ hs₃ => ?_) (by simp [compEnvC, relabel, hkind]))
        obtain ⟨oI, heI⟩ : ∃ o, h₃.get? s.heap.objs.size = some o := by
          obtain ⟨o, e, _⟩ := hst₂.1
          exact ⟨o, hs₃.extBut _ _ hIC e⟩
        have hst₃ : h₃.IsListIter s.heap.objs.size V (i + 1) := hst₂.1.at fun o e => hs₃.extBut _ _ hIC e
        obtain ⟨oC, heC, hoC⟩ := ns_obj hn₃
        have F₃ : Fr h₀ env.locals h₃ m := (fr_but F' hk₂ hLI hI₀).change hs₃ hCL hC₀
        have N₂ : News h₀ env.locals h₂ ((H1.objs.size, lst ys) :: news) := news_but N' hk₂ fun p hp => by
          rcases List.mem_cons.mp hp with rfl | hp
          · exact Ne.symm hID
          · exact (off p hp).1
        have N₃ : News h₀ env.locals h₃ ((s.heap.objs.size, oI) :: (H2.objs.size, oC) :: (H1.objs.size, lst ys) :: news) := fun p hp => by
          rcases List.mem_cons.mp hp with rfl | hp
          · exact ⟨heI, Ne.symm hLI, hI₀⟩
          · rcases List.mem_cons.mp hp with rfl | hp
            · exact ⟨heC, hCL, hC₀⟩
            · have z := N₂ p hp
              refine ⟨hs₃.extBut _ _ ?_ z.1, z.2⟩
              rcases List.mem_cons.mp hp with rfl | hp
              · exact hDC
              · exact (off p hp).2.2
        refine C_then (step i v ys s.heap.objs.size oI H2.objs.size oC H1.objs.size _ h₃ _ (by simpa using hPv) hoC (by simp) F₃ N₃) (fun z s₄ h₄ => ?_)
        obtain ⟨h₄, tk₄, rfl, F₄, N₄, hGz⟩ := h₄
        have yI := (N₄ _ List.mem_cons_self).1
        have yC := (N₄ _ (List.mem_cons_of_mem _ List.mem_cons_self)).1
        have yD := (N₄ _ (List.mem_cons_of_mem _ (List.mem_cons_of_mem _ List.mem_cons_self))).1
        have N₄' : News h₀ env.locals h₄ news := fun p hp => N₄ p (List.mem_cons_of_mem _ (List.mem_cons_of_mem _ (List.mem_cons_of_mem _ hp)))
        refine append_at (hsz := by rw [List.size_toArray, hyl, PySem.sizeLine_eq]; omega) yD fun h₅ hs₅ hD₅ => ?_
        refine ⟨its.length + 1 - (i + 1), by omega, h₅, tk₄, i + 1, ys ++ [z], _, rfl, hlt, rfl, by rw [List.length_append, List.length_singleton, hyl], fun j z' e => ?_, ⟨?_, ?_⟩, F₄.change hs₅ hDL hD₀, (hoC.ns yC).sameBut hs₅ (Ne.symm hDC), fun p hp => ?_⟩
        · rw [List.getElem?_append] at e
          split at e
          · exact hG j z' e
          · rename_i hj
            have : j = i := by
              by_cases hji : j - ys.length = 0
              · omega
              · rw [List.getElem?_eq_none (by simp; omega)] at e; cases e
            subst this
            rw [hyl, Nat.sub_self] at e
            cases e
            exact hGz
        · obtain ⟨o, q, r⟩ := hst₃
          rw [heI] at q; cases q
          exact ⟨oI, hs₅.extBut _ _ hID yI, r⟩
        · exact ⟨_, hs₅.extBut _ _ (fun e => (off _ hm).2.1 e) (N₄' _ hm).1, rfl, _, rfl⟩
        · rcases List.mem_cons.mp hp with rfl | hp
          · exact ⟨hD₅.trans (congrArg some (lst_snoc ys z)), hDL, hD₀⟩
          · exact ⟨hs₅.extBut _ _ (off p hp).2.1 (N₄' p hp).1, (N₄' p hp).2⟩
      · obtain rfl : i = its.length := Nat.le_antisymm hi (Nat.not_lt.mp hlt)
        refine W.done _ _ _ (by rw [hsz2]; exact hst) fun h₂ tk₂ hk₂ => ?_
        have F₂ := fr_but F' hk₂ hLI hI₀
        have N₂ : News h₀ env.locals h₂ ((H1.objs.size, lst ys) :: news) := news_but N' hk₂ fun p hp => by
          rcases List.mem_cons.mp hp with rfl | hp
          · exact Ne.symm hID
          · exact (off p hp).1
        have hn₂ : h₂.Ns H2.objs.size m' := hn'.at' fun o e => hk₂ _ o (by simpa using Ne.symm hIC) e
        show wpAny _ A (assign (.Name y py) env (.ref H1.objs.size)) _ _ _
        refine wpAny_assign_Name (wpAny_storeName_local hy F₂.ns (fun h₃ hn₃ hs₃ => ?_) hp)
        have hL₀ : h₀.get? env.locals = none := Heap.get?_none_of_le F₂.above
        have F₃ : Fr h₀ env.locals h₃ (fun z => if z = y then some (.ref H1.objs.size) else m z) := ⟨hn₃, fun b o e => hs₃.extBut b o (fun q => by rw [q, hL₀] at e; cases e) (F₂.keep b o e), F₂.above⟩
        refine ⟨m', hn₂.sameBut hs₃ hCL, fun h'' hs'' => done ys _ h'' _ hyl hG (fun p hp => (off p hp).2.1) (F₃.change hs'' hCL hC₀) fun p hp => ?_⟩
        have z : h₃.get? p.1 = some p.2 := hs₃.extBut _ _ (N₂ p hp).2.1 (N₂ p hp).1
        refine ⟨hs''.extBut _ _ ?_ z, (N₂ p hp).2⟩
        rcases List.mem_cons.mp hp with rfl | hp
        · exact hDC
        · exact (off p hp).2.2
    · rcases List.mem_cons.mp hp with rfl | hp
      · exact ⟨hD1, hDL, hD₀⟩
      · exact ⟨old _ _ (N p hp).1, (N p hp).2⟩
  exact codeC_compStart (loop _ rfl) (W.self 0 _ _ _ ⟨⟨_, hI1, rfl, rfl⟩, hl.at fun o e => old _ o e⟩ (loop _ rfl))
end
end Mine
end

section
open PySem PySem.W PyProof.Rows PySem.Calls PySem.Spec
set_option maxRecDepth 100000
set_option maxHeartbeats 0
namespace Mine
theorem slot_join : Slot "bytes" "join" "bytes.join" :=
  .of (owner := "bytes") (n := "join") (by rw [typeLookup_type, builtinLookup_eq_fast]; kernel_rfl) (by decide +kernel) (by decide +kernel) (by decide +kernel)
    (by first | exact .inl (by decide +kernel) | exact .inr (by decide +kernel)) (by rw [isSubtype_type]; kernel_rfl)
theorem type_join : typeOf (.builtin "bytes.join") = pure (.type "method_descriptor") := by show builtinType _ = _; rw [builtinType_eq_fast]; kernel_rfl
theorem entry_join : entryFor table "bytes.join" = some Builtin.«bytes.join» := entryFor_of_tree (by kernel_rfl)
theorem args_join (a b : Value) : argsOk "bytes.join" ⟨[a, b], []⟩ := by unfold argsOk; kernel_rfl
section
variable {prog : Program} {w : World} {A : Around} {E : Value → Shared → Prop} {s : Shared}
theorem join_method {b : Array UInt8} {t : Tok} {pl : Sem Bool} {Q : Value × List Value → Shared → Prop} (h : Q (.builtin "bytes.join", [.bytes b t]) s) :
    wpAny (model prog w) A (getMethod (.bytes b t) (PySem.Str.ofString "join") pl) Q E s :=
  getMethod_builtin (typeIs_bytes s b t) FB.plainAttrs_bytes slot_join type_join (fun a e => by cases e) h
end
end Mine
end

section
open PySem PySem.W PyProof.Rows PySem.Calls PySem.Spec
set_option maxRecDepth 100000
set_option maxHeartbeats 0
namespace Mine
theorem jm_ne {α : Type} (xs : Array Value) (h1 : Value → α) (h2 : Array Value → α) (h : xs.size ≠ 1) :
    PySem.Builtin.Bytes.joinM.match_1 (fun _ => α) xs h1 h2 = h2 xs := by
  unfold PySem.Builtin.Bytes.joinM.match_1
  rw [dif_neg h]
theorem jm_one {α : Type} (x : Value) (h1 : Value → α) (h2 : Array Value → α) :
    PySem.Builtin.Bytes.joinM.match_1 (fun _ => α) #[x] h1 h2 = h1 x := rfl
theorem buffer_any {id : String} {b : Array UInt8} {t : Tok} {full : Bool} : Builtin.Bytes.buffer? id (.bytes b t) full = pure (some b) := by
  unfold Builtin.Bytes.buffer?
  rw [KBy.special_eq KBy.look_buffer, KBy.own_buffer, KBy.own_release]
  kernel_rfl
theorem take_any {id : String} {b : Array UInt8} {t : Tok} : Builtin.Bytes.takeBufferQuiet? id (.bytes b t) 0 = pure (some (b, none)) := by
  unfold Builtin.Bytes.takeBufferQuiet? Builtin.Bytes.takeBuffer?
  rw [KBy.special_eq KBy.look_buffer, KBy.own_buffer, buffer_any]
  kernel_rfl
theorem sum_le : ∀ {l : List (Array UInt8)} {a : Nat}, (∀ b ∈ l, b.size ≤ 1000) → l.foldl (fun x y => x + y.size) a ≤ a + 1000 * l.length
  | [], a, _ => by simp
  | b :: l, a, h => by
    have h1 := h b (List.mem_cons_self ..)
    have h2 := sum_le (l := l) (a := a + b.size) fun c hc => h c (List.mem_cons_of_mem _ hc)
    rw [List.foldl_cons, List.length_cons]; omega
theorem join_fold : ∀ (l : List (Array UInt8)) (n : Nat) (acc : Array UInt8), (l.zipIdx n).foldl (fun out (p, i) => (if i > 0 then out ++ #[] else out) ++ p) acc = l.foldl (fun x y => x ++ y) acc
  | [], _, _ => rfl
  | b :: l, n, acc => by
    rw [List.zipIdx_cons, List.foldl_cons, join_fold l (n + 1), List.foldl_cons]
    dsimp only
    split <;> simp
theorem joined_eq (l : List (Array UInt8)) : Builtin.Bytes.joined #[] l = l.foldl (fun x y => x ++ y) #[] := join_fold l 0 #[]
theorem fold_size : ∀ (l : List (Array UInt8)) (acc : Array UInt8), (l.foldl (fun x y => x ++ y) acc).size = l.foldl (fun x y => x + y.size) acc.size
  | [], _ => rfl
  | b :: l, acc => by rw [List.foldl_cons, List.foldl_cons, fold_size l, Array.size_append]
theorem joined_size (l : List (Array UInt8)) : (Builtin.Bytes.joined #[] l).size = l.foldl (fun x y => x + y.size) 0 := by rw [joined_eq, fold_size]; rfl
theorem fold_ints : ∀ (l : List (Array UInt8)) (acc : Array UInt8), KBw.bInts (l.foldl (fun x y => x ++ y) acc) = KBw.bInts acc ++ l.flatMap KBw.bInts
  | [], _ => by simp
  | b :: l, acc => by rw [List.foldl_cons, fold_ints l, KBw.ints_app rfl rfl, List.flatMap_cons, List.append_assoc]
theorem joined_ints (l : List (Array UInt8)) : KBw.bInts (Builtin.Bytes.joined #[] l) = l.flatMap KBw.bInts := by rw [joined_eq, fold_ints]; rfl
section
variable {M : Model} {A : Around} {E : Value → Shared → Prop} {s : Shared}
theorem letgo_all : ∀ (ps : List (Array UInt8 × Tok)) (keep : List Value) {Q : Unit → Shared → Prop}, Q () s → wpAny M A (Builtin.Bytes.joinLetGo (ps.map fun p => (Value.bytes p.1 p.2, none)) keep) Q E s
  | [], keep, Q, h => wpAny_pure h
  | p :: ps, keep, Q, h => by
    rw [List.map_cons]
    unfold Builtin.Bytes.joinLetGo
    dsimp only
    exact wpAny_bind (wpAny_letGo (letgo_all ps keep h))
end
section
variable {prog : Program} {w : World} {A : Around} {E : Value → Shared → Prop} {s : Shared}
theorem join_call {D : Addr} {ps : List (Array UInt8 × Tok)} {k : Nat} {t : Tok} {Q : Value → Shared → Prop} (hD : s.heap.get? D = some { cls := .type "list", data := .seq (ps.map fun p => Value.bytes p.1 p.2).toArray k }) (hz : ps.length ≤ 1000) (hp : ∀ p ∈ ps, p.1.size ≤ 1000)
    (hQ : ∀ t' k', Q (.bytes (Builtin.Bytes.joined #[] (ps.map (·.1))) t') { s with toks := k' }) : wpAny (model prog w) A (call (.builtin "bytes.join") [.bytes #[] t, .ref D]) Q E s := by
  refine wpAny_call_entry slot_join (typeIs_bytes s _ _) entry_join ?_ (args_join _ _)
  unfold Builtin.«bytes.join» Builtin.Bytes.joinM
  refine wpAny_bind (wpAny_of_eq (a := (.bytes #[] t, .ref D)) rfl ?_)
  dsimp only
  rw [show (Builtin.Bytes.Kind.bytes == Builtin.Bytes.Kind.bytes) = true from rfl, show (Builtin.Bytes.Kind.bytes == Builtin.Bytes.Kind.bytearray) = false from rfl]
  refine wpAny_bind ?_
  unfold Builtin.Bytes.joinItems
  refine wpAny_bind (wpAny_typeOf (T := "list") ⟨_, hD, rfl⟩ ?_)
  refine bm_if_true (by rfl) (wpAny_pure ?_)
  refine wpAny_bind ?_
  have hq : ∀ {R : Option (Array Value) → Shared → Prop}, R (some (ps.map fun p => Value.bytes p.1 p.2).toArray) s → wpAny (model prog w) A.in1 (seqItems? (.ref D)) R E s := fun h => by
    unfold seqItems?
    exact wpAny_bind (wpAny_load hD (wpAny_pure h))
  refine hq ?_
  dsimp only
  rw [if_pos rfl]
  by_cases h1 : ps.length = 1
  · obtain ⟨p, rfl⟩ : ∃ p, ps = [p] := List.length_eq_one_iff.1 h1
    rw [show (List.map (fun p : Array UInt8 × Tok => Value.bytes p.1 p.2) [p]).toArray = #[Value.bytes p.1 p.2] from rfl, jm_one]
    refine wpAny_bind (wpAny_typeOf (T := "bytes") (typeIs_bytes s _ _) ?_)
    refine bm_if_true (by rfl) ?_
    refine wpAny_bind (wpAny_rule ?_)
    refine wpAny_pure ⟨_, rfl, ?_⟩
    have := hQ p.2 s.toks
    simpa [Builtin.Bytes.joined] using this
  · rw [jm_ne _ _ _ (by simpa using h1)]
    refine wpAny_bind ?_
    rw [KPc.range_list]
    refine wpAny_forIn_list _ (fun l b s' => s' = s ∧ ∃ n, n ≤ ps.length ∧ l = List.range' n (ps.length - n) 1 ∧ b.1 = ((ps.take n).map (·.1)).toArray ∧ b.2 = (ps.take n).map fun p => (Value.bytes p.1 p.2, none)) _ ?_ ?_ _ _ ?_
    · rintro i rest ⟨b1, b2⟩ s' ⟨hs, n, hn, hl, e1, e2⟩
      replace hs := hs.symm
      subst hs
      dsimp only at e1 e2 ⊢
      subst e1 e2
      have hlt : n < ps.length := by
        rcases Nat.lt_or_ge n ps.length with h | h
        · exact h
        · rw [show ps.length - n = 0 by omega] at hl; cases hl
      obtain ⟨j, hj⟩ : ∃ j, ps.length - n = j + 1 := ⟨ps.length - n - 1, by omega⟩
      rw [hj, List.range'_succ] at hl
      obtain ⟨rfl, rfl⟩ := List.cons.inj hl
      refine wpAny_bind (hq ?_)
      dsimp only
      refine bm_if_false (by rw [Bool.false_or, List.any_map, List.any_eq_false]; intro x _; simp [Value.onHeap]) ?_
      have hx : (List.map (fun p : Array UInt8 × Tok => Value.bytes p.1 p.2) ps).toArray.getD i Value.none = Value.bytes ps[i].1 ps[i].2 := by
        simp [hlt]
      rw [hx]
      refine wpAny_bind (wpAny_holding (wpAny_of_eq take_any ?_))
      dsimp only
      refine wpAny_bind (hq ?_)
      dsimp only
      refine bm_if_false (by simp) ?_
      refine wpAny_pure ⟨rfl, i + 1, hlt, by rw [show ps.length - (i + 1) = j by omega], ?_, ?_⟩
      · rw [List.take_add_one, List.getElem?_eq_getElem hlt, List.map_append, List.push_toArray]; rfl
      · rw [List.take_add_one, List.getElem?_eq_getElem hlt, List.map_append]; rfl
    · rintro ⟨b1, b2⟩ s' ⟨hs, n, hn, hl, e1, e2⟩
      replace hs := hs.symm
      subst hs
      dsimp only at e1 e2 ⊢
      subst e1 e2
      have hn' : n = ps.length := by
        rcases Nat.lt_or_ge n ps.length with h | h
        · obtain ⟨j, hj⟩ : ∃ j, ps.length - n = j + 1 := ⟨ps.length - n - 1, by omega⟩
          rw [hj, List.range'_succ] at hl; cases hl
        · omega
      subst hn'
      rw [List.take_length]
      refine wpAny_bind (wpAny_of_eq (a := #[]) rfl ?_)
      have hl1 := sum_le (l := ps.map (·.1)) (a := 0) (fun b hb => by obtain ⟨p, hp1, rfl⟩ := List.mem_map.1 hb; exact hp p hp1)
      rw [List.length_map] at hl1
      refine bm_if_false ?_ ?_
      · refine KBy.tooLong_not ?_
        rw [List.foldl_toArray]
        show List.foldl _ (0 * _) _ ≤ _
        rw [Nat.zero_mul]; omega
      refine wpAny_bind ?_
      show wpAny _ _ (mkBytes (Builtin.Bytes.joined #[] (ps.map (·.1)))) _ _ _
      refine wpAny_mkBytes ?_ (by rw [joined_size, PySem.sizeLine_eq]; omega)
      refine wpAny_bind (wpAny_holding (wpAny_point ?_))
      exact wpAny_bind (letgo_all _ _ (wpAny_pure ⟨_, rfl, hQ _ _⟩))
    · exact ⟨rfl, 0, Nat.zero_le _, by simp, rfl, rfl⟩
end
end Mine
end

section
open PySem PySem.W PyProof.Rows PySem.Calls PySem.Spec
set_option maxRecDepth 100000
set_option maxHeartbeats 0
namespace Mine
theorem flat_at : ∀ (vers : List Int) (k : Nat), k < vers.length → (vers.flatMap (be · 4)).drop (4 * k) = be (vers.getD k 0) 4 ++ (vers.drop (k + 1)).flatMap (be · 4)
  | [], _, h => by simp at h
  | v :: vs, 0, _ => rfl
  | v :: vs, k + 1, h => by
    rw [List.flatMap_cons, show 4 * (k + 1) = (be v 4).length + 4 * k by rw [be_length]; omega, ← List.drop_drop, List.drop_left, flat_at vs k (by simpa using h)]
    rfl
theorem vers_at {kz vers : List Int} {at_ : Int} {k : Nat} (h0 : 0 ≤ at_) (h1 : kz.drop at_.toNat = vers.flatMap (be · 4)) (hv : ∀ n ∈ vers, 0 ≤ n ∧ n < 4294967296) (hk : k < vers.length) :
    unbe (List.take 4 (List.drop (at_ + 4 * (k : Int)).toNat kz)) = vers.getD k 0 := by
  rw [show (at_ + 4 * (k : Int)).toNat = at_.toNat + 4 * k by omega, ← List.drop_drop, h1, flat_at vers k hk, List.take_append_of_le_length (by rw [be_length]; exact Nat.le_refl _), List.take_of_length_le (by rw [be_length]; exact Nat.le_refl _)]
  have hm : vers.getD k 0 ∈ vers := by rw [List.getD_eq_getElem?_getD, List.getElem?_eq_getElem hk]; exact List.getElem_mem hk
  exact unbe_be (hv _ hm).1 (hv _ hm).2
theorem ints_snoc {vs : List Value} {vers : List Int} {k : Nat} {t : Tok} (h : IntsAre vs (vers.take k)) (hk : k < vers.length) : IntsAre (vs ++ [.int (vers.getD k 0) t]) (vers.take (k + 1)) := by
  rw [List.take_add_one, List.getElem?_eq_getElem hk]
  have e : vers.getD k 0 = vers[k] := by rw [List.getD_eq_getElem?_getD, List.getElem?_eq_getElem hk]; rfl
  rw [e]
  exact IntsAre.append h (.cons _ t .nil)
theorem drop_2of4 {h₀ h : Heap} {L : Addr} {a b c d : Addr × Obj} {news : List (Addr × Obj)} (N : News h₀ L h (a :: b :: c :: d :: news)) : News h₀ L h (b :: news) := fun p hp => N p (by
  rcases List.mem_cons.mp hp with rfl | hp
  · exact .tail _ (.head _)
  · exact .tail _ (.tail _ (.tail _ (.tail _ hp))))
def RvEnd (h₀ : Heap) (L : Addr) (m : PySem.Str → Option Value) (s : Shared) (led : List Value → Int → Tok → Nat → List (Addr × Obj)) (at_ : Int) (vers : List Int) (k : Nat) (f : Flow) (s₃ : Shared) : Prop :=
  f = .next ∧ ∃ h' tk' vs t c, s₃ = { s with heap := h', toks := tk' } ∧ Fr h₀ L h' m ∧ News h₀ L h' (led vs (at_ + 4 * ((k : Int) + 1)) t c) ∧ IntsAre vs (vers.take (k + 1))
theorem RvEnd.intro {h₀ h' : Heap} {L : Addr} {m : PySem.Str → Option Value} {s : Shared} {T l X d : Addr} {oT oX : Obj} {e1 : DictEntry} {hh : Int} {kk : Value} {nn : Nat} {news : List (Addr × Obj)} {at_ : Int} {vers : List Int} {k tk' : Nat} {vs : List Value} {x : Int} {t t2 : Tok} {c : Nat}
    (F : Fr h₀ L h' m) (N : News h₀ L h' ((T, oT) :: (l, W.listOf (vs.toArray.push (.int x t)) c) :: (X, oX) :: (d, dictOf [e1, { hash := hh, key := kk, val := .int (at_ + 4 * (k : Int) + 4) t2 }] nn) :: news)) (hx : x = vers.getD k 0) (hi : IntsAre vs (vers.take k)) (hk : k < vers.length) :
    RvEnd h₀ L m s (fun vs a t c => (T, oT) :: (l, W.listOf vs.toArray c) :: (X, oX) :: (d, dictOf [e1, { hash := hh, key := kk, val := .int a t }] nn) :: news) at_ vers k .next { s with heap := h', toks := tk' } := by
  refine ⟨rfl, h', tk', vs ++ [.int x t], t2, c, rfl, F, ?_, ?_⟩
  · rw [show at_ + 4 * ((k : Int) + 1) = at_ + 4 * (k : Int) + 4 by omega]
    dsimp only
    rw [← List.push_toArray]
    exact N
  · rw [hx]
    exact ints_snoc hi hk
section
variable {prog : Program} {w : World} {A : Around} {E : Value → Shared → Prop} {Q : Flow → Shared → Prop} {s : Shared} {env : Env} {h₀ : Heap} {L : Addr}
theorem while_read {test : PySem.Expr} {body : List Stmt} {pos : Pos} {m : PySem.Str → Option Value} {T l X d : Addr} {oT oX : Obj} {e1 : DictEntry} {hh : Int} {kk : Value} {c0 nn : Nat} {at_ : Int} {t0 : Tok} {news : List (Addr × Obj)} (vers : List Int)
    (F : Fr h₀ L s.heap m) (N : News h₀ L s.heap ((T, oT) :: (l, W.listOf #[] c0) :: (X, oX) :: (d, dictOf [e1, { hash := hh, key := kk, val := .int at_ t0 }] nn) :: news))
    (turn : ∀ (k : Nat) vs t c h tk, k ≤ vers.length → vs.length = k → IntsAre vs (vers.take k) → Fr h₀ L h m → News h₀ L h ((T, oT) :: (l, W.listOf vs.toArray c) :: (X, oX) :: (d, dictOf [e1, { hash := hh, key := kk, val := .int (at_ + 4 * (k : Int)) t }] nn) :: news) →
      wpAny (model prog w) A (isTrue test env (eval test env)) (fun b s₂ =>
        if b = true then k < vers.length ∧ wpAny (model prog w) A (execs body env) (RvEnd h₀ L m s (fun vs a t c => (T, oT) :: (l, W.listOf vs.toArray c) :: (X, oX) :: (d, dictOf [e1, { hash := hh, key := kk, val := .int a t }] nn) :: news) at_ vers k) E s₂ else Q .next s₂) E { s with heap := h, toks := tk })
    (hE : PassesOwn (model prog w) A env E := by passes_own) :
    wpAny (model prog w) A (exec (.While test body [] pos) env) Q E s := by
  refine While_inv2 (n₀ := vers.length) (fun n m₁ nx => m₁ = m ∧ ∃ (k : Nat) (vs : List Value) (t : Tok) (c : Nat), k + n = vers.length ∧ IntsAre vs (vers.take k) ∧ nx = (T, oT) :: (l, W.listOf vs.toArray c) :: (X, oX) :: (d, dictOf [e1, { hash := hh, key := kk, val := .int (at_ + 4 * (k : Int)) t }] nn) :: news) F N
    ⟨rfl, 0, [], t0, c0, by omega, .nil, by rw [show at_ + 4 * ((0 : Nat) : Int) = at_ by omega]⟩ ?_ hE
  rintro n m₁ nx h tk F₁ N₁ ⟨rfl, k, vs, t, c, hk, hi, rfl⟩
  refine wpAny_mono (turn k vs t c h tk (by omega) (by rw [hi.length, List.length_take]; omega) hi F₁ N₁) (fun b s₂ p => ?_) fun _ _ x => x
  cases b with
  | false => simpa using p
  | true =>
    simp only [if_true] at p ⊢
    refine wpAny_mono p.2 (fun f s₃ q => ?_) fun _ _ x => x
    obtain ⟨rfl, h', tk', vs', t', c', rfl, F', N', hi'⟩ := q
    exact ⟨h', tk', _, _, n - 1, rfl, F', N', by omega, rfl, k + 1, vs', t', c', by omega, hi', by rw [show at_ + 4 * ((k : Int) + 1) = at_ + 4 * ((k + 1 : Nat) : Int) by omega]⟩
end
end Mine
end

section
open PySem PySem.W PyProof.Rows PySem.Calls PySem.Spec
set_option maxRecDepth 100000
set_option maxHeartbeats 0
namespace Mine
section
variable {h₀ h : Heap} {L : Addr} {a b c d e f : Addr × Obj} {news : List (Addr × Obj)}
theorem pick_34of5 (N : News h₀ L h (a :: b :: c :: d :: e :: news)) : News h₀ L h (c :: d :: news) := fun p hp => N p (by
  rcases List.mem_cons.mp hp with rfl | hp
  · exact .tail _ (.tail _ (.head _))
  rcases List.mem_cons.mp hp with rfl | hp
  · exact .tail _ (.tail _ (.tail _ (.head _)))
  · exact .tail _ (.tail _ (.tail _ (.tail _ (.tail _ hp)))))
theorem pick_45of6 (N : News h₀ L h (a :: b :: c :: d :: e :: f :: news)) : News h₀ L h (d :: e :: news) := pick_34of5 fun p hp => N p (.tail _ hp)
theorem pick_145of6 (N : News h₀ L h (a :: b :: c :: d :: e :: f :: news)) : News h₀ L h (a :: d :: e :: news) := fun p hp => by
  rcases List.mem_cons.mp hp with rfl | hp
  · exact N _ (.head _)
  · exact pick_45of6 N p hp
end
theorem neg_drop {kz kd ks vers : List Int} {first : Int} (e : kz = [first] ++ be 0 4 ++ idsOf kd ks ++ vers.flatMap (be · 4)) {a : Int} (h : a = 7 + kd.length + ks.length) : kz.drop a.toNat = vers.flatMap (be · 4) := by
  have hl : ([first] ++ be 0 4 ++ idsOf kd ks).length = a.toNat := by simp only [List.length_append, List.length_cons, List.length_nil, be_length, idsOf_length]; omega
  rw [e, ← hl, List.drop_left]
theorem retry_token {kz kd ks kt kg : List Int} {first : Int} (e : kz = [first] ++ be 1 4 ++ idsOf kd ks ++ (kt ++ kg)) (hg : kg.length = 16) {lo : Int} (h1 : lo = 7 + kd.length + ks.length) :
    List.take (clipAt kz.length ((kz.length : Int) - 16) - clipAt kz.length lo) (List.drop (clipAt kz.length lo) kz) = kt := by
  have hl : ([first] ++ be 1 4 ++ idsOf kd ks).length = 7 + kd.length + ks.length := by simp only [List.length_append, List.length_cons, List.length_nil, be_length, idsOf_length]; omega
  have hz : kz.length = 7 + kd.length + ks.length + kt.length + 16 := by rw [e, List.length_append, hl, List.length_append, hg]; omega
  exact slice_mid (A := [first] ++ be 1 4 ++ idsOf kd ks) (M := kt) (R := kg) (by rw [e]; exact (List.append_assoc _ kt kg).symm) (by rw [hl]; omega) (by rw [hl]; omega)
theorem retry_tail {kz kd ks kt kg : List Int} {first : Int} (e : kz = [first] ++ be 1 4 ++ idsOf kd ks ++ (kt ++ kg)) (hg : kg.length = 16) :
    List.take (kz.length - clipAt kz.length ((kz.length : Int) - 16)) (List.drop (clipAt kz.length ((kz.length : Int) - 16)) kz) = kg := by
  have hl : ([first] ++ be 1 4 ++ idsOf kd ks ++ kt).length = 7 + kd.length + ks.length + kt.length := by simp only [List.length_append, List.length_cons, List.length_nil, be_length, idsOf_length]; omega
  have e' : kz = [first] ++ be 1 4 ++ idsOf kd ks ++ kt ++ kg := by rw [e]; exact (List.append_assoc _ kt kg).symm
  have hz : kz.length = 7 + kd.length + ks.length + kt.length + 16 := by rw [e', List.length_append, hl, hg]
  rw [clip_of (by omega), show min ((kz.length : Int) - 16).toNat kz.length = ([first] ++ be 1 4 ++ idsOf kd ks ++ kt).length by rw [hl]; omega]
  conv => lhs; arg 2; rw [e', List.drop_left]
  exact List.take_of_length_le (by rw [hl]; omega)
theorem strs_item3 {prog : Program} {w : World} {A : Around} {E : Value → Shared → Prop} {s : Shared} {h₀ : Heap} {L D : Addr} {m : PySem.Str → Option Value} {K : Frag} {value slice : PySem.Expr} {a b c d : PySem.Str} {t1 t2 t3 t4 u : Tok} {n : Nat} {k : Int} {Q : Value → Shared → Prop} (X : K.In h₀) (F : Fr h₀ L s.heap m) (ho : K.lookup D = some ⟨.type "list", none, .seq [.str a t1, .str b t2, .str c t3, .str d t4].toArray n, #[]⟩)
    (hk : k = 3) (h : Q (.str d t4) s) (hs : subscripted slice false (.ref D) (.int k u) = operate [.ref D, .int k u] (getItem (.ref D) (.int k u)) := by with_unfolding_all rfl) :
    wpAny (model prog w) A (subscriptTail value slice (.ref D) (.int k u)) Q E s := by
  subst hk
  have hl : s.heap.IsList D [Value.str a t1, Value.str b t2, Value.str c t3, Value.str d t4].toArray := ⟨_, F.keep _ _ (X _ _ ho), rfl, _, rfl⟩
  exact tail_any hl.typeIs slot_list_getitem.lookup (wpAny_getItem_list (k := 3) hl (by decide) (by decide) rfl h) hs
end Mine
end

section
open PySem PySem.W PyProof.Rows PySem.Calls PySem.Spec
set_option maxRecDepth 100000
set_option maxHeartbeats 0
namespace Mine
section
variable {prog : Program} {w : World} {A : Around} {E : Value → Shared → Prop} {s : Shared} {env : Env} {h₀ : Heap} {x : PySem.Str} {body : List Stmt} {Q : Flow → Shared → Prop}
theorem search_L {l : Addr} {vs : List Value} {ns : List Int} {nn : Nat} {m₀ : PySem.Str → Option Value} {news : List (Addr × Obj)} (P : List Int → Prop)
    (hh : A.handled = none) (hl : (l, W.listOf vs.toArray nn) ∈ news) (hi : IntsAre vs ns) (F : Fr h₀ env.locals s.heap m₀) (N : News h₀ env.locals s.heap news) (hp : P [])
    (turn : ∀ pre post n t h tk own, ns = pre ++ n :: post → OwnOff own (news.map (·.1)) → P pre → Fr h₀ env.locals h (fun y => if y = x then some (.int n t) else m₀ y) → News h₀ env.locals h (news ++ own) →
      wpAny (model prog w) A (execs body env) (InvPostN h₀ env.locals (fun m nx => nx = news ∧ (∀ z, z ≠ x → m z = m₀ z) ∧ P (pre ++ [n])) own (news.map (·.1)) { s with heap := h, toks := tk } Q) E { s with heap := h, toks := tk })
    (done : ∀ (u : PySem.Str → Option Value) h tk, P ns → Fr h₀ env.locals h (fun y => if y = x then u y else m₀ y) → News h₀ env.locals h news → Q .next { s with heap := h, toks := tk }) :
    wpAny (model prog w) A (pyIter (.ref l)) (fun it s₂ => LoopAtV prog w A h₀ env x body Q E it s₂) E s := by
  refine iter_invNL (fun i m nx => nx = news ∧ (∀ z, z ≠ x → m z = m₀ z) ∧ P (ns.take i)) hh hl hi F N ⟨rfl, fun _ _ => rfl, by simpa using hp⟩ ?_ ?_
  · rintro i n t m₁ nx h tk own hn _ hoff _ ⟨rfl, h2, hp'⟩ F₁ N₁
    have hs : ns.take (i + 1) = ns.take i ++ [n] := by simp [List.take_add_one, hn]
    have e : ns = ns.take i ++ n :: ns.drop (i + 1) := by
      have ht := List.take_append_drop (i + 1) ns
      rw [hs, List.append_assoc] at ht
      exact ht.symm
    rw [hs]
    refine wpAny_mono (turn _ _ n t h tk own e hoff hp' (map_none h2 ▸ F₁) N₁) (fun f s₂ p => ?_) fun _ _ x => x
    have up : InvEndN h₀ env.locals (fun m nx' => nx' = nx ∧ (∀ z, z ≠ x → m z = m₀ z) ∧ P (ns.take i ++ [n])) own (nx.map (·.1)) { s with heap := h, toks := tk } s₂ →
        InvEndN h₀ env.locals (fun m' nx' => (l, W.listOf vs.toArray nn) ∈ nx' ∧ nx' = nx ∧ (∀ z, z ≠ x → m' z = m₀ z) ∧ P (ns.take i ++ [n])) own (nx.map (·.1)) { s with heap := h, toks := tk } s₂ := by
      rintro ⟨h', tk', m', news', nx', e', F', N', hn', ho', ha, rfl, hS⟩
      exact ⟨h', tk', m', news', _, e', F', N', hn', ho', ha, hl, rfl, hS⟩
    cases f with
    | ret v => exact p
    | brk => exact p
    | next => exact up p
    | cont => exact up p
  · rintro m₁ nx h tk _ ⟨rfl, h2, hp'⟩ F₁ N₁
    rw [List.take_length] at hp'
    exact done m₁ h tk hp' (by rw [done_none h2]; exact F₁) N₁
end
def SearchIn (_ : List Int) : Prop := True
theorem search_M {prog : Program} {w : World} {A : Around} {E : Value → Shared → Prop} {s : Shared} {env : Env} {h₀ : Heap} {x : PySem.Str} {body : List Stmt} {Q : Flow → Shared → Prop} {vers : List Int} (_ : SearchIn vers) {l : Addr} {vs : List Value} {ns : List Int} {nn : Nat} {m₀ : PySem.Str → Option Value} {news : List (Addr × Obj)}
    (hh : A.handled = none) (hl : (l, W.listOf vs.toArray nn) ∈ news) (hi : IntsAre vs ns) (F : Fr h₀ env.locals s.heap m₀) (N : News h₀ env.locals s.heap news)
    (turn : ∀ pre post n t h tk own, ns = pre ++ n :: post → OwnOff own (news.map (·.1)) → (∀ v ∈ pre, (vers.any fun x => x == v) = false) → Fr h₀ env.locals h (fun y => if y = x then some (.int n t) else m₀ y) → News h₀ env.locals h (news ++ own) →
      wpAny (model prog w) A (execs body env) (InvPostN h₀ env.locals (fun m nx => nx = news ∧ (∀ z, z ≠ x → m z = m₀ z) ∧ (∀ v ∈ pre ++ [n], (vers.any fun x => x == v) = false)) own (news.map (·.1)) { s with heap := h, toks := tk } Q) E { s with heap := h, toks := tk })
    (done : ∀ (u : PySem.Str → Option Value) h tk, (∀ v ∈ ns, (vers.any fun x => x == v) = false) → Fr h₀ env.locals h (fun y => if y = x then u y else m₀ y) → News h₀ env.locals h news → Q .next { s with heap := h, toks := tk }) :
    wpAny (model prog w) A (pyIter (.ref l)) (fun it s₂ => LoopAtV prog w A h₀ env x body Q E it s₂) E s := search_L (fun pre => ∀ v ∈ pre, (vers.any fun x => x == v) = false) hh hl hi F N (fun _ h => by simp at h) turn done
theorem find_at {P : Int → Bool} {ns pre post : List Int} {n : Int} (e : ns = pre ++ n :: post) (h : ∀ v ∈ pre, P v = false) (hn : P n = true) : ns.find? P = some n := by
  rw [e, List.find?_append, List.find?_eq_none.2 (fun v hv => by simp [h v hv]), List.find?_cons, hn]
  rfl
theorem find_none {P : Int → Bool} {ns : List Int} (h : ∀ v ∈ ns, P v = false) : ns.find? P = none := List.find?_eq_none.2 fun v hv => by simp [h v hv]
theorem all_snoc {P : Int → Bool} {pre : List Int} {n : Int} (h : ∀ v ∈ pre, P v = false) (hn : P n = false) : ∀ v ∈ pre ++ [n], P v = false := fun v hv => by
  rcases List.mem_append.mp hv with hv | hv
  · exact h v hv
  · rw [List.mem_singleton.mp hv]; exact hn
def Ign (seen : Bool) (kd kn ks ko : List Int) (own : Int) (vers : List Int) : Prop := seen = true ∨ kd ≠ kn ∨ ks ≠ ko ∨ (vers.any fun x => x == own) = true
def Told (seen : Bool) (kd kn ks ko : List Int) (own : Int) (vers wanted : List Int) (o : Obj) : Prop :=
  (Ign seen kd kn ks ko own vers ∧ ∃ t, o = { cls := .type "tuple", data := .seq #[.str (PySem.Str.ofString "ignore") t, .none] }) ∨
  (¬ Ign seen kd kn ks ko own vers ∧ ∃ x t u, wanted.find? (fun v => vers.any fun x => x == v) = some x ∧ o = { cls := .type "tuple", data := .seq #[.str (PySem.Str.ofString "use") t, .int x u] }) ∨
  (¬ Ign seen kd kn ks ko own vers ∧ wanted.find? (fun v => vers.any fun x => x == v) = none ∧ ∃ t, o = { cls := .type "tuple", data := .seq #[.str (PySem.Str.ofString "give up") t, .none] })
section
variable {seen : Bool} {kd kn ks ko vers : List Int} {own : Int} {bd bn bs bo : Array UInt8}
theorem not_ign (h1 : seen = false) (hd : KBw.bInts bd = kd) (hn : KBw.bInts bn = kn) (h2 : (bd.toList != bn.toList) = false) (hs : KBw.bInts bs = ks) (ho : KBw.bInts bo = ko) (h3 : (bs.toList != bo.toList) = false) (h4 : (vers.any fun x => x == own) = false) : ¬ Ign seen kd kn ks ko own vers := fun x => by
  rcases x with x | x | x | x
  · rw [h1] at x; cases x
  · exact x (beq_ints hd hn h2)
  · exact x (beq_ints hs ho h3)
  · rw [h4] at x; cases x
end
theorem drop_own {h₀ h : Heap} {L : Addr} {a : Addr × Obj} {news own : List (Addr × Obj)} (N : News h₀ L h (a :: (news ++ own))) : News h₀ L h (a :: news) := fun p hp => N p (by
  rcases List.mem_cons.mp hp with rfl | hp
  · exact .head _
  · exact .tail _ (List.mem_append_left _ hp))
theorem lt_own {T : Addr} {news own : List (Addr × Obj)} (h : ∀ p ∈ news ++ own, @LT.lt Nat _ p.1 T) : AllLt T news := allLt_of fun p hp => h p (List.mem_append_left _ hp)
theorem pull3 {h₀ h : Heap} {L : Addr} {a b c : Addr × Obj} {news : List (Addr × Obj)} (N : News h₀ L h news) (ha : a ∈ news) (hb : b ∈ news) (hc : c ∈ news) : News h₀ L h (a :: b :: c :: news) := fun p hp => N p (by
  rcases List.mem_cons.mp hp with rfl | hp
  · exact ha
  rcases List.mem_cons.mp hp with rfl | hp
  · exact hb
  rcases List.mem_cons.mp hp with rfl | hp
  · exact hc
  · exact hp)
end Mine
end

section
open PySem PySem.W PyProof.Rows PySem.Calls PySem.Spec
open PyProof.Rows.LCg (fr_but news_but)
set_option maxRecDepth 100000
set_option maxHeartbeats 0
namespace Mine
section
variable {M : Model} {A : Around} {E : Value → Shared → Prop} {s : Shared} {env : Env} {R : Result → Shared → Prop}
theorem codeC_loop' {c : Code} (ok : okC c = true) (hq : c.quiet = true) (I : Nat → Shared → Prop)
    (turn : ∀ n s, I n s → wpC M (A.under c) (M.den c) (fun fin s' => match fin with | .done f => R (.ok f) s' | .again c' => (c' = c ∧ ∃ m, m < n ∧ I m s') ∨ (c'.quiet = true ∧ okC c' = true ∧ codeC M A c' R s')) (fun e s' => R (.error e) s') s)
    (n : Nat) (h : I n s) : codeC M A c R s := by
  induction n using Nat.strongRecOn generalizing s with
  | ind n ih =>
    refine codeC_of_tree (C_mono (turn n s h) (fun fin s' hf => ?_) fun _ _ h' => h')
    cases fin with
    | done f => exact hf
    | again c' =>
      rcases hf with ⟨rfl, m, hm, hI⟩ | hf
      · exact ⟨hq, ok, ih m hm hI⟩
      · exact hf
end
section
variable {prog : Program} {w : World} {A : Around} {E : Value → Shared → Prop} {s : Shared} {env : Env} {R : Result → Shared → Prop}
theorem codeC_forLoop {target : PySem.Expr} {it : Value} {body : List Stmt} (I : Nat → Shared → Prop)
    (turn : ∀ n s, I n s → wpAny (model prog w) A (pyNext it) (fun r s₁ => match r with
      | none => R (.ok .next) s₁
      | some v => wpAny (model prog w) A (assign target env v) (fun _ s₂ => wpC (model prog w) A (execs body env) (fun f s₃ => match f with
          | .next | .cont => ∃ m, m < n ∧ I m s₃
          | .brk => R (.ok .next) s₃
          | .ret v => R (.ok (.ret v)) s₃) (fun _ _ => False) s₂) (fun _ _ => False) s₁) (fun _ _ => False) s)
    (n : Nat) (h : I n s) (ht : ∀ v, letOwnedTupleGo target it v = pure () := by intro _; rfl) : codeC (model prog w) A (.forLoop target it body [] env) R s := by
  refine codeC_loop' rfl rfl I (fun n s hI => ?_) n h
  show wpC _ A ((forTurn target it body [] env).onRaise (fun x => do noteFrame x env; theTreesLotGoes x)) _ _ s
  refine C_onRaise ?_
  unfold forTurn
  refine C_bind (C_standAt (C_bind (C_onRaise (C_then (C_any (turn n s hI)) (fun r s₁ h₁ => ?_)))))
  cases r with
  | none => exact C_pure (.inr ⟨rfl, rfl, codeC_any (codeAny_block (wpAny_execs_nil h₁))⟩)
  | some v =>
    refine C_bind (C_eq (ht v) (C_pure ?_))
    refine C_bind (C_then (C_any h₁) fun _ s₂ h₂ => C_bind (C_then h₂ fun f s₃ h₃ => ?_))
    cases f with
    | next => exact C_pure (.inl ⟨rfl, h₃⟩)
    | cont => exact C_pure (.inl ⟨rfl, h₃⟩)
    | brk => exact C_pure h₃
    | ret v => exact C_pure h₃
def CTurn (h₀ : Heap) (L : Addr) (x y : PySem.Str) (m₀ : PySem.Str → Option Value) (led : List (Addr × Obj)) (s₁ : Shared) (f : Flow) (s₃ : Shared) : Prop :=
  f = .next ∧ ∃ h' tk m', s₃ = { s₁ with heap := h', toks := tk } ∧ Fr h₀ L h' m' ∧ News h₀ L h' led ∧ ∀ z, z ≠ x → z ≠ y → m' z = m₀ z
def ForSrc (prog : Program) (w : World) (A : Around) (env : Env) (h₀ : Heap) (x y : PySem.Str) (body : List Stmt) (m₀ : PySem.Str → Option Value) (news : List (Addr × Obj)) (Q : Flow → Shared → Prop) (xv : Value) (s₁ : Shared) : Prop :=
  ∃ (r : Addr) (a b : Int) (t u v : Tok) (n : Nat), xv = .ref r ∧ IsRange s₁.heap r a b 1 t u v ∧ Builtin.Range.small a b 1 = true ∧ Builtin.Range.rangeSize a b 1 = (n : Int) ∧ Fr h₀ env.locals s₁.heap m₀ ∧ News h₀ env.locals s₁.heap news ∧
      (∀ (i : Nat) t (u : PySem.Str → Option Value) I oI h tk, i < n → (∀ p ∈ news, p.1 ≠ I) → Fr h₀ env.locals h (fun z => if z = x then some (.int (a + i) t) else if z = y then u z else m₀ z) → News h₀ env.locals h ((I, oI) :: news) →
        wpC (model prog w) A (execs body env) (CTurn h₀ env.locals x y m₀ ((I, oI) :: news) { s₁ with heap := h, toks := tk }) (fun _ _ => False) { s₁ with heap := h, toks := tk }) ∧
      (∀ (u : PySem.Str → Option Value) h tk, Fr h₀ env.locals h (fun z => if z = x then u z else if z = y then u z else m₀ z) → News h₀ env.locals h news → Q .next { s₁ with heap := h, toks := tk })
theorem rangeSize_10 {a b : Int} (h : b = a + 10) : Builtin.Range.rangeSize a b 1 = ((10 : Nat) : Int) := by
  rw [rangeSize_one, if_pos (by omega)]; omega
theorem C_For_range {x : PySem.Str} (y : PySem.Str) {px pos : Pos} {iter : PySem.Expr} {body : List Stmt} {h₀ : Heap} {m₀ : PySem.Str → Option Value} {news : List (Addr × Obj)} {Q : Flow → Shared → Prop}
    (fF : Fr h₀ env.locals s.heap m₀) (fN : News h₀ env.locals s.heap news)
    (hh : A.handled = none) (hx : env.kindOf x = some .local) (hp : (env.scope.kind == .class || (env.scope.kind == .module && env.locals != env.globals)) = false)
    (h : wpAny (model prog w) A (eval iter env) (ForSrc prog w A env h₀ x y body m₀ news Q) E s)
    (hs : ∀ x, foldedSetIterable iter env x = pure x := by intro _; rfl) :
    wpC (model prog w) A (exec (.For (.Name x px) iter body [] pos) env) Q E s := by
  rw [exec_For]
  refine C_bind (C_standAt (C_bind (C_then (C_any h) fun xv s₁ h₁ => C_bind (C_eq (hs xv) (C_pure (C_bind (C_standAt (C_bind (C_holding ?_)))))))))
  obtain ⟨r, a, b, t, u, v, n, rfl, hr, hsm, hn, F, N, turn, done⟩ := h₁
  refine C_any (wpAny_pyIter_range hr hsm ?_)
  have W := Walks.range (prog := prog) (w := w) (A := A) hh s₁.heap.objs.size a 1 n
  generalize hH : s₁.heap.push { cls := .type "range_iterator", data := .fields #[rawInt a, rawInt (Builtin.Range.rangeSize a b 1), rawInt 1] } = H
  have st0 : IsRangeIter H s₁.heap.objs.size (a + ((0 : Nat) : Int) * 1) ((n : Int) - ((0 : Nat) : Int)) 1 := by
    rw [← hH]
    show _ = _
    rw [hn]
    simpa using Heap.get?_push_size _ rfl
  have up : ∀ b o, s₁.heap.get? b = some o → H.get? b = some o := fun b o e => hH ▸ Heap.get?_push_of_some _ e
  have hLI : env.locals ≠ s₁.heap.objs.size := Nat.ne_of_lt F.ns.lt
  have hI₀ : h₀.get? s₁.heap.objs.size = none := next_is_new F
  have off : ∀ p ∈ news, p.1 ≠ s₁.heap.objs.size := fun p hp => Nat.ne_of_lt (Heap.lt_size (N p hp).1)
  refine C_runOwn rfl ?_
  refine codeC_forLoop (fun k s' => ∃ h' tk i m', s' = { s₁ with heap := h', toks := tk } ∧ i ≤ n ∧ k = n + 1 - i ∧ IsRangeIter h' s₁.heap.objs.size (a + (i : Nat) * 1) ((n : Int) - (i : Nat)) 1 ∧ Fr h₀ env.locals h' m' ∧ News h₀ env.locals h' news ∧ (∀ z, z ≠ x → z ≠ y → m' z = m₀ z)) ?_ (n + 1)
    ⟨H, _, 0, m₀, rfl, Nat.zero_le _, rfl, st0, F.keeps up, N.grown up, fun _ _ _ => rfl⟩
  rintro k s' ⟨h', tk, i, m', rfl, hi, rfl, st, F', N', hm⟩
  by_cases hlt : i < n
  · refine W.item i _ _ _ hlt st fun v h₂ tk₂ hP st₂ hk₂ => ?_
    obtain ⟨t', rfl⟩ := hP
    have F₂ := fr_but F' hk₂ hLI hI₀
    have N₂ := news_but N' hk₂ off
    refine wpAny_assign_Name (wpAny_storeName_local hx F₂.ns (fun h₃ hn₃ hs₃ => ?_) hp)
    have F₃ := F₂.set hn₃ hs₃
    have N₃ := N₂.set hs₃
    obtain ⟨oI, hI, hback⟩ : ∃ oI, h₂.get? s₁.heap.objs.size = some oI ∧ ∀ h : Heap, h.get? s₁.heap.objs.size = some oI → IsRangeIter h s₁.heap.objs.size (a + ((i + 1 : Nat) : Int) * 1) ((n : Int) - ((i + 1 : Nat) : Int)) 1 := ⟨_, st₂, fun _ e => e⟩
    have hI₃ := hs₃.extBut _ _ (Ne.symm hLI) hI
    have e : (fun z => if z = x then some (Value.int (a + (i : Int) * 1) t') else m' z) = fun z => if z = x then some (Value.int (a + (i : Int)) t') else if z = y then m' z else m₀ z := by
      funext z
      rw [Int.mul_one]
      by_cases h1 : z = x
      · simp only [if_pos h1]
      · simp only [if_neg h1]
        by_cases h2 : z = y
        · simp only [if_pos h2]
        · simp only [if_neg h2]; exact hm z h1 h2
    rw [e] at F₃
    refine C_then (turn i t' m' _ oI h₃ _ hlt off F₃ (fun p hp => ?_)) (fun f s₃ h₃' => ?_)
    · rcases List.mem_cons.mp hp with rfl | hp
      · exact ⟨hI₃, Ne.symm hLI, hI₀⟩
      · exact N₃ p hp
    · obtain ⟨rfl, h₄, tk₄, m₄, rfl, F₄, N₄, hm₄⟩ := h₃'
      exact ⟨n + 1 - (i + 1), by omega, h₄, tk₄, i + 1, m₄, rfl, hlt, rfl, hback _ (N₄ _ List.mem_cons_self).1, F₄, fun p hp => N₄ p (List.mem_cons_of_mem _ hp), hm₄⟩
  · obtain rfl : i = n := by omega
    refine W.done _ _ _ st fun h₂ tk₂ hk₂ => ?_
    refine done m' h₂ _ ?_ (news_but N' hk₂ off)
    have e : (fun z => if z = x then m' z else if z = y then m' z else m₀ z) = m' := by
      funext z
      by_cases h1 : z = x
      · simp only [if_pos h1]
      · simp only [if_neg h1]
        by_cases h2 : z = y
        · simp only [if_pos h2]
        · simp only [if_neg h2]; exact (hm z h1 h2).symm
    rw [e]
    exact fr_but F' hk₂ hLI hI₀
end
end Mine
end

section
open PySem PySem.W PyProof.Rows PySem.Calls PySem.Spec
set_option maxRecDepth 100000
set_option maxHeartbeats 0
namespace Mine
section
variable {M : Model} {A : Around} {E : Value → Shared → Prop} {s : Shared} {env : Env}
theorem C_AssignT {elts k tpos value pos} {Q : Flow → Shared → Prop}
    (h : wpC M A (eval value env) (fun v s₁ => wpAny M A (assign (.Tuple elts k tpos) env v) (fun _ => Q .next) E s₁) E s)
    (hs : swapsWithSole [.Tuple elts k tpos] value pos.line env = pure false := by rfl)
    (hw : swappedStores [.Tuple elts k tpos] value env = pure none := by rfl) :
    wpC M A (exec (.Assign [.Tuple elts k tpos] value pos) env) Q E s := by
  rw [exec_Assign]
  refine C_bind (C_standAt ?_)
  rw [hs]
  refine C_bind (C_pure ?_)
  rw [if_neg (by decide)]
  refine C_bind (C_then h fun v s₁ h₁ => ?_)
  rw [hw]
  refine C_bind (C_pure ?_)
  show wpC M A (do assignAll v [assign (.Tuple elts k tpos) env]; pure .next) Q E s₁
  exact C_bind (C_then (C_any h₁) fun _ _ x => C_pure x)
theorem C_AssignT_swapped {elts k tpos value pos} {names : List PySem.Str} {Q : Flow → Shared → Prop}
    (h : wpC M A (eval value env) (fun v s₁ => wpAny M A (unpackItems v names.length none) (fun items s₂ =>
      wpAny M A (assignInOrder (names.reverse.map fun n => bindName env n) items.reverse) (fun _ => Q .next) E s₂) E s₁) E s)
    (hs : swapsWithSole [.Tuple elts k tpos] value pos.line env = pure false := by rfl)
    (hw : swappedStores [.Tuple elts k tpos] value env = pure (some names) := by rfl) :
    wpC M A (exec (.Assign [.Tuple elts k tpos] value pos) env) Q E s := by
  rw [exec_Assign]
  refine C_bind (C_standAt ?_)
  rw [hs]
  refine C_bind (C_pure ?_)
  rw [if_neg (by decide)]
  refine C_bind (C_then h fun v s₁ h₁ => ?_)
  rw [hw]
  refine C_bind (C_pure ?_)
  show wpC M A (do rule "assign.swapped-stores"; let items ← unpackItems v names.length none; assignInOrder (names.reverse.map fun n => bindName env n) items.reverse; pure .next) Q E s₁
  exact C_any (wpAny_bind (wpAny_rule (wpAny_bind (wpAny_mono h₁ (fun items s₂ h₂ => wpAny_bind (wpAny_mono h₂ (fun _ _ x => wpAny_pure x) fun _ _ x => x)) fun _ _ x => x))))
end
end Mine
end

section
open PySem PySem.W PyProof.Rows PySem.Calls PySem.Spec
namespace Mine
theorem clip_m16 (n : Nat) : clipAt n (-16) = n - 16 := by
  unfold clipAt
  split <;> omega
theorem pkt_eq (low : Int) (kd ks kt ko : List Int) : retryPkt low 1 kd ks kt ko = [240 + low.fmod 16] ++ be 1 4 ++ idsOf kd ks ++ (kt ++ retryTag ko (retryRaw low 1 kd ks kt [])) := by
  unfold retryPkt
  conv => lhs; arg 1; unfold retryRaw
  rw [List.append_nil, List.append_assoc _ kt]
theorem pkt_take (low : Int) (kd ks kt ko : List Int) : (retryPkt low 1 kd ks kt ko).take ((retryPkt low 1 kd ks kt ko).length - 16) = retryRaw low 1 kd ks kt [] := by
  conv => lhs; arg 1; rw [show (retryPkt low 1 kd ks kt ko).length - 16 = (retryRaw low 1 kd ks kt []).length by rw [retryPkt, List.length_append, retryTag_length, Nat.add_sub_cancel]]
  unfold retryPkt
  rw [List.take_left]
theorem takes_own (low : Int) (kd ks kt ko : List Int) {kg : List Int} (hg : kg = retryTag ko (retryRaw low 1 kd ks kt [])) : Takes false kd kd ks ko kt kg (retryPkt low 1 kd ks kt ko) ↔ (0 < kt.length ∧ ks ≠ ko) := by
  refine ⟨fun h => ⟨h.2.2.2.1, h.2.2.1⟩, fun h => ⟨rfl, rfl, h.2, h.1, ?_⟩⟩
  rw [pkt_take, hg]
theorem takes_seen {kd kn ks ko kt kg kz : List Int} : ¬ Takes true kd kn ks ko kt kg kz := fun h => by cases h.1
theorem raw_in {low : Int} {kd ks kt : List Int} (h0 : 0 ≤ low) (hd : ∀ x ∈ kd, 0 ≤ x ∧ x < 256) (hs : ∀ x ∈ ks, 0 ≤ x ∧ x < 256) (ht : ∀ x ∈ kt, 0 ≤ x ∧ x < 256) (l1 : kd.length < 256) (l2 : ks.length < 256) : ∀ x ∈ retryRaw low 1 kd ks kt [], 0 ≤ x ∧ x < 256 := fun x hx => by
  have f0 : 0 ≤ low.fmod 16 := fmod_lo _ (by decide)
  have f1 : low.fmod 16 < 16 := fmod_hi _ (by decide)
  simp only [retryRaw, idsOf, List.append_nil, List.mem_append, List.mem_cons, List.not_mem_nil, or_false] at hx
  rcases hx with ((hx | hx) | ((hx | hx) | hx) | hx) | hx
  · omega
  · exact be_in _ _ x hx
  · omega
  · exact hd x hx
  · omega
  · exact hs x hx
  · exact ht x hx
theorem takes_bent {low y : Int} {kd ks kt ko kn kg kz : List Int} {i : Nat} {seen : Bool} (hg : kg = retryTag ko (retryRaw low 1 kd ks kt [])) (ho : ∀ x ∈ ko, 0 ≤ x ∧ x < 256) (hr : ∀ x ∈ retryRaw low 1 kd ks kt [], 0 ≤ x ∧ x < 256) (hi : i < (retryRaw low 1 kd ks kt []).length) (v0 : 0 ≤ y) (v1 : y < 256) (hv : (retryRaw low 1 kd ks kt [])[i]? ≠ some y)
    (hz : kz.take (kz.length - 16) = (retryRaw low 1 kd ks kt []).set i y) : ¬ Takes seen kd kn ks ko kt kg kz := fun h => by
  have e := h.2.2.2.2
  rw [hz, hg] at e
  exact tag_body hi v0 v1 ho hr (ne_get hi hv) e.symm
theorem rf_lo (low : Int) : 240 ≤ 240 + low.fmod 16 := by have := fmod_lo low (n := 16) (by decide); omega
theorem rf_hi (low : Int) : 240 + low.fmod 16 < 256 := by have := fmod_hi low (n := 16) (by decide); omega
theorem pkt_cut (low : Int) (kd ks kt ko : List Int) : List.take (clipAt (retryPkt low 1 kd ks kt ko).length (-16)) (retryPkt low 1 kd ks kt ko) = retryRaw low 1 kd ks kt [] := by rw [clip_m16, pkt_take]
theorem cut_16 {A T : List Int} (h : T.length = 16) : (A ++ T).take ((A ++ T).length - 16) = A := by
  rw [List.length_append, h, Nat.add_sub_cancel, List.take_left]
theorem last_16 {kz : List Int} (h : 16 ≤ kz.length) : (List.take (kz.length - clipAt kz.length (-16)) (List.drop (clipAt kz.length (-16)) kz)).length = 16 := by
  rw [clip_m16, List.length_take, List.length_drop]; omega
end Mine
end

section
open PySem PySem.W PyProof.Rows PySem.Calls PySem.Spec
set_option maxRecDepth 100000
set_option maxHeartbeats 0
namespace Mine
section
variable {prog : Program} {w : World} {A : Around} {E : Value → Shared → Prop} {s : Shared} {h₀ : Heap} {L : Addr} {m : PySem.Str → Option Value} {news : List (Addr × Obj)}
theorem applied_5of6 {sl : Addr} {u : Tok} {Q : Int × Int × Nat → Shared → Prop} (hs : s.heap.IsSliceOf sl .none (.int 5 u) .none) (h : Q (0, 1, 5) s) :
    wpAny (model prog w) A (Builtin.Slice.sliceApplied (.ref sl) (pure (6 : Int))) Q E s := by
  obtain ⟨os, hos, hcs, hds⟩ := id hs
  unfold Builtin.Slice.sliceApplied Builtin.Slice.sliceFields
  refine wpAny_bind (wpAny_bind (wpAny_field hos hds (x := .none) rfl (wpAny_bind (wpAny_field hos hds (x := .int 5 u) rfl (wpAny_bind (wpAny_field hos hds (x := .none) rfl (wpAny_pure ?_)))))))
  refine wpAny_bind (slicePart_none ?_)
  show wpAny _ _ (if ((1 : Int) == 0) = true then _ else _) _ _ s
  rw [if_neg (by decide)]
  exact wpAny_bind (slicePart_none (wpAny_bind (slicePart_int (wpAny_bind (wpAny_pure (wpAny_pure h))))))
theorem item_5of6 {t sl : Addr} {a b c d e f : Value} {u : Tok} {Q : Value → Shared → Prop} (ht : IsTup s.heap t #[a, b, c, d, e, f]) (hs : s.heap.IsSliceOf sl .none (.int 5 u) .none)
    (h : Q (.ref s.heap.objs.size) { s with heap := s.heap.push { cls := .type "tuple", data := .seq #[a, b, c, d, e] } }) : wpAny (model prog w) A (getItem (.ref t) (.ref sl)) Q E s := by
  have hdrop : sizeOk (.seq #[a, b, c, d, e]) := by
    show (5 : Nat) ≤ sizeLine
    rw [PySem.sizeLine_eq]; omega
  obtain ⟨os, hos, hcs, hds⟩ := id hs
  have hTs : s.TypeIs (.ref sl) "slice" := ⟨os, hos, hcs⟩
  unfold getItem
  try with_reducible refine wpAny_holding ?_
  first | refine wpAny_bind (wpAny_pure ?_) | skip
  refine wpAny_bind (wpAny_sequenceKey ht.typeIs (by decide) ?_)
  refine wpAny_bind (wpAny_callSpecial?_slot (name := PySem.Str.ofString "__getitem__") ht.typeIs slot_tuple_getitem
    (wpAny_call_entry slot_tuple_getitem ht.typeIs entry_tuple_getitem ?_ (args_tuple_getitem _ _)))
  show wpAny _ _ (Builtin.Tuple.tupleItemsOf (.ref t) >>= _) _ _ s
  refine wpAny_bind (tupleItemsOf_ ht ?_)
  refine wpAny_bind (wpAny_typeOf hTs ?_)
  rw [if_pos (by decide)]
  refine wpAny_bind (applied_5of6 hs ?_)
  first
    | exact wpAny_bind (m := Builtin.Tuple.tupleExact _) (wpAny_newObj_type (wpAny_pure ⟨_, rfl, wpAny_pure h⟩) hdrop)
    | exact wpAny_bind (m := Builtin.Tuple.tupleExact _) (wpAny_newObj_type (wpAny_bind (wpAny_pure (wpAny_pure ⟨_, rfl, wpAny_pure h⟩))) hdrop)
    | exact wpAny_bind (wpAny_bind (m := Builtin.Tuple.tupleExact _) (wpAny_newObj_type (wpAny_pure (wpAny_pure ⟨_, rfl, wpAny_pure h⟩)) hdrop))
    | exact wpAny_bind (wpAny_bind (m := Builtin.Tuple.tupleExact _) (wpAny_newObj_type (wpAny_pure ⟨_, rfl, wpAny_pure h⟩) hdrop))
theorem slice_5of6 {value slice : PySem.Expr} {t : Addr} {a b c d e f : Value} {u : Tok} {ops : List Value} {Q : Value → Shared → Prop}
    (F : Fr h₀ L s.heap m) (N : News h₀ L s.heap news) (ht : (t, ({ cls := .type "tuple", data := .seq #[a, b, c, d, e, f] } : Obj)) ∈ news)
    (h : ∀ D h', Fr h₀ L h' m → News h₀ L h' ((D, ({ cls := .type "tuple", data := .seq #[a, b, c, d, e] } : Obj)) :: news) → (∀ p ∈ news, p.1 < D) → Q (.ref D) { s with heap := h' })
    (hs : subscripted slice false (.ref t) (.ref s.heap.objs.size) = operate ops (getItem (.ref t) (.ref s.heap.objs.size)))
    (hg : ∀ r, letTemporaryGo value (.ref t) r = pure ()) :
    wpAny (model prog w) A (subscriptTail value slice (.ref t) (.ref s.heap.objs.size)) Q E { s with heap := s.heap.push { cls := .type "slice", data := .fields #[.none, .int 5 u, .none] } } := by
  have ht0 : IsTup s.heap t #[a, b, c, d, e, f] := N.isTup ht
  have ht' : IsTup (s.heap.push { cls := .type "slice", data := .fields #[.none, .int 5 u, .none] }) t #[a, b, c, d, e, f] := ht0.keeps fun _ _ e => Heap.get?_push_of_some _ e
  refine subscriptTail_ops (s := { s with heap := s.heap.push { cls := .type "slice", data := .fields #[.none, .int 5 u, .none] } }) ht'.typeIs slot_tuple_getitem.lookup
    (item_5of6 ht' (Heap.IsSliceOf.new ..) ?_) hs hg
  have N1 := News.push (F.push { cls := .type "slice", data := .fields #[.none, .int 5 u, .none] }) (N.grown fun _ _ e => Heap.get?_push_of_some _ e) { cls := .type "tuple", data := .seq #[a, b, c, d, e] }
  rw [Heap.size_push] at N1
  show Q (.ref (s.heap.push _).objs.size) _
  rw [Heap.size_push]
  exact h _ _ ((F.push _).push _) N1 fun p hp => Nat.lt_succ_of_lt (Heap.lt_size (N p hp).1)
end
end Mine
end

section
open PySem PySem.W PyProof.Rows PySem.Calls PySem.Spec
open PySem.SeqAt (EqAt RcAt RcNeAt)
set_option maxRecDepth 100000
set_option maxHeartbeats 0
namespace Mine
section
variable {A : Around} {s : Shared}
theorem eq_at_bytes {b c : Array UInt8} {kb : List Int} {t u : Tok} (hb : KBw.bInts b = kb) (hc : KBw.bInts c = kb) : EqAt A s (.bytes b t) (.bytes c u) true := fun _ _ _ _ h =>
  eqBool_bytes (by rw [decide_eq_true (bInts_inj (hb.trans hc.symm))]; exact h)
theorem eq_at_str (x : PySem.Str) (t u : Tok) : EqAt A s (.str x t) (.str x u) true := by
  have := EqAt.str_str (A := A) (s := s) x t x u
  rwa [beq_self_eq_true] at this
theorem eq_at_int (x : Int) (t u : Tok) : EqAt A s (.int x t) (.int x u) true := by
  have := EqAt.int_int (A := A) (s := s) x t x u
  rwa [beq_self_eq_true] at this
noncomputable def AllEq (A : Around) (s : Shared) : List Value → List Value → Prop
  | [], [] => True
  | x :: xs, y :: ys => EqAt A s x y true ∧ AllEq A s xs ys
  | _, _ => False
theorem AllEq.at : ∀ {xs ys : List Value}, AllEq A s xs ys → xs.length = ys.length ∧ ∀ j (h1 : j < xs.length) (h2 : j < ys.length), EqAt A s xs[j] ys[j] true
  | [], [], _ => ⟨rfl, fun _ h => absurd h (Nat.not_lt_zero _)⟩
  | _ :: xs, _ :: ys, h => ⟨congrArg (· + 1) (AllEq.at (xs := xs) (ys := ys) h.2).1, fun j h1 h2 => by
    cases j with
    | zero => exact h.1
    | succ j => exact (AllEq.at (xs := xs) (ys := ys) h.2).2 j (Nat.lt_of_succ_lt_succ h1) (Nat.lt_of_succ_lt_succ h2)⟩
  | [], _ :: _, h => h.elim
  | _ :: _, [], h => h.elim
theorem all_range (n : Nat) : ((List.range n).all fun _ => true) = true := by
  rw [List.all_eq_true]; intro _ _; rfl
theorem ints_eq : ∀ {vs ws : List Value} {ns : List Int}, IntsAre vs ns → IntsAre ws ns → AllEq A s vs ws
  | _, _, _, .nil, .nil => True.intro
  | _, _, _, .cons n t r, .cons _ u q => ⟨eq_at_int n t u, ints_eq r q⟩
theorem eq_at_lists {l b : Addr} {vs ws : List Value} {ns : List Int} (hne : l ≠ b) (hl : s.heap.IsList l vs.toArray) (hb : s.heap.IsList b ws.toArray) (hv : IntsAre vs ns) (hw : IntsAre ws ns) (hu : A.units < cLine) : EqAt A s (.ref l) (.ref b) true := by
  have k := (ints_eq (A := A.in1) (s := s) hv hw).at
  have q := RcAt.lists (e := fun _ => true) hl hb (by simpa using k.1) hu (fun j h1 h2 => by simpa using k.2 j (by simpa using h1) (by simpa using h2))
  rw [all_range] at q
  exact EqAt.of_refs hne q
end
section
variable {prog : Program} {w : World} {A : Around} {E : Value → Shared → Prop} {s : Shared} {h₀ : Heap} {L : Addr} {m : PySem.Str → Option Value} {news : List (Addr × Obj)}
theorem tups_ne {a b : Addr} {xs ys : List Value} {Q : Value → Shared → Prop} (N : News h₀ L s.heap news) (ha : (a, ({ cls := .type "tuple", data := .seq xs.toArray } : Obj)) ∈ news) (hb : (b, ({ cls := .type "tuple", data := .seq ys.toArray } : Obj)) ∈ news)
    (hu : A.units < cLine) (e : AllEq A.in1 s xs ys) (h : Q (.bool false) s) : wpAny (model prog w) A (compareOp .NotEq (.ref a) (.ref b)) Q E s := by
  have k := e.at
  have q := RcNeAt.tuples (A := A) (e := fun _ => true) (N.isTup ha) (N.isTup hb) hu (fun j h1 h2 => by simpa using k.2 j (by simpa using h1) (by simpa using h2))
  rw [all_range] at q
  have z : (xs.toArray.size == ys.toArray.size) = true := by simpa using k.1
  rw [z] at q
  exact q prog w E Q h
theorem tups_eq {a b : Addr} {xs ys : List Value} {Q : Value → Shared → Prop} (N : News h₀ L s.heap news) (ha : (a, ({ cls := .type "tuple", data := .seq xs.toArray } : Obj)) ∈ news) (hb : (b, ({ cls := .type "tuple", data := .seq ys.toArray } : Obj)) ∈ news)
    (hu : A.units < cLine) (e : AllEq A.in1 s xs ys) (h : Q (.bool true) s) : wpAny (model prog w) A (compareOp .Eq (.ref a) (.ref b)) Q E s := by
  have k := e.at
  have q := RcAt.tuples (A := A) (e := fun _ => true) (N.isTup ha) (N.isTup hb) hu (fun j h1 h2 => by simpa using k.2 j (by simpa using h1) (by simpa using h2))
  rw [all_range] at q
  have z : (xs.toArray.size == ys.toArray.size) = true := by simpa using k.1
  rw [z] at q
  exact q prog w E Q h
end
end Mine
end

section
open PySem PySem.W PyProof.Rows PySem.Calls PySem.Spec
namespace Mine
section
variable {q seen : Bool} {low : Int} {kd ks kt ko : List Int}
theorem end_2 {bf bo : Array UInt8} (h : (q != (bf.toList != bo.toList)) = true) (hq : q = true ↔ Takes false kd kd ks ko kt (retryTag ko (retryRaw low 1 kd ks kt [])) (retryPkt low 1 kd ks kt ko))
    (hf : KBw.bInts bf = ks) (ho : KBw.bInts bo = ko) (hl : 0 < (kt.length : Int)) : False := by
  rw [takes_own low kd ks kt ko rfl] at hq
  cases hb : (bf.toList != bo.toList) with
  | true =>
    rw [hb] at h
    rw [hq.2 ⟨by omega, bne_ints hf ho hb⟩] at h
    cases h
  | false =>
    rw [hb] at h
    exact (hq.1 (by simpa using h)).2 (beq_ints hf ho hb)
theorem end_6 (h : (q != decide (0 < (kt.length : Int))) = true) (hq : q = true ↔ Takes false kd kd ks ko kt (retryTag ko (retryRaw low 1 kd ks kt [])) (retryPkt low 1 kd ks kt ko))
    (hl : ¬ 0 < (kt.length : Int)) : False := by
  rw [takes_own low kd ks kt ko rfl] at hq
  rw [decide_eq_false hl] at h
  have := (hq.1 (by simpa using h)).1
  omega
theorem end_4 {kn T : List Int} {i : Nat} {y : Int} {bd bs bt bo : Array UInt8} (hq : q = true ↔ Takes seen kd kn ks ko kt (retryTag ko (retryRaw low 1 kd ks kt [])) ((retryRaw low 1 kd ks kt []).set i y ++ T)) (h : q = true) (hT : T.length = 16) (l0 : 0 ≤ low)
    (hd : KBw.bInts bd = kd) (hs : KBw.bInts bs = ks) (ht : KBw.bInts bt = kt) (ho : KBw.bInts bo = ko) (l1 : kd.length < 256) (l2 : ks.length < 256) (hi : i < (retryRaw low 1 kd ks kt []).length) (y0 : 0 ≤ y) (y1 : y < 256) (hv : (retryRaw low 1 kd ks kt [])[i]? ≠ some y) : False :=
  absurd (hq.1 h) (takes_bent rfl (in_of ho) (raw_in l0 (in_of hd) (in_of hs) (in_of ht) l1 l2) hi y0 y1 hv (cut_16 hT))
theorem end_5 {x : Int} {l kg kz : List Int} (hq : q = true ↔ Takes seen kd (kd ++ x :: l) ks ko kt kg kz) : q = false := by
  cases q with
  | false => rfl
  | true =>
    have := congrArg List.length (hq.1 rfl).2.1
    rw [List.length_append, List.length_cons] at this
    omega
end
end Mine
end

section
open PySem PySem.W PyProof.Rows PySem.Calls PySem.Spec
open PyProof.Rows.LCg (NsObj lst CompEnd Off3)
open PyProof.Rows.LCt (CompRestT)
set_option maxRecDepth 100000
set_option maxHeartbeats 0
namespace Mine
section
variable {prog : Program} {w : World} {A : Around} {h₀ : Heap} {L : Addr} {m : PySem.Str → Option Value} {env : Env} {ct elt : PySem.Expr} {x : PySem.Str} {scope : Scope} {cl : List (PySem.Str × Addr)} {s : Shared} {S : List (Addr × Obj) → Prop} {Pv : Nat → Value → Prop} {Fin : List Value → List (Addr × Obj) → Prop}
theorem comp_pickT {n : Nat} {r : Addr} (g : Obj → Obj → List (Addr × Obj)) (P : Int → Prop) {od oR : Obj} (ok : DrawsOk r od oR)
    (turn : ∀ od oR ys v I oI C oC D m₂ h tk (i : Nat) (E' : Value → Shared → Prop), DrawsOk r od oR → i < n → Pv i v → NsObj oC m₂ → m₂ x = some v → Fr h₀ L h m → News h₀ L h ((I, oI) :: (C, oC) :: (D, lst ys) :: g od oR) → Off3 I C D (g od oR) → ((@Ne Nat I C) ∧ (@Ne Nat I D) ∧ (@Ne Nat C D)) →
      wpAny (model prog w) A (isTrue ct (compEnvC scope cl C env) (eval ct (compEnvC scope cl C env))) (fun b s' => if b = true then
        wpAny (model prog w) A (eval elt (compEnvC scope cl C env)) (CompEnd h₀ L m { s with heap := h, toks := tk } I oI C oC D (lst ys) S (fun y news' => (∃ k t, y = .int k t ∧ P k) ∧ ∃ od' oR', news' = g od' oR' ∧ DrawsOk r od' oR')) E' s'
        else CompEnd h₀ L m { s with heap := h, toks := tk } I oI C oC D (lst ys) S (fun _ news' => ∃ od' oR', news' = g od' oR' ∧ DrawsOk r od' oR') Value.none s') E' { s with heap := h, toks := tk })
    (fin : ∀ ys ks od oR, IntsAre ys ks → ks.length ≤ n → (∀ k ∈ ks, P k) → DrawsOk r od oR → Fin ys (g od oR)) : CompRestT prog w A h₀ L m env ct elt x scope cl s S Pv Fin n 0 [] (g od oR) := by
  have key : ∀ (j i : Nat) (ys : List Value) ks od oR, i + j = n → ks.length ≤ i → IntsAre ys ks → (∀ k ∈ ks, P k) → DrawsOk r od oR → CompRestT prog w A h₀ L m env ct elt x scope cl s S Pv Fin j i ys (g od oR) := by
    intro j
    induction j with
    | zero =>
      intro i ys ks od oR hi hl hy hp ok
      exact LCt.CompRestT.zero (fin ys ks od oR hy (by omega) hp ok)
    | succ j ih =>
      intro i ys ks od oR hi hl hy hp ok
      refine LCt.CompRestT.succ ?_
      intro v I oI C oC D m₂ h tk E' hv hC hx F N off ne
      refine wpAny_mono (turn od oR ys v I oI C oC D m₂ h tk i E' ok (by omega) hv hC hx F N off ne) (fun b s₂ hq => ?_) fun _ _ e => e
      cases b with
      | true =>
        simp only [if_true] at hq ⊢
        refine wpAny_mono hq (fun y s₃ hr => ?_) fun _ _ e => e
        obtain ⟨h', tk', nw, e, F', N', off', hS, ⟨k, t, rfl, hk⟩, od', oR', rfl, ok'⟩ := hr
        exact ⟨h', tk', _, e, F', N', off', hS, ih (i + 1) _ (ks ++ [k]) od' oR' (by omega) (by simp; omega) (IntsAre.append hy (.cons k t .nil)) (fun z hz => by
          rcases List.mem_append.mp hz with h | h
          · exact hp z h
          · rw [List.mem_singleton.mp h]; exact hk) ok'⟩
      | false =>
        simp only [Bool.false_eq_true, if_false] at hq ⊢
        obtain ⟨h', tk', nw, e, F', N', off', hS, od', oR', rfl, ok'⟩ := hq
        exact ⟨h', tk', _, e, F', N', off', hS, ih (i + 1) _ ks od' oR' (by omega) (by omega) hy hp ok'⟩
  exact key n 0 [] [] od oR (by omega) (by simp) .nil (fun _ h => by simp at h) ok
def CompBr (g b : Bool) (P Q : Prop) : Prop := b = g ∧ if b = true then P else Q
theorem CompBr.intro {g b : Bool} {P Q : Prop} (e : b = g) (h1 : b = true → P) (h2 : b = false → Q) : CompBr g b P Q := by
  refine ⟨e, ?_⟩
  cases b with
  | true => exact h1 rfl
  | false => exact h2 rfl
theorem comp_filterT {news : List (Addr × Obj)} {vs : List Value} {ns : List Int} (G : Int → Bool) (hi : IntsAre vs ns)
    (turn : ∀ ys k t I oI C oC D m₂ h tk (E' : Value → Shared → Prop), NsObj oC m₂ → m₂ x = some (.int k t) → Fr h₀ L h m → News h₀ L h ((I, oI) :: (C, oC) :: (D, lst ys) :: news) → Off3 I C D news → ((@Ne Nat I C) ∧ (@Ne Nat I D) ∧ (@Ne Nat C D)) →
      wpAny (model prog w) A (isTrue ct (compEnvC scope cl C env) (eval ct (compEnvC scope cl C env))) (fun b s' => CompBr (G k) b
        (wpAny (model prog w) A (eval elt (compEnvC scope cl C env)) (CompEnd h₀ L m { s with heap := h, toks := tk } I oI C oC D (lst ys) S (fun y news' => (∃ t', y = .int k t') ∧ news' = news)) E' s')
        (CompEnd h₀ L m { s with heap := h, toks := tk } I oI C oC D (lst ys) S (fun _ news' => news' = news) Value.none s')) E' { s with heap := h, toks := tk })
    (fin : ∀ ys, IntsAre ys (ns.filter G) → Fin ys news) : CompRestT prog w A h₀ L m env ct elt x scope cl s S (fun i v => vs.toArray[i]? = some v) Fin vs.toArray.size 0 [] news := by
  have key : ∀ (j i : Nat) (ys : List Value), i + j = ns.length → IntsAre ys ((ns.take i).filter G) → CompRestT prog w A h₀ L m env ct elt x scope cl s S (fun i v => vs.toArray[i]? = some v) Fin j i ys news := by
    intro j
    induction j with
    | zero =>
      intro i ys hi' hy
      rw [List.take_of_length_le (by omega)] at hy
      exact LCt.CompRestT.zero (fin ys hy)
    | succ j ih =>
      intro i ys hi' hy
      refine LCt.CompRestT.succ ?_
      intro v I oI C oC D m₂ h tk E' hv hC hx F N off ne
      obtain ⟨k, t, hk, e⟩ := IntsAre.at hi i v (by simpa using hv)
      have hs : (ns.take (i + 1)).filter G = (ns.take i).filter G ++ (if G k then [k] else []) := by
        rw [List.take_add_one, e, List.filter_append]
        cases hg : G k <;> simp [hg]
      rw [hk] at hx
      refine wpAny_mono (turn ys k t I oI C oC D m₂ h tk E' hC hx F N off ne) (fun b s₂ hq => ?_) fun _ _ e => e
      obtain ⟨hb, hq⟩ := hq
      cases b with
      | true =>
        simp only [if_true] at hq ⊢
        refine wpAny_mono hq (fun y s₃ hr => ?_) fun _ _ e => e
        obtain ⟨h', tk', nw, e, F', N', off', hS, ⟨t', rfl⟩, rfl⟩ := hr
        refine ⟨h', tk', _, e, F', N', off', hS, ih (i + 1) _ (by omega) ?_⟩
        rw [hs, ← hb]
        exact IntsAre.append hy (.cons k t' .nil)
      | false =>
        simp only [Bool.false_eq_true, if_false] at hq ⊢
        obtain ⟨h', tk', nw, e, F', N', off', hS, rfl⟩ := hq
        refine ⟨h', tk', _, e, F', N', off', hS, ih (i + 1) _ (by omega) ?_⟩
        rw [hs, ← hb]
        simpa using hy
  have hl : vs.toArray.size = ns.length := by rw [List.size_toArray]; exact hi.length
  rw [hl]
  exact key ns.length 0 [] (by omega) .nil
end
end Mine
end

section
open PySem PySem.W PyProof.Rows PySem.Calls PySem.Spec
set_option maxRecDepth 100000
set_option maxHeartbeats 0
namespace Mine
section
variable {prog : Program} {w : World} {A : Around} {R : Result → Shared → Prop} {s : Shared}
theorem codeC_call_function {a : Addr} {args : PySem.Args} {o : Obj} {fd : FuncData} {body : List Stmt} (hroom : A.depth < recursionLimit)
    (ho : s.heap.get? a = some o) (hd' : o.data = .func fd) (hco : fd.scope.isCoroutine = false) (hgen : fd.scope.isGenerator = false) (hbody : fd.body = .stmts body) (hcd : s.heap.CodeRec fd.code fd.qualname)
    (h : wpAny (model prog w) A.in1 (bindArgs fd args) (fun binds s₁ =>
      wpAny (model prog w) A.in1 (newFunctionEnv fd.scope fd.globals fd.closure binds (fd.qualname ++ ".<locals>.") (some a) fd.code none fd.builtins)
        (fun env s₂ => s₂.heap.NoLimit ∧ codeC (model prog w) A (.func body env) R s₂) (fun e s' => R (.error e) s') s₁) (fun e s' => R (.error e) s') s) :
    codeC (model prog w) A (.call (.ref a) args) R s := by
  refine codeC_of_tree (C_any ?_)
  show wpAny _ A.in1 (callAny (.ref a) args) _ _ s
  simp only [callAny]
  refine wpAny_bind (wpAny_load ho ?_)
  obtain ⟨c, oc, vs, tq, hc, hoc, hdc, hq⟩ := hcd
  simp only [hd', callFunction, hco, hgen, hbody, hc]
  rw [hc] at h
  refine wpAny_bind (m := field (.ref c) 1) (wpAny_field hoc hdc hq (wpAny_bind (wpAny_pure ?_)))
  exact wpAny_bind (wpAny_mono h (fun binds s₁ h₁ => wpAny_bind (wpAny_mono h₁ (fun env s₂ h₂ => wpAny_bind (wpAny_enterFrame h₂.1 hroom
    (wpAny_pure ⟨rfl, rfl, h₂.2⟩))) fun _ _ h' => h')) fun _ _ h' => h')
end
section
variable {prog : Program} {w : World} {A₀ A : Around} {s : Shared} {K : Frag} {base h₀ : Heap} {L : Addr} {m mg mb : PySem.Str → Option Value} {news : List (Addr × Obj)} {p : Program} {loose : List PySem.Str} {mean : ExcName → Option Value}
theorem code_defKC {env : Env} {outer : List Env} {R : Result → Shared → Prop} {name qual : PySem.Str} {params : Arguments} {body : List Stmt} {scope : Scope} {dV kV doc pm cdv ct oc : Value} {an od : Option Addr} {osl : Array (Option Value)} {f : Addr} {args : PySem.Args} {binds : List (PySem.Str × Value)}
    (B : Below A₀ base outer h₀) (F : Fr h₀ L s.heap m) (X₀ : K.In h₀) (N : News h₀ L s.heap news) (T : Top p loose mean mg mb h₀) (hA : A.frames = some (env :: outer)) (hf : env.frame = some L) (hke : env.scope.kind = .function)
    (ho : K.lookup f = some ⟨oc, od, .func (fnOf name qual params body scope dV kV doc pm an cdv ct), osl⟩) (hcd : codeIn K cdv qual = true) (hroom : A.depth < recursionLimit)
    (hbind : BindsTo s (fnOf name qual params body scope dV kV doc pm an cdv ct) args binds) (hkind : (binds.all fun y => scope.names.lookup y.1 == some .local || scope.names.lookup y.1 == some .cell) = true)
    (hnd : ((cellsFrom 0 scope.names []).map (·.1)).Nodup)
    (h : ∀ g L' h₁ tk cells, Fr h₀ L g m → Fr g L' h₁ (bindL (envOfC qual scope L' f cdv).kindOf binds fun _ => none) → News g L' h₁ (cells ++ news) →
      CellsAre (bindC (envOfC qual scope L' f cdv).kindOf binds fun _ => none) (cellsFrom (L' + 1) scope.names []) cells → Below A base (env :: outer) g → K.In g → Top p loose mean mg mb g → (∀ p ∈ news, p.1 < L') →
      wpC (model prog w) (A.deeper (envOfC qual scope L' f cdv)) (execs body (envOfC qual scope L' f cdv))
        (fun fl s' => LeaveK h₀ L m g R (match fl with | .ret v => v | _ => .none) s') (fun _ _ => False) { s with heap := h₁, toks := tk })
    (hco : scope.isCoroutine = false) (hgen : scope.isGenerator = false) (hk : scope.kind = .function) : codeC (model prog w) A (.call (.ref f) args) R s := by
  have X := X₀.keeps F.keep
  obtain ⟨FG, BG, st, lv⟩ := groundX (R := R) B F N hA hf hke
  refine codeC_call_function (fd := fnOf name qual params body scope dV kV doc pm an cdv ct) (body := body) hroom (X _ _ ho) rfl hco hgen rfl (codeRec_of X hcd) (hbind _ _ _ _ ?_)
  refine wpAny_newFunctionEnv_cells hk (kindsX hkind _) fun env' he s' x => ?_
  subst he
  refine ⟨(T.nolimit.keeps F.keep).keeps x.toInCall.keep, codeC_func ?_⟩
  obtain ⟨h₁, tk, rfl, _⟩ := x.done
  have hk₁ := x.toInCall.keep
  obtain ⟨cells, NC, Y⟩ := Cl.news (h₀ := s.heap) (Nat.le_refl _) fun n c hm => ⟨x.cell n c (lookup_of_mem_nodup (cellsFrom_names scope.names 0 (s.heap.objs.size + 1) [] [] rfl ▸ hnd) hm), x.above n c hm⟩
  refine C_then (h _ s.heap.objs.size h₁ tk cells FG ⟨x.toInCall.ns, fun b o e => hk₁ b o (of_hideAll _ e), Nat.le_of_eq (hideAll_size _ _)⟩ (fun p hp => ?_) Y BG (X₀.keeps st) (T.keeps st) (fun p hp => Heap.lt_size (N p hp).1)) fun fl s' hl => lv _ _ hl
  rcases List.mem_append.mp hp with hp | hp
  · refine ⟨(NC p hp).1, (NC p hp).2.1, ?_⟩
    cases q : (hideAll s.heap (news.map (·.1))).get? p.1 with
    | none => rfl
    | some o => have := of_hideAll _ q; rw [(NC p hp).2.2] at this; cases this
  · exact ⟨hk₁ _ _ (N p hp).1, Nat.ne_of_lt (Heap.lt_size (N p hp).1), hideAll_none _ (List.mem_map_of_mem hp)⟩
end
end Mine
end

section
open PySem PySem.W PyProof.Rows PySem.Calls PySem.Spec
open PySem.SeqAt (EqAt RcAt RcNeAt)
set_option maxRecDepth 100000
set_option maxHeartbeats 0
namespace Mine
section
variable {prog : Program} {w : World} {A : Around} {E : Value → Shared → Prop} {s : Shared} {env : Env} {h₀ : Heap} {m : PySem.Str → Option Value}
def KnownPost (h₀ : Heap) (L : Addr) (m : PySem.Str → Option Value) (s : Shared) (c2 c1 : Addr) (o1 : Obj) (d r : Addr) (f : Flow) (s' : Shared) : Prop :=
  f = .next ∧ ∃ h' tk' V vs ks nv o2 od' oR', s' = { s with heap := h', toks := tk' } ∧ Fr h₀ L h' m ∧ News h₀ L h' [(V, W.listOf vs.toArray nv), (c2, o2), (c1, o1), (d, od'), (r, oR')] ∧ o2.data = .cell (some (.ref V)) ∧
    IntsAre vs ks ∧ (∀ n ∈ ks, 0 ≤ n ∧ n < 1000) ∧ 0 < ks.length ∧ ks.length ≤ 4 ∧ (@Ne Nat c2 V ∧ @Ne Nat c1 V ∧ @Ne Nat d V ∧ @Ne Nat r V) ∧ DrawsOk r od' oR'
theorem cut_known (c2 c1 d r : Addr) {o1 : Obj} {st : Stmt} {rest : List Stmt} {Q : Flow → Shared → Prop} (fF : Fr h₀ env.locals s.heap m) {o2 od oR : Obj} (fN : News h₀ env.locals s.heap [(c2, o2), (c1, o1), (d, od), (r, oR)]) (h1 : wpC (model prog w) A (exec st env) (KnownPost h₀ env.locals m s c2 c1 o1 d r) E s)
    (h2 : ∀ h' tk' V vs ks nv o2 od' oR', Fr h₀ env.locals h' m → News h₀ env.locals h' [(V, W.listOf vs.toArray nv), (c2, o2), (c1, o1), (d, od'), (r, oR')] → o2.data = .cell (some (.ref V)) →
      IntsAre vs ks → (∀ n ∈ ks, 0 ≤ n ∧ n < 1000) → 0 < ks.length → ks.length ≤ 4 → (@Ne Nat c2 V ∧ @Ne Nat c1 V ∧ @Ne Nat d V ∧ @Ne Nat r V) → DrawsOk r od' oR' → wpC (model prog w) A (execs rest env) Q E { s with heap := h', toks := tk' }) :
    wpC (model prog w) A (execs (st :: rest) env) Q E s := by
  refine C_execs_cons (C_then h1 ?_)
  rintro f s' ⟨rfl, h', tk', V, vs, ks, nv, o2, od', oR', rfl, F, N, a0, a1, a2, a3, a4, a5, a6⟩
  exact h2 h' tk' V vs ks nv o2 od' oR' F N a0 a1 a2 a3 a4 a5 a6
end
theorem drop_2 {h₀ h : Heap} {L : Addr} {a b : Addr × Obj} {news : List (Addr × Obj)} (N : News h₀ L h (a :: b :: news)) : News h₀ L h (a :: news) := fun p hp => N p (by
  rcases List.mem_cons.mp hp with rfl | hp
  · exact .head _
  · exact .tail _ (.tail _ hp))
theorem drop_first3 {h₀ h : Heap} {L : Addr} {a b c : Addr × Obj} {news : List (Addr × Obj)} (N : News h₀ L h (a :: b :: c :: news)) : News h₀ L h news := fun p hp => N p (.tail _ (.tail _ (.tail _ hp)))
theorem drop_234 {h₀ h : Heap} {L : Addr} {a b c d : Addr × Obj} {news : List (Addr × Obj)} (N : News h₀ L h (a :: b :: c :: d :: news)) : News h₀ L h (a :: news) := fun p hp => N p (by
  rcases List.mem_cons.mp hp with rfl | hp
  · exact .head _
  · exact .tail _ (.tail _ (.tail _ (.tail _ hp))))
theorem negPkt_eq (low : Int) (kd ks vers : List Int) : negPkt low kd ks vers = [128 + low.fmod 128] ++ be 0 4 ++ idsOf kd ks ++ vers.flatMap (be · 4) := rfl
theorem vers_ok {vs : List Int} (h : ∀ n ∈ vs, 0 ≤ n ∧ n < 1000) : ∀ n ∈ vs, 0 ≤ n ∧ n < 4294967296 := fun n hn => ⟨(h n hn).1, by have := (h n hn).2; omega⟩
theorem size_bne {k : Int} (h0 : 0 ≤ k) (h1 : k < 2) : ¬ (decide (1200 ≤ 1199 + k) != (1199 + k == 1200)) = true := by
  obtain rfl | rfl : k = 0 ∨ k = 1 := by omega
  · decide
  · decide
theorem not_empty {ys : List Value} {ks : List Int} (hy : IntsAre ys ks) (h : ys.isEmpty = false) : 0 < ks.length := by
  rw [← hy.length]
  cases ys with
  | nil => cases h
  | cons a l => simp
section
variable {prog : Program} {w : World} {A : Around} {E : Value → Shared → Prop} {s : Shared} {h₀ : Heap} {L : Addr} {m : PySem.Str → Option Value} {news : List (Addr × Obj)}
theorem pick_own {l : Addr} {value slice : PySem.Expr} {ta tb tc u : Tok} {n : Nat} {k : Int} {Q : Value → Shared → Prop} (N : News h₀ L s.heap news)
    (hm : (l, W.listOf #[.int 5 ta, .int 7 tb, .int 77 tc] n) ∈ news) (k0 : 0 ≤ k) (k1 : k < 3) (h : ∀ own t, 0 ≤ own → own < 256 → Q (.int own t) s)
    (hs : subscripted slice false (.ref l) (.int k u) = operate [.ref l, .int k u] (getItem (.ref l) (.int k u)) := by with_unfolding_all rfl) :
    wpAny (model prog w) A (subscriptTail value slice (.ref l) (.int k u)) Q E s := by
  have hl : s.heap.IsList l #[Value.int 5 ta, Value.int 7 tb, Value.int 77 tc] := ⟨_, (N _ hm).1, rfl, _, rfl⟩
  obtain rfl | rfl | rfl : k = 0 ∨ k = 1 ∨ k = 2 := by omega
  · exact tail_any hl.typeIs slot_list_getitem.lookup (wpAny_getItem_list (k := 0) hl (by decide) (by decide) rfl (h _ _ (by decide) (by decide))) hs
  · exact tail_any hl.typeIs slot_list_getitem.lookup (wpAny_getItem_list (k := 1) hl (by decide) (by decide) rfl (h _ _ (by decide) (by decide))) hs
  · exact tail_any hl.typeIs slot_list_getitem.lookup (wpAny_getItem_list (k := 2) hl (by decide) (by decide) rfl (h _ _ (by decide) (by decide))) hs
theorem pick_ver {l : Addr} {value slice : PySem.Expr} {ta tb tc td u : Tok} {n : Nat} {k : Int} {Q : Value → Shared → Prop} (N : News h₀ L s.heap news)
    (hm : (l, W.listOf #[.int 1 ta, .int 2 tb, .int 7 tc, .int 300 td] n) ∈ news) (k0 : 0 ≤ k) (k1 : k < 4) (h : ∀ v t, 0 ≤ v ∧ v < 1000 → Q (.int v t) s)
    (hs : subscripted slice false (.ref l) (.int k u) = operate [.ref l, .int k u] (getItem (.ref l) (.int k u)) := by with_unfolding_all rfl) :
    wpAny (model prog w) A (subscriptTail value slice (.ref l) (.int k u)) Q E s := by
  have hl : s.heap.IsList l #[Value.int 1 ta, Value.int 2 tb, Value.int 7 tc, Value.int 300 td] := ⟨_, (N _ hm).1, rfl, _, rfl⟩
  obtain rfl | rfl | rfl | rfl : k = 0 ∨ k = 1 ∨ k = 2 ∨ k = 3 := by omega
  · exact tail_any hl.typeIs slot_list_getitem.lookup (wpAny_getItem_list (k := 0) hl (by decide) (by decide) rfl (h _ _ (by decide))) hs
  · exact tail_any hl.typeIs slot_list_getitem.lookup (wpAny_getItem_list (k := 1) hl (by decide) (by decide) rfl (h _ _ (by decide))) hs
  · exact tail_any hl.typeIs slot_list_getitem.lookup (wpAny_getItem_list (k := 2) hl (by decide) (by decide) rfl (h _ _ (by decide))) hs
  · exact tail_any hl.typeIs slot_list_getitem.lookup (wpAny_getItem_list (k := 3) hl (by decide) (by decide) rfl (h _ _ (by decide))) hs
theorem be_ver {own : Int} (o0 : 0 ≤ own) (o1 : own < 256) : be (1280 + own) 4 = [0, 0, own.fdiv 256 + 5, own.fmod 256] := by
  have e1 : own.fdiv 256 = 0 := by rw [Int.fdiv_eq_ediv_of_nonneg _ (by decide)]; omega
  have e2 : own.fmod 256 = own := by rw [Int.fmod_eq_emod_of_nonneg _ (by decide)]; omega
  rw [e1, e2]
  show [(1280 + own) / 256 ^ 3 % 256, (1280 + own) / 256 ^ 2 % 256, (1280 + own) / 256 ^ 1 % 256, (1280 + own) / 256 ^ 0 % 256] = _
  rw [show (256 : Int) ^ 3 = 16777216 by decide, show (256 : Int) ^ 2 = 65536 by decide, show (256 : Int) ^ 1 = 256 by decide, show (256 : Int) ^ 0 = 1 by decide]
  rw [show (1280 + own) / 16777216 % 256 = 0 by omega, show (1280 + own) / 65536 % 256 = 0 by omega, show (1280 + own) / 256 % 256 = 0 + 5 by omega, show (1280 + own) / 1 % 256 = own by omega]
theorem bytes_ver {l : Addr} {t0 t1 t2 t3 t4 : Tok} {n : Nat} {k own : Int} {Q : Value → Shared → Prop} (F : Fr h₀ L s.heap m) (N : News h₀ L s.heap news) (hh : A.handled = none)
    (hm : (l, W.listOf #[.int (192 + k) t0, .int 0 t1, .int 0 t2, .int (own.fdiv 256 + 5) t3, .int (own.fmod 256) t4] n) ∈ news) (k0 : 0 ≤ k) (k1 : k < 64) (o0 : 0 ≤ own) (o1 : own < 256)
    (h : ∀ b h' t' tk, Fr h₀ L h' m → News h₀ L h' news → KBw.bInts b = [192 + k] ++ be (1280 + own) 4 → Q (.bytes b t') { s with heap := h', toks := tk }) : wpAny (model prog w) A (call (.type "bytes") [.ref l]) Q E s := by
  have e1 : own.fdiv 256 = 0 := by rw [Int.fdiv_eq_ediv_of_nonneg _ (by decide)]; omega
  have e2 : own.fmod 256 = own := by rw [Int.fmod_eq_emod_of_nonneg _ (by decide)]; omega
  have hr : KBa.In [192 + k, 0, 0, own.fdiv 256 + 5, own.fmod 256] := fun x hx => by
    simp only [List.mem_cons, List.not_mem_nil, or_false] at hx
    rcases hx with rfl | rfl | rfl | rfl | rfl <;> omega
  refine KBa.make_K (vs := [.int (192 + k) t0, .int 0 t1, .int 0 t2, .int (own.fdiv 256 + 5) t3, .int (own.fmod 256) t4]) F N hh (News.isList N hm)
    (.cons _ _ (.cons _ _ (.cons _ _ (.cons _ _ (.cons _ _ .nil))))) hr (by simp) fun h' t' tk F' N' _ => h _ h' t' tk F' N' ?_
  rw [be_ver o0 o1]
  exact KBa.ints_make hr
theorem notin_far {l : Addr} {vs : List Value} {ns : List Int} {nn : Nat} {k : Int} {t : Tok} {Q : Value → Shared → Prop} (N : News h₀ L s.heap news) (hm : (l, W.listOf vs.toArray nn) ∈ news) (hi : IntsAre vs ns) (hb : ∀ n ∈ ns, 0 ≤ n ∧ n < 1000) (hk : 1000 ≤ k)
    (h : Q (.bool true) s) : wpAny (model prog w) A (compareOp .NotIn (.int k t) (.ref l)) Q E s := by
  refine notin_list_ints (News.isList N hm) hi ?_
  have e : (ns.any (· == k)) = false := by
    rw [List.any_eq_false]
    intro x hx
    have := (hb x hx).2
    simp only [beq_iff_eq]
    omega
  rw [e]; exact h
theorem pick_ids {l T0 T1 T2 T3 : Addr} {value slice : PySem.Expr} {bd bs b2 b3 : Array UInt8} {kd ks l2 l3 : List Int} {x2 x3 : Int} {t1 t2 t3 t4 t5 t6 t7 t8 u : Tok} {n : Nat} {k : Int} {Q : Value → Shared → Prop} (N : News h₀ L s.heap news)
    (hm : (l, W.listOf #[.ref T0, .ref T1, .ref T2, .ref T3] n) ∈ news) (h0 : (T0, ({ cls := .type "tuple", data := .seq #[.bytes bd t1, .bytes bs t2] } : Obj)) ∈ news) (h1 : (T1, ({ cls := .type "tuple", data := .seq #[.bytes bd t3, .bytes bs t4] } : Obj)) ∈ news)
    (h2 : (T2, ({ cls := .type "tuple", data := .seq #[.bytes b2 t5, .bytes bs t6] } : Obj)) ∈ news) (h3 : (T3, ({ cls := .type "tuple", data := .seq #[.bytes bd t7, .bytes b3 t8] } : Obj)) ∈ news) (k0 : 0 ≤ k) (k1 : k < 4)
    (hd : KBw.bInts bd = kd) (hs1 : KBw.bInts bs = ks) (e2 : KBw.bInts b2 = kd ++ x2 :: l2) (e3 : KBw.bInts b3 = ks ++ x3 :: l3) (z1 : kd.length ≤ 5) (z2 : ks.length ≤ 5) (z3 : l2.length ≤ 5) (z4 : l3.length ≤ 5)
    (h : ∀ T a b ta tb ka kb, KBw.bInts a = ka → KBw.bInts b = kb → ka.length ≤ 100 → kb.length ≤ 100 → (¬ 1 < k → ka = kd ∧ kb = ks) → (1 < k → ka ≠ kd ∨ kb ≠ ks) → News h₀ L s.heap ((T, ({ cls := .type "tuple", data := .seq #[.bytes a ta, .bytes b tb] } : Obj)) :: news) → Q (.ref T) s)
    (hs : subscripted slice false (.ref l) (.int k u) = operate [.ref l, .int k u] (getItem (.ref l) (.int k u)) := by with_unfolding_all rfl) :
    wpAny (model prog w) A (subscriptTail value slice (.ref l) (.int k u)) Q E s := by
  have hl : s.heap.IsList l #[Value.ref T0, Value.ref T1, Value.ref T2, Value.ref T3] := ⟨_, (N _ hm).1, rfl, _, rfl⟩
  have up : ∀ {p : Addr × Obj}, p ∈ news → News h₀ L s.heap (p :: news) := fun hp q hq => by
    rcases List.mem_cons.mp hq with rfl | hq
    · exact N _ hp
    · exact N _ hq
  have n2 : kd ++ x2 :: l2 ≠ kd := fun e => by have := congrArg List.length e; simp at this
  have n3 : ks ++ x3 :: l3 ≠ ks := fun e => by have := congrArg List.length e; simp at this
  have z5 : (kd ++ x2 :: l2).length ≤ 100 := by simp; omega
  have z6 : (ks ++ x3 :: l3).length ≤ 100 := by simp; omega
  obtain rfl | rfl | rfl | rfl : k = 0 ∨ k = 1 ∨ k = 2 ∨ k = 3 := by omega
  · exact tail_any hl.typeIs slot_list_getitem.lookup (wpAny_getItem_list (k := 0) hl (by decide) (by decide) rfl (h _ _ _ _ _ _ _ hd hs1 (by omega) (by omega) (fun _ => ⟨rfl, rfl⟩) (fun x => absurd x (by decide)) (up h0))) hs
  · exact tail_any hl.typeIs slot_list_getitem.lookup (wpAny_getItem_list (k := 1) hl (by decide) (by decide) rfl (h _ _ _ _ _ _ _ hd hs1 (by omega) (by omega) (fun _ => ⟨rfl, rfl⟩) (fun x => absurd x (by decide)) (up h1))) hs
  · exact tail_any hl.typeIs slot_list_getitem.lookup (wpAny_getItem_list (k := 2) hl (by decide) (by decide) rfl (h _ _ _ _ _ _ _ e2 hs1 z5 (by omega) (fun x => absurd (by decide) x) (fun _ => .inl n2) (up h2))) hs
  · exact tail_any hl.typeIs slot_list_getitem.lookup (wpAny_getItem_list (k := 3) hl (by decide) (by decide) rfl (h _ _ _ _ _ _ _ hd e3 (by omega) z6 (fun x => absurd (by decide) x) (fun _ => .inr n3) (up h3))) hs
end
end Mine
end

section
open PySem PySem.W PyProof.Rows PySem.Calls PySem.Spec
open PySem.SeqAt (EqAt RcAt RcNeAt)
set_option maxRecDepth 100000
set_option maxHeartbeats 0
namespace Mine
section
variable {seen : Bool} {kd kn ks ko vers wanted : List Int} {own : Int} {o : Obj}
theorem ign_seen (h : seen = true) : Ign seen kd kn ks ko own vers := .inl h
theorem ign_own (h : (vers.any fun x => x == own) = true) : Ign seen kd kn ks ko own vers := .inr (.inr (.inr h))
theorem ign_ids {ka kb : List Int} (h : ka ≠ kd ∨ kb ≠ ks) : Ign seen ks kb kd ka own vers := by
  rcases h with h | h
  · exact .inr (.inr (.inl (Ne.symm h)))
  · exact .inr (.inl (Ne.symm h))
theorem not_ign_of {ka kb : List Int} (h1 : seen = false) (h2 : ka = kd ∧ kb = ks) (h3 : (vers.any fun x => x == own) = false) : ¬ Ign seen ks kb kd ka own vers := fun x => by
  rcases x with x | x | x | x
  · rw [h1] at x; cases x
  · exact x h2.2.symm
  · exact x h2.1.symm
  · rw [h3] at x; cases x
end
section
variable {prog : Program} {w : World} {A : Around} {E : Value → Shared → Prop} {s : Shared} {h₀ : Heap} {L T X : Addr} {m : PySem.Str → Option Value} {news : List (Addr × Obj)} {seen : Bool} {kd kn ks ko vers wanted : List Int} {own : Int} {o : Obj} {t1 t2 : Tok} {Q : Value → Shared → Prop}
theorem told_ign (N : News h₀ L s.heap news) (hT : (T, o) ∈ news) (hX : (X, ({ cls := .type "tuple", data := .seq #[.str (PySem.Str.ofString "ignore") t1, .none] } : Obj)) ∈ news) (hu : A.units < cLine)
    (ht : Told seen kd kn ks ko own vers wanted o) (hi : Ign seen kd kn ks ko own vers) (h : Q (.bool true) s) : wpAny (model prog w) A (compareOp .Eq (.ref T) (.ref X)) Q E s := by
  rcases ht with ⟨_, t, rfl⟩ | ⟨n, _⟩ | ⟨n, _⟩
  · exact tups_eq (xs := [_, _]) (ys := [_, _]) N hT hX hu ⟨eq_at_str _ _ _, EqAt.same _, True.intro⟩ h
  · exact absurd hi n
  · exact absurd hi n
theorem told_use {x : Int} (N : News h₀ L s.heap news) (hT : (T, o) ∈ news) (hX : (X, ({ cls := .type "tuple", data := .seq #[.str (PySem.Str.ofString "use") t1, .int x t2] } : Obj)) ∈ news) (hu : A.units < cLine)
    (ht : Told seen kd kn ks ko own vers wanted o) (hi : ¬ Ign seen kd kn ks ko own vers) (hx : (wanted.filter fun v => vers.any fun x => x == v)[0]? = some x) (h : Q (.bool true) s) : wpAny (model prog w) A (compareOp .Eq (.ref T) (.ref X)) Q E s := by
  rw [← List.head?_eq_getElem?, List.head?_filter] at hx
  rcases ht with ⟨n, _⟩ | ⟨_, y, t, u, hf, rfl⟩ | ⟨_, hf, _⟩
  · exact absurd n hi
  · rw [hf] at hx
    cases hx
    exact tups_eq (xs := [_, _]) (ys := [_, _]) N hT hX hu ⟨eq_at_str _ _ _, eq_at_int _ _ _, True.intro⟩ h
  · rw [hf] at hx; cases hx
theorem told_none (N : News h₀ L s.heap news) (hT : (T, o) ∈ news) (hX : (X, ({ cls := .type "tuple", data := .seq #[.str (PySem.Str.ofString "give up") t1, .none] } : Obj)) ∈ news) (hu : A.units < cLine)
    (ht : Told seen kd kn ks ko own vers wanted o) (hi : ¬ Ign seen kd kn ks ko own vers) (hx : (wanted.filter fun v => vers.any fun x => x == v) = []) (h : Q (.bool true) s) : wpAny (model prog w) A (compareOp .Eq (.ref T) (.ref X)) Q E s := by
  have hf : wanted.find? (fun v => vers.any fun x => x == v) = none := by rw [← List.head?_filter, hx]; rfl
  rcases ht with ⟨n, _⟩ | ⟨_, y, t, u, hf', _⟩ | ⟨_, _, t, rfl⟩
  · exact absurd n hi
  · rw [hf] at hf'; cases hf'
  · exact tups_eq (xs := [_, _]) (ys := [_, _]) N hT hX hu ⟨eq_at_str _ _ _, EqAt.same _, True.intro⟩ h
end
section
open PyProof.Rows.LCg (NsObj lst CompEnd Off3)
open PyProof.Rows.LCt (CompRestT)
variable {prog : Program} {w : World} {A : Around} {h₀ : Heap} {L : Addr} {m : PySem.Str → Option Value} {env : Env} {ct elt : PySem.Expr} {x : PySem.Str} {scope : Scope} {cl : List (PySem.Str × Addr)} {s : Shared} {S : List (Addr × Obj) → Prop} {Fin : List Value → List (Addr × Obj) → Prop}
theorem comp_anyT {news : List (Addr × Obj)} {vs vk : List Value} {ns ks : List Int} (fik : IntsAre vk ks) (hi : IntsAre vs ns)
    (turn : ∀ ys k t I oI C oC D m₂ h tk (E' : Value → Shared → Prop), NsObj oC m₂ → m₂ x = some (.int k t) → Fr h₀ L h m → News h₀ L h ((I, oI) :: (C, oC) :: (D, lst ys) :: news) → Off3 I C D news → ((@Ne Nat I C) ∧ (@Ne Nat I D) ∧ (@Ne Nat C D)) →
      wpAny (model prog w) A (isTrue ct (compEnvC scope cl C env) (eval ct (compEnvC scope cl C env))) (fun b s' => CompBr (ks.any fun x => x == k) b
        (wpAny (model prog w) A (eval elt (compEnvC scope cl C env)) (CompEnd h₀ L m { s with heap := h, toks := tk } I oI C oC D (lst ys) S (fun y news' => (∃ t', y = .int k t') ∧ news' = news)) E' s')
        (CompEnd h₀ L m { s with heap := h, toks := tk } I oI C oC D (lst ys) S (fun _ news' => news' = news) Value.none s')) E' { s with heap := h, toks := tk })
    (fin : ∀ ys, IntsAre ys (ns.filter fun k => ks.any fun x => x == k) → Fin ys news) : CompRestT prog w A h₀ L m env ct elt x scope cl s S (fun i v => vs.toArray[i]? = some v) Fin vs.toArray.size 0 [] news :=
  comp_filterT (fun k => ks.any fun x => x == k) hi turn fin
end
section
variable {prog : Program} {w : World} {A : Around} {E : Value → Shared → Prop} {s : Shared} {h₀ : Heap} {L D X : Addr} {m : PySem.Str → Option Value} {news : List (Addr × Obj)} {ys : List Value} {zs : List Int} {n : Nat} {Q : Value → Shared → Prop}
theorem both_ne (N : News h₀ L s.heap news) (hD : (D, PyProof.Rows.LCg.lst ys) ∈ news) (hX : (X, W.listOf #[] n) ∈ news) (hu : A.units + 64 < cLine) (hy : IntsAre ys zs)
    (h1 : zs ≠ [] → Q (.bool true) s) (h2 : zs = [] → Q (.bool false) s) : wpAny (model prog w) A (compareOp .NotEq (.ref D) (.ref X)) Q E s := by
  refine ke_ne_ints (xs := ys) (ys := []) (News.isList N hD) (News.isList N hX) hy .nil hu ?_
  by_cases h : zs = []
  · simpa [h] using h2 h
  · simpa [h] using h1 h
theorem pick_first {value slice : PySem.Expr} {u : Tok} (N : News h₀ L s.heap news) (hD : (D, PyProof.Rows.LCg.lst ys) ∈ news) (hy : IntsAre ys zs) (hne : zs ≠ []) (h : ∀ x t, zs[0]? = some x → Q (.int x t) s)
    (hs : subscripted slice false (.ref D) (.int 0 u) = operate [.ref D, .int 0 u] (getItem (.ref D) (.int 0 u)) := by with_unfolding_all rfl) :
    wpAny (model prog w) A (subscriptTail value slice (.ref D) (.int 0 u)) Q E s := by
  have hl := News.isList N hD
  cases hy with
  | nil => exact absurd rfl hne
  | cons x t r => exact tail_any hl.typeIs slot_list_getitem.lookup (wpAny_getItem_list (k := 0) hl (by decide) (by simp) rfl (h _ _ rfl)) hs
end
end Mine
end

section
open PySem PySem.W PyProof.Rows PySem.Calls PySem.Spec
set_option maxRecDepth 100000
set_option maxHeartbeats 0
namespace Mine
theorem call_fullC {prog : Program} {w : World} {A : Around} {R : Result → Shared → Prop} {s : Shared} {name : PySem.Str} {params : Arguments} {body : List Stmt} {scope : Scope}
    {dV kV pm cd doc : Value} {a : Addr} {o : Obj} {args : PySem.Args} {binds : List (PySem.Str × Value)}
    (hroom : A.depth < recursionLimit) (ho : s.heap.get? a = some o) (hdata : o.data = .func { docDef name params body scope pm cd doc with defaults := dV, kwdefaults := kV }) (hlim : s.heap.NoLimit) (hcd : s.heap.CodeRec cd name)
    (hbind : BindsTo s { docDef name params body scope pm cd doc with defaults := dV, kwdefaults := kV } args binds)
    (hloc : ∀ x ∈ binds, scope.names.lookup x.1 = some .local)
    (h : ∀ h₁, Fr s.heap s.heap.objs.size h₁ (fun x => binds.reverse.lookup x) →
      wpC (model prog w) (A.deeper (envOf name scope s.heap.objs.size a cd)) (execs body (envOf name scope s.heap.objs.size a cd))
        (fun f s' => R (.ok (.ret (match f with | .ret v => v | _ => .none))) s') (fun _ _ => False) { s with heap := h₁, toks := s.toks + binds.length })
    (hco : scope.isCoroutine = false := by rfl) (hgen : scope.isGenerator = false := by rfl) (hk : scope.kind = .function := by rfl)
    (hcell : ∀ x ∈ scope.names, x.2 ≠ .cell := by decide) :
    codeC (model prog w) A (.call (.ref a) args) R s :=
  codeC_call hroom ho hdata hlim hcd rfl hbind hcell hloc (fun h₁ hns hkeep => h h₁ ⟨hns, hkeep, Nat.le_refl _⟩) hco hgen hk
theorem drop_1 {h₀ h : Heap} {L : Addr} {a : Addr × Obj} {news : List (Addr × Obj)} (N : News h₀ L h (a :: news)) : News h₀ L h news := fun p hp => N p (.tail _ hp)
end Mine
end

section
open PySem PySem.W PyProof.Rows PySem.Calls PySem.Spec
set_option maxRecDepth 100000
set_option maxHeartbeats 0
namespace Mine
noncomputable def mask {α : Type} : List Bool → List α → List α
  | [], l => l
  | _ :: _, [] => []
  | true :: b, a :: l => a :: mask b l
  | false :: b, _ :: l => mask b l
theorem mask_mem {α : Type} {p : α} : ∀ {b : List Bool} {l : List α}, p ∈ mask b l → p ∈ l
  | [], _, h => h
  | _ :: _, [], h => h
  | true :: b, a :: l, h => by
    rcases List.mem_cons.mp h with rfl | h
    · exact .head _
    · exact .tail _ (mask_mem h)
  | false :: b, _ :: l, h => .tail _ (mask_mem (b := b) h)
theorem mask_news {h₀ h : Heap} {L : Addr} {news : List (Addr × Obj)} (b : List Bool) (N : News h₀ L h news) : News h₀ L h (mask b news) := fun p hp => N p (mask_mem hp)
theorem gt_ne {x a : Nat} {o : Obj} {l : List (Addr × Obj)} (h : AllLt x l) (hm : (a, o) ∈ l) : x ≠ a := Nat.ne_of_gt (ktn_ltOf h (a, o) hm)
theorem lt_ne {x a : Nat} {o : Obj} {l : List (Addr × Obj)} (h : AllLt x l) (hm : (a, o) ∈ l) : a ≠ x := Nat.ne_of_lt (ktn_ltOf h (a, o) hm)
theorem allLt_trans {x y : Nat} {l : List (Addr × Obj)} (h : AllLt x l) (hx : @LT.lt Nat _ x y) : AllLt y l := allLt_of fun p hp => Nat.lt_trans (ktn_ltOf h p hp) hx
theorem allLt_cons {x y : Nat} {o : Obj} {l : List (Addr × Obj)} (h : AllLt x l) (hx : @LT.lt Nat _ x y) : AllLt y ((x, o) :: l) := ⟨hx, allLt_trans h hx⟩
end Mine
end

section
open PySem PySem.W PyProof.Rows PySem.Calls PySem.Spec
set_option maxRecDepth 100000
set_option maxHeartbeats 0
namespace Mine
theorem regT4x1 : True := by
  k_with_none
  k_with "k_steps" => ((repeat' (first | (k_unfold; (try dsimp only)) | (k_end; wrow_close) | ((fail_if_success (with_reducible show wpAny _ _ (subscriptTail _ _ _ _) _ _ _)); dsimp only; walk1) | walk1 | (dsimp only; walk1) | (leave1; walk_say "STEP leave1"; try dsimp only) | fail "no step")))
  k_with "omega" => ((first
  | ((with_reducible show @LT.lt Nat _ _ _); first | (with_reducible assumption) | ((with_reducible refine' rm2 ?omA ?omB); (case omA => with_reducible assumption); (case omB => exact rfl)) | ((with_reducible refine' rm1 ?omA ?omB); (case omA => with_reducible assumption); (case omB => exact rfl)) | ((with_reducible refine' rm0 ?omA); (case omA => with_reducible assumption)) | ((with_reducible refine' ltL ?omA ?omB); (case omA => with_reducible assumption); (case omB => exact rfl)) | ((with_reducible refine' rm3 ?omA ?omB); (case omA => with_reducible assumption); (case omB => exact rfl)) | (simp only [Nat.reduceAdd, Nat.reduceMul, Nat.reduceSub, Nat.reducePow, Nat.reduceLeDiff, Nat.reduceLT, Nat.zero_le, Nat.le_refl, Nat.zero_lt_one]; done))
  | ((with_reducible show @LE.le Nat _ _ _); first | (with_reducible assumption) | (with_reducible exact Nat.zero_le _) | ((with_reducible refine' leL ?omA ?omB); (case omA => with_reducible assumption); (case omB => exact rfl)) | (simp only [Nat.reduceAdd, Nat.reduceMul, Nat.reduceSub, Nat.reducePow, Nat.reduceLeDiff, Nat.reduceLT, Nat.zero_le, Nat.le_refl, Nat.zero_lt_one]; done))
  | ((with_reducible show @Ne Nat _ _); (with_reducible first
  | assumption
  | exact Ne.symm (by with_reducible assumption)
  | exact Nat.ne_of_gt (by with_reducible assumption)
  | exact Nat.ne_of_gt (And.left (by with_reducible assumption))
  | exact Nat.ne_of_gt (And.left (And.right (by with_reducible assumption)))
  | exact Nat.ne_of_gt (And.left (And.right (And.right (by with_reducible assumption))))
  | exact Nat.ne_of_gt (And.right (by with_reducible assumption))
  | exact Nat.ne_of_gt (And.right (And.right (by with_reducible assumption)))
  | exact gs1 (by with_reducible assumption)
  | exact gs1 (And.left (by with_reducible assumption))
  | exact gs1 (And.left (And.right (by with_reducible assumption)))
  | exact gs1 (And.left (And.right (And.right (by with_reducible assumption))))
  | exact gs1 (And.right (by with_reducible assumption))
  | exact gs1 (And.right (And.right (by with_reducible assumption)))
  | exact gs2 (by with_reducible assumption)
  | exact gs2 (And.left (by with_reducible assumption))
  | exact gs2 (And.left (And.right (by with_reducible assumption)))
  | exact gs2 (And.left (And.right (And.right (by with_reducible assumption))))
  | exact gs2 (And.right (by with_reducible assumption))
  | exact gs2 (And.right (And.right (by with_reducible assumption)))
  | exact Nat.ne_of_lt (by with_reducible assumption)
  | exact Nat.ne_of_lt (And.left (by with_reducible assumption))
  | exact Nat.ne_of_lt (And.left (And.right (by with_reducible assumption)))
  | exact Nat.ne_of_lt (And.left (And.right (And.right (by with_reducible assumption))))
  | exact Nat.ne_of_lt (And.right (by with_reducible assumption))
  | exact Nat.ne_of_lt (And.right (And.right (by with_reducible assumption)))
  | exact ls1 (by with_reducible assumption)
  | exact ls1 (And.left (by with_reducible assumption))
  | exact ls1 (And.left (And.right (by with_reducible assumption)))
  | exact ls1 (And.left (And.right (And.right (by with_reducible assumption))))
  | exact ls1 (And.right (by with_reducible assumption))
  | exact ls1 (And.right (And.right (by with_reducible assumption)))
  | exact ls2 (by with_reducible assumption)
  | exact ls2 (And.left (by with_reducible assumption))
  | exact ls2 (And.left (And.right (by with_reducible assumption)))
  | exact ls2 (And.left (And.right (And.right (by with_reducible assumption))))
  | exact ls2 (And.right (by with_reducible assumption))
  | exact ls2 (And.right (And.right (by with_reducible assumption)))
  | exact Ne.symm (And.left (by with_reducible assumption))
  | exact Ne.symm (And.left (And.right (by with_reducible assumption)))
  | exact Ne.symm (And.left (And.right (And.right (by with_reducible assumption))))
  | exact Ne.symm (And.right (And.right (And.right (by with_reducible assumption))))
  | exact Ne.symm (And.left (And.left (by with_reducible assumption)))
  | exact Ne.symm (And.left (And.right (And.left (by with_reducible assumption))))
  | exact Ne.symm (And.right (And.right (And.left (by with_reducible assumption))))
  | exact Ne.symm (And.left (And.left (And.right (by with_reducible assumption))))
  | exact Ne.symm (And.left (And.right (And.left (And.right (by with_reducible assumption)))))
  | exact Ne.symm (And.right (And.right (And.left (And.right (by with_reducible assumption)))))
  | exact Ne.symm (And.left (And.left (And.right (And.right (by with_reducible assumption)))))
  | exact Ne.symm (And.left (And.right (And.left (And.right (And.right (by with_reducible assumption))))))
  | exact Ne.symm (And.right (And.right (And.left (And.right (And.right (by with_reducible assumption))))))
  | exact Ne.symm (And.left (And.right (And.right (And.right (by with_reducible assumption)))))
  | exact Ne.symm (And.left (And.right (And.right (And.right (And.right (by with_reducible assumption))))))
  | exact Ne.symm (And.right (And.right (And.right (And.right (And.right (by with_reducible assumption))))))
  | exact (And.left (by with_reducible assumption))
  | exact (And.left (And.right (by with_reducible assumption)))
  | exact (And.left (And.right (And.right (by with_reducible assumption))))
  | exact (And.right (And.right (And.right (by with_reducible assumption))))
  | exact (And.left (And.left (by with_reducible assumption)))
  | exact (And.left (And.right (And.left (by with_reducible assumption))))
  | exact (And.right (And.right (And.left (by with_reducible assumption))))
  | exact (And.left (And.left (And.right (by with_reducible assumption))))
  | exact (And.left (And.right (And.left (And.right (by with_reducible assumption)))))
  | exact (And.right (And.right (And.left (And.right (by with_reducible assumption)))))
  | exact (And.left (And.left (And.right (And.right (by with_reducible assumption)))))
  | exact (And.left (And.right (And.left (And.right (And.right (by with_reducible assumption))))))
  | exact (And.right (And.right (And.left (And.right (And.right (by with_reducible assumption))))))
  | exact (And.left (And.right (And.right (And.right (by with_reducible assumption)))))
  | exact (And.left (And.right (And.right (And.right (And.right (by with_reducible assumption))))))
  | exact (And.right (And.right (And.right (And.right (And.right (by with_reducible assumption))))))
  | exact gt2 (by with_reducible assumption) (by with_reducible assumption)
  | fail "no ne"))))
  k_with "units_room" => ((simp only [units_under_make, units_in1, units_deeper, Around.mark_units, units_caller, cLine]; (try dsimp only [ktrTop]); omega))
  k_with "ktr_room" => (((simp only [depth_under_make, depth_under_kw, depth_in1, depth_deeper, depth_caller, recursionLimit]); (try dsimp only [ktrTop]); omega))
  k_with "k_room" => (((simp only [depth_under_make, depth_under_kw, depth_in1, depth_deeper, depth_caller, recursionLimit]); (try dsimp only [ktrTop]); omega))
  k_with "k_all" => (first | assumption | exact ne_of_allLt (by assumption) | exact ne_of_allLt (And.right (by assumption)) | exact ne_of_allLt (And.right (And.right (by assumption))) | exact ne_of_allLt (And.right (And.right (And.right (by assumption)))))
  k_with "m exec For" => (((with_reducible show wpAny _ _ (exec (Stmt.For (PySem.Expr.Name _ _) _ _ [] _) _) _ _ _); (rename Fr _ _ _ _ => lF'); (with_unfolding_all refine' For_invVF lF' ?k1 ?k2 ?_; (case k1 => exact rfl); (case k2 => exact rfl); k_whole)))
  k_with "m InvEndN" => ((refine InvEndN.intro (by assumption) (by assumption) ⟨rfl, ⟨_, by with_unfolding_all rfl⟩, fun z h1 h2 => by first | (simp only [if_neg h1, if_neg h2]; done) | (simp only [if_neg h1, if_neg h2]; rfl) | exact (if_neg h1).trans (if_neg h2)⟩ rfl ?zz1 ?zz2; (case zz1 => exact fun p hp => List.mem_append_left _ hp); (case zz2 => exact fun p hp => List.mem_append_right _ hp)))
  k_with "m ite" => (first | refine ite_pos (by (simp; done)) ?_ | refine ite_neg (by (simp; done)) ?_)
  k_with "kba_size" => (((try simp only [List.length_append, be_length, List.length_cons, List.length_nil, List.length_map, List.length_take, List.length_drop, Int.reduceToNat]); omega))
  k_with "kba_size" => (((try simp only [List.length_append, be_length, tag_length, idsOf_length, bodyOf_length, tokOf_length, retryRaw_length, retryTag_length, retryPkt_length, negPkt_length, flat4_length, List.length_cons, List.length_nil, List.length_map, List.length_take, List.length_drop, List.length_set, Int.reduceToNat]); first | done | omega))
  trivial
theorem put_ids_ctr (w : World) (bd bs : Array UInt8) (kd ks : List Int) (td ts : Tok) (news : List (Addr × Obj)) (hd1 : KBw.bInts bd = kd) (hs1 : KBw.bInts bs = ks) (l1 : kd.length ≤ 255) (l2 : ks.length ≤ 255) :
    Ctr w 188 10 1000 [.bytes bd td, .bytes bs ts] news (fun v news' => ∃ b t, v = .bytes b t ∧ KBw.bInts b = idsOf kd ks ∧ news' = news) := use _ (by exact True.intro : Wit (by
  unfold Ctr
  k_fill
  intro mean mg mb dp un gd cn cs a ccd cl outer A₀ base h₀ L m s Q E B F X N T hk hd hu hret
  refine wpAny_call ?_
  k_dflt cell_enter
  k_steps
  exact hret _ _ _ _ (by k_asm) (cb_drop (by k_asm) fun p hp => .tail _ (.tail _ hp)) ⟨_, _, rfl, ((by assumption : KBw.bInts _ = _).trans (by simp (disch := omega) only [u8_back, idsOf, List.map_cons, List.map_nil])), rfl⟩
  ))

theorem regT4x2 : True := by
  k_with_none
  k_with "k_steps" => ((repeat' (first | (k_unfold; (try dsimp only)) | (k_end; wrow_close) | ((fail_if_success (with_reducible show wpAny _ _ (subscriptTail _ _ _ _) _ _ _)); dsimp only; walk1) | walk1 | (dsimp only; walk1) | (leave1; walk_say "STEP leave1"; try dsimp only) | fail "no step")))
  k_with "omega" => ((first
  | ((with_reducible show @LT.lt Nat _ _ _); first | (with_reducible assumption) | ((with_reducible refine' rm2 ?omA ?omB); (case omA => with_reducible assumption); (case omB => exact rfl)) | ((with_reducible refine' rm1 ?omA ?omB); (case omA => with_reducible assumption); (case omB => exact rfl)) | ((with_reducible refine' rm0 ?omA); (case omA => with_reducible assumption)) | ((with_reducible refine' ltL ?omA ?omB); (case omA => with_reducible assumption); (case omB => exact rfl)) | ((with_reducible refine' rm3 ?omA ?omB); (case omA => with_reducible assumption); (case omB => exact rfl)) | (simp only [Nat.reduceAdd, Nat.reduceMul, Nat.reduceSub, Nat.reducePow, Nat.reduceLeDiff, Nat.reduceLT, Nat.zero_le, Nat.le_refl, Nat.zero_lt_one]; done))
  | ((with_reducible show @LE.le Nat _ _ _); first | (with_reducible assumption) | (with_reducible exact Nat.zero_le _) | ((with_reducible refine' leL ?omA ?omB); (case omA => with_reducible assumption); (case omB => exact rfl)) | (simp only [Nat.reduceAdd, Nat.reduceMul, Nat.reduceSub, Nat.reducePow, Nat.reduceLeDiff, Nat.reduceLT, Nat.zero_le, Nat.le_refl, Nat.zero_lt_one]; done))
  | ((with_reducible show @Ne Nat _ _); (with_reducible first
  | assumption
  | exact Ne.symm (by with_reducible assumption)
  | exact Nat.ne_of_gt (by with_reducible assumption)
  | exact Nat.ne_of_gt (And.left (by with_reducible assumption))
  | exact Nat.ne_of_gt (And.left (And.right (by with_reducible assumption)))
  | exact Nat.ne_of_gt (And.left (And.right (And.right (by with_reducible assumption))))
  | exact Nat.ne_of_gt (And.right (by with_reducible assumption))
  | exact Nat.ne_of_gt (And.right (And.right (by with_reducible assumption)))
  | exact gs1 (by with_reducible assumption)
  | exact gs1 (And.left (by with_reducible assumption))
  | exact gs1 (And.left (And.right (by with_reducible assumption)))
  | exact gs1 (And.left (And.right (And.right (by with_reducible assumption))))
  | exact gs1 (And.right (by with_reducible assumption))
  | exact gs1 (And.right (And.right (by with_reducible assumption)))
  | exact gs2 (by with_reducible assumption)
  | exact gs2 (And.left (by with_reducible assumption))
  | exact gs2 (And.left (And.right (by with_reducible assumption)))
  | exact gs2 (And.left (And.right (And.right (by with_reducible assumption))))
  | exact gs2 (And.right (by with_reducible assumption))
  | exact gs2 (And.right (And.right (by with_reducible assumption)))
  | exact Nat.ne_of_lt (by with_reducible assumption)
  | exact Nat.ne_of_lt (And.left (by with_reducible assumption))
  | exact Nat.ne_of_lt (And.left (And.right (by with_reducible assumption)))
  | exact Nat.ne_of_lt (And.left (And.right (And.right (by with_reducible assumption))))
  | exact Nat.ne_of_lt (And.right (by with_reducible assumption))
  | exact Nat.ne_of_lt (And.right (And.right (by with_reducible assumption)))
  | exact ls1 (by with_reducible assumption)
  | exact ls1 (And.left (by with_reducible assumption))
  | exact ls1 (And.left (And.right (by with_reducible assumption)))
  | exact ls1 (And.left (And.right (And.right (by with_reducible assumption))))
  | exact ls1 (And.right (by with_reducible assumption))
  | exact ls1 (And.right (And.right (by with_reducible assumption)))
  | exact ls2 (by with_reducible assumption)
  | exact ls2 (And.left (by with_reducible assumption))
  | exact ls2 (And.left (And.right (by with_reducible assumption)))
  | exact ls2 (And.left (And.right (And.right (by with_reducible assumption))))
  | exact ls2 (And.right (by with_reducible assumption))
  | exact ls2 (And.right (And.right (by with_reducible assumption)))
  | exact Ne.symm (And.left (by with_reducible assumption))
  | exact Ne.symm (And.left (And.right (by with_reducible assumption)))
  | exact Ne.symm (And.left (And.right (And.right (by with_reducible assumption))))
  | exact Ne.symm (And.right (And.right (And.right (by with_reducible assumption))))
  | exact Ne.symm (And.left (And.left (by with_reducible assumption)))
  | exact Ne.symm (And.left (And.right (And.left (by with_reducible assumption))))
  | exact Ne.symm (And.right (And.right (And.left (by with_reducible assumption))))
  | exact Ne.symm (And.left (And.left (And.right (by with_reducible assumption))))
  | exact Ne.symm (And.left (And.right (And.left (And.right (by with_reducible assumption)))))
  | exact Ne.symm (And.right (And.right (And.left (And.right (by with_reducible assumption)))))
  | exact Ne.symm (And.left (And.left (And.right (And.right (by with_reducible assumption)))))
  | exact Ne.symm (And.left (And.right (And.left (And.right (And.right (by with_reducible assumption))))))
  | exact Ne.symm (And.right (And.right (And.left (And.right (And.right (by with_reducible assumption))))))
  | exact Ne.symm (And.left (And.right (And.right (And.right (by with_reducible assumption)))))
  | exact Ne.symm (And.left (And.right (And.right (And.right (And.right (by with_reducible assumption))))))
  | exact Ne.symm (And.right (And.right (And.right (And.right (And.right (by with_reducible assumption))))))
  | exact (And.left (by with_reducible assumption))
  | exact (And.left (And.right (by with_reducible assumption)))
  | exact (And.left (And.right (And.right (by with_reducible assumption))))
  | exact (And.right (And.right (And.right (by with_reducible assumption))))
  | exact (And.left (And.left (by with_reducible assumption)))
  | exact (And.left (And.right (And.left (by with_reducible assumption))))
  | exact (And.right (And.right (And.left (by with_reducible assumption))))
  | exact (And.left (And.left (And.right (by with_reducible assumption))))
  | exact (And.left (And.right (And.left (And.right (by with_reducible assumption)))))
  | exact (And.right (And.right (And.left (And.right (by with_reducible assumption)))))
  | exact (And.left (And.left (And.right (And.right (by with_reducible assumption)))))
  | exact (And.left (And.right (And.left (And.right (And.right (by with_reducible assumption))))))
  | exact (And.right (And.right (And.left (And.right (And.right (by with_reducible assumption))))))
  | exact (And.left (And.right (And.right (And.right (by with_reducible assumption)))))
  | exact (And.left (And.right (And.right (And.right (And.right (by with_reducible assumption))))))
  | exact (And.right (And.right (And.right (And.right (And.right (by with_reducible assumption))))))
  | exact gt2 (by with_reducible assumption) (by with_reducible assumption)
  | fail "no ne"))))
  k_with "units_room" => ((simp only [units_under_make, units_in1, units_deeper, Around.mark_units, units_caller, cLine]; (try dsimp only [ktrTop]); omega))
  k_with "ktr_room" => (((simp only [depth_under_make, depth_under_kw, depth_in1, depth_deeper, depth_caller, recursionLimit]); (try dsimp only [ktrTop]); omega))
  k_with "k_room" => (((simp only [depth_under_make, depth_under_kw, depth_in1, depth_deeper, depth_caller, recursionLimit]); (try dsimp only [ktrTop]); omega))
  k_with "k_all" => (first | assumption | exact ne_of_allLt (by assumption) | exact ne_of_allLt (And.right (by assumption)) | exact ne_of_allLt (And.right (And.right (by assumption))) | exact ne_of_allLt (And.right (And.right (And.right (by assumption)))))
  k_with "m exec For" => (((with_reducible show wpAny _ _ (exec (Stmt.For (PySem.Expr.Name _ _) _ _ [] _) _) _ _ _); (rename Fr _ _ _ _ => lF'); (with_unfolding_all refine' For_invVF lF' ?k1 ?k2 ?_; (case k1 => exact rfl); (case k2 => exact rfl); k_whole)))
  k_with "m InvEndN" => ((refine InvEndN.intro (by assumption) (by assumption) ⟨rfl, ⟨_, by with_unfolding_all rfl⟩, fun z h1 h2 => by first | (simp only [if_neg h1, if_neg h2]; done) | (simp only [if_neg h1, if_neg h2]; rfl) | exact (if_neg h1).trans (if_neg h2)⟩ rfl ?zz1 ?zz2; (case zz1 => exact fun p hp => List.mem_append_left _ hp); (case zz2 => exact fun p hp => List.mem_append_right _ hp)))
  k_with "m ite" => (first | refine ite_pos (by (simp; done)) ?_ | refine ite_neg (by (simp; done)) ?_)
  k_with "kba_size" => (((try simp only [List.length_append, be_length, List.length_cons, List.length_nil, List.length_map, List.length_take, List.length_drop, Int.reduceToNat]); omega))
  k_with "kba_size" => (((try simp only [List.length_append, be_length, tag_length, idsOf_length, bodyOf_length, tokOf_length, retryRaw_length, retryTag_length, retryPkt_length, negPkt_length, flat4_length, List.length_cons, List.length_nil, List.length_map, List.length_take, List.length_drop, List.length_set, Int.reduceToNat]); first | done | omega))
  k_with "m wpC" => ((
  (fail_if_success (with_reducible show wpC _ _ (call (Value.ref 89) _) _ _ _));
  (fail_if_success (with_reducible show wpC _ _ (call (Value.ref 200) _) _ _ _));
  (fail_if_success (with_reducible show wpC _ _ (call (Value.ref 207) _) _ _ _));
  (fail_if_success (with_reducible show wpC _ _ (call (Value.ref 256) _) _ _ _));
  (fail_if_success (with_reducible show wpC _ _ (call (Value.ref 270) _) _ _ _));
  (fail_if_success (with_reducible show wpC _ _ (call (Value.ref 284) _) _ _ _));
  (fail_if_success (with_reducible show wpC _ _ (call (Value.ref 291) _) _ _ _));
  (fail_if_success (with_reducible show wpC _ _ (call (Value.ref 298) _) _ _ _));
  (fail_if_success (with_reducible show wpC _ _ (call (Value.ref 305) _) _ _ _));
  (fail_if_success (with_reducible show wpC _ _ (call (Value.ref 312) _) _ _ _));
  (fail_if_success (with_reducible show wpC _ _ (call (Value.ref 348) _) _ _ _));
  (fail_if_success (with_reducible show wpC _ _ (call (Value.ref 355) _) _ _ _));
  (fail_if_success (with_reducible show wpC _ _ (call (Value.ref 362) _) _ _ _));
  refine C_any ?_; (try k_fold)))
  k_with "m wpC" => ((k_dflt (with_reducible first
  | refine C_execs_cons ?_
  | refine C_Return ?_
  | refine C_BinOp ?_
  | refine C_Tuple ?_
  | refine C_Call ?_)))
  k_with "m wpC" => ((k_dflt (first
  | ((with_reducible show wpC _ _ (exec (Stmt.Assign [PySem.Expr.Name _ _] _ _) _) _ _ _); refine C_Assign_Name ?_)
  | ((with_reducible show wpC _ _ (eval (PySem.Expr.Compare _ [_] [_] _) _) _ _ _); refine C_Compare ?_)
  | ((with_reducible show wpC _ _ (spliced (backTo _ (starEach (_ :: _) _))) _ _ _); refine C_args_cons ?_)
  | ((with_reducible show wpC _ _ (spliced (backTo _ (starEach [] _))) _ _ _); refine C_args_nil ?_)
  | ((with_reducible show wpC _ _ (callWith _ (Value.builtin _) _ _ _) _ _ _); refine C_callWith_builtin ?_)
  | ((with_reducible show wpC _ _ (callWith _ (Value.type _) _ _ _) _ _ _); refine C_callWith_type ?_)
  | ((with_reducible show wpC _ _ (callWith _ (Value.ref _) _ _ _) _ _ _); refine' C_callK ?k0 ?k1 ?_; (case k0 => k_asm); (case k1 => k_is)))))
  k_with "m wpC" => ((k_dflt (with_reducible first
  | refine C_If ?_
  | refine C_isTrue_Compare ?_
  | refine C_isTrue_not ?_
  | refine C_isTrue_or_nil ?_
  | refine C_isTrue_or ?_
  | refine C_And ?_)))
  k_with "m wpC" => ((k_dflt (first
  | ((with_reducible show wpC _ _ (isTrue (PySem.Expr.Call _ _ _ _) _ _) _ _ _); refine C_isTrue_plain ?_)
  | ((with_reducible show wpC _ _ (isTrue (PySem.Expr.Name _ _) _ _) _ _ _); refine C_isTrue_plain ?_)
  | ((with_reducible show wpC _ _ (eval (PySem.Expr.UnaryOp _ _ _) _) _ _ _); refine C_UnaryOp ?_))))
  k_with "m storeName" => ((k_dflt (refine' storeL ?F ?N ?_ ?a ?b; (case F => k_asm); (case N => k_asm); (case a => rfl); (case b => rfl); k_whole; intro h' m' F' N'; (try k_sweep))))
  k_with "m call ref" => (((with_reducible show wpAny _ _ (call (Value.ref 249) _) _ _ _); k_dflt (refine' (mixed_ctr _ _ _ _ _ _ _ ?p1 ?p2 ?p3) _ _ _ _ _ _ _ _ _ _ _ _ _ _ _ _ _ _ _ _ ?kB ?kF ?kX ?kN ?kT ?kK ?kD ?kW ?_; (case kB => k_asm); (case kF => k_asm); (case kX => k_asm); (case kN => k_asm); (case kT => k_asm); (case kK => first | exact rfl | assumption); (case kD => ((simp only [depth_under_make, depth_under_kw, depth_in1, depth_deeper, depth_caller]); (try dsimp only [ktrTop]); omega)); (case kW => ((simp only [units_under_make, units_in1, units_deeper, Around.mark_units, units_caller]); (try dsimp only [ktrTop]); omega)); (case p1 => kba_ints); (case p2 => omega); (case p3 => omega)); (intro v' nw' h' tk' F' N' hv'); (obtain ⟨t', e', lo', hi', en'⟩ := hv'; subst e'; subst en'); (try k_sweep)))
  k_with "m wpC" => (((with_reducible show wpC _ _ (call (Value.ref 89) _) _ _ _); k_dflt (refine' (put_whole_ctr _ _ _ _ _ _ ?p1 ?p2 ?p3 ?p4) _ _ _ _ _ _ _ _ _ _ _ _ _ _ _ _ _ _ _ _ ?kB ?kF ?kX ?kN ?kT ?kK ?kD ?kW ?_; (case kB => k_asm); (case kF => k_asm); (case kX => k_asm); (case kN => k_asm); (case kT => k_asm); (case kK => first | exact rfl | assumption); (case kD => ((simp only [depth_under_make, depth_under_kw, depth_in1, depth_deeper, depth_caller]); (try dsimp only [ktrTop]); omega)); (case kW => ((simp only [units_under_make, units_in1, units_deeper, Around.mark_units, units_caller]); (try dsimp only [ktrTop]); omega)); (case p1 => omega); (case p2 => first | exact lt256_4 (by omega) | exact lt256_8 (by omega) | exact lt256_16 (by omega)); (case p3 => omega); (case p4 => omega)); (intro v' nw' h' tk' F' N' hv'); (obtain ⟨b', t', e', hb', en'⟩ := hv'; subst e'; subst en'; (try simp only [Int.reduceToNat] at hb')); (try k_sweep)))
  k_with "m wpC" => (((with_reducible show wpC _ _ (call (Value.ref 256) _) _ _ _); k_dflt (refine' (tag_ctr _ _ _ _ _ _ _ _ _ _ _ _ _ ?p1 ?p2 ?p3 ?p4 ?p5 ?p6 ?p7) _ _ _ _ _ _ _ _ _ _ _ _ _ _ _ _ _ _ _ _ ?kB ?kF ?kX ?kN ?kT ?kK ?kD ?kW ?_; (case kB => k_asm); (case kF => k_asm); (case kX => k_asm); (case kN => k_asm); (case kT => k_asm); (case kK => first | exact rfl | assumption); (case kD => ((simp only [depth_under_make, depth_under_kw, depth_in1, depth_deeper, depth_caller]); (try dsimp only [ktrTop]); omega)); (case kW => ((simp only [units_under_make, units_in1, units_deeper, Around.mark_units, units_caller]); (try dsimp only [ktrTop]); omega)); (case p1 => kba_ints2); (case p2 => kba_ints2); (case p3 => kba_ints2); (case p4 => kba_size); (case p5 => kba_size); (case p6 => kba_size); (case p7 => kba_size)); (intro v' nw' h' tk' F' N' hv'); (obtain ⟨b', t', e', hb', en'⟩ := hv'; subst e'; subst en'); (try k_sweep)))
  k_with "m call ref" => (((with_reducible show wpAny _ _ (call (Value.ref 96) _) _ _ _); k_dflt (refine' (get_whole_ctr _ _ _ _ _ _ _ _ _ ?p1 ?p2 ?p3 ?p4 ?p5) _ _ _ _ _ _ _ _ _ _ _ _ _ _ _ _ _ _ _ _ ?kB ?kF ?kX ?kN ?kT ?kK ?kD ?kW ?_; (case kB => k_asm); (case kF => k_asm); (case kX => k_asm); (case kN => k_asm); (case kT => k_asm); (case kK => first | exact rfl | assumption); (case kD => ((simp only [depth_under_make, depth_under_kw, depth_in1, depth_deeper, depth_caller]); (try dsimp only [ktrTop]); omega)); (case kW => ((simp only [units_under_make, units_in1, units_deeper, Around.mark_units, units_caller]); (try dsimp only [ktrTop]); omega)); (case p1 => kba_ints); (case p2 => omega); (case p3 => omega); (case p4 => exact time_len (by assumption)); (case p5 => exact time_le (by assumption))); (intro v' nw' h' tk' F' N' hv'); (obtain ⟨t', e', en'⟩ := hv'; subst e'; subst en'); (try k_sweep)))
  trivial
theorem token_for_ctr (w : World) (bs ba bd : Array UInt8) (ks ka kd : List Int) (ts ta td tt : Tok) (time : Int) (news : List (Addr × Obj)) (hs1 : KBw.bInts bs = ks) (ha1 : KBw.bInts ba = ka) (hd1 : KBw.bInts bd = kd) (l2 : ka.length ≤ 255) (l3 : kd.length ≤ 255) (h0 : 0 ≤ time) (h1 : time < 18446744073709551616) :
    CtrC w 305 30 3000 [.bytes bs ts, .bytes ba ta, .bytes bd td, .int time tt] news (fun v news' => ∃ b t, v = .bytes b t ∧ KBw.bInts b = tokOf ks ka kd time ∧ news' = news) := use _ (by exact True.intro : Wit (by
  unfold CtrC
  k_fill
  intro mean mg mb dp un gd cn cs a ccd cl outer A₀ base h₀ L m s Q E B F X N T hk hd hu hret
  refine C_call ?_
  k_dflt (refine' code_defK ?k1 ?k2 ?k3 ?k4 ?k5 ?kA ?kF ?kK ?k6 ?k7 ?k8 ?k9 ?kB ?_ ?c2 ?c3 ?c4 ?c5; (case kA => exact rfl); (case kF => exact rfl); (case kK => assumption); (case k1 => k_asm); (case k2 => k_asm); (case k3 => k_asm); (case k4 => k_asm); (case k5 => k_asm); (case k6 => k_is); (case k7 => k_is); (case k8 => ktr_room); (case k9 => exact BindsTo.of_eq rfl); (case c5 => decide); (case kB => exact locs rfl); (case c2 => exact rfl); (case c3 => exact rfl); (case c4 => exact rfl); k_whole; intro g' L' h' FG' F' N' B' X' T'; (try (revert F'; refine letm ?_; intro m' F')); (try dsimp only); (try k_lift B'))
  k_steps
  exact hret _ _ _ _ (by k_asm) (cb_drop (by k_asm) fun p hp => .tail _ hp) ⟨_, _, rfl, ((by assumption : KBw.bInts _ = _).trans (by simp (disch := omega) only [u8_back, tokOf, bodyOf, List.map_cons, List.map_nil])), rfl⟩
  ))

theorem regT4x3 : True := by
  k_with_none
  k_with "k_steps" => ((repeat' (first | (k_unfold; (try dsimp only)) | (k_end; wrow_close) | ((fail_if_success (with_reducible show wpAny _ _ (subscriptTail _ _ _ _) _ _ _)); dsimp only; walk1) | walk1 | (dsimp only; walk1) | (leave1; walk_say "STEP leave1"; try dsimp only) | fail "no step")))
  k_with "omega" => ((first
  | ((with_reducible show @LT.lt Nat _ _ _); first | (with_reducible assumption) | ((with_reducible refine' rm2 ?omA ?omB); (case omA => with_reducible assumption); (case omB => exact rfl)) | ((with_reducible refine' rm1 ?omA ?omB); (case omA => with_reducible assumption); (case omB => exact rfl)) | ((with_reducible refine' rm0 ?omA); (case omA => with_reducible assumption)) | ((with_reducible refine' ltL ?omA ?omB); (case omA => with_reducible assumption); (case omB => exact rfl)) | ((with_reducible refine' rm3 ?omA ?omB); (case omA => with_reducible assumption); (case omB => exact rfl)) | (simp only [Nat.reduceAdd, Nat.reduceMul, Nat.reduceSub, Nat.reducePow, Nat.reduceLeDiff, Nat.reduceLT, Nat.zero_le, Nat.le_refl, Nat.zero_lt_one]; done))
  | ((with_reducible show @LE.le Nat _ _ _); first | (with_reducible assumption) | (with_reducible exact Nat.zero_le _) | ((with_reducible refine' leL ?omA ?omB); (case omA => with_reducible assumption); (case omB => exact rfl)) | (simp only [Nat.reduceAdd, Nat.reduceMul, Nat.reduceSub, Nat.reducePow, Nat.reduceLeDiff, Nat.reduceLT, Nat.zero_le, Nat.le_refl, Nat.zero_lt_one]; done))
  | ((with_reducible show @Ne Nat _ _); (with_reducible first
  | assumption
  | exact Ne.symm (by with_reducible assumption)
  | exact Nat.ne_of_gt (by with_reducible assumption)
  | exact Nat.ne_of_gt (And.left (by with_reducible assumption))
  | exact Nat.ne_of_gt (And.left (And.right (by with_reducible assumption)))
  | exact Nat.ne_of_gt (And.left (And.right (And.right (by with_reducible assumption))))
  | exact Nat.ne_of_gt (And.right (by with_reducible assumption))
  | exact Nat.ne_of_gt (And.right (And.right (by with_reducible assumption)))
  | exact gs1 (by with_reducible assumption)
  | exact gs1 (And.left (by with_reducible assumption))
  | exact gs1 (And.left (And.right (by with_reducible assumption)))
  | exact gs1 (And.left (And.right (And.right (by with_reducible assumption))))
  | exact gs1 (And.right (by with_reducible assumption))
  | exact gs1 (And.right (And.right (by with_reducible assumption)))
  | exact gs2 (by with_reducible assumption)
  | exact gs2 (And.left (by with_reducible assumption))
  | exact gs2 (And.left (And.right (by with_reducible assumption)))
  | exact gs2 (And.left (And.right (And.right (by with_reducible assumption))))
  | exact gs2 (And.right (by with_reducible assumption))
  | exact gs2 (And.right (And.right (by with_reducible assumption)))
  | exact Nat.ne_of_lt (by with_reducible assumption)
  | exact Nat.ne_of_lt (And.left (by with_reducible assumption))
  | exact Nat.ne_of_lt (And.left (And.right (by with_reducible assumption)))
  | exact Nat.ne_of_lt (And.left (And.right (And.right (by with_reducible assumption))))
  | exact Nat.ne_of_lt (And.right (by with_reducible assumption))
  | exact Nat.ne_of_lt (And.right (And.right (by with_reducible assumption)))
  | exact ls1 (by with_reducible assumption)
  | exact ls1 (And.left (by with_reducible assumption))
  | exact ls1 (And.left (And.right (by with_reducible assumption)))
  | exact ls1 (And.left (And.right (And.right (by with_reducible assumption))))
  | exact ls1 (And.right (by with_reducible assumption))
  | exact ls1 (And.right (And.right (by with_reducible assumption)))
  | exact ls2 (by with_reducible assumption)
  | exact ls2 (And.left (by with_reducible assumption))
  | exact ls2 (And.left (And.right (by with_reducible assumption)))
  | exact ls2 (And.left (And.right (And.right (by with_reducible assumption))))
  | exact ls2 (And.right (by with_reducible assumption))
  | exact ls2 (And.right (And.right (by with_reducible assumption)))
  | exact Ne.symm (And.left (by with_reducible assumption))
  | exact Ne.symm (And.left (And.right (by with_reducible assumption)))
  | exact Ne.symm (And.left (And.right (And.right (by with_reducible assumption))))
  | exact Ne.symm (And.right (And.right (And.right (by with_reducible assumption))))
  | exact Ne.symm (And.left (And.left (by with_reducible assumption)))
  | exact Ne.symm (And.left (And.right (And.left (by with_reducible assumption))))
  | exact Ne.symm (And.right (And.right (And.left (by with_reducible assumption))))
  | exact Ne.symm (And.left (And.left (And.right (by with_reducible assumption))))
  | exact Ne.symm (And.left (And.right (And.left (And.right (by with_reducible assumption)))))
  | exact Ne.symm (And.right (And.right (And.left (And.right (by with_reducible assumption)))))
  | exact Ne.symm (And.left (And.left (And.right (And.right (by with_reducible assumption)))))
  | exact Ne.symm (And.left (And.right (And.left (And.right (And.right (by with_reducible assumption))))))
  | exact Ne.symm (And.right (And.right (And.left (And.right (And.right (by with_reducible assumption))))))
  | exact Ne.symm (And.left (And.right (And.right (And.right (by with_reducible assumption)))))
  | exact Ne.symm (And.left (And.right (And.right (And.right (And.right (by with_reducible assumption))))))
  | exact Ne.symm (And.right (And.right (And.right (And.right (And.right (by with_reducible assumption))))))
  | exact (And.left (by with_reducible assumption))
  | exact (And.left (And.right (by with_reducible assumption)))
  | exact (And.left (And.right (And.right (by with_reducible assumption))))
  | exact (And.right (And.right (And.right (by with_reducible assumption))))
  | exact (And.left (And.left (by with_reducible assumption)))
  | exact (And.left (And.right (And.left (by with_reducible assumption))))
  | exact (And.right (And.right (And.left (by with_reducible assumption))))
  | exact (And.left (And.left (And.right (by with_reducible assumption))))
  | exact (And.left (And.right (And.left (And.right (by with_reducible assumption)))))
  | exact (And.right (And.right (And.left (And.right (by with_reducible assumption)))))
  | exact (And.left (And.left (And.right (And.right (by with_reducible assumption)))))
  | exact (And.left (And.right (And.left (And.right (And.right (by with_reducible assumption))))))
  | exact (And.right (And.right (And.left (And.right (And.right (by with_reducible assumption))))))
  | exact (And.left (And.right (And.right (And.right (by with_reducible assumption)))))
  | exact (And.left (And.right (And.right (And.right (And.right (by with_reducible assumption))))))
  | exact (And.right (And.right (And.right (And.right (And.right (by with_reducible assumption))))))
  | exact gt2 (by with_reducible assumption) (by with_reducible assumption)
  | fail "no ne"))))
  k_with "units_room" => ((simp only [units_under_make, units_in1, units_deeper, Around.mark_units, units_caller, cLine]; (try dsimp only [ktrTop]); omega))
  k_with "ktr_room" => (((simp only [depth_under_make, depth_under_kw, depth_in1, depth_deeper, depth_caller, recursionLimit]); (try dsimp only [ktrTop]); omega))
  k_with "k_room" => (((simp only [depth_under_make, depth_under_kw, depth_in1, depth_deeper, depth_caller, recursionLimit]); (try dsimp only [ktrTop]); omega))
  k_with "k_all" => (first | assumption | exact ne_of_allLt (by assumption) | exact ne_of_allLt (And.right (by assumption)) | exact ne_of_allLt (And.right (And.right (by assumption))) | exact ne_of_allLt (And.right (And.right (And.right (by assumption)))))
  k_with "m exec For" => (((with_reducible show wpAny _ _ (exec (Stmt.For (PySem.Expr.Name _ _) _ _ [] _) _) _ _ _); (rename Fr _ _ _ _ => lF'); (with_unfolding_all refine' For_invVF lF' ?k1 ?k2 ?_; (case k1 => exact rfl); (case k2 => exact rfl); k_whole)))
  k_with "m InvEndN" => ((refine InvEndN.intro (by assumption) (by assumption) ⟨rfl, ⟨_, by with_unfolding_all rfl⟩, fun z h1 h2 => by first | (simp only [if_neg h1, if_neg h2]; done) | (simp only [if_neg h1, if_neg h2]; rfl) | exact (if_neg h1).trans (if_neg h2)⟩ rfl ?zz1 ?zz2; (case zz1 => exact fun p hp => List.mem_append_left _ hp); (case zz2 => exact fun p hp => List.mem_append_right _ hp)))
  k_with "m ite" => (first | refine ite_pos (by (simp; done)) ?_ | refine ite_neg (by (simp; done)) ?_)
  k_with "kba_size" => (((try simp only [List.length_append, be_length, List.length_cons, List.length_nil, List.length_map, List.length_take, List.length_drop, Int.reduceToNat]); omega))
  k_with "kba_size" => (((try simp only [List.length_append, be_length, tag_length, idsOf_length, bodyOf_length, tokOf_length, retryRaw_length, retryTag_length, retryPkt_length, negPkt_length, flat4_length, List.length_cons, List.length_nil, List.length_map, List.length_take, List.length_drop, List.length_set, Int.reduceToNat]); first | done | omega))
  k_with "m wpC" => ((
  (fail_if_success (with_reducible show wpC _ _ (call (Value.ref 89) _) _ _ _));
  (fail_if_success (with_reducible show wpC _ _ (call (Value.ref 200) _) _ _ _));
  (fail_if_success (with_reducible show wpC _ _ (call (Value.ref 207) _) _ _ _));
  (fail_if_success (with_reducible show wpC _ _ (call (Value.ref 256) _) _ _ _));
  (fail_if_success (with_reducible show wpC _ _ (call (Value.ref 270) _) _ _ _));
  (fail_if_success (with_reducible show wpC _ _ (call (Value.ref 284) _) _ _ _));
  (fail_if_success (with_reducible show wpC _ _ (call (Value.ref 291) _) _ _ _));
  (fail_if_success (with_reducible show wpC _ _ (call (Value.ref 298) _) _ _ _));
  (fail_if_success (with_reducible show wpC _ _ (call (Value.ref 305) _) _ _ _));
  (fail_if_success (with_reducible show wpC _ _ (call (Value.ref 312) _) _ _ _));
  (fail_if_success (with_reducible show wpC _ _ (call (Value.ref 348) _) _ _ _));
  (fail_if_success (with_reducible show wpC _ _ (call (Value.ref 355) _) _ _ _));
  (fail_if_success (with_reducible show wpC _ _ (call (Value.ref 362) _) _ _ _));
  refine C_any ?_; (try k_fold)))
  k_with "m wpC" => ((k_dflt (with_reducible first
  | refine C_execs_cons ?_
  | refine C_Return ?_
  | refine C_BinOp ?_
  | refine C_Tuple ?_
  | refine C_Call ?_)))
  k_with "m wpC" => ((k_dflt (first
  | ((with_reducible show wpC _ _ (exec (Stmt.Assign [PySem.Expr.Name _ _] _ _) _) _ _ _); refine C_Assign_Name ?_)
  | ((with_reducible show wpC _ _ (eval (PySem.Expr.Compare _ [_] [_] _) _) _ _ _); refine C_Compare ?_)
  | ((with_reducible show wpC _ _ (spliced (backTo _ (starEach (_ :: _) _))) _ _ _); refine C_args_cons ?_)
  | ((with_reducible show wpC _ _ (spliced (backTo _ (starEach [] _))) _ _ _); refine C_args_nil ?_)
  | ((with_reducible show wpC _ _ (callWith _ (Value.builtin _) _ _ _) _ _ _); refine C_callWith_builtin ?_)
  | ((with_reducible show wpC _ _ (callWith _ (Value.type _) _ _ _) _ _ _); refine C_callWith_type ?_)
  | ((with_reducible show wpC _ _ (callWith _ (Value.ref _) _ _ _) _ _ _); refine' C_callK ?k0 ?k1 ?_; (case k0 => k_asm); (case k1 => k_is)))))
  k_with "m wpC" => ((k_dflt (with_reducible first
  | refine C_If ?_
  | refine C_isTrue_Compare ?_
  | refine C_isTrue_not ?_
  | refine C_isTrue_or_nil ?_
  | refine C_isTrue_or ?_
  | refine C_And ?_)))
  k_with "m wpC" => ((k_dflt (first
  | ((with_reducible show wpC _ _ (isTrue (PySem.Expr.Call _ _ _ _) _ _) _ _ _); refine C_isTrue_plain ?_)
  | ((with_reducible show wpC _ _ (isTrue (PySem.Expr.Name _ _) _ _) _ _ _); refine C_isTrue_plain ?_)
  | ((with_reducible show wpC _ _ (eval (PySem.Expr.UnaryOp _ _ _) _) _ _ _); refine C_UnaryOp ?_))))
  k_with "m storeName" => ((k_dflt (refine' storeL ?F ?N ?_ ?a ?b; (case F => k_asm); (case N => k_asm); (case a => rfl); (case b => rfl); k_whole; intro h' m' F' N'; (try k_sweep))))
  k_with "m call ref" => (((with_reducible show wpAny _ _ (call (Value.ref 249) _) _ _ _); k_dflt (refine' (mixed_ctr _ _ _ _ _ _ _ ?p1 ?p2 ?p3) _ _ _ _ _ _ _ _ _ _ _ _ _ _ _ _ _ _ _ _ ?kB ?kF ?kX ?kN ?kT ?kK ?kD ?kW ?_; (case kB => k_asm); (case kF => k_asm); (case kX => k_asm); (case kN => k_asm); (case kT => k_asm); (case kK => first | exact rfl | assumption); (case kD => ((simp only [depth_under_make, depth_under_kw, depth_in1, depth_deeper, depth_caller]); (try dsimp only [ktrTop]); omega)); (case kW => ((simp only [units_under_make, units_in1, units_deeper, Around.mark_units, units_caller]); (try dsimp only [ktrTop]); omega)); (case p1 => kba_ints); (case p2 => omega); (case p3 => omega)); (intro v' nw' h' tk' F' N' hv'); (obtain ⟨t', e', lo', hi', en'⟩ := hv'; subst e'; subst en'); (try k_sweep)))
  k_with "m wpC" => (((with_reducible show wpC _ _ (call (Value.ref 89) _) _ _ _); k_dflt (refine' (put_whole_ctr _ _ _ _ _ _ ?p1 ?p2 ?p3 ?p4) _ _ _ _ _ _ _ _ _ _ _ _ _ _ _ _ _ _ _ _ ?kB ?kF ?kX ?kN ?kT ?kK ?kD ?kW ?_; (case kB => k_asm); (case kF => k_asm); (case kX => k_asm); (case kN => k_asm); (case kT => k_asm); (case kK => first | exact rfl | assumption); (case kD => ((simp only [depth_under_make, depth_under_kw, depth_in1, depth_deeper, depth_caller]); (try dsimp only [ktrTop]); omega)); (case kW => ((simp only [units_under_make, units_in1, units_deeper, Around.mark_units, units_caller]); (try dsimp only [ktrTop]); omega)); (case p1 => omega); (case p2 => first | exact lt256_4 (by omega) | exact lt256_8 (by omega) | exact lt256_16 (by omega)); (case p3 => omega); (case p4 => omega)); (intro v' nw' h' tk' F' N' hv'); (obtain ⟨b', t', e', hb', en'⟩ := hv'; subst e'; subst en'; (try simp only [Int.reduceToNat] at hb')); (try k_sweep)))
  k_with "m wpC" => (((with_reducible show wpC _ _ (call (Value.ref 256) _) _ _ _); k_dflt (refine' (tag_ctr _ _ _ _ _ _ _ _ _ _ _ _ _ ?p1 ?p2 ?p3 ?p4 ?p5 ?p6 ?p7) _ _ _ _ _ _ _ _ _ _ _ _ _ _ _ _ _ _ _ _ ?kB ?kF ?kX ?kN ?kT ?kK ?kD ?kW ?_; (case kB => k_asm); (case kF => k_asm); (case kX => k_asm); (case kN => k_asm); (case kT => k_asm); (case kK => first | exact rfl | assumption); (case kD => ((simp only [depth_under_make, depth_under_kw, depth_in1, depth_deeper, depth_caller]); (try dsimp only [ktrTop]); omega)); (case kW => ((simp only [units_under_make, units_in1, units_deeper, Around.mark_units, units_caller]); (try dsimp only [ktrTop]); omega)); (case p1 => kba_ints2); (case p2 => kba_ints2); (case p3 => kba_ints2); (case p4 => kba_size); (case p5 => kba_size); (case p6 => kba_size); (case p7 => kba_size)); (intro v' nw' h' tk' F' N' hv'); (obtain ⟨b', t', e', hb', en'⟩ := hv'; subst e'; subst en'); (try k_sweep)))
  k_with "m call ref" => (((with_reducible show wpAny _ _ (call (Value.ref 96) _) _ _ _); k_dflt (refine' (get_whole_ctr _ _ _ _ _ _ _ _ _ ?p1 ?p2 ?p3 ?p4 ?p5) _ _ _ _ _ _ _ _ _ _ _ _ _ _ _ _ _ _ _ _ ?kB ?kF ?kX ?kN ?kT ?kK ?kD ?kW ?_; (case kB => k_asm); (case kF => k_asm); (case kX => k_asm); (case kN => k_asm); (case kT => k_asm); (case kK => first | exact rfl | assumption); (case kD => ((simp only [depth_under_make, depth_under_kw, depth_in1, depth_deeper, depth_caller]); (try dsimp only [ktrTop]); omega)); (case kW => ((simp only [units_under_make, units_in1, units_deeper, Around.mark_units, units_caller]); (try dsimp only [ktrTop]); omega)); (case p1 => kba_ints); (case p2 => omega); (case p3 => omega); (case p4 => exact time_len (by assumption)); (case p5 => exact time_le (by assumption))); (intro v' nw' h' tk' F' N' hv'); (obtain ⟨t', e', en'⟩ := hv'; subst e'; subst en'); (try k_sweep)))
  k_with "m wpC" => (((first | (with_reducible show wpC _ _ (exec (Stmt.Assign _ _ (PySem.Pos.mk 195 _ _ _)) _) _ _ _) | (with_reducible show wpC _ _ (exec (Stmt.Assign _ _ (PySem.Pos.mk 198 _ _ _)) _) _ _ _) | (with_reducible show wpC _ _ (exec (Stmt.If _ _ _ (PySem.Pos.mk 193 _ _ _)) _) _ _ _) | (with_reducible show wpC _ _ (exec (Stmt.Return _ (PySem.Pos.mk 199 _ _ _)) _) _ _ _)); refine C_any ?_; (try k_fold)))
  trivial
theorem check_token_ctr (w : World) (bs ba bt : Array UInt8) (ks ka kt : List Int) (ts ta tt t1 t2 : Tok) (now life : Int) (news : List (Addr × Obj)) (hs1 : KBw.bInts bs = ks) (ha1 : KBw.bInts ba = ka) (ht1 : KBw.bInts bt = kt) (l2 : ka.length ≤ 255) (l3 : kt.length ≤ 255) :
    CtrC w 312 30 3000 [.bytes bs ts, .bytes ba ta, .bytes bt tt, .int now t1, .int life t2] news (fun v news' => ((∃ b t, v = .bytes b t ∧ chk ks ka kt now life = some (KBw.bInts b)) ∨ (v = .none ∧ chk ks ka kt now life = none)) ∧ news' = news) := use _ (by exact True.intro : Wit (by
  unfold CtrC
  k_fill
  intro mean mg mb dp un gd cn cs a ccd cl outer A₀ base h₀ L m s Q E B F X N T hk hd hu hret
  refine C_call ?_
  k_dflt (refine' code_defK ?k1 ?k2 ?k3 ?k4 ?k5 ?kA ?kF ?kK ?k6 ?k7 ?k8 ?k9 ?kB ?_ ?c2 ?c3 ?c4 ?c5; (case kA => exact rfl); (case kF => exact rfl); (case kK => assumption); (case k1 => k_asm); (case k2 => k_asm); (case k3 => k_asm); (case k4 => k_asm); (case k5 => k_asm); (case k6 => k_is); (case k7 => k_is); (case k8 => ktr_room); (case k9 => exact BindsTo.of_eq rfl); (case c5 => decide); (case kB => exact locs rfl); (case c2 => exact rfl); (case c3 => exact rfl); (case c4 => exact rfl); k_whole; intro g' L' h' FG' F' N' B' X' T'; (try (revert F'; refine letm ?_; intro m' F')); (try dsimp only); (try k_lift B'))
  k_steps
  iterate 4 exact hret _ news _ _ (by k_asm) (by first | k_asm | exact cb_drop (by k_asm) fun p hp => .tail _ hp) ⟨.inr ⟨rfl, by first | exact chk_n1 (by assumption) | exact chk_n2 (by assumption) (by assumption) | exact chk_n3 (by assumption) (by assumption) | exact chk_n4 (by assumption) (by assumption) (by assumption) (by assumption)⟩, rfl⟩
  · exact hret _ news _ _ (by k_asm) (cb_drop (by k_asm) fun p hp => .tail _ hp) ⟨.inl ⟨_, _, rfl, chk_s (by assumption) (by assumption) (by assumption) (by assumption) (by assumption) (by assumption) (by assumption) (by assumption) (by assumption)⟩, rfl⟩
  · exact hret _ news _ _ (by k_asm) (cb_drop (by k_asm) fun p hp => .tail _ hp) ⟨.inr ⟨rfl, chk_n5 (by assumption) (fun x => absurd x.2 (by assumption))⟩, rfl⟩
  · exact hret _ news _ _ (by k_asm) (cb_drop (by k_asm) fun p hp => .tail _ hp) ⟨.inr ⟨rfl, chk_n5 (by assumption) (fun x => absurd x.1 (by assumption))⟩, rfl⟩
  ))

end Mine
end

section
open PySem PySem.W PyProof.Rows PySem.Calls PySem.Spec
set_option maxRecDepth 100000
set_option maxHeartbeats 0
namespace Mine
section
theorem regT5x1 : True := by
  k_with_none
  k_with "k_steps" => ((repeat' (first | (k_unfold; (try dsimp only)) | (k_end; wrow_close) | ((fail_if_success (with_reducible show wpAny _ _ (subscriptTail _ _ _ _) _ _ _)); dsimp only; walk1) | walk1 | (dsimp only; walk1) | (leave1; walk_say "STEP leave1"; try dsimp only) | fail "no step")))
  k_with "omega" => ((first
  | ((with_reducible show @LT.lt Nat _ _ _); first | (with_reducible assumption) | ((with_reducible refine' rm2 ?omA ?omB); (case omA => with_reducible assumption); (case omB => exact rfl)) | ((with_reducible refine' rm1 ?omA ?omB); (case omA => with_reducible assumption); (case omB => exact rfl)) | ((with_reducible refine' rm0 ?omA); (case omA => with_reducible assumption)) | ((with_reducible refine' ltL ?omA ?omB); (case omA => with_reducible assumption); (case omB => exact rfl)) | ((with_reducible refine' rm3 ?omA ?omB); (case omA => with_reducible assumption); (case omB => exact rfl)) | (simp only [Nat.reduceAdd, Nat.reduceMul, Nat.reduceSub, Nat.reducePow, Nat.reduceLeDiff, Nat.reduceLT, Nat.zero_le, Nat.le_refl, Nat.zero_lt_one]; done))
  | ((with_reducible show @LE.le Nat _ _ _); first | (with_reducible assumption) | (with_reducible exact Nat.zero_le _) | ((with_reducible refine' leL ?omA ?omB); (case omA => with_reducible assumption); (case omB => exact rfl)) | (simp only [Nat.reduceAdd, Nat.reduceMul, Nat.reduceSub, Nat.reducePow, Nat.reduceLeDiff, Nat.reduceLT, Nat.zero_le, Nat.le_refl, Nat.zero_lt_one]; done))
  | ((with_reducible show @Ne Nat _ _); (with_reducible first
  | assumption
  | exact Ne.symm (by with_reducible assumption)
  | exact Nat.ne_of_gt (by with_reducible assumption)
  | exact Nat.ne_of_gt (And.left (by with_reducible assumption))
  | exact Nat.ne_of_gt (And.left (And.right (by with_reducible assumption)))
  | exact Nat.ne_of_gt (And.left (And.right (And.right (by with_reducible assumption))))
  | exact Nat.ne_of_gt (And.right (by with_reducible assumption))
  | exact Nat.ne_of_gt (And.right (And.right (by with_reducible assumption)))
  | exact gs1 (by with_reducible assumption)
  | exact gs1 (And.left (by with_reducible assumption))
  | exact gs1 (And.left (And.right (by with_reducible assumption)))
  | exact gs1 (And.left (And.right (And.right (by with_reducible assumption))))
  | exact gs1 (And.right (by with_reducible assumption))
  | exact gs1 (And.right (And.right (by with_reducible assumption)))
  | exact gs2 (by with_reducible assumption)
  | exact gs2 (And.left (by with_reducible assumption))
  | exact gs2 (And.left (And.right (by with_reducible assumption)))
  | exact gs2 (And.left (And.right (And.right (by with_reducible assumption))))
  | exact gs2 (And.right (by with_reducible assumption))
  | exact gs2 (And.right (And.right (by with_reducible assumption)))
  | exact Nat.ne_of_lt (by with_reducible assumption)
  | exact Nat.ne_of_lt (And.left (by with_reducible assumption))
  | exact Nat.ne_of_lt (And.left (And.right (by with_reducible assumption)))
  | exact Nat.ne_of_lt (And.left (And.right (And.right (by with_reducible assumption))))
  | exact Nat.ne_of_lt (And.right (by with_reducible assumption))
  | exact Nat.ne_of_lt (And.right (And.right (by with_reducible assumption)))
  | exact ls1 (by with_reducible assumption)
  | exact ls1 (And.left (by with_reducible assumption))
  | exact ls1 (And.left (And.right (by with_reducible assumption)))
  | exact ls1 (And.left (And.right (And.right (by with_reducible assumption))))
  | exact ls1 (And.right (by with_reducible assumption))
  | exact ls1 (And.right (And.right (by with_reducible assumption)))
  | exact ls2 (by with_reducible assumption)
  | exact ls2 (And.left (by with_reducible assumption))
  | exact ls2 (And.left (And.right (by with_reducible assumption)))
  | exact ls2 (And.left (And.right (And.right (by with_reducible assumption))))
  | exact ls2 (And.right (by with_reducible assumption))
  | exact ls2 (And.right (And.right (by with_reducible assumption)))
  | exact Ne.symm (And.left (by with_reducible assumption))
  | exact Ne.symm (And.left (And.right (by with_reducible assumption)))
  | exact Ne.symm (And.left (And.right (And.right (by with_reducible assumption))))
  | exact Ne.symm (And.right (And.right (And.right (by with_reducible assumption))))
  | exact Ne.symm (And.left (And.left (by with_reducible assumption)))
  | exact Ne.symm (And.left (And.right (And.left (by with_reducible assumption))))
  | exact Ne.symm (And.right (And.right (And.left (by with_reducible assumption))))
  | exact Ne.symm (And.left (And.left (And.right (by with_reducible assumption))))
  | exact Ne.symm (And.left (And.right (And.left (And.right (by with_reducible assumption)))))
  | exact Ne.symm (And.right (And.right (And.left (And.right (by with_reducible assumption)))))
  | exact Ne.symm (And.left (And.left (And.right (And.right (by with_reducible assumption)))))
  | exact Ne.symm (And.left (And.right (And.left (And.right (And.right (by with_reducible assumption))))))
  | exact Ne.symm (And.right (And.right (And.left (And.right (And.right (by with_reducible assumption))))))
  | exact Ne.symm (And.left (And.right (And.right (And.right (by with_reducible assumption)))))
  | exact Ne.symm (And.left (And.right (And.right (And.right (And.right (by with_reducible assumption))))))
  | exact Ne.symm (And.right (And.right (And.right (And.right (And.right (by with_reducible assumption))))))
  | exact (And.left (by with_reducible assumption))
  | exact (And.left (And.right (by with_reducible assumption)))
  | exact (And.left (And.right (And.right (by with_reducible assumption))))
  | exact (And.right (And.right (And.right (by with_reducible assumption))))
  | exact (And.left (And.left (by with_reducible assumption)))
  | exact (And.left (And.right (And.left (by with_reducible assumption))))
  | exact (And.right (And.right (And.left (by with_reducible assumption))))
  | exact (And.left (And.left (And.right (by with_reducible assumption))))
  | exact (And.left (And.right (And.left (And.right (by with_reducible assumption)))))
  | exact (And.right (And.right (And.left (And.right (by with_reducible assumption)))))
  | exact (And.left (And.left (And.right (And.right (by with_reducible assumption)))))
  | exact (And.left (And.right (And.left (And.right (And.right (by with_reducible assumption))))))
  | exact (And.right (And.right (And.left (And.right (And.right (by with_reducible assumption))))))
  | exact (And.left (And.right (And.right (And.right (by with_reducible assumption)))))
  | exact (And.left (And.right (And.right (And.right (And.right (by with_reducible assumption))))))
  | exact (And.right (And.right (And.right (And.right (And.right (by with_reducible assumption))))))
  | exact gt2 (by with_reducible assumption) (by with_reducible assumption)
  | fail "no ne"))))
  k_with "units_room" => ((simp only [units_under_make, units_in1, units_deeper, Around.mark_units, units_caller, cLine]; (try dsimp only [ktrTop]); omega))
  k_with "ktr_room" => (((simp only [depth_under_make, depth_under_kw, depth_in1, depth_deeper, depth_caller, recursionLimit]); (try dsimp only [ktrTop]); omega))
  k_with "k_room" => (((simp only [depth_under_make, depth_under_kw, depth_in1, depth_deeper, depth_caller, recursionLimit]); (try dsimp only [ktrTop]); omega))
  k_with "k_all" => (first | assumption | exact ne_of_allLt (by assumption) | exact ne_of_allLt (And.right (by assumption)) | exact ne_of_allLt (And.right (And.right (by assumption))) | exact ne_of_allLt (And.right (And.right (And.right (by assumption)))))
  k_with "m exec For" => (((with_reducible show wpAny _ _ (exec (Stmt.For (PySem.Expr.Name _ _) _ _ [] _) _) _ _ _); (rename Fr _ _ _ _ => lF'); (with_unfolding_all refine' For_invVF lF' ?k1 ?k2 ?_; (case k1 => exact rfl); (case k2 => exact rfl); k_whole)))
  k_with "m InvEndN" => ((refine InvEndN.intro (by assumption) (by assumption) ⟨rfl, ⟨_, by with_unfolding_all rfl⟩, fun z h1 h2 => by first | (simp only [if_neg h1, if_neg h2]; done) | (simp only [if_neg h1, if_neg h2]; rfl) | exact (if_neg h1).trans (if_neg h2)⟩ rfl ?zz1 ?zz2; (case zz1 => exact fun p hp => List.mem_append_left _ hp); (case zz2 => exact fun p hp => List.mem_append_right _ hp)))
  k_with "m ite" => (first | refine ite_pos (by (simp; done)) ?_ | refine ite_neg (by (simp; done)) ?_)
  k_with "kba_size" => (((try simp only [List.length_append, be_length, List.length_cons, List.length_nil, List.length_map, List.length_take, List.length_drop, Int.reduceToNat]); omega))
  k_with "kba_size" => (((try simp only [List.length_append, be_length, tag_length, idsOf_length, bodyOf_length, tokOf_length, retryRaw_length, retryTag_length, retryPkt_length, negPkt_length, flat4_length, List.length_cons, List.length_nil, List.length_map, List.length_take, List.length_drop, List.length_set, Int.reduceToNat]); first | done | omega))
  k_with "m getMethod ref" => (((with_reducible show wpAny _ _ (getMethod (Value.ref 160) _ _) _ _ _); k_dflt (refine' strs_method ?kx ?kf ?ko ?_; (case kx => k_asm); (case kf => k_asm); (case ko => k_is))))
  k_with "m call builtin:list.index" => ((k_dflt (refine' strs_index3 ?kx ?kf ?ko ?e1 ?e2 ?e3 ?e4 ?_; (case kx => k_asm); (case kf => k_asm); (case ko => k_is); (case e1 => decide +kernel); (case e2 => decide +kernel); (case e3 => decide +kernel); (case e4 => decide +kernel))))
  trivial
theorem long_first_ctr (w : World) (low : Int) (t1 t2 : Tok) (news : List (Addr × Obj)) (h0 : 0 ≤ low) (h1 : low < 16) :
    Ctr w 195 10 1000 [.str (PySem.Str.ofString "retry") t1, .int low t2] news (fun v news' => ∃ t, v = .int (240 + low) t ∧ 240 ≤ 240 + low ∧ 240 + low < 256 ∧ news' = news) := use _ (by exact True.intro : Wit (by
  unfold Ctr
  k_fill
  intro mean mg mb dp un gd cn cs a ccd cl outer A₀ base h₀ L m s Q E B F X N T hk hd hu hret
  refine wpAny_call ?_
  k_dflt cell_enter
  k_steps
  exact hret _ news _ _ (by k_asm) (by k_asm) ⟨_, congrArg (fun x => Value.int x _) (by omega), by omega, by omega, rfl⟩
  ))

end
section
theorem regT5x2 : True := by
  k_with_none
  k_with "k_steps" => ((repeat' (first | (k_unfold; (try dsimp only)) | (k_end; wrow_close) | ((fail_if_success (with_reducible show wpAny _ _ (subscriptTail _ _ _ _) _ _ _)); dsimp only; walk1) | walk1 | (dsimp only; walk1) | (leave1; walk_say "STEP leave1"; try dsimp only) | fail "no step")))
  k_with "omega" => ((first
  | ((with_reducible show @LT.lt Nat _ _ _); first | (with_reducible assumption) | ((with_reducible refine' rm2 ?omA ?omB); (case omA => with_reducible assumption); (case omB => exact rfl)) | ((with_reducible refine' rm1 ?omA ?omB); (case omA => with_reducible assumption); (case omB => exact rfl)) | ((with_reducible refine' rm0 ?omA); (case omA => with_reducible assumption)) | ((with_reducible refine' ltL ?omA ?omB); (case omA => with_reducible assumption); (case omB => exact rfl)) | ((with_reducible refine' rm3 ?omA ?omB); (case omA => with_reducible assumption); (case omB => exact rfl)) | (simp only [Nat.reduceAdd, Nat.reduceMul, Nat.reduceSub, Nat.reducePow, Nat.reduceLeDiff, Nat.reduceLT, Nat.zero_le, Nat.le_refl, Nat.zero_lt_one]; done))
  | ((with_reducible show @LE.le Nat _ _ _); first | (with_reducible assumption) | (with_reducible exact Nat.zero_le _) | ((with_reducible refine' leL ?omA ?omB); (case omA => with_reducible assumption); (case omB => exact rfl)) | (simp only [Nat.reduceAdd, Nat.reduceMul, Nat.reduceSub, Nat.reducePow, Nat.reduceLeDiff, Nat.reduceLT, Nat.zero_le, Nat.le_refl, Nat.zero_lt_one]; done))
  | ((with_reducible show @Ne Nat _ _); (with_reducible first
  | assumption
  | exact Ne.symm (by with_reducible assumption)
  | exact Nat.ne_of_gt (by with_reducible assumption)
  | exact Nat.ne_of_gt (And.left (by with_reducible assumption))
  | exact Nat.ne_of_gt (And.left (And.right (by with_reducible assumption)))
  | exact Nat.ne_of_gt (And.left (And.right (And.right (by with_reducible assumption))))
  | exact Nat.ne_of_gt (And.right (by with_reducible assumption))
  | exact Nat.ne_of_gt (And.right (And.right (by with_reducible assumption)))
  | exact gs1 (by with_reducible assumption)
  | exact gs1 (And.left (by with_reducible assumption))
  | exact gs1 (And.left (And.right (by with_reducible assumption)))
  | exact gs1 (And.left (And.right (And.right (by with_reducible assumption))))
  | exact gs1 (And.right (by with_reducible assumption))
  | exact gs1 (And.right (And.right (by with_reducible assumption)))
  | exact gs2 (by with_reducible assumption)
  | exact gs2 (And.left (by with_reducible assumption))
  | exact gs2 (And.left (And.right (by with_reducible assumption)))
  | exact gs2 (And.left (And.right (And.right (by with_reducible assumption))))
  | exact gs2 (And.right (by with_reducible assumption))
  | exact gs2 (And.right (And.right (by with_reducible assumption)))
  | exact Nat.ne_of_lt (by with_reducible assumption)
  | exact Nat.ne_of_lt (And.left (by with_reducible assumption))
  | exact Nat.ne_of_lt (And.left (And.right (by with_reducible assumption)))
  | exact Nat.ne_of_lt (And.left (And.right (And.right (by with_reducible assumption))))
  | exact Nat.ne_of_lt (And.right (by with_reducible assumption))
  | exact Nat.ne_of_lt (And.right (And.right (by with_reducible assumption)))
  | exact ls1 (by with_reducible assumption)
  | exact ls1 (And.left (by with_reducible assumption))
  | exact ls1 (And.left (And.right (by with_reducible assumption)))
  | exact ls1 (And.left (And.right (And.right (by with_reducible assumption))))
  | exact ls1 (And.right (by with_reducible assumption))
  | exact ls1 (And.right (And.right (by with_reducible assumption)))
  | exact ls2 (by with_reducible assumption)
  | exact ls2 (And.left (by with_reducible assumption))
  | exact ls2 (And.left (And.right (by with_reducible assumption)))
  | exact ls2 (And.left (And.right (And.right (by with_reducible assumption))))
  | exact ls2 (And.right (by with_reducible assumption))
  | exact ls2 (And.right (And.right (by with_reducible assumption)))
  | exact Ne.symm (And.left (by with_reducible assumption))
  | exact Ne.symm (And.left (And.right (by with_reducible assumption)))
  | exact Ne.symm (And.left (And.right (And.right (by with_reducible assumption))))
  | exact Ne.symm (And.right (And.right (And.right (by with_reducible assumption))))
  | exact Ne.symm (And.left (And.left (by with_reducible assumption)))
  | exact Ne.symm (And.left (And.right (And.left (by with_reducible assumption))))
  | exact Ne.symm (And.right (And.right (And.left (by with_reducible assumption))))
  | exact Ne.symm (And.left (And.left (And.right (by with_reducible assumption))))
  | exact Ne.symm (And.left (And.right (And.left (And.right (by with_reducible assumption)))))
  | exact Ne.symm (And.right (And.right (And.left (And.right (by with_reducible assumption)))))
  | exact Ne.symm (And.left (And.left (And.right (And.right (by with_reducible assumption)))))
  | exact Ne.symm (And.left (And.right (And.left (And.right (And.right (by with_reducible assumption))))))
  | exact Ne.symm (And.right (And.right (And.left (And.right (And.right (by with_reducible assumption))))))
  | exact Ne.symm (And.left (And.right (And.right (And.right (by with_reducible assumption)))))
  | exact Ne.symm (And.left (And.right (And.right (And.right (And.right (by with_reducible assumption))))))
  | exact Ne.symm (And.right (And.right (And.right (And.right (And.right (by with_reducible assumption))))))
  | exact (And.left (by with_reducible assumption))
  | exact (And.left (And.right (by with_reducible assumption)))
  | exact (And.left (And.right (And.right (by with_reducible assumption))))
  | exact (And.right (And.right (And.right (by with_reducible assumption))))
  | exact (And.left (And.left (by with_reducible assumption)))
  | exact (And.left (And.right (And.left (by with_reducible assumption))))
  | exact (And.right (And.right (And.left (by with_reducible assumption))))
  | exact (And.left (And.left (And.right (by with_reducible assumption))))
  | exact (And.left (And.right (And.left (And.right (by with_reducible assumption)))))
  | exact (And.right (And.right (And.left (And.right (by with_reducible assumption)))))
  | exact (And.left (And.left (And.right (And.right (by with_reducible assumption)))))
  | exact (And.left (And.right (And.left (And.right (And.right (by with_reducible assumption))))))
  | exact (And.right (And.right (And.left (And.right (And.right (by with_reducible assumption))))))
  | exact (And.left (And.right (And.right (And.right (by with_reducible assumption)))))
  | exact (And.left (And.right (And.right (And.right (And.right (by with_reducible assumption))))))
  | exact (And.right (And.right (And.right (And.right (And.right (by with_reducible assumption))))))
  | exact gt2 (by with_reducible assumption) (by with_reducible assumption)
  | fail "no ne"))))
  k_with "units_room" => ((simp only [units_under_make, units_in1, units_deeper, Around.mark_units, units_caller, cLine]; (try dsimp only [ktrTop]); omega))
  k_with "ktr_room" => (((simp only [depth_under_make, depth_under_kw, depth_in1, depth_deeper, depth_caller, recursionLimit]); (try dsimp only [ktrTop]); omega))
  k_with "k_room" => (((simp only [depth_under_make, depth_under_kw, depth_in1, depth_deeper, depth_caller, recursionLimit]); (try dsimp only [ktrTop]); omega))
  k_with "k_all" => (first | assumption | exact ne_of_allLt (by assumption) | exact ne_of_allLt (And.right (by assumption)) | exact ne_of_allLt (And.right (And.right (by assumption))) | exact ne_of_allLt (And.right (And.right (And.right (by assumption)))))
  k_with "m exec For" => (((with_reducible show wpAny _ _ (exec (Stmt.For (PySem.Expr.Name _ _) _ _ [] _) _) _ _ _); (rename Fr _ _ _ _ => lF'); (with_unfolding_all refine' For_invVF lF' ?k1 ?k2 ?_; (case k1 => exact rfl); (case k2 => exact rfl); k_whole)))
  k_with "m InvEndN" => ((refine InvEndN.intro (by assumption) (by assumption) ⟨rfl, ⟨_, by with_unfolding_all rfl⟩, fun z h1 h2 => by first | (simp only [if_neg h1, if_neg h2]; done) | (simp only [if_neg h1, if_neg h2]; rfl) | exact (if_neg h1).trans (if_neg h2)⟩ rfl ?zz1 ?zz2; (case zz1 => exact fun p hp => List.mem_append_left _ hp); (case zz2 => exact fun p hp => List.mem_append_right _ hp)))
  k_with "m ite" => (first | refine ite_pos (by (simp; done)) ?_ | refine ite_neg (by (simp; done)) ?_)
  k_with "kba_size" => (((try simp only [List.length_append, be_length, List.length_cons, List.length_nil, List.length_map, List.length_take, List.length_drop, Int.reduceToNat]); omega))
  k_with "kba_size" => (((try simp only [List.length_append, be_length, tag_length, idsOf_length, bodyOf_length, tokOf_length, retryRaw_length, retryTag_length, retryPkt_length, negPkt_length, flat4_length, List.length_cons, List.length_nil, List.length_map, List.length_take, List.length_drop, List.length_set, Int.reduceToNat]); first | done | omega))
  k_with "m wpC" => ((
  (fail_if_success (with_reducible show wpC _ _ (call (Value.ref 89) _) _ _ _));
  (fail_if_success (with_reducible show wpC _ _ (call (Value.ref 200) _) _ _ _));
  (fail_if_success (with_reducible show wpC _ _ (call (Value.ref 207) _) _ _ _));
  (fail_if_success (with_reducible show wpC _ _ (call (Value.ref 256) _) _ _ _));
  (fail_if_success (with_reducible show wpC _ _ (call (Value.ref 270) _) _ _ _));
  (fail_if_success (with_reducible show wpC _ _ (call (Value.ref 284) _) _ _ _));
  (fail_if_success (with_reducible show wpC _ _ (call (Value.ref 291) _) _ _ _));
  (fail_if_success (with_reducible show wpC _ _ (call (Value.ref 298) _) _ _ _));
  (fail_if_success (with_reducible show wpC _ _ (call (Value.ref 305) _) _ _ _));
  (fail_if_success (with_reducible show wpC _ _ (call (Value.ref 312) _) _ _ _));
  (fail_if_success (with_reducible show wpC _ _ (call (Value.ref 348) _) _ _ _));
  (fail_if_success (with_reducible show wpC _ _ (call (Value.ref 355) _) _ _ _));
  (fail_if_success (with_reducible show wpC _ _ (call (Value.ref 362) _) _ _ _));
  refine C_any ?_; (try k_fold)))
  k_with "m wpC" => ((k_dflt (with_reducible first
  | refine C_execs_cons ?_
  | refine C_Return ?_
  | refine C_BinOp ?_
  | refine C_Tuple ?_
  | refine C_Call ?_)))
  k_with "m wpC" => ((k_dflt (first
  | ((with_reducible show wpC _ _ (exec (Stmt.Assign [PySem.Expr.Name _ _] _ _) _) _ _ _); refine C_Assign_Name ?_)
  | ((with_reducible show wpC _ _ (eval (PySem.Expr.Compare _ [_] [_] _) _) _ _ _); refine C_Compare ?_)
  | ((with_reducible show wpC _ _ (spliced (backTo _ (starEach (_ :: _) _))) _ _ _); refine C_args_cons ?_)
  | ((with_reducible show wpC _ _ (spliced (backTo _ (starEach [] _))) _ _ _); refine C_args_nil ?_)
  | ((with_reducible show wpC _ _ (callWith _ (Value.builtin _) _ _ _) _ _ _); refine C_callWith_builtin ?_)
  | ((with_reducible show wpC _ _ (callWith _ (Value.type _) _ _ _) _ _ _); refine C_callWith_type ?_)
  | ((with_reducible show wpC _ _ (callWith _ (Value.ref _) _ _ _) _ _ _); refine' C_callK ?k0 ?k1 ?_; (case k0 => k_asm); (case k1 => k_is)))))
  k_with "m wpC" => ((k_dflt (with_reducible first
  | refine C_If ?_
  | refine C_isTrue_Compare ?_
  | refine C_isTrue_not ?_
  | refine C_isTrue_or_nil ?_
  | refine C_isTrue_or ?_
  | refine C_And ?_)))
  k_with "m wpC" => ((k_dflt (first
  | ((with_reducible show wpC _ _ (isTrue (PySem.Expr.Call _ _ _ _) _ _) _ _ _); refine C_isTrue_plain ?_)
  | ((with_reducible show wpC _ _ (isTrue (PySem.Expr.Name _ _) _ _) _ _ _); refine C_isTrue_plain ?_)
  | ((with_reducible show wpC _ _ (eval (PySem.Expr.UnaryOp _ _ _) _) _ _ _); refine C_UnaryOp ?_))))
  k_with "m storeName" => ((k_dflt (refine' storeL ?F ?N ?_ ?a ?b; (case F => k_asm); (case N => k_asm); (case a => rfl); (case b => rfl); k_whole; intro h' m' F' N'; (try k_sweep))))
  k_with "m call ref" => (((with_reducible show wpAny _ _ (call (Value.ref 188) _) _ _ _); k_dflt (refine' (put_ids_ctr _ _ _ _ _ _ _ _ ?p1 ?p2 ?p3 ?p4) _ _ _ _ _ _ _ _ _ _ _ _ _ _ _ _ _ _ _ _ ?kB ?kF ?kX ?kN ?kT ?kK ?kD ?kW ?_; (case kB => k_asm); (case kF => k_asm); (case kX => k_asm); (case kN => k_asm); (case kT => k_asm); (case kK => first | exact rfl | assumption); (case kD => ((simp only [depth_under_make, depth_under_kw, depth_in1, depth_deeper, depth_caller]); (try dsimp only [ktrTop]); omega)); (case kW => ((simp only [units_under_make, units_in1, units_deeper, Around.mark_units, units_caller]); (try dsimp only [ktrTop]); omega)); (case p1 => kba_ints2); (case p2 => kba_ints2); (case p3 => kba_size); (case p4 => kba_size)); (intro v' nw' h' tk' F' N' hv'); (obtain ⟨b', t', e', hb', en'⟩ := hv'; subst e'; subst en'); (try k_sweep)))
  k_with "m call ref" => (((with_reducible show wpAny _ _ (call (Value.ref 195) _) _ _ _); k_dflt (refine' (long_first_ctr _ _ _ _ _ ?p1 ?p2) _ _ _ _ _ _ _ _ _ _ _ _ _ _ _ _ _ _ _ _ ?kB ?kF ?kX ?kN ?kT ?kK ?kD ?kW ?_; (case kB => k_asm); (case kF => k_asm); (case kX => k_asm); (case kN => k_asm); (case kT => k_asm); (case kK => first | exact rfl | assumption); (case kD => ((simp only [depth_under_make, depth_under_kw, depth_in1, depth_deeper, depth_caller]); (try dsimp only [ktrTop]); omega)); (case kW => ((simp only [units_under_make, units_in1, units_deeper, Around.mark_units, units_caller]); (try dsimp only [ktrTop]); omega)); (case p1 => first | omega | exact fmod_lo _ (by decide)); (case p2 => first | omega | exact fmod_hi _ (by decide))); (intro v' nw' h' tk' F' N' hv'); (obtain ⟨t', e', lo', hi', en'⟩ := hv'; subst e'; subst en'); (try k_sweep)))
  k_with "m wpC" => (((with_reducible show wpC _ _ (call (Value.ref 89) _) _ _ _); k_dflt (refine' (put_whole_ctr _ _ _ _ _ _ ?p1 ?p2 ?p3 ?p4) _ _ _ _ _ _ _ _ _ _ _ _ _ _ _ _ _ _ _ _ ?kB ?kF ?kX ?kN ?kT ?kK ?kD ?kW ?_; (case kB => k_asm); (case kF => k_asm); (case kX => k_asm); (case kN => k_asm); (case kT => k_asm); (case kK => first | exact rfl | assumption); (case kD => ((simp only [depth_under_make, depth_under_kw, depth_in1, depth_deeper, depth_caller]); (try dsimp only [ktrTop]); omega)); (case kW => ((simp only [units_under_make, units_in1, units_deeper, Around.mark_units, units_caller]); (try dsimp only [ktrTop]); omega)); (case p1 => omega); (case p2 => first | exact lt256_4 (by omega) | exact lt256_8 (by omega) | exact lt256_16 (by omega)); (case p3 => omega); (case p4 => omega)); (intro v' nw' h' tk' F' N' hv'); (obtain ⟨b', t', e', hb', en'⟩ := hv'; subst e'; subst en'; (try simp only [Int.reduceToNat] at hb')); (try k_sweep)))
  trivial
theorem put_retry_ctr (w : World) (bd bs bt bg : Array UInt8) (kd ks kt kg : List Int) (td ts tt tg : Tok) (low version : Int) (t1 t2 : Tok) (news : List (Addr × Obj)) (hd1 : KBw.bInts bd = kd) (hs1 : KBw.bInts bs = ks) (ht1 : KBw.bInts bt = kt) (hg1 : KBw.bInts bg = kg) (l1 : kd.length ≤ 100) (l2 : ks.length ≤ 100) (l3 : kt.length ≤ 100) (l4 : kg.length ≤ 100) (h0 : 0 ≤ low) (h1 : low < 256) (h2 : 0 ≤ version) (h3 : version < 4294967296) :
    CtrC w 207 20 2000 [.int low t1, .int version t2, .bytes bd td, .bytes bs ts, .bytes bt tt, .bytes bg tg] news (fun v news' => ∃ b t, v = .bytes b t ∧ KBw.bInts b = retryRaw low version kd ks kt kg ∧ news' = news) := use _ (by exact True.intro : Wit (by
  unfold CtrC
  k_fill
  intro mean mg mb dp un gd cn cs a ccd cl outer A₀ base h₀ L m s Q E B F X N T hk hd hu hret
  refine C_call ?_
  k_dflt (refine' code_defK ?k1 ?k2 ?k3 ?k4 ?k5 ?kA ?kF ?kK ?k6 ?k7 ?k8 ?k9 ?kB ?_ ?c2 ?c3 ?c4 ?c5; (case kA => exact rfl); (case kF => exact rfl); (case kK => assumption); (case k1 => k_asm); (case k2 => k_asm); (case k3 => k_asm); (case k4 => k_asm); (case k5 => k_asm); (case k6 => k_is); (case k7 => k_is); (case k8 => ktr_room); (case k9 => exact BindsTo.of_eq rfl); (case c5 => decide); (case kB => exact locs rfl); (case c2 => exact rfl); (case c3 => exact rfl); (case c4 => exact rfl); k_whole; intro g' L' h' FG' F' N' B' X' T'; (try (revert F'; refine letm ?_; intro m' F')); (try dsimp only); (try k_lift B'))
  k_steps
  exact hret _ _ _ _ (by k_asm) (cb_drop (by k_asm) fun p hp => .tail _ hp) ⟨_, _, rfl, ((by assumption : KBw.bInts _ = _).trans (by simp (disch := omega) only [u8_back, retryRaw, List.map_cons, List.map_nil])), rfl⟩
  ))

end
section
theorem regT5x3 : True := by
  k_with_none
  k_with "k_steps" => ((repeat' (first | (k_unfold; (try dsimp only)) | (k_end; wrow_close) | ((fail_if_success (with_reducible show wpAny _ _ (subscriptTail _ _ _ _) _ _ _)); dsimp only; walk1) | walk1 | (dsimp only; walk1) | (leave1; walk_say "STEP leave1"; try dsimp only) | fail "no step")))
  k_with "omega" => ((first
  | ((with_reducible show @LT.lt Nat _ _ _); first | (with_reducible assumption) | ((with_reducible refine' rm2 ?omA ?omB); (case omA => with_reducible assumption); (case omB => exact rfl)) | ((with_reducible refine' rm1 ?omA ?omB); (case omA => with_reducible assumption); (case omB => exact rfl)) | ((with_reducible refine' rm0 ?omA); (case omA => with_reducible assumption)) | ((with_reducible refine' ltL ?omA ?omB); (case omA => with_reducible assumption); (case omB => exact rfl)) | ((with_reducible refine' rm3 ?omA ?omB); (case omA => with_reducible assumption); (case omB => exact rfl)) | (simp only [Nat.reduceAdd, Nat.reduceMul, Nat.reduceSub, Nat.reducePow, Nat.reduceLeDiff, Nat.reduceLT, Nat.zero_le, Nat.le_refl, Nat.zero_lt_one]; done))
  | ((with_reducible show @LE.le Nat _ _ _); first | (with_reducible assumption) | (with_reducible exact Nat.zero_le _) | ((with_reducible refine' leL ?omA ?omB); (case omA => with_reducible assumption); (case omB => exact rfl)) | (simp only [Nat.reduceAdd, Nat.reduceMul, Nat.reduceSub, Nat.reducePow, Nat.reduceLeDiff, Nat.reduceLT, Nat.zero_le, Nat.le_refl, Nat.zero_lt_one]; done))
  | ((with_reducible show @Ne Nat _ _); (with_reducible first
  | assumption
  | exact Ne.symm (by with_reducible assumption)
  | exact Nat.ne_of_gt (by with_reducible assumption)
  | exact Nat.ne_of_gt (And.left (by with_reducible assumption))
  | exact Nat.ne_of_gt (And.left (And.right (by with_reducible assumption)))
  | exact Nat.ne_of_gt (And.left (And.right (And.right (by with_reducible assumption))))
  | exact Nat.ne_of_gt (And.right (by with_reducible assumption))
  | exact Nat.ne_of_gt (And.right (And.right (by with_reducible assumption)))
  | exact gs1 (by with_reducible assumption)
  | exact gs1 (And.left (by with_reducible assumption))
  | exact gs1 (And.left (And.right (by with_reducible assumption)))
  | exact gs1 (And.left (And.right (And.right (by with_reducible assumption))))
  | exact gs1 (And.right (by with_reducible assumption))
  | exact gs1 (And.right (And.right (by with_reducible assumption)))
  | exact gs2 (by with_reducible assumption)
  | exact gs2 (And.left (by with_reducible assumption))
  | exact gs2 (And.left (And.right (by with_reducible assumption)))
  | exact gs2 (And.left (And.right (And.right (by with_reducible assumption))))
  | exact gs2 (And.right (by with_reducible assumption))
  | exact gs2 (And.right (And.right (by with_reducible assumption)))
  | exact Nat.ne_of_lt (by with_reducible assumption)
  | exact Nat.ne_of_lt (And.left (by with_reducible assumption))
  | exact Nat.ne_of_lt (And.left (And.right (by with_reducible assumption)))
  | exact Nat.ne_of_lt (And.left (And.right (And.right (by with_reducible assumption))))
  | exact Nat.ne_of_lt (And.right (by with_reducible assumption))
  | exact Nat.ne_of_lt (And.right (And.right (by with_reducible assumption)))
  | exact ls1 (by with_reducible assumption)
  | exact ls1 (And.left (by with_reducible assumption))
  | exact ls1 (And.left (And.right (by with_reducible assumption)))
  | exact ls1 (And.left (And.right (And.right (by with_reducible assumption))))
  | exact ls1 (And.right (by with_reducible assumption))
  | exact ls1 (And.right (And.right (by with_reducible assumption)))
  | exact ls2 (by with_reducible assumption)
  | exact ls2 (And.left (by with_reducible assumption))
  | exact ls2 (And.left (And.right (by with_reducible assumption)))
  | exact ls2 (And.left (And.right (And.right (by with_reducible assumption))))
  | exact ls2 (And.right (by with_reducible assumption))
  | exact ls2 (And.right (And.right (by with_reducible assumption)))
  | exact Ne.symm (And.left (by with_reducible assumption))
  | exact Ne.symm (And.left (And.right (by with_reducible assumption)))
  | exact Ne.symm (And.left (And.right (And.right (by with_reducible assumption))))
  | exact Ne.symm (And.right (And.right (And.right (by with_reducible assumption))))
  | exact Ne.symm (And.left (And.left (by with_reducible assumption)))
  | exact Ne.symm (And.left (And.right (And.left (by with_reducible assumption))))
  | exact Ne.symm (And.right (And.right (And.left (by with_reducible assumption))))
  | exact Ne.symm (And.left (And.left (And.right (by with_reducible assumption))))
  | exact Ne.symm (And.left (And.right (And.left (And.right (by with_reducible assumption)))))
  | exact Ne.symm (And.right (And.right (And.left (And.right (by with_reducible assumption)))))
  | exact Ne.symm (And.left (And.left (And.right (And.right (by with_reducible assumption)))))
  | exact Ne.symm (And.left (And.right (And.left (And.right (And.right (by with_reducible assumption))))))
  | exact Ne.symm (And.right (And.right (And.left (And.right (And.right (by with_reducible assumption))))))
  | exact Ne.symm (And.left (And.right (And.right (And.right (by with_reducible assumption)))))
  | exact Ne.symm (And.left (And.right (And.right (And.right (And.right (by with_reducible assumption))))))
  | exact Ne.symm (And.right (And.right (And.right (And.right (And.right (by with_reducible assumption))))))
  | exact (And.left (by with_reducible assumption))
  | exact (And.left (And.right (by with_reducible assumption)))
  | exact (And.left (And.right (And.right (by with_reducible assumption))))
  | exact (And.right (And.right (And.right (by with_reducible assumption))))
  | exact (And.left (And.left (by with_reducible assumption)))
  | exact (And.left (And.right (And.left (by with_reducible assumption))))
  | exact (And.right (And.right (And.left (by with_reducible assumption))))
  | exact (And.left (And.left (And.right (by with_reducible assumption))))
  | exact (And.left (And.right (And.left (And.right (by with_reducible assumption)))))
  | exact (And.right (And.right (And.left (And.right (by with_reducible assumption)))))
  | exact (And.left (And.left (And.right (And.right (by with_reducible assumption)))))
  | exact (And.left (And.right (And.left (And.right (And.right (by with_reducible assumption))))))
  | exact (And.right (And.right (And.left (And.right (And.right (by with_reducible assumption))))))
  | exact (And.left (And.right (And.right (And.right (by with_reducible assumption)))))
  | exact (And.left (And.right (And.right (And.right (And.right (by with_reducible assumption))))))
  | exact (And.right (And.right (And.right (And.right (And.right (by with_reducible assumption))))))
  | exact gt2 (by with_reducible assumption) (by with_reducible assumption)
  | fail "no ne"))))
  k_with "units_room" => ((simp only [units_under_make, units_in1, units_deeper, Around.mark_units, units_caller, cLine]; (try dsimp only [ktrTop]); omega))
  k_with "ktr_room" => (((simp only [depth_under_make, depth_under_kw, depth_in1, depth_deeper, depth_caller, recursionLimit]); (try dsimp only [ktrTop]); omega))
  k_with "k_room" => (((simp only [depth_under_make, depth_under_kw, depth_in1, depth_deeper, depth_caller, recursionLimit]); (try dsimp only [ktrTop]); omega))
  k_with "k_all" => (first | assumption | exact ne_of_allLt (by assumption) | exact ne_of_allLt (And.right (by assumption)) | exact ne_of_allLt (And.right (And.right (by assumption))) | exact ne_of_allLt (And.right (And.right (And.right (by assumption)))))
  k_with "m exec For" => (((with_reducible show wpAny _ _ (exec (Stmt.For (PySem.Expr.Name _ _) _ _ [] _) _) _ _ _); (rename Fr _ _ _ _ => lF'); (with_unfolding_all refine' For_invVF lF' ?k1 ?k2 ?_; (case k1 => exact rfl); (case k2 => exact rfl); k_whole)))
  k_with "m InvEndN" => ((refine InvEndN.intro (by assumption) (by assumption) ⟨rfl, ⟨_, by with_unfolding_all rfl⟩, fun z h1 h2 => by first | (simp only [if_neg h1, if_neg h2]; done) | (simp only [if_neg h1, if_neg h2]; rfl) | exact (if_neg h1).trans (if_neg h2)⟩ rfl ?zz1 ?zz2; (case zz1 => exact fun p hp => List.mem_append_left _ hp); (case zz2 => exact fun p hp => List.mem_append_right _ hp)))
  k_with "m ite" => (first | refine ite_pos (by (simp; done)) ?_ | refine ite_neg (by (simp; done)) ?_)
  k_with "kba_size" => (((try simp only [List.length_append, be_length, List.length_cons, List.length_nil, List.length_map, List.length_take, List.length_drop, Int.reduceToNat]); omega))
  k_with "kba_size" => (((try simp only [List.length_append, be_length, tag_length, idsOf_length, bodyOf_length, tokOf_length, retryRaw_length, retryTag_length, retryPkt_length, negPkt_length, flat4_length, List.length_cons, List.length_nil, List.length_map, List.length_take, List.length_drop, List.length_set, Int.reduceToNat]); first | done | omega))
  k_with "m wpC" => ((
  (fail_if_success (with_reducible show wpC _ _ (call (Value.ref 89) _) _ _ _));
  (fail_if_success (with_reducible show wpC _ _ (call (Value.ref 200) _) _ _ _));
  (fail_if_success (with_reducible show wpC _ _ (call (Value.ref 207) _) _ _ _));
  (fail_if_success (with_reducible show wpC _ _ (call (Value.ref 256) _) _ _ _));
  (fail_if_success (with_reducible show wpC _ _ (call (Value.ref 270) _) _ _ _));
  (fail_if_success (with_reducible show wpC _ _ (call (Value.ref 284) _) _ _ _));
  (fail_if_success (with_reducible show wpC _ _ (call (Value.ref 291) _) _ _ _));
  (fail_if_success (with_reducible show wpC _ _ (call (Value.ref 298) _) _ _ _));
  (fail_if_success (with_reducible show wpC _ _ (call (Value.ref 305) _) _ _ _));
  (fail_if_success (with_reducible show wpC _ _ (call (Value.ref 312) _) _ _ _));
  (fail_if_success (with_reducible show wpC _ _ (call (Value.ref 348) _) _ _ _));
  (fail_if_success (with_reducible show wpC _ _ (call (Value.ref 355) _) _ _ _));
  (fail_if_success (with_reducible show wpC _ _ (call (Value.ref 362) _) _ _ _));
  refine C_any ?_; (try k_fold)))
  k_with "m wpC" => ((k_dflt (with_reducible first
  | refine C_execs_cons ?_
  | refine C_Return ?_
  | refine C_BinOp ?_
  | refine C_Tuple ?_
  | refine C_Call ?_)))
  k_with "m wpC" => ((k_dflt (first
  | ((with_reducible show wpC _ _ (exec (Stmt.Assign [PySem.Expr.Name _ _] _ _) _) _ _ _); refine C_Assign_Name ?_)
  | ((with_reducible show wpC _ _ (eval (PySem.Expr.Compare _ [_] [_] _) _) _ _ _); refine C_Compare ?_)
  | ((with_reducible show wpC _ _ (spliced (backTo _ (starEach (_ :: _) _))) _ _ _); refine C_args_cons ?_)
  | ((with_reducible show wpC _ _ (spliced (backTo _ (starEach [] _))) _ _ _); refine C_args_nil ?_)
  | ((with_reducible show wpC _ _ (callWith _ (Value.builtin _) _ _ _) _ _ _); refine C_callWith_builtin ?_)
  | ((with_reducible show wpC _ _ (callWith _ (Value.type _) _ _ _) _ _ _); refine C_callWith_type ?_)
  | ((with_reducible show wpC _ _ (callWith _ (Value.ref _) _ _ _) _ _ _); refine' C_callK ?k0 ?k1 ?_; (case k0 => k_asm); (case k1 => k_is)))))
  k_with "m wpC" => ((k_dflt (with_reducible first
  | refine C_If ?_
  | refine C_isTrue_Compare ?_
  | refine C_isTrue_not ?_
  | refine C_isTrue_or_nil ?_
  | refine C_isTrue_or ?_
  | refine C_And ?_)))
  k_with "m wpC" => ((k_dflt (first
  | ((with_reducible show wpC _ _ (isTrue (PySem.Expr.Call _ _ _ _) _ _) _ _ _); refine C_isTrue_plain ?_)
  | ((with_reducible show wpC _ _ (isTrue (PySem.Expr.Name _ _) _ _) _ _ _); refine C_isTrue_plain ?_)
  | ((with_reducible show wpC _ _ (eval (PySem.Expr.UnaryOp _ _ _) _) _ _ _); refine C_UnaryOp ?_))))
  k_with "m storeName" => ((k_dflt (refine' storeL ?F ?N ?_ ?a ?b; (case F => k_asm); (case N => k_asm); (case a => rfl); (case b => rfl); k_whole; intro h' m' F' N'; (try k_sweep))))
  k_with "m wpC" => (((with_reducible show wpC _ _ (call (Value.ref 256) _) _ _ _); k_dflt (refine' (tag_ctr _ _ _ _ _ _ _ _ _ _ _ _ _ ?p1 ?p2 ?p3 ?p4 ?p5 ?p6 ?p7) _ _ _ _ _ _ _ _ _ _ _ _ _ _ _ _ _ _ _ _ ?kB ?kF ?kX ?kN ?kT ?kK ?kD ?kW ?_; (case kB => k_asm); (case kF => k_asm); (case kX => k_asm); (case kN => k_asm); (case kT => k_asm); (case kK => first | exact rfl | assumption); (case kD => ((simp only [depth_under_make, depth_under_kw, depth_in1, depth_deeper, depth_caller]); (try dsimp only [ktrTop]); omega)); (case kW => ((simp only [units_under_make, units_in1, units_deeper, Around.mark_units, units_caller]); (try dsimp only [ktrTop]); omega)); (case p1 => kba_ints2); (case p2 => kba_ints2); (case p3 => kba_ints2); (case p4 => kba_size); (case p5 => kba_size); (case p6 => kba_size); (case p7 => kba_size)); (intro v' nw' h' tk' F' N' hv'); (obtain ⟨b', t', e', hb', en'⟩ := hv'; subst e'; subst en'); (try k_sweep)))
  trivial
theorem retry_tag_ctr (w : World) (bo bh : Array UInt8) (ko kh : List Int) (to th : Tok) (news : List (Addr × Obj)) (ho1 : KBw.bInts bo = ko) (hh1 : KBw.bInts bh = kh) (l1 : ko.length ≤ 100) (l2 : kh.length ≤ 1000) :
    CtrC w 284 30 3000 [.bytes bo to, .bytes bh th] news (fun v news' => ∃ b t, v = .bytes b t ∧ KBw.bInts b = retryTag ko kh ∧ news' = news) := use _ (by exact True.intro : Wit (by
  unfold CtrC
  k_fill
  intro mean mg mb dp un gd cn cs a ccd cl outer A₀ base h₀ L m s Q E B F X N T hk hd hu hret
  refine C_call ?_
  k_dflt (refine' code_defK ?k1 ?k2 ?k3 ?k4 ?k5 ?kA ?kF ?kK ?k6 ?k7 ?k8 ?k9 ?kB ?_ ?c2 ?c3 ?c4 ?c5; (case kA => exact rfl); (case kF => exact rfl); (case kK => assumption); (case k1 => k_asm); (case k2 => k_asm); (case k3 => k_asm); (case k4 => k_asm); (case k5 => k_asm); (case k6 => k_is); (case k7 => k_is); (case k8 => ktr_room); (case k9 => exact BindsTo.of_eq rfl); (case c5 => decide); (case kB => exact locs rfl); (case c2 => exact rfl); (case c3 => exact rfl); (case c4 => exact rfl); k_whole; intro g' L' h' FG' F' N' B' X' T'; (try (revert F'; refine letm ?_; intro m' F')); (try dsimp only); (try k_lift B'))
  k_steps
  exact hret _ _ _ _ (by k_asm) (by k_asm) ⟨_, _, rfl, ‹_›, rfl⟩
  ))

end
theorem regT5x4 : True := by
  k_with_none
  k_with "k_steps" => ((repeat' (first | (k_unfold; (try dsimp only)) | (k_end; wrow_close) | ((fail_if_success (with_reducible show wpAny _ _ (subscriptTail _ _ _ _) _ _ _)); dsimp only; walk1) | walk1 | (dsimp only; walk1) | (leave1; walk_say "STEP leave1"; try dsimp only) | fail "no step")))
  k_with "omega" => ((first
  | ((with_reducible show @LT.lt Nat _ _ _); first | (with_reducible assumption) | ((with_reducible refine' rm2 ?omA ?omB); (case omA => with_reducible assumption); (case omB => exact rfl)) | ((with_reducible refine' rm1 ?omA ?omB); (case omA => with_reducible assumption); (case omB => exact rfl)) | ((with_reducible refine' rm0 ?omA); (case omA => with_reducible assumption)) | ((with_reducible refine' ltL ?omA ?omB); (case omA => with_reducible assumption); (case omB => exact rfl)) | ((with_reducible refine' rm3 ?omA ?omB); (case omA => with_reducible assumption); (case omB => exact rfl)) | (simp only [Nat.reduceAdd, Nat.reduceMul, Nat.reduceSub, Nat.reducePow, Nat.reduceLeDiff, Nat.reduceLT, Nat.zero_le, Nat.le_refl, Nat.zero_lt_one]; done))
  | ((with_reducible show @LE.le Nat _ _ _); first | (with_reducible assumption) | (with_reducible exact Nat.zero_le _) | ((with_reducible refine' leL ?omA ?omB); (case omA => with_reducible assumption); (case omB => exact rfl)) | (simp only [Nat.reduceAdd, Nat.reduceMul, Nat.reduceSub, Nat.reducePow, Nat.reduceLeDiff, Nat.reduceLT, Nat.zero_le, Nat.le_refl, Nat.zero_lt_one]; done))
  | ((with_reducible show @Ne Nat _ _); (with_reducible first
  | assumption
  | exact Ne.symm (by with_reducible assumption)
  | exact Nat.ne_of_gt (by with_reducible assumption)
  | exact Nat.ne_of_gt (And.left (by with_reducible assumption))
  | exact Nat.ne_of_gt (And.left (And.right (by with_reducible assumption)))
  | exact Nat.ne_of_gt (And.left (And.right (And.right (by with_reducible assumption))))
  | exact Nat.ne_of_gt (And.right (by with_reducible assumption))
  | exact Nat.ne_of_gt (And.right (And.right (by with_reducible assumption)))
  | exact gs1 (by with_reducible assumption)
  | exact gs1 (And.left (by with_reducible assumption))
  | exact gs1 (And.left (And.right (by with_reducible assumption)))
  | exact gs1 (And.left (And.right (And.right (by with_reducible assumption))))
  | exact gs1 (And.right (by with_reducible assumption))
  | exact gs1 (And.right (And.right (by with_reducible assumption)))
  | exact gs2 (by with_reducible assumption)
  | exact gs2 (And.left (by with_reducible assumption))
  | exact gs2 (And.left (And.right (by with_reducible assumption)))
  | exact gs2 (And.left (And.right (And.right (by with_reducible assumption))))
  | exact gs2 (And.right (by with_reducible assumption))
  | exact gs2 (And.right (And.right (by with_reducible assumption)))
  | exact Nat.ne_of_lt (by with_reducible assumption)
  | exact Nat.ne_of_lt (And.left (by with_reducible assumption))
  | exact Nat.ne_of_lt (And.left (And.right (by with_reducible assumption)))
  | exact Nat.ne_of_lt (And.left (And.right (And.right (by with_reducible assumption))))
  | exact Nat.ne_of_lt (And.right (by with_reducible assumption))
  | exact Nat.ne_of_lt (And.right (And.right (by with_reducible assumption)))
  | exact ls1 (by with_reducible assumption)
  | exact ls1 (And.left (by with_reducible assumption))
  | exact ls1 (And.left (And.right (by with_reducible assumption)))
  | exact ls1 (And.left (And.right (And.right (by with_reducible assumption))))
  | exact ls1 (And.right (by with_reducible assumption))
  | exact ls1 (And.right (And.right (by with_reducible assumption)))
  | exact ls2 (by with_reducible assumption)
  | exact ls2 (And.left (by with_reducible assumption))
  | exact ls2 (And.left (And.right (by with_reducible assumption)))
  | exact ls2 (And.left (And.right (And.right (by with_reducible assumption))))
  | exact ls2 (And.right (by with_reducible assumption))
  | exact ls2 (And.right (And.right (by with_reducible assumption)))
  | exact Ne.symm (And.left (by with_reducible assumption))
  | exact Ne.symm (And.left (And.right (by with_reducible assumption)))
  | exact Ne.symm (And.left (And.right (And.right (by with_reducible assumption))))
  | exact Ne.symm (And.right (And.right (And.right (by with_reducible assumption))))
  | exact Ne.symm (And.left (And.left (by with_reducible assumption)))
  | exact Ne.symm (And.left (And.right (And.left (by with_reducible assumption))))
  | exact Ne.symm (And.right (And.right (And.left (by with_reducible assumption))))
  | exact Ne.symm (And.left (And.left (And.right (by with_reducible assumption))))
  | exact Ne.symm (And.left (And.right (And.left (And.right (by with_reducible assumption)))))
  | exact Ne.symm (And.right (And.right (And.left (And.right (by with_reducible assumption)))))
  | exact Ne.symm (And.left (And.left (And.right (And.right (by with_reducible assumption)))))
  | exact Ne.symm (And.left (And.right (And.left (And.right (And.right (by with_reducible assumption))))))
  | exact Ne.symm (And.right (And.right (And.left (And.right (And.right (by with_reducible assumption))))))
  | exact Ne.symm (And.left (And.right (And.right (And.right (by with_reducible assumption)))))
  | exact Ne.symm (And.left (And.right (And.right (And.right (And.right (by with_reducible assumption))))))
  | exact Ne.symm (And.right (And.right (And.right (And.right (And.right (by with_reducible assumption))))))
  | exact (And.left (by with_reducible assumption))
  | exact (And.left (And.right (by with_reducible assumption)))
  | exact (And.left (And.right (And.right (by with_reducible assumption))))
  | exact (And.right (And.right (And.right (by with_reducible assumption))))
  | exact (And.left (And.left (by with_reducible assumption)))
  | exact (And.left (And.right (And.left (by with_reducible assumption))))
  | exact (And.right (And.right (And.left (by with_reducible assumption))))
  | exact (And.left (And.left (And.right (by with_reducible assumption))))
  | exact (And.left (And.right (And.left (And.right (by with_reducible assumption)))))
  | exact (And.right (And.right (And.left (And.right (by with_reducible assumption)))))
  | exact (And.left (And.left (And.right (And.right (by with_reducible assumption)))))
  | exact (And.left (And.right (And.left (And.right (And.right (by with_reducible assumption))))))
  | exact (And.right (And.right (And.left (And.right (And.right (by with_reducible assumption))))))
  | exact (And.left (And.right (And.right (And.right (by with_reducible assumption)))))
  | exact (And.left (And.right (And.right (And.right (And.right (by with_reducible assumption))))))
  | exact (And.right (And.right (And.right (And.right (And.right (by with_reducible assumption))))))
  | exact gt2 (by with_reducible assumption) (by with_reducible assumption)
  | fail "no ne"))))
  k_with "units_room" => ((simp only [units_under_make, units_in1, units_deeper, Around.mark_units, units_caller, cLine]; (try dsimp only [ktrTop]); omega))
  k_with "ktr_room" => (((simp only [depth_under_make, depth_under_kw, depth_in1, depth_deeper, depth_caller, recursionLimit]); (try dsimp only [ktrTop]); omega))
  k_with "k_room" => (((simp only [depth_under_make, depth_under_kw, depth_in1, depth_deeper, depth_caller, recursionLimit]); (try dsimp only [ktrTop]); omega))
  k_with "k_all" => (first | assumption | exact ne_of_allLt (by assumption) | exact ne_of_allLt (And.right (by assumption)) | exact ne_of_allLt (And.right (And.right (by assumption))) | exact ne_of_allLt (And.right (And.right (And.right (by assumption)))))
  k_with "m exec For" => (((with_reducible show wpAny _ _ (exec (Stmt.For (PySem.Expr.Name _ _) _ _ [] _) _) _ _ _); (rename Fr _ _ _ _ => lF'); (with_unfolding_all refine' For_invVF lF' ?k1 ?k2 ?_; (case k1 => exact rfl); (case k2 => exact rfl); k_whole)))
  k_with "m InvEndN" => ((refine InvEndN.intro (by assumption) (by assumption) ⟨rfl, ⟨_, by with_unfolding_all rfl⟩, fun z h1 h2 => by first | (simp only [if_neg h1, if_neg h2]; done) | (simp only [if_neg h1, if_neg h2]; rfl) | exact (if_neg h1).trans (if_neg h2)⟩ rfl ?zz1 ?zz2; (case zz1 => exact fun p hp => List.mem_append_left _ hp); (case zz2 => exact fun p hp => List.mem_append_right _ hp)))
  k_with "m ite" => (first | refine ite_pos (by (simp; done)) ?_ | refine ite_neg (by (simp; done)) ?_)
  k_with "kba_size" => (((try simp only [List.length_append, be_length, List.length_cons, List.length_nil, List.length_map, List.length_take, List.length_drop, Int.reduceToNat]); omega))
  k_with "kba_size" => (((try simp only [List.length_append, be_length, tag_length, idsOf_length, bodyOf_length, tokOf_length, retryRaw_length, retryTag_length, retryPkt_length, negPkt_length, flat4_length, List.length_cons, List.length_nil, List.length_map, List.length_take, List.length_drop, List.length_set, Int.reduceToNat]); first | done | omega))
  k_with "m wpC" => ((
  (fail_if_success (with_reducible show wpC _ _ (call (Value.ref 89) _) _ _ _));
  (fail_if_success (with_reducible show wpC _ _ (call (Value.ref 200) _) _ _ _));
  (fail_if_success (with_reducible show wpC _ _ (call (Value.ref 207) _) _ _ _));
  (fail_if_success (with_reducible show wpC _ _ (call (Value.ref 256) _) _ _ _));
  (fail_if_success (with_reducible show wpC _ _ (call (Value.ref 270) _) _ _ _));
  (fail_if_success (with_reducible show wpC _ _ (call (Value.ref 284) _) _ _ _));
  (fail_if_success (with_reducible show wpC _ _ (call (Value.ref 291) _) _ _ _));
  (fail_if_success (with_reducible show wpC _ _ (call (Value.ref 298) _) _ _ _));
  (fail_if_success (with_reducible show wpC _ _ (call (Value.ref 305) _) _ _ _));
  (fail_if_success (with_reducible show wpC _ _ (call (Value.ref 312) _) _ _ _));
  (fail_if_success (with_reducible show wpC _ _ (call (Value.ref 348) _) _ _ _));
  (fail_if_success (with_reducible show wpC _ _ (call (Value.ref 355) _) _ _ _));
  (fail_if_success (with_reducible show wpC _ _ (call (Value.ref 362) _) _ _ _));
  refine C_any ?_; (try k_fold)))
  k_with "m wpC" => ((k_dflt (with_reducible first
  | refine C_execs_cons ?_
  | refine C_Return ?_
  | refine C_BinOp ?_
  | refine C_Tuple ?_
  | refine C_Call ?_)))
  k_with "m wpC" => ((k_dflt (first
  | ((with_reducible show wpC _ _ (exec (Stmt.Assign [PySem.Expr.Name _ _] _ _) _) _ _ _); refine C_Assign_Name ?_)
  | ((with_reducible show wpC _ _ (eval (PySem.Expr.Compare _ [_] [_] _) _) _ _ _); refine C_Compare ?_)
  | ((with_reducible show wpC _ _ (spliced (backTo _ (starEach (_ :: _) _))) _ _ _); refine C_args_cons ?_)
  | ((with_reducible show wpC _ _ (spliced (backTo _ (starEach [] _))) _ _ _); refine C_args_nil ?_)
  | ((with_reducible show wpC _ _ (callWith _ (Value.builtin _) _ _ _) _ _ _); refine C_callWith_builtin ?_)
  | ((with_reducible show wpC _ _ (callWith _ (Value.type _) _ _ _) _ _ _); refine C_callWith_type ?_)
  | ((with_reducible show wpC _ _ (callWith _ (Value.ref _) _ _ _) _ _ _); refine' C_callK ?k0 ?k1 ?_; (case k0 => k_asm); (case k1 => k_is)))))
  k_with "m wpC" => ((k_dflt (with_reducible first
  | refine C_If ?_
  | refine C_isTrue_Compare ?_
  | refine C_isTrue_not ?_
  | refine C_isTrue_or_nil ?_
  | refine C_isTrue_or ?_
  | refine C_And ?_)))
  k_with "m wpC" => ((k_dflt (first
  | ((with_reducible show wpC _ _ (isTrue (PySem.Expr.Call _ _ _ _) _ _) _ _ _); refine C_isTrue_plain ?_)
  | ((with_reducible show wpC _ _ (isTrue (PySem.Expr.Name _ _) _ _) _ _ _); refine C_isTrue_plain ?_)
  | ((with_reducible show wpC _ _ (eval (PySem.Expr.UnaryOp _ _ _) _) _ _ _); refine C_UnaryOp ?_))))
  k_with "m storeName" => ((k_dflt (refine' storeL ?F ?N ?_ ?a ?b; (case F => k_asm); (case N => k_asm); (case a => rfl); (case b => rfl); k_whole; intro h' m' F' N'; (try k_sweep))))
  k_with "m wpC" => (((with_reducible show wpC _ _ (call (Value.ref 207) _) _ _ _); k_dflt (refine' (put_retry_ctr _ _ _ _ _ _ _ _ _ _ _ _ _ _ _ _ _ _ ?p1 ?p2 ?p3 ?p4 ?p5 ?p6 ?p7 ?p8 ?p9 ?q1 ?q2 ?q3) _ _ _ _ _ _ _ _ _ _ _ _ _ _ _ _ _ _ _ _ ?kB ?kF ?kX ?kN ?kT ?kK ?kD ?kW ?_; (case kB => k_asm); (case kF => k_asm); (case kX => k_asm); (case kN => k_asm); (case kT => k_asm); (case kK => first | exact rfl | assumption); (case kD => ((simp only [depth_under_make, depth_under_kw, depth_in1, depth_deeper, depth_caller]); (try dsimp only [ktrTop]); omega)); (case kW => ((simp only [units_under_make, units_in1, units_deeper, Around.mark_units, units_caller]); (try dsimp only [ktrTop]); omega)); (case p1 => kba_ints2); (case p2 => kba_ints2); (case p3 => kba_ints2); (case p4 => kba_ints2); (case p5 => kba_size); (case p6 => kba_size); (case p7 => kba_size); (case p8 => kba_size); (case p9 => omega); (case q1 => omega); (case q2 => omega); (case q3 => omega)); (intro v' nw' h' tk' F' N' hv'); (obtain ⟨b', t', e', hb', en'⟩ := hv'; subst e'; subst en'); (try k_sweep)))
  k_with "m wpC" => (((with_reducible show wpC _ _ (call (Value.ref 284) _) _ _ _); k_dflt (refine' (retry_tag_ctr _ _ _ _ _ _ _ _ ?p1 ?p2 ?p3 ?p4) _ _ _ _ _ _ _ _ _ _ _ _ _ _ _ _ _ _ _ _ ?kB ?kF ?kX ?kN ?kT ?kK ?kD ?kW ?_; (case kB => k_asm); (case kF => k_asm); (case kX => k_asm); (case kN => k_asm); (case kT => k_asm); (case kK => first | exact rfl | assumption); (case kD => ((simp only [depth_under_make, depth_under_kw, depth_in1, depth_deeper, depth_caller]); (try dsimp only [ktrTop]); omega)); (case kW => ((simp only [units_under_make, units_in1, units_deeper, Around.mark_units, units_caller]); (try dsimp only [ktrTop]); omega)); (case p1 => kba_ints2); (case p2 => kba_ints2); (case p3 => kba_size); (case p4 => kba_size)); (intro v' nw' h' tk' F' N' hv'); (obtain ⟨b', t', e', hb', en'⟩ := hv'; subst e'; subst en'); (try k_sweep)))
  trivial
theorem put_retry_packet_ctr (w : World) (bd bs bt bo : Array UInt8) (kd ks kt ko : List Int) (td ts tt to : Tok) (low version : Int) (t1 t2 : Tok) (news : List (Addr × Obj)) (hd1 : KBw.bInts bd = kd) (hs1 : KBw.bInts bs = ks) (ht1 : KBw.bInts bt = kt) (ho1 : KBw.bInts bo = ko) (l1 : kd.length ≤ 100) (l2 : ks.length ≤ 100) (l3 : kt.length ≤ 100) (l4 : ko.length ≤ 100) (h0 : 0 ≤ low) (h1 : low < 256) (h2 : 0 ≤ version) (h3 : version < 4294967296) :
    CtrC w 291 40 4000 [.int low t1, .int version t2, .bytes bd td, .bytes bs ts, .bytes bt tt, .bytes bo to] news (fun v news' => ∃ b t, v = .bytes b t ∧ KBw.bInts b = retryPkt low version kd ks kt ko ∧ news' = news) := use _ (by exact True.intro : Wit (by
  unfold CtrC
  k_fill
  intro mean mg mb dp un gd cn cs a ccd cl outer A₀ base h₀ L m s Q E B F X N T hk hd hu hret
  refine C_call ?_
  k_dflt (refine' code_defK ?k1 ?k2 ?k3 ?k4 ?k5 ?kA ?kF ?kK ?k6 ?k7 ?k8 ?k9 ?kB ?_ ?c2 ?c3 ?c4 ?c5; (case kA => exact rfl); (case kF => exact rfl); (case kK => assumption); (case k1 => k_asm); (case k2 => k_asm); (case k3 => k_asm); (case k4 => k_asm); (case k5 => k_asm); (case k6 => k_is); (case k7 => k_is); (case k8 => ktr_room); (case k9 => exact BindsTo.of_eq rfl); (case c5 => decide); (case kB => exact locs rfl); (case c2 => exact rfl); (case c3 => exact rfl); (case c4 => exact rfl); k_whole; intro g' L' h' FG' F' N' B' X' T'; (try (revert F'; refine letm ?_; intro m' F')); (try dsimp only); (try k_lift B'))
  k_steps
  exact hret _ _ _ _ (by k_asm) (by k_asm) ⟨_, _, rfl, by assumption, rfl⟩
  ))

end Mine
end

section
open PySem PySem.W PyProof.Rows PySem.Calls PySem.Spec
set_option maxRecDepth 100000
set_option maxHeartbeats 0
namespace Mine
theorem regT6x1 : True := by
  k_with_none
  k_with "k_steps" => ((repeat' (first | (k_unfold; (try dsimp only)) | (k_end; wrow_close) | ((fail_if_success (with_reducible show wpAny _ _ (subscriptTail _ _ _ _) _ _ _)); dsimp only; walk1) | walk1 | (dsimp only; walk1) | (leave1; walk_say "STEP leave1"; try dsimp only) | fail "no step")))
  k_with "omega" => ((first
  | ((with_reducible show @LT.lt Nat _ _ _); first | (with_reducible assumption) | ((with_reducible refine' rm2 ?omA ?omB); (case omA => with_reducible assumption); (case omB => exact rfl)) | ((with_reducible refine' rm1 ?omA ?omB); (case omA => with_reducible assumption); (case omB => exact rfl)) | ((with_reducible refine' rm0 ?omA); (case omA => with_reducible assumption)) | ((with_reducible refine' ltL ?omA ?omB); (case omA => with_reducible assumption); (case omB => exact rfl)) | ((with_reducible refine' rm3 ?omA ?omB); (case omA => with_reducible assumption); (case omB => exact rfl)) | (simp only [Nat.reduceAdd, Nat.reduceMul, Nat.reduceSub, Nat.reducePow, Nat.reduceLeDiff, Nat.reduceLT, Nat.zero_le, Nat.le_refl, Nat.zero_lt_one]; done))
  | ((with_reducible show @LE.le Nat _ _ _); first | (with_reducible assumption) | (with_reducible exact Nat.zero_le _) | ((with_reducible refine' leL ?omA ?omB); (case omA => with_reducible assumption); (case omB => exact rfl)) | (simp only [Nat.reduceAdd, Nat.reduceMul, Nat.reduceSub, Nat.reducePow, Nat.reduceLeDiff, Nat.reduceLT, Nat.zero_le, Nat.le_refl, Nat.zero_lt_one]; done))
  | ((with_reducible show @Ne Nat _ _); (with_reducible first
  | assumption
  | exact Ne.symm (by with_reducible assumption)
  | exact Nat.ne_of_gt (by with_reducible assumption)
  | exact Nat.ne_of_gt (And.left (by with_reducible assumption))
  | exact Nat.ne_of_gt (And.left (And.right (by with_reducible assumption)))
  | exact Nat.ne_of_gt (And.left (And.right (And.right (by with_reducible assumption))))
  | exact Nat.ne_of_gt (And.right (by with_reducible assumption))
  | exact Nat.ne_of_gt (And.right (And.right (by with_reducible assumption)))
  | exact gs1 (by with_reducible assumption)
  | exact gs1 (And.left (by with_reducible assumption))
  | exact gs1 (And.left (And.right (by with_reducible assumption)))
  | exact gs1 (And.left (And.right (And.right (by with_reducible assumption))))
  | exact gs1 (And.right (by with_reducible assumption))
  | exact gs1 (And.right (And.right (by with_reducible assumption)))
  | exact gs2 (by with_reducible assumption)
  | exact gs2 (And.left (by with_reducible assumption))
  | exact gs2 (And.left (And.right (by with_reducible assumption)))
  | exact gs2 (And.left (And.right (And.right (by with_reducible assumption))))
  | exact gs2 (And.right (by with_reducible assumption))
  | exact gs2 (And.right (And.right (by with_reducible assumption)))
  | exact Nat.ne_of_lt (by with_reducible assumption)
  | exact Nat.ne_of_lt (And.left (by with_reducible assumption))
  | exact Nat.ne_of_lt (And.left (And.right (by with_reducible assumption)))
  | exact Nat.ne_of_lt (And.left (And.right (And.right (by with_reducible assumption))))
  | exact Nat.ne_of_lt (And.right (by with_reducible assumption))
  | exact Nat.ne_of_lt (And.right (And.right (by with_reducible assumption)))
  | exact ls1 (by with_reducible assumption)
  | exact ls1 (And.left (by with_reducible assumption))
  | exact ls1 (And.left (And.right (by with_reducible assumption)))
  | exact ls1 (And.left (And.right (And.right (by with_reducible assumption))))
  | exact ls1 (And.right (by with_reducible assumption))
  | exact ls1 (And.right (And.right (by with_reducible assumption)))
  | exact ls2 (by with_reducible assumption)
  | exact ls2 (And.left (by with_reducible assumption))
  | exact ls2 (And.left (And.right (by with_reducible assumption)))
  | exact ls2 (And.left (And.right (And.right (by with_reducible assumption))))
  | exact ls2 (And.right (by with_reducible assumption))
  | exact ls2 (And.right (And.right (by with_reducible assumption)))
  | exact Ne.symm (And.left (by with_reducible assumption))
  | exact Ne.symm (And.left (And.right (by with_reducible assumption)))
  | exact Ne.symm (And.left (And.right (And.right (by with_reducible assumption))))
  | exact Ne.symm (And.right (And.right (And.right (by with_reducible assumption))))
  | exact Ne.symm (And.left (And.left (by with_reducible assumption)))
  | exact Ne.symm (And.left (And.right (And.left (by with_reducible assumption))))
  | exact Ne.symm (And.right (And.right (And.left (by with_reducible assumption))))
  | exact Ne.symm (And.left (And.left (And.right (by with_reducible assumption))))
  | exact Ne.symm (And.left (And.right (And.left (And.right (by with_reducible assumption)))))
  | exact Ne.symm (And.right (And.right (And.left (And.right (by with_reducible assumption)))))
  | exact Ne.symm (And.left (And.left (And.right (And.right (by with_reducible assumption)))))
  | exact Ne.symm (And.left (And.right (And.left (And.right (And.right (by with_reducible assumption))))))
  | exact Ne.symm (And.right (And.right (And.left (And.right (And.right (by with_reducible assumption))))))
  | exact Ne.symm (And.left (And.right (And.right (And.right (by with_reducible assumption)))))
  | exact Ne.symm (And.left (And.right (And.right (And.right (And.right (by with_reducible assumption))))))
  | exact Ne.symm (And.right (And.right (And.right (And.right (And.right (by with_reducible assumption))))))
  | exact (And.left (by with_reducible assumption))
  | exact (And.left (And.right (by with_reducible assumption)))
  | exact (And.left (And.right (And.right (by with_reducible assumption))))
  | exact (And.right (And.right (And.right (by with_reducible assumption))))
  | exact (And.left (And.left (by with_reducible assumption)))
  | exact (And.left (And.right (And.left (by with_reducible assumption))))
  | exact (And.right (And.right (And.left (by with_reducible assumption))))
  | exact (And.left (And.left (And.right (by with_reducible assumption))))
  | exact (And.left (And.right (And.left (And.right (by with_reducible assumption)))))
  | exact (And.right (And.right (And.left (And.right (by with_reducible assumption)))))
  | exact (And.left (And.left (And.right (And.right (by with_reducible assumption)))))
  | exact (And.left (And.right (And.left (And.right (And.right (by with_reducible assumption))))))
  | exact (And.right (And.right (And.left (And.right (And.right (by with_reducible assumption))))))
  | exact (And.left (And.right (And.right (And.right (by with_reducible assumption)))))
  | exact (And.left (And.right (And.right (And.right (And.right (by with_reducible assumption))))))
  | exact (And.right (And.right (And.right (And.right (And.right (by with_reducible assumption))))))
  | exact gt2 (by with_reducible assumption) (by with_reducible assumption)
  | fail "no ne"))))
  k_with "units_room" => ((simp only [units_under_make, units_in1, units_deeper, Around.mark_units, units_caller, cLine]; (try dsimp only [ktrTop]); omega))
  k_with "ktr_room" => (((simp only [depth_under_make, depth_under_kw, depth_in1, depth_deeper, depth_caller, recursionLimit]); (try dsimp only [ktrTop]); omega))
  k_with "k_room" => (((simp only [depth_under_make, depth_under_kw, depth_in1, depth_deeper, depth_caller, recursionLimit]); (try dsimp only [ktrTop]); omega))
  k_with "k_all" => (first | assumption | exact ne_of_allLt (by assumption) | exact ne_of_allLt (And.right (by assumption)) | exact ne_of_allLt (And.right (And.right (by assumption))) | exact ne_of_allLt (And.right (And.right (And.right (by assumption)))))
  k_with "m exec For" => (((with_reducible show wpAny _ _ (exec (Stmt.For (PySem.Expr.Name _ _) _ _ [] _) _) _ _ _); (rename Fr _ _ _ _ => lF'); (with_unfolding_all refine' For_invVF lF' ?k1 ?k2 ?_; (case k1 => exact rfl); (case k2 => exact rfl); k_whole)))
  k_with "m InvEndN" => ((refine InvEndN.intro (by assumption) (by assumption) ⟨rfl, ⟨_, by with_unfolding_all rfl⟩, fun z h1 h2 => by first | (simp only [if_neg h1, if_neg h2]; done) | (simp only [if_neg h1, if_neg h2]; rfl) | exact (if_neg h1).trans (if_neg h2)⟩ rfl ?zz1 ?zz2; (case zz1 => exact fun p hp => List.mem_append_left _ hp); (case zz2 => exact fun p hp => List.mem_append_right _ hp)))
  k_with "m ite" => (first | refine ite_pos (by (simp; done)) ?_ | refine ite_neg (by (simp; done)) ?_)
  k_with "kba_size" => (((try simp only [List.length_append, be_length, List.length_cons, List.length_nil, List.length_map, List.length_take, List.length_drop, Int.reduceToNat]); omega))
  k_with "kba_size" => (((try simp only [List.length_append, be_length, tag_length, idsOf_length, bodyOf_length, tokOf_length, retryRaw_length, retryTag_length, retryPkt_length, negPkt_length, flat4_length, List.length_cons, List.length_nil, List.length_map, List.length_take, List.length_drop, List.length_set, Int.reduceToNat]); first | done | omega))
  k_with "m wpC" => ((
  (fail_if_success (with_reducible show wpC _ _ (call (Value.ref 89) _) _ _ _));
  (fail_if_success (with_reducible show wpC _ _ (call (Value.ref 200) _) _ _ _));
  (fail_if_success (with_reducible show wpC _ _ (call (Value.ref 207) _) _ _ _));
  (fail_if_success (with_reducible show wpC _ _ (call (Value.ref 256) _) _ _ _));
  (fail_if_success (with_reducible show wpC _ _ (call (Value.ref 270) _) _ _ _));
  (fail_if_success (with_reducible show wpC _ _ (call (Value.ref 284) _) _ _ _));
  (fail_if_success (with_reducible show wpC _ _ (call (Value.ref 291) _) _ _ _));
  (fail_if_success (with_reducible show wpC _ _ (call (Value.ref 298) _) _ _ _));
  (fail_if_success (with_reducible show wpC _ _ (call (Value.ref 305) _) _ _ _));
  (fail_if_success (with_reducible show wpC _ _ (call (Value.ref 312) _) _ _ _));
  (fail_if_success (with_reducible show wpC _ _ (call (Value.ref 348) _) _ _ _));
  (fail_if_success (with_reducible show wpC _ _ (call (Value.ref 355) _) _ _ _));
  (fail_if_success (with_reducible show wpC _ _ (call (Value.ref 362) _) _ _ _));
  refine C_any ?_; (try k_fold)))
  k_with "m wpC" => ((k_dflt (with_reducible first
  | refine C_execs_cons ?_
  | refine C_Return ?_
  | refine C_BinOp ?_
  | refine C_Tuple ?_
  | refine C_Call ?_)))
  k_with "m wpC" => ((k_dflt (first
  | ((with_reducible show wpC _ _ (exec (Stmt.Assign [PySem.Expr.Name _ _] _ _) _) _ _ _); refine C_Assign_Name ?_)
  | ((with_reducible show wpC _ _ (eval (PySem.Expr.Compare _ [_] [_] _) _) _ _ _); refine C_Compare ?_)
  | ((with_reducible show wpC _ _ (spliced (backTo _ (starEach (_ :: _) _))) _ _ _); refine C_args_cons ?_)
  | ((with_reducible show wpC _ _ (spliced (backTo _ (starEach [] _))) _ _ _); refine C_args_nil ?_)
  | ((with_reducible show wpC _ _ (callWith _ (Value.builtin _) _ _ _) _ _ _); refine C_callWith_builtin ?_)
  | ((with_reducible show wpC _ _ (callWith _ (Value.type _) _ _ _) _ _ _); refine C_callWith_type ?_)
  | ((with_reducible show wpC _ _ (callWith _ (Value.ref _) _ _ _) _ _ _); refine' C_callK ?k0 ?k1 ?_; (case k0 => k_asm); (case k1 => k_is)))))
  k_with "m wpC" => ((k_dflt (with_reducible first
  | refine C_If ?_
  | refine C_isTrue_Compare ?_
  | refine C_isTrue_not ?_
  | refine C_isTrue_or_nil ?_
  | refine C_isTrue_or ?_
  | refine C_And ?_)))
  k_with "m wpC" => ((k_dflt (first
  | ((with_reducible show wpC _ _ (isTrue (PySem.Expr.Call _ _ _ _) _ _) _ _ _); refine C_isTrue_plain ?_)
  | ((with_reducible show wpC _ _ (isTrue (PySem.Expr.Name _ _) _ _) _ _ _); refine C_isTrue_plain ?_)
  | ((with_reducible show wpC _ _ (eval (PySem.Expr.UnaryOp _ _ _) _) _ _ _); refine C_UnaryOp ?_))))
  k_with "m storeName" => ((k_dflt (refine' storeL ?F ?N ?_ ?a ?b; (case F => k_asm); (case N => k_asm); (case a => rfl); (case b => rfl); k_whole; intro h' m' F' N'; (try k_sweep))))
  k_with "m wpC" => (((with_reducible show wpC _ _ (call (Value.ref 284) _) _ _ _); k_dflt (refine' (retry_tag_ctr _ _ _ _ _ _ _ _ ?p1 ?p2 ?p3 ?p4) _ _ _ _ _ _ _ _ _ _ _ _ _ _ _ _ _ _ _ _ ?kB ?kF ?kX ?kN ?kT ?kK ?kD ?kW ?_; (case kB => k_asm); (case kF => k_asm); (case kX => k_asm); (case kN => k_asm); (case kT => k_asm); (case kK => first | exact rfl | assumption); (case kD => ((simp only [depth_under_make, depth_under_kw, depth_in1, depth_deeper, depth_caller]); (try dsimp only [ktrTop]); omega)); (case kW => ((simp only [units_under_make, units_in1, units_deeper, Around.mark_units, units_caller]); (try dsimp only [ktrTop]); omega)); (case p1 => kba_ints2); (case p2 => kba_ints2); (case p3 => kba_size); (case p4 => kba_size)); (intro v' nw' h' tk' F' N' hv'); (obtain ⟨b', t', e', hb', en'⟩ := hv'; subst e'; subst en'); (try k_sweep)))
  k_with "m wpC" => (((first | (with_reducible show wpC _ _ (exec (Stmt.Assign _ _ (PySem.Pos.mk 185 _ _ _)) _) _ _ _) | (with_reducible show wpC _ _ (exec (Stmt.If _ _ _ (PySem.Pos.mk 186 _ _ _)) _) _ _ _)); refine C_any ?_; (try k_fold)))
  trivial
theorem takes_retry_ctr (w : World) (P : Addr) (bz bd bs bt bg bo bn : Array UInt8) (kz kd ks kt kg ko kn : List Int) (kind : PySem.Str) (tk tz td ts tt tg to tn t1 : Tok) (version : Int) (seen : Bool) (news : List (Addr × Obj))
    (hP : (P, ({ cls := .type "tuple", data := .seq #[.str kind tk, .int version t1, .bytes bd td, .bytes bs ts, .bytes bt tt, .bytes bg tg] } : Obj)) ∈ news)
    (hz1 : KBw.bInts bz = kz) (hd1 : KBw.bInts bd = kd) (hs1 : KBw.bInts bs = ks) (ht1 : KBw.bInts bt = kt) (hg1 : KBw.bInts bg = kg) (ho1 : KBw.bInts bo = ko) (hn1 : KBw.bInts bn = kn) (l0 : kz.length ≤ 1000) (l1 : kd.length ≤ 100) (l2 : ks.length ≤ 100) (l3 : kt.length ≤ 100) (l4 : kg.length ≤ 100) (l5 : ko.length ≤ 100) (l6 : kn.length ≤ 100) (l7 : 16 ≤ kz.length) :
    CtrC w 298 40 4000 [.bytes bz tz, .ref P, .bytes bo to, .bytes bn tn, .bool seen] news (fun v news' => ∃ b, v = .bool b ∧ (b = true ↔ Takes seen kd kn ks ko kt kg kz) ∧ news' = news) := use _ (by exact True.intro : Wit (by
  unfold CtrC
  k_fill
  intro mean mg mb dp un gd cn cs a ccd cl outer A₀ base h₀ L m s Q E B F X N T hk hd hu hret
  refine C_call ?_
  k_dflt (refine' code_defK ?k1 ?k2 ?k3 ?k4 ?k5 ?kA ?kF ?kK ?k6 ?k7 ?k8 ?k9 ?kB ?_ ?c2 ?c3 ?c4 ?c5; (case kA => exact rfl); (case kF => exact rfl); (case kK => assumption); (case k1 => k_asm); (case k2 => k_asm); (case k3 => k_asm); (case k4 => k_asm); (case k5 => k_asm); (case k6 => k_is); (case k7 => k_is); (case k8 => ktr_room); (case k9 => exact BindsTo.of_eq rfl); (case c5 => decide); (case kB => exact locs rfl); (case c2 => exact rfl); (case c3 => exact rfl); (case c4 => exact rfl); k_whole; intro g' L' h' FG' F' N' B' X' T'; (try (revert F'; refine letm ?_; intro m' F')); (try dsimp only); (try k_lift B'))
  k_steps
  · exact hret _ _ _ _ (by k_asm) (by k_asm) ⟨_, rfl, takes_1 (by assumption), rfl⟩
  · exact hret _ _ _ _ (by k_asm) (by k_asm) ⟨_, rfl, takes_2 hd1 hn1 (by assumption), rfl⟩
  · exact hret _ _ _ _ (by k_asm) (by k_asm) ⟨_, rfl, takes_3 hs1 ho1 (by assumption), rfl⟩
  · exact hret _ _ _ _ (by k_asm) (by k_asm) ⟨_, rfl, takes_4 (by assumption), rfl⟩
  · exact hret _ _ _ _ (by k_asm) (by k_asm) ⟨_, rfl, takes_5 l7 (by assumption) hd1 hn1 (by assumption) hs1 ho1 (by assumption) (by assumption) hg1 (by assumption), rfl⟩
  ))

end Mine
end

section
open PySem PySem.W PyProof.Rows PySem.Calls PySem.Spec
set_option maxRecDepth 100000
set_option maxHeartbeats 0
namespace Mine
theorem join_K {prog : Program} {w : World} {A : Around} {E : Value → Shared → Prop} {s : Shared} {h₀ : Heap} {L : Addr} {news : List (Addr × Obj)} {D : Addr} {ps : List (Array UInt8 × Tok)} {k : Nat} {t : Tok} {Q : Value → Shared → Prop} (N : News h₀ L s.heap news) (hm : (D, ({ cls := .type "list", data := .seq (ps.map fun p => Value.bytes p.1 p.2).toArray k } : Obj)) ∈ news) (hz : ps.length ≤ 1000) (hp : ∀ p ∈ ps, p.1.size ≤ 1000) {kj : List Int} (hj : (ps.map (·.1)).flatMap KBw.bInts = kj)
    (hQ : ∀ b t' k', KBw.bInts b = kj → Q (.bytes b t') { s with toks := k' }) : wpAny (model prog w) A (call (.builtin "bytes.join") [.bytes #[] t, .ref D]) Q E s :=
  join_call (N _ hm).1 hz hp fun t' k' => hQ _ t' k' ((joined_ints _).trans hj)
theorem ints_at : ∀ {vs : List Value} {ns : List Int} {i : Nat} {v : Value}, IntsAre vs ns → vs[i]? = some v → ∃ n t, v = .int n t ∧ ns[i]? = some n
  | _, _, i, v, .nil, h => by simp at h
  | _, _, 0, v, .cons n t r, h => by
    cases h
    exact ⟨n, t, rfl, rfl⟩
  | _, _, i + 1, v, .cons n t r, h => ints_at (i := i) r (by simpa using h)
theorem rows_of : ∀ {ys : List Value} {ns : List Int}, ys.length = ns.length → (∀ (i : Nat) z, ys[i]? = some z → ∃ b t, z = Value.bytes b t ∧ ∀ n, ns[i]? = some n → KBw.bInts b = be n 4) →
    ∃ ps : List (Array UInt8 × Tok), ys = ps.map (fun p => Value.bytes p.1 p.2) ∧ ps.length = ns.length ∧ (∀ p ∈ ps, p.1.size ≤ 1000) ∧ (ps.map (·.1)).flatMap KBw.bInts = ns.flatMap (be · 4)
  | [], [], _, _ => ⟨[], rfl, rfl, fun _ h => by simp at h, rfl⟩
  | y :: ys, n :: ns, hl, h => by
    obtain ⟨b, t, rfl, hb⟩ := h 0 y rfl
    have hb := hb n rfl
    obtain ⟨ps, rfl, e1, e2, e3⟩ := rows_of (ys := ys) (ns := ns) (by simpa using hl) (fun i z e => h (i + 1) z (by simpa using e))
    refine ⟨(b, t) :: ps, rfl, by simp [e1], fun p hp => ?_, ?_⟩
    · rcases List.mem_cons.mp hp with rfl | hp
      · rw [← KBw.ints_length b, hb, be_length]; omega
      · exact e2 p hp
    · rw [List.map_cons, List.flatMap_cons, List.flatMap_cons, e3, hb]
theorem regT7x1 : True := by
  k_with_none
  k_with "k_steps" => ((repeat' (first | (k_unfold; (try dsimp only)) | (k_end; wrow_close) | ((fail_if_success (with_reducible show wpAny _ _ (subscriptTail _ _ _ _) _ _ _)); dsimp only; walk1) | walk1 | (dsimp only; walk1) | (leave1; walk_say "STEP leave1"; try dsimp only) | fail "no step")))
  k_with "omega" => ((first
  | ((with_reducible show @LT.lt Nat _ _ _); first | (with_reducible assumption) | ((with_reducible refine' rm2 ?omA ?omB); (case omA => with_reducible assumption); (case omB => exact rfl)) | ((with_reducible refine' rm1 ?omA ?omB); (case omA => with_reducible assumption); (case omB => exact rfl)) | ((with_reducible refine' rm0 ?omA); (case omA => with_reducible assumption)) | ((with_reducible refine' ltL ?omA ?omB); (case omA => with_reducible assumption); (case omB => exact rfl)) | ((with_reducible refine' rm3 ?omA ?omB); (case omA => with_reducible assumption); (case omB => exact rfl)) | (simp only [Nat.reduceAdd, Nat.reduceMul, Nat.reduceSub, Nat.reducePow, Nat.reduceLeDiff, Nat.reduceLT, Nat.zero_le, Nat.le_refl, Nat.zero_lt_one]; done))
  | ((with_reducible show @LE.le Nat _ _ _); first | (with_reducible assumption) | (with_reducible exact Nat.zero_le _) | ((with_reducible refine' leL ?omA ?omB); (case omA => with_reducible assumption); (case omB => exact rfl)) | (simp only [Nat.reduceAdd, Nat.reduceMul, Nat.reduceSub, Nat.reducePow, Nat.reduceLeDiff, Nat.reduceLT, Nat.zero_le, Nat.le_refl, Nat.zero_lt_one]; done))
  | ((with_reducible show @Ne Nat _ _); (with_reducible first
  | assumption
  | exact Ne.symm (by with_reducible assumption)
  | exact Nat.ne_of_gt (by with_reducible assumption)
  | exact Nat.ne_of_gt (And.left (by with_reducible assumption))
  | exact Nat.ne_of_gt (And.left (And.right (by with_reducible assumption)))
  | exact Nat.ne_of_gt (And.left (And.right (And.right (by with_reducible assumption))))
  | exact Nat.ne_of_gt (And.right (by with_reducible assumption))
  | exact Nat.ne_of_gt (And.right (And.right (by with_reducible assumption)))
  | exact gs1 (by with_reducible assumption)
  | exact gs1 (And.left (by with_reducible assumption))
  | exact gs1 (And.left (And.right (by with_reducible assumption)))
  | exact gs1 (And.left (And.right (And.right (by with_reducible assumption))))
  | exact gs1 (And.right (by with_reducible assumption))
  | exact gs1 (And.right (And.right (by with_reducible assumption)))
  | exact gs2 (by with_reducible assumption)
  | exact gs2 (And.left (by with_reducible assumption))
  | exact gs2 (And.left (And.right (by with_reducible assumption)))
  | exact gs2 (And.left (And.right (And.right (by with_reducible assumption))))
  | exact gs2 (And.right (by with_reducible assumption))
  | exact gs2 (And.right (And.right (by with_reducible assumption)))
  | exact Nat.ne_of_lt (by with_reducible assumption)
  | exact Nat.ne_of_lt (And.left (by with_reducible assumption))
  | exact Nat.ne_of_lt (And.left (And.right (by with_reducible assumption)))
  | exact Nat.ne_of_lt (And.left (And.right (And.right (by with_reducible assumption))))
  | exact Nat.ne_of_lt (And.right (by with_reducible assumption))
  | exact Nat.ne_of_lt (And.right (And.right (by with_reducible assumption)))
  | exact ls1 (by with_reducible assumption)
  | exact ls1 (And.left (by with_reducible assumption))
  | exact ls1 (And.left (And.right (by with_reducible assumption)))
  | exact ls1 (And.left (And.right (And.right (by with_reducible assumption))))
  | exact ls1 (And.right (by with_reducible assumption))
  | exact ls1 (And.right (And.right (by with_reducible assumption)))
  | exact ls2 (by with_reducible assumption)
  | exact ls2 (And.left (by with_reducible assumption))
  | exact ls2 (And.left (And.right (by with_reducible assumption)))
  | exact ls2 (And.left (And.right (And.right (by with_reducible assumption))))
  | exact ls2 (And.right (by with_reducible assumption))
  | exact ls2 (And.right (And.right (by with_reducible assumption)))
  | exact Ne.symm (And.left (by with_reducible assumption))
  | exact Ne.symm (And.left (And.right (by with_reducible assumption)))
  | exact Ne.symm (And.left (And.right (And.right (by with_reducible assumption))))
  | exact Ne.symm (And.right (And.right (And.right (by with_reducible assumption))))
  | exact Ne.symm (And.left (And.left (by with_reducible assumption)))
  | exact Ne.symm (And.left (And.right (And.left (by with_reducible assumption))))
  | exact Ne.symm (And.right (And.right (And.left (by with_reducible assumption))))
  | exact Ne.symm (And.left (And.left (And.right (by with_reducible assumption))))
  | exact Ne.symm (And.left (And.right (And.left (And.right (by with_reducible assumption)))))
  | exact Ne.symm (And.right (And.right (And.left (And.right (by with_reducible assumption)))))
  | exact Ne.symm (And.left (And.left (And.right (And.right (by with_reducible assumption)))))
  | exact Ne.symm (And.left (And.right (And.left (And.right (And.right (by with_reducible assumption))))))
  | exact Ne.symm (And.right (And.right (And.left (And.right (And.right (by with_reducible assumption))))))
  | exact Ne.symm (And.left (And.right (And.right (And.right (by with_reducible assumption)))))
  | exact Ne.symm (And.left (And.right (And.right (And.right (And.right (by with_reducible assumption))))))
  | exact Ne.symm (And.right (And.right (And.right (And.right (And.right (by with_reducible assumption))))))
  | exact (And.left (by with_reducible assumption))
  | exact (And.left (And.right (by with_reducible assumption)))
  | exact (And.left (And.right (And.right (by with_reducible assumption))))
  | exact (And.right (And.right (And.right (by with_reducible assumption))))
  | exact (And.left (And.left (by with_reducible assumption)))
  | exact (And.left (And.right (And.left (by with_reducible assumption))))
  | exact (And.right (And.right (And.left (by with_reducible assumption))))
  | exact (And.left (And.left (And.right (by with_reducible assumption))))
  | exact (And.left (And.right (And.left (And.right (by with_reducible assumption)))))
  | exact (And.right (And.right (And.left (And.right (by with_reducible assumption)))))
  | exact (And.left (And.left (And.right (And.right (by with_reducible assumption)))))
  | exact (And.left (And.right (And.left (And.right (And.right (by with_reducible assumption))))))
  | exact (And.right (And.right (And.left (And.right (And.right (by with_reducible assumption))))))
  | exact (And.left (And.right (And.right (And.right (by with_reducible assumption)))))
  | exact (And.left (And.right (And.right (And.right (And.right (by with_reducible assumption))))))
  | exact (And.right (And.right (And.right (And.right (And.right (by with_reducible assumption))))))
  | exact gt2 (by with_reducible assumption) (by with_reducible assumption)
  | fail "no ne"))))
  k_with "units_room" => ((simp only [units_under_make, units_in1, units_deeper, Around.mark_units, units_caller, cLine]; (try dsimp only [ktrTop]); omega))
  k_with "ktr_room" => (((simp only [depth_under_make, depth_under_kw, depth_in1, depth_deeper, depth_caller, recursionLimit]); (try dsimp only [ktrTop]); omega))
  k_with "k_room" => (((simp only [depth_under_make, depth_under_kw, depth_in1, depth_deeper, depth_caller, recursionLimit]); (try dsimp only [ktrTop]); omega))
  k_with "k_all" => (first | assumption | exact ne_of_allLt (by assumption) | exact ne_of_allLt (And.right (by assumption)) | exact ne_of_allLt (And.right (And.right (by assumption))) | exact ne_of_allLt (And.right (And.right (And.right (by assumption)))))
  k_with "m exec For" => (((with_reducible show wpAny _ _ (exec (Stmt.For (PySem.Expr.Name _ _) _ _ [] _) _) _ _ _); (rename Fr _ _ _ _ => lF'); (with_unfolding_all refine' For_invVF lF' ?k1 ?k2 ?_; (case k1 => exact rfl); (case k2 => exact rfl); k_whole)))
  k_with "m InvEndN" => ((refine InvEndN.intro (by assumption) (by assumption) ⟨rfl, ⟨_, by with_unfolding_all rfl⟩, fun z h1 h2 => by first | (simp only [if_neg h1, if_neg h2]; done) | (simp only [if_neg h1, if_neg h2]; rfl) | exact (if_neg h1).trans (if_neg h2)⟩ rfl ?zz1 ?zz2; (case zz1 => exact fun p hp => List.mem_append_left _ hp); (case zz2 => exact fun p hp => List.mem_append_right _ hp)))
  k_with "m ite" => (first | refine ite_pos (by (simp; done)) ?_ | refine ite_neg (by (simp; done)) ?_)
  k_with "kba_size" => (((try simp only [List.length_append, be_length, List.length_cons, List.length_nil, List.length_map, List.length_take, List.length_drop, Int.reduceToNat]); omega))
  k_with "kba_size" => (((try simp only [List.length_append, be_length, tag_length, idsOf_length, bodyOf_length, tokOf_length, retryRaw_length, retryTag_length, retryPkt_length, negPkt_length, flat4_length, List.length_cons, List.length_nil, List.length_map, List.length_take, List.length_drop, List.length_set, Int.reduceToNat]); first | done | omega))
  k_with "m wpC" => ((
  (fail_if_success (with_reducible show wpC _ _ (call (Value.ref 89) _) _ _ _));
  (fail_if_success (with_reducible show wpC _ _ (call (Value.ref 200) _) _ _ _));
  (fail_if_success (with_reducible show wpC _ _ (call (Value.ref 207) _) _ _ _));
  (fail_if_success (with_reducible show wpC _ _ (call (Value.ref 256) _) _ _ _));
  (fail_if_success (with_reducible show wpC _ _ (call (Value.ref 270) _) _ _ _));
  (fail_if_success (with_reducible show wpC _ _ (call (Value.ref 284) _) _ _ _));
  (fail_if_success (with_reducible show wpC _ _ (call (Value.ref 291) _) _ _ _));
  (fail_if_success (with_reducible show wpC _ _ (call (Value.ref 298) _) _ _ _));
  (fail_if_success (with_reducible show wpC _ _ (call (Value.ref 305) _) _ _ _));
  (fail_if_success (with_reducible show wpC _ _ (call (Value.ref 312) _) _ _ _));
  (fail_if_success (with_reducible show wpC _ _ (call (Value.ref 348) _) _ _ _));
  (fail_if_success (with_reducible show wpC _ _ (call (Value.ref 355) _) _ _ _));
  (fail_if_success (with_reducible show wpC _ _ (call (Value.ref 362) _) _ _ _));
  refine C_any ?_; (try k_fold)))
  k_with "m wpC" => ((k_dflt (with_reducible first
  | refine C_execs_cons ?_
  | refine C_Return ?_
  | refine C_BinOp ?_
  | refine C_Tuple ?_
  | refine C_Call ?_)))
  k_with "m wpC" => ((k_dflt (first
  | ((with_reducible show wpC _ _ (exec (Stmt.Assign [PySem.Expr.Name _ _] _ _) _) _ _ _); refine C_Assign_Name ?_)
  | ((with_reducible show wpC _ _ (eval (PySem.Expr.Compare _ [_] [_] _) _) _ _ _); refine C_Compare ?_)
  | ((with_reducible show wpC _ _ (spliced (backTo _ (starEach (_ :: _) _))) _ _ _); refine C_args_cons ?_)
  | ((with_reducible show wpC _ _ (spliced (backTo _ (starEach [] _))) _ _ _); refine C_args_nil ?_)
  | ((with_reducible show wpC _ _ (callWith _ (Value.builtin _) _ _ _) _ _ _); refine C_callWith_builtin ?_)
  | ((with_reducible show wpC _ _ (callWith _ (Value.type _) _ _ _) _ _ _); refine C_callWith_type ?_)
  | ((with_reducible show wpC _ _ (callWith _ (Value.ref _) _ _ _) _ _ _); refine' C_callK ?k0 ?k1 ?_; (case k0 => k_asm); (case k1 => k_is)))))
  k_with "m wpC" => ((k_dflt (with_reducible first
  | refine C_If ?_
  | refine C_isTrue_Compare ?_
  | refine C_isTrue_not ?_
  | refine C_isTrue_or_nil ?_
  | refine C_isTrue_or ?_
  | refine C_And ?_)))
  k_with "m wpC" => ((k_dflt (first
  | ((with_reducible show wpC _ _ (isTrue (PySem.Expr.Call _ _ _ _) _ _) _ _ _); refine C_isTrue_plain ?_)
  | ((with_reducible show wpC _ _ (isTrue (PySem.Expr.Name _ _) _ _) _ _ _); refine C_isTrue_plain ?_)
  | ((with_reducible show wpC _ _ (eval (PySem.Expr.UnaryOp _ _ _) _) _ _ _); refine C_UnaryOp ?_))))
  k_with "m storeName" => ((k_dflt (refine' storeL ?F ?N ?_ ?a ?b; (case F => k_asm); (case N => k_asm); (case a => rfl); (case b => rfl); k_whole; intro h' m' F' N'; (try k_sweep))))
  k_with "m call ref" => (((with_reducible show wpAny _ _ (call (Value.ref 188) _) _ _ _); k_dflt (refine' (put_ids_ctr _ _ _ _ _ _ _ _ ?p1 ?p2 ?p3 ?p4) _ _ _ _ _ _ _ _ _ _ _ _ _ _ _ _ _ _ _ _ ?kB ?kF ?kX ?kN ?kT ?kK ?kD ?kW ?_; (case kB => k_asm); (case kF => k_asm); (case kX => k_asm); (case kN => k_asm); (case kT => k_asm); (case kK => first | exact rfl | assumption); (case kD => ((simp only [depth_under_make, depth_under_kw, depth_in1, depth_deeper, depth_caller]); (try dsimp only [ktrTop]); omega)); (case kW => ((simp only [units_under_make, units_in1, units_deeper, Around.mark_units, units_caller]); (try dsimp only [ktrTop]); omega)); (case p1 => kba_ints2); (case p2 => kba_ints2); (case p3 => kba_size); (case p4 => kba_size)); (intro v' nw' h' tk' F' N' hv'); (obtain ⟨b', t', e', hb', en'⟩ := hv'; subst e'; subst en'); (try k_sweep)))
  k_with "m wpC" => (((with_reducible show wpC _ _ (call (Value.ref 89) _) _ _ _); k_dflt (refine' (put_whole_ctr _ _ _ _ _ _ ?p1 ?p2 ?p3 ?p4) _ _ _ _ _ _ _ _ _ _ _ _ _ _ _ _ _ _ _ _ ?kB ?kF ?kX ?kN ?kT ?kK ?kD ?kW ?_; (case kB => k_asm); (case kF => k_asm); (case kX => k_asm); (case kN => k_asm); (case kT => k_asm); (case kK => first | exact rfl | assumption); (case kD => ((simp only [depth_under_make, depth_under_kw, depth_in1, depth_deeper, depth_caller]); (try dsimp only [ktrTop]); omega)); (case kW => ((simp only [units_under_make, units_in1, units_deeper, Around.mark_units, units_caller]); (try dsimp only [ktrTop]); omega)); (case p1 => omega); (case p2 => first | exact lt256_4 (by omega) | exact lt256_8 (by omega) | exact lt256_16 (by omega)); (case p3 => omega); (case p4 => omega)); (intro v' nw' h' tk' F' N' hv'); (obtain ⟨b', t', e', hb', en'⟩ := hv'; subst e'; subst en'; (try simp only [Int.reduceToNat] at hb')); (try k_sweep)))
  k_with "m getMethod bytes" => ((refine join_method ?_))
  k_with "m call builtin:bytes.join" => ((k_dflt (refine' join_K ?kN ?km ?kz ?kp ?kj ?_; (case kN => k_asm); (case km => k_mem); (case kz => omega); (case kp => assumption); (case kj => assumption)); (intro b' t' k' hb')))
  trivial
theorem put_negotiation_ctr (w : World) (V : Addr) (vs : List Value) (kV : Nat) (vers : List Int) (bd bs : Array UInt8) (kd ks : List Int) (td ts : Tok) (low : Int) (t1 : Tok) (news : List (Addr × Obj)) (hV : (V, W.listOf vs.toArray kV) ∈ news) (hi : IntsAre vs vers) (hv : ∀ n ∈ vers, 0 ≤ n ∧ n < 4294967296) (hl : vers.length ≤ 100)
    (hd1 : KBw.bInts bd = kd) (hs1 : KBw.bInts bs = ks) (l1 : kd.length ≤ 100) (l2 : ks.length ≤ 100) (h0 : 0 ≤ low) (h1 : low < 256) :
    CtrC w 200 20 2000 [.int low t1, .bytes bd td, .bytes bs ts, .ref V] news (fun v news' => ∃ b t, v = .bytes b t ∧ KBw.bInts b = negPkt low kd ks vers ∧ news' = news) := use _ (by exact True.intro : Wit (by
  unfold CtrC
  k_fill
  intro mean mg mb dp un gd cn cs a ccd cl outer A₀ base h₀ L m s Q E B F X N T hk hd hu hret
  refine C_call ?_
  k_dflt (refine' code_defK ?k1 ?k2 ?k3 ?k4 ?k5 ?kA ?kF ?kK ?k6 ?k7 ?k8 ?k9 ?kB ?_ ?c2 ?c3 ?c4 ?c5; (case kA => exact rfl); (case kF => exact rfl); (case kK => assumption); (case k1 => k_asm); (case k2 => k_asm); (case k3 => k_asm); (case k4 => k_asm); (case k5 => k_asm); (case k6 => k_is); (case k7 => k_is); (case k8 => ktr_room); (case k9 => exact BindsTo.of_eq rfl); (case c5 => decide); (case kB => exact locs rfl); (case c2 => exact rfl); (case c3 => exact rfl); (case c4 => exact rfl); k_whole; intro g' L' h' FG' F' N' B' X' T'; (try (revert F'; refine letm ?_; intro m' F')); (try dsimp only); (try k_lift B'))
  refine C_execs_cons ?_
  refine' C_Assign_comp (fun i v => ∃ b t, v = .bytes b t ∧ ∀ n, vers[i]? = some n → KBw.bInts b = be n 4) ?kh ?kF ?kN ?km ?kz ?ksw ?kclos ?kcell ?kkind ?knames ?kx ?ky ?kp ?kit ?kstep ?kdone
  case kh => exact rfl
  case kF => k_asm
  case kN => k_asm
  case km => assumption
  case kz => rw [hi.length]; omega
  case ksw => with_unfolding_all rfl
  case kclos => with_unfolding_all rfl
  case kcell => decide
  case kkind => exact rfl
  case knames => decide
  case kx => exact rfl
  case ky => exact rfl
  case kp => exact rfl
  case kit =>
    intro Q' hq'
    k_steps
    exact hq'
  case kstep =>
    intro i v ys I oI C oC D m₂ h tk hit hC hm2 F4 N4
    obtain ⟨n, t, rfl, hn⟩ := ints_at hi hit
    obtain ⟨hn0, hn1⟩ := hv n (List.mem_of_getElem? hn)
    refine C_Call ?_
    k_steps
    · assumption
    · assumption
    · rename_i e
      rw [hn] at e; cases e; assumption
  case kdone =>
    intro ys D h tk hyl hG hoff F4 N4
    obtain ⟨ps, rfl, e1, e2, e3⟩ := rows_of (hyl.trans hi.length) hG
    have f0 : 0 ≤ low.fmod 128 := fmod_lo _ (by decide)
    have f1 : low.fmod 128 < 128 := fmod_hi _ (by decide)
    have e4 : ∀ {X : List (Addr × Obj)} {D' : Addr} {o : Obj}, (D', o) ∈ X → (D', o) ∈ X := fun h => h
    k_steps
    exact hret _ news _ _ (by k_asm) (cb_drop (by k_asm) fun p hp => .tail _ (.tail _ hp)) ⟨_, _, rfl, ((by assumption : KBw.bInts _ = _).trans (by simp (disch := omega) only [u8_back, negPkt, List.map_cons, List.map_nil])), rfl⟩
  ))

end Mine
end

section
open PySem PySem.W PyProof.Rows PySem.Calls PySem.Spec
set_option maxRecDepth 100000
set_option maxHeartbeats 0
namespace Mine
theorem regT21x1 : True := by
  k_with_none
  k_with "k_steps" => ((repeat' (first | (k_unfold; (try dsimp only)) | (k_end; wrow_close) | ((fail_if_success (with_reducible show wpAny _ _ (subscriptTail _ _ _ _) _ _ _)); dsimp only; walk1) | walk1 | (dsimp only; walk1) | (leave1; walk_say "STEP leave1"; try dsimp only) | fail "no step")))
  k_with "omega" => ((first
  | ((with_reducible show @LT.lt Nat _ _ _); first | (with_reducible assumption) | ((with_reducible refine' rm2 ?omA ?omB); (case omA => with_reducible assumption); (case omB => exact rfl)) | ((with_reducible refine' rm1 ?omA ?omB); (case omA => with_reducible assumption); (case omB => exact rfl)) | ((with_reducible refine' rm0 ?omA); (case omA => with_reducible assumption)) | ((with_reducible refine' ltL ?omA ?omB); (case omA => with_reducible assumption); (case omB => exact rfl)) | ((with_reducible refine' rm3 ?omA ?omB); (case omA => with_reducible assumption); (case omB => exact rfl)) | (simp only [Nat.reduceAdd, Nat.reduceMul, Nat.reduceSub, Nat.reducePow, Nat.reduceLeDiff, Nat.reduceLT, Nat.zero_le, Nat.le_refl, Nat.zero_lt_one]; done))
  | ((with_reducible show @LE.le Nat _ _ _); first | (with_reducible assumption) | (with_reducible exact Nat.zero_le _) | ((with_reducible refine' leL ?omA ?omB); (case omA => with_reducible assumption); (case omB => exact rfl)) | (simp only [Nat.reduceAdd, Nat.reduceMul, Nat.reduceSub, Nat.reducePow, Nat.reduceLeDiff, Nat.reduceLT, Nat.zero_le, Nat.le_refl, Nat.zero_lt_one]; done))
  | ((with_reducible show @Ne Nat _ _); (with_reducible first
  | assumption
  | exact Ne.symm (by with_reducible assumption)
  | exact Nat.ne_of_gt (by with_reducible assumption)
  | exact Nat.ne_of_gt (And.left (by with_reducible assumption))
  | exact Nat.ne_of_gt (And.left (And.right (by with_reducible assumption)))
  | exact Nat.ne_of_gt (And.left (And.right (And.right (by with_reducible assumption))))
  | exact Nat.ne_of_gt (And.right (by with_reducible assumption))
  | exact Nat.ne_of_gt (And.right (And.right (by with_reducible assumption)))
  | exact gs1 (by with_reducible assumption)
  | exact gs1 (And.left (by with_reducible assumption))
  | exact gs1 (And.left (And.right (by with_reducible assumption)))
  | exact gs1 (And.left (And.right (And.right (by with_reducible assumption))))
  | exact gs1 (And.right (by with_reducible assumption))
  | exact gs1 (And.right (And.right (by with_reducible assumption)))
  | exact gs2 (by with_reducible assumption)
  | exact gs2 (And.left (by with_reducible assumption))
  | exact gs2 (And.left (And.right (by with_reducible assumption)))
  | exact gs2 (And.left (And.right (And.right (by with_reducible assumption))))
  | exact gs2 (And.right (by with_reducible assumption))
  | exact gs2 (And.right (And.right (by with_reducible assumption)))
  | exact Nat.ne_of_lt (by with_reducible assumption)
  | exact Nat.ne_of_lt (And.left (by with_reducible assumption))
  | exact Nat.ne_of_lt (And.left (And.right (by with_reducible assumption)))
  | exact Nat.ne_of_lt (And.left (And.right (And.right (by with_reducible assumption))))
  | exact Nat.ne_of_lt (And.right (by with_reducible assumption))
  | exact Nat.ne_of_lt (And.right (And.right (by with_reducible assumption)))
  | exact ls1 (by with_reducible assumption)
  | exact ls1 (And.left (by with_reducible assumption))
  | exact ls1 (And.left (And.right (by with_reducible assumption)))
  | exact ls1 (And.left (And.right (And.right (by with_reducible assumption))))
  | exact ls1 (And.right (by with_reducible assumption))
  | exact ls1 (And.right (And.right (by with_reducible assumption)))
  | exact ls2 (by with_reducible assumption)
  | exact ls2 (And.left (by with_reducible assumption))
  | exact ls2 (And.left (And.right (by with_reducible assumption)))
  | exact ls2 (And.left (And.right (And.right (by with_reducible assumption))))
  | exact ls2 (And.right (by with_reducible assumption))
  | exact ls2 (And.right (And.right (by with_reducible assumption)))
  | exact Ne.symm (And.left (by with_reducible assumption))
  | exact Ne.symm (And.left (And.right (by with_reducible assumption)))
  | exact Ne.symm (And.left (And.right (And.right (by with_reducible assumption))))
  | exact Ne.symm (And.right (And.right (And.right (by with_reducible assumption))))
  | exact Ne.symm (And.left (And.left (by with_reducible assumption)))
  | exact Ne.symm (And.left (And.right (And.left (by with_reducible assumption))))
  | exact Ne.symm (And.right (And.right (And.left (by with_reducible assumption))))
  | exact Ne.symm (And.left (And.left (And.right (by with_reducible assumption))))
  | exact Ne.symm (And.left (And.right (And.left (And.right (by with_reducible assumption)))))
  | exact Ne.symm (And.right (And.right (And.left (And.right (by with_reducible assumption)))))
  | exact Ne.symm (And.left (And.left (And.right (And.right (by with_reducible assumption)))))
  | exact Ne.symm (And.left (And.right (And.left (And.right (And.right (by with_reducible assumption))))))
  | exact Ne.symm (And.right (And.right (And.left (And.right (And.right (by with_reducible assumption))))))
  | exact Ne.symm (And.left (And.right (And.right (And.right (by with_reducible assumption)))))
  | exact Ne.symm (And.left (And.right (And.right (And.right (And.right (by with_reducible assumption))))))
  | exact Ne.symm (And.right (And.right (And.right (And.right (And.right (by with_reducible assumption))))))
  | exact (And.left (by with_reducible assumption))
  | exact (And.left (And.right (by with_reducible assumption)))
  | exact (And.left (And.right (And.right (by with_reducible assumption))))
  | exact (And.right (And.right (And.right (by with_reducible assumption))))
  | exact (And.left (And.left (by with_reducible assumption)))
  | exact (And.left (And.right (And.left (by with_reducible assumption))))
  | exact (And.right (And.right (And.left (by with_reducible assumption))))
  | exact (And.left (And.left (And.right (by with_reducible assumption))))
  | exact (And.left (And.right (And.left (And.right (by with_reducible assumption)))))
  | exact (And.right (And.right (And.left (And.right (by with_reducible assumption)))))
  | exact (And.left (And.left (And.right (And.right (by with_reducible assumption)))))
  | exact (And.left (And.right (And.left (And.right (And.right (by with_reducible assumption))))))
  | exact (And.right (And.right (And.left (And.right (And.right (by with_reducible assumption))))))
  | exact (And.left (And.right (And.right (And.right (by with_reducible assumption)))))
  | exact (And.left (And.right (And.right (And.right (And.right (by with_reducible assumption))))))
  | exact (And.right (And.right (And.right (And.right (And.right (by with_reducible assumption))))))
  | exact gt2 (by with_reducible assumption) (by with_reducible assumption)
  | fail "no ne"))))
  k_with "units_room" => ((simp only [units_under_make, units_in1, units_deeper, Around.mark_units, units_caller, cLine]; (try dsimp only [ktrTop]); omega))
  k_with "ktr_room" => (((simp only [depth_under_make, depth_under_kw, depth_in1, depth_deeper, depth_caller, recursionLimit]); (try dsimp only [ktrTop]); omega))
  k_with "k_room" => (((simp only [depth_under_make, depth_under_kw, depth_in1, depth_deeper, depth_caller, recursionLimit]); (try dsimp only [ktrTop]); omega))
  k_with "k_all" => (first | assumption | exact ne_of_allLt (by assumption) | exact ne_of_allLt (And.right (by assumption)) | exact ne_of_allLt (And.right (And.right (by assumption))) | exact ne_of_allLt (And.right (And.right (And.right (by assumption)))))
  k_with "m exec For" => (((with_reducible show wpAny _ _ (exec (Stmt.For (PySem.Expr.Name _ _) _ _ [] _) _) _ _ _); (rename Fr _ _ _ _ => lF'); (with_unfolding_all refine' For_invVF lF' ?k1 ?k2 ?_; (case k1 => exact rfl); (case k2 => exact rfl); k_whole)))
  k_with "m InvEndN" => ((refine InvEndN.intro (by assumption) (by assumption) ⟨rfl, ⟨_, by with_unfolding_all rfl⟩, fun z h1 h2 => by first | (simp only [if_neg h1, if_neg h2]; done) | (simp only [if_neg h1, if_neg h2]; rfl) | exact (if_neg h1).trans (if_neg h2)⟩ rfl ?zz1 ?zz2; (case zz1 => exact fun p hp => List.mem_append_left _ hp); (case zz2 => exact fun p hp => List.mem_append_right _ hp)))
  k_with "m ite" => (first | refine ite_pos (by (simp; done)) ?_ | refine ite_neg (by (simp; done)) ?_)
  k_with "kba_size" => (((try simp only [List.length_append, be_length, List.length_cons, List.length_nil, List.length_map, List.length_take, List.length_drop, Int.reduceToNat]); omega))
  k_with "m storeName" => ((k_dflt (refine' storeL ?F ?N ?_ ?a ?b; (case F => k_asm); (case N => k_asm); (case a => rfl); (case b => rfl); k_whole; intro h' m' F' N'; (try k_sweep))))
  k_with "m getAttr ref" => ((first
  | ((with_reducible show wpAny _ _ (getAttr (Value.ref _) (PySem.Str.ofString "data") _) _ _ _); k_dflt (refine' rd_data ?F ?X ?N ?x ?d ?r ?_; (case F => k_asm); (case X => k_asm); (case N => k_asm); (case x => k_mem); (case d => k_mem); (case r => assumption)); (intro t'))
  | ((with_reducible show wpAny _ _ (getAttr (Value.ref _) (PySem.Str.ofString "at") _) _ _ _); k_dflt (refine' rd_at ?F ?X ?N ?x ?d ?r ?_; (case F => k_asm); (case X => k_asm); (case N => k_asm); (case x => k_mem); (case d => k_mem); (case r => assumption)); (intro t'))))
  k_with "m setAttr ref" => (((with_reducible show wpAny _ _ (setAttr (Value.ref _) (PySem.Str.ofString "at") _) _ _ _); k_dflt (refine' set_rd_at ?F ?X ?N ?x ?U ?r ?_; (case F => k_asm); (case X => k_asm); (case N => k_asm); (case x => k_mem); (case U => k_updF); (case r => assumption)); (intro h' od2' F' N' hr'; (try dsimp only at N'); (try k_sweep))))
  k_with "m getMethod ref" => ((first
  | ((with_reducible show wpAny _ _ (getMethod (Value.ref _) (PySem.Str.ofString "whole") _) _ _ _); k_dflt (refine' rd_m_whole ?F ?X ?N ?x ?d ?r ?_; (case F => k_asm); (case X => k_asm); (case N => k_asm); (case x => k_mem); (case d => k_mem); (case r => assumption)))
  | ((with_reducible show wpAny _ _ (getMethod (Value.ref _) (PySem.Str.ofString "take") _) _ _ _); k_dflt (refine' rd_m_take ?F ?X ?N ?x ?d ?r ?_; (case F => k_asm); (case X => k_asm); (case N => k_asm); (case x => k_mem); (case d => k_mem); (case r => assumption)))
  | ((with_reducible show wpAny _ _ (getMethod (Value.ref _) (PySem.Str.ofString "left") _) _ _ _); k_dflt (refine' rd_m_left ?F ?X ?N ?x ?d ?r ?_; (case F => k_asm); (case X => k_asm); (case N => k_asm); (case x => k_mem); (case d => k_mem); (case r => assumption)))))
  trivial
theorem reader_new (w : World) (bd : Array UInt8) (td : Tok) (news : List (Addr × Obj)) :
    Ctr w 155 15 1500 [.bytes bd td] news (fun v news' => ∃ x d od, v = .ref x ∧ @LT.lt Nat _ d x ∧ AllLt d news ∧ RdO w od bd 0 ∧ news' = (x, instObj 155 d) :: (d, od) :: news) := use _ (by exact True.intro : Wit (by
  unfold Ctr
  k_fill
  intro mean mg mb dp un gd cn cs a ccd cl outer A₀ base h₀ L m s Q E B F X N T hk hd hu hret
  k_dflt (refine' call_cls ?k1 ?k2 ?k3 ?k4 ?k5 ?k6 ?_; (case k1 => k_asm); (case k2 => k_asm); (case k3 => k_asm); (case k4 => k_is); (case k5 => k_is); (case k6 => k_is); k_whole; intro x' d' h' F' N' l1 l2; (try k_lt l1); (try k_lt2 l2); (try k_sweep))
  k_dflt cell_enter
  k_steps
  refine' hret _ _ _ _ (by k_asm) ?zzn ⟨_, _, _, rfl, ?zza, ?zzc, ⟨_, _, _, _, rfl⟩, rfl⟩
  case zzn => k_asm
  case zza => omega
  case zzc => first | assumption | exact allLt_of (by assumption)
  ))

theorem regT21x2 : True := by
  k_with_none
  k_with "k_steps" => ((repeat' (first | (k_unfold; (try dsimp only)) | (k_end; wrow_close) | ((fail_if_success (with_reducible show wpAny _ _ (subscriptTail _ _ _ _) _ _ _)); dsimp only; walk1) | walk1 | (dsimp only; walk1) | (leave1; walk_say "STEP leave1"; try dsimp only) | fail "no step")))
  k_with "omega" => ((first
  | ((with_reducible show @LT.lt Nat _ _ _); first | (with_reducible assumption) | ((with_reducible refine' rm2 ?omA ?omB); (case omA => with_reducible assumption); (case omB => exact rfl)) | ((with_reducible refine' rm1 ?omA ?omB); (case omA => with_reducible assumption); (case omB => exact rfl)) | ((with_reducible refine' rm0 ?omA); (case omA => with_reducible assumption)) | ((with_reducible refine' ltL ?omA ?omB); (case omA => with_reducible assumption); (case omB => exact rfl)) | ((with_reducible refine' rm3 ?omA ?omB); (case omA => with_reducible assumption); (case omB => exact rfl)) | (simp only [Nat.reduceAdd, Nat.reduceMul, Nat.reduceSub, Nat.reducePow, Nat.reduceLeDiff, Nat.reduceLT, Nat.zero_le, Nat.le_refl, Nat.zero_lt_one]; done))
  | ((with_reducible show @LE.le Nat _ _ _); first | (with_reducible assumption) | (with_reducible exact Nat.zero_le _) | ((with_reducible refine' leL ?omA ?omB); (case omA => with_reducible assumption); (case omB => exact rfl)) | (simp only [Nat.reduceAdd, Nat.reduceMul, Nat.reduceSub, Nat.reducePow, Nat.reduceLeDiff, Nat.reduceLT, Nat.zero_le, Nat.le_refl, Nat.zero_lt_one]; done))
  | ((with_reducible show @Ne Nat _ _); (with_reducible first
  | assumption
  | exact Ne.symm (by with_reducible assumption)
  | exact Nat.ne_of_gt (by with_reducible assumption)
  | exact Nat.ne_of_gt (And.left (by with_reducible assumption))
  | exact Nat.ne_of_gt (And.left (And.right (by with_reducible assumption)))
  | exact Nat.ne_of_gt (And.left (And.right (And.right (by with_reducible assumption))))
  | exact Nat.ne_of_gt (And.right (by with_reducible assumption))
  | exact Nat.ne_of_gt (And.right (And.right (by with_reducible assumption)))
  | exact gs1 (by with_reducible assumption)
  | exact gs1 (And.left (by with_reducible assumption))
  | exact gs1 (And.left (And.right (by with_reducible assumption)))
  | exact gs1 (And.left (And.right (And.right (by with_reducible assumption))))
  | exact gs1 (And.right (by with_reducible assumption))
  | exact gs1 (And.right (And.right (by with_reducible assumption)))
  | exact gs2 (by with_reducible assumption)
  | exact gs2 (And.left (by with_reducible assumption))
  | exact gs2 (And.left (And.right (by with_reducible assumption)))
  | exact gs2 (And.left (And.right (And.right (by with_reducible assumption))))
  | exact gs2 (And.right (by with_reducible assumption))
  | exact gs2 (And.right (And.right (by with_reducible assumption)))
  | exact Nat.ne_of_lt (by with_reducible assumption)
  | exact Nat.ne_of_lt (And.left (by with_reducible assumption))
  | exact Nat.ne_of_lt (And.left (And.right (by with_reducible assumption)))
  | exact Nat.ne_of_lt (And.left (And.right (And.right (by with_reducible assumption))))
  | exact Nat.ne_of_lt (And.right (by with_reducible assumption))
  | exact Nat.ne_of_lt (And.right (And.right (by with_reducible assumption)))
  | exact ls1 (by with_reducible assumption)
  | exact ls1 (And.left (by with_reducible assumption))
  | exact ls1 (And.left (And.right (by with_reducible assumption)))
  | exact ls1 (And.left (And.right (And.right (by with_reducible assumption))))
  | exact ls1 (And.right (by with_reducible assumption))
  | exact ls1 (And.right (And.right (by with_reducible assumption)))
  | exact ls2 (by with_reducible assumption)
  | exact ls2 (And.left (by with_reducible assumption))
  | exact ls2 (And.left (And.right (by with_reducible assumption)))
  | exact ls2 (And.left (And.right (And.right (by with_reducible assumption))))
  | exact ls2 (And.right (by with_reducible assumption))
  | exact ls2 (And.right (And.right (by with_reducible assumption)))
  | exact Ne.symm (And.left (by with_reducible assumption))
  | exact Ne.symm (And.left (And.right (by with_reducible assumption)))
  | exact Ne.symm (And.left (And.right (And.right (by with_reducible assumption))))
  | exact Ne.symm (And.right (And.right (And.right (by with_reducible assumption))))
  | exact Ne.symm (And.left (And.left (by with_reducible assumption)))
  | exact Ne.symm (And.left (And.right (And.left (by with_reducible assumption))))
  | exact Ne.symm (And.right (And.right (And.left (by with_reducible assumption))))
  | exact Ne.symm (And.left (And.left (And.right (by with_reducible assumption))))
  | exact Ne.symm (And.left (And.right (And.left (And.right (by with_reducible assumption)))))
  | exact Ne.symm (And.right (And.right (And.left (And.right (by with_reducible assumption)))))
  | exact Ne.symm (And.left (And.left (And.right (And.right (by with_reducible assumption)))))
  | exact Ne.symm (And.left (And.right (And.left (And.right (And.right (by with_reducible assumption))))))
  | exact Ne.symm (And.right (And.right (And.left (And.right (And.right (by with_reducible assumption))))))
  | exact Ne.symm (And.left (And.right (And.right (And.right (by with_reducible assumption)))))
  | exact Ne.symm (And.left (And.right (And.right (And.right (And.right (by with_reducible assumption))))))
  | exact Ne.symm (And.right (And.right (And.right (And.right (And.right (by with_reducible assumption))))))
  | exact (And.left (by with_reducible assumption))
  | exact (And.left (And.right (by with_reducible assumption)))
  | exact (And.left (And.right (And.right (by with_reducible assumption))))
  | exact (And.right (And.right (And.right (by with_reducible assumption))))
  | exact (And.left (And.left (by with_reducible assumption)))
  | exact (And.left (And.right (And.left (by with_reducible assumption))))
  | exact (And.right (And.right (And.left (by with_reducible assumption))))
  | exact (And.left (And.left (And.right (by with_reducible assumption))))
  | exact (And.left (And.right (And.left (And.right (by with_reducible assumption)))))
  | exact (And.right (And.right (And.left (And.right (by with_reducible assumption)))))
  | exact (And.left (And.left (And.right (And.right (by with_reducible assumption)))))
  | exact (And.left (And.right (And.left (And.right (And.right (by with_reducible assumption))))))
  | exact (And.right (And.right (And.left (And.right (And.right (by with_reducible assumption))))))
  | exact (And.left (And.right (And.right (And.right (by with_reducible assumption)))))
  | exact (And.left (And.right (And.right (And.right (And.right (by with_reducible assumption))))))
  | exact (And.right (And.right (And.right (And.right (And.right (by with_reducible assumption))))))
  | exact gt2 (by with_reducible assumption) (by with_reducible assumption)
  | fail "no ne"))))
  k_with "units_room" => ((simp only [units_under_make, units_in1, units_deeper, Around.mark_units, units_caller, cLine]; (try dsimp only [ktrTop]); omega))
  k_with "ktr_room" => (((simp only [depth_under_make, depth_under_kw, depth_in1, depth_deeper, depth_caller, recursionLimit]); (try dsimp only [ktrTop]); omega))
  k_with "k_room" => (((simp only [depth_under_make, depth_under_kw, depth_in1, depth_deeper, depth_caller, recursionLimit]); (try dsimp only [ktrTop]); omega))
  k_with "k_all" => (first | assumption | exact ne_of_allLt (by assumption) | exact ne_of_allLt (And.right (by assumption)) | exact ne_of_allLt (And.right (And.right (by assumption))) | exact ne_of_allLt (And.right (And.right (And.right (by assumption)))))
  k_with "m exec For" => (((with_reducible show wpAny _ _ (exec (Stmt.For (PySem.Expr.Name _ _) _ _ [] _) _) _ _ _); (rename Fr _ _ _ _ => lF'); (with_unfolding_all refine' For_invVF lF' ?k1 ?k2 ?_; (case k1 => exact rfl); (case k2 => exact rfl); k_whole)))
  k_with "m InvEndN" => ((refine InvEndN.intro (by assumption) (by assumption) ⟨rfl, ⟨_, by with_unfolding_all rfl⟩, fun z h1 h2 => by first | (simp only [if_neg h1, if_neg h2]; done) | (simp only [if_neg h1, if_neg h2]; rfl) | exact (if_neg h1).trans (if_neg h2)⟩ rfl ?zz1 ?zz2; (case zz1 => exact fun p hp => List.mem_append_left _ hp); (case zz2 => exact fun p hp => List.mem_append_right _ hp)))
  k_with "m ite" => (first | refine ite_pos (by (simp; done)) ?_ | refine ite_neg (by (simp; done)) ?_)
  k_with "kba_size" => (((try simp only [List.length_append, be_length, List.length_cons, List.length_nil, List.length_map, List.length_take, List.length_drop, Int.reduceToNat]); omega))
  k_with "m storeName" => ((k_dflt (refine' storeL ?F ?N ?_ ?a ?b; (case F => k_asm); (case N => k_asm); (case a => rfl); (case b => rfl); k_whole; intro h' m' F' N'; (try k_sweep))))
  k_with "m getAttr ref" => ((first
  | ((with_reducible show wpAny _ _ (getAttr (Value.ref _) (PySem.Str.ofString "data") _) _ _ _); k_dflt (refine' rd_data ?F ?X ?N ?x ?d ?r ?_; (case F => k_asm); (case X => k_asm); (case N => k_asm); (case x => k_mem); (case d => k_mem); (case r => assumption)); (intro t'))
  | ((with_reducible show wpAny _ _ (getAttr (Value.ref _) (PySem.Str.ofString "at") _) _ _ _); k_dflt (refine' rd_at ?F ?X ?N ?x ?d ?r ?_; (case F => k_asm); (case X => k_asm); (case N => k_asm); (case x => k_mem); (case d => k_mem); (case r => assumption)); (intro t'))))
  k_with "m setAttr ref" => (((with_reducible show wpAny _ _ (setAttr (Value.ref _) (PySem.Str.ofString "at") _) _ _ _); k_dflt (refine' set_rd_at ?F ?X ?N ?x ?U ?r ?_; (case F => k_asm); (case X => k_asm); (case N => k_asm); (case x => k_mem); (case U => k_updF); (case r => assumption)); (intro h' od2' F' N' hr'; (try dsimp only at N'); (try k_sweep))))
  k_with "m getMethod ref" => ((first
  | ((with_reducible show wpAny _ _ (getMethod (Value.ref _) (PySem.Str.ofString "whole") _) _ _ _); k_dflt (refine' rd_m_whole ?F ?X ?N ?x ?d ?r ?_; (case F => k_asm); (case X => k_asm); (case N => k_asm); (case x => k_mem); (case d => k_mem); (case r => assumption)))
  | ((with_reducible show wpAny _ _ (getMethod (Value.ref _) (PySem.Str.ofString "take") _) _ _ _); k_dflt (refine' rd_m_take ?F ?X ?N ?x ?d ?r ?_; (case F => k_asm); (case X => k_asm); (case N => k_asm); (case x => k_mem); (case d => k_mem); (case r => assumption)))
  | ((with_reducible show wpAny _ _ (getMethod (Value.ref _) (PySem.Str.ofString "left") _) _ _ _); k_dflt (refine' rd_m_left ?F ?X ?N ?x ?d ?r ?_; (case F => k_asm); (case X => k_asm); (case N => k_asm); (case x => k_mem); (case d => k_mem); (case r => assumption)))))
  k_with "m call ref" => (((with_reducible show wpAny _ _ (call (Value.ref 96) _) _ _ _); k_dflt (refine' (get_whole_ctr _ _ _ _ _ _ _ _ _ ?p1 ?p2 ?p3 ?p4 ?p5) _ _ _ _ _ _ _ _ _ _ _ _ _ _ _ _ _ _ _ _ ?kB ?kF ?kX ?kN ?kT ?kK ?kD ?kW ?_; (case kB => k_asm); (case kF => k_asm); (case kX => k_asm); (case kN => k_asm); (case kT => k_asm); (case kK => first | exact rfl | assumption); (case kD => ((simp only [depth_under_make, depth_under_kw, depth_in1, depth_deeper, depth_caller]); (try dsimp only [ktrTop]); omega)); (case kW => ((simp only [units_under_make, units_in1, units_deeper, Around.mark_units, units_caller]); (try dsimp only [ktrTop]); omega)); (case p1 => assumption); (case p2 => assumption); (case p3 => assumption); (case p4 => assumption); (case p5 => assumption)); (intro v' nw' h' tk' F' N' hv'); (obtain ⟨t', e', en'⟩ := hv'; subst e'; subst en'); (try k_sweep)))
  trivial
theorem whole_rctr (w : World) (b : Array UInt8) (ks : List Int) (at_ size n : Int) (ts : Tok) (hb : KBw.bInts b = ks) (h0 : 0 ≤ at_) (h1 : 0 ≤ size) (h2 : at_ + size ≤ ks.length) (h3 : ks.length ≤ 1000) (hn : unbe (List.take size.toNat (List.drop at_.toNat ks)) = n) :
    RCtr w 145 20 2000 [.int size ts] (fun od => RdO w od b at_) (fun v od' => (∃ t, v = .int n t) ∧ RdO w od' b (at_ + size)) := use _ (by exact True.intro : Wit (by
  intro x d od rest hxd hr1 hr2 hr
  have hn' : ((ks.drop at_.toNat).take size.toNat).foldl (fun a k => a * 256 + k) 0 = n := hn
  unfold Ctr
  k_fill
  intro mean mg mb dp un gd cn cs a ccd cl outer A₀ base h₀ L m s Q E B F X N T hk hd hu hret
  refine wpAny_call ?_
  k_dflt cell_enter
  replace hxd := neN hxd
  k_steps
  rw [hn']
  refine' hret _ _ _ _ (by k_asm) (by k_asm) ⟨_, ⟨⟨_, rfl⟩, ?zzr⟩, rfl⟩
  case zzr => assumption
  ))

theorem take_rctr (w : World) (b : Array UInt8) (ks kt : List Int) (at_ many : Int) (ts : Tok) (hb : KBw.bInts b = ks) (h0 : 0 ≤ at_) (h1 : 0 ≤ many) (h2 : at_ + many ≤ ks.length) (h3 : ks.length ≤ 1000)
    (hcut : ∀ lo hi, lo = at_ → hi = at_ + many → List.take (clipAt ks.length hi - clipAt ks.length lo) (List.drop (clipAt ks.length lo) ks) = kt) :
    RCtr w 131 20 2000 [.int many ts] (fun od => RdO w od b at_) (fun v od' => (∃ b' t, v = .bytes b' t ∧ KBw.bInts b' = kt) ∧ RdO w od' b (at_ + many)) := use _ (by exact True.intro : Wit (by
  intro x d od rest hxd hr1 hr2 hr
  unfold Ctr
  k_fill
  intro mean mg mb dp un gd cn cs a ccd cl outer A₀ base h₀ L m s Q E B F X N T hk hd hu hret
  refine wpAny_call ?_
  k_dflt cell_enter
  replace hxd := neN hxd
  k_steps
  refine' hret _ _ _ _ (by k_asm) ?zzn ⟨_, ⟨⟨_, _, rfl, ?zzb⟩, ?zzr⟩, rfl⟩
  case zzn => first | k_asm | exact drop_1 (by k_asm)
  case zzr => assumption
  case zzb => exact Eq.trans (by assumption) (hcut _ _ (by omega) (by omega))
  ))

section
variable {w : World} {b : Array UInt8} {kz kd ks rest : List Int} {first version at_ : Int} {t2 : Tok}
theorem rd_w1 (hb : KBw.bInts b = kz) (e : kz = [first] ++ be version 4 ++ idsOf kd ks ++ rest) (ha : at_ = 0) (h3 : kz.length ≤ 1000) :
    RCtr w 145 20 2000 [.int 1 t2] (fun od => RdO w od b at_) (fun v od' => (∃ t, v = .int first t) ∧ RdO w od' b (at_ + 1)) :=
  whole_rctr w b kz at_ 1 _ t2 hb (by omega) (by omega) (by have := inv_len e; omega) h3 (inv_1 e _ (by omega))
theorem rd_w2 (hb : KBw.bInts b = kz) (e : kz = [first] ++ be version 4 ++ idsOf kd ks ++ rest) (ha : at_ = 1) (h0 : 0 ≤ version) (h1 : version < 4294967296) (h3 : kz.length ≤ 1000) :
    RCtr w 145 20 2000 [.int 4 t2] (fun od => RdO w od b at_) (fun v od' => (∃ t, v = .int version t) ∧ RdO w od' b (at_ + 4)) :=
  whole_rctr w b kz at_ 4 _ t2 hb (by omega) (by omega) (by have := inv_len e; omega) h3 (inv_2 e h0 h1 _ (by omega))
theorem rd_w3 (hb : KBw.bInts b = kz) (e : kz = [first] ++ be version 4 ++ idsOf kd ks ++ rest) (ha : at_ = 5) (h3 : kz.length ≤ 1000) :
    RCtr w 145 20 2000 [.int 1 t2] (fun od => RdO w od b at_) (fun v od' => (∃ t, v = .int (kd.length : Int) t) ∧ RdO w od' b (at_ + 1)) :=
  whole_rctr w b kz at_ 1 _ t2 hb (by omega) (by omega) (by have := inv_len e; omega) h3 (inv_3 e _ (by omega))
theorem rd_w4 (hb : KBw.bInts b = kz) (e : kz = [first] ++ be version 4 ++ idsOf kd ks ++ rest) (ha : at_ = 6 + kd.length) (h3 : kz.length ≤ 1000) :
    RCtr w 145 20 2000 [.int 1 t2] (fun od => RdO w od b at_) (fun v od' => (∃ t, v = .int (ks.length : Int) t) ∧ RdO w od' b (at_ + 1)) :=
  whole_rctr w b kz at_ 1 _ t2 hb (by omega) (by omega) (by have := inv_len e; omega) h3 (inv_4 e _ (by omega))
theorem rd_t5 (hb : KBw.bInts b = kz) (e : kz = [first] ++ be version 4 ++ idsOf kd ks ++ rest) (ha : at_ = 6) (h3 : kz.length ≤ 1000) :
    RCtr w 131 20 2000 [.int (kd.length : Int) t2] (fun od => RdO w od b at_) (fun v od' => (∃ b' t, v = .bytes b' t ∧ KBw.bInts b' = kd) ∧ RdO w od' b (at_ + kd.length)) :=
  take_rctr w b kz kd at_ kd.length t2 hb (by omega) (by omega) (by have := inv_len e; omega) h3 (fun lo hi h1 h2 => inv_5 e (by omega) (by omega))
theorem rd_t6 (hb : KBw.bInts b = kz) (e : kz = [first] ++ be version 4 ++ idsOf kd ks ++ rest) (ha : at_ = 7 + kd.length) (h3 : kz.length ≤ 1000) :
    RCtr w 131 20 2000 [.int (ks.length : Int) t2] (fun od => RdO w od b at_) (fun v od' => (∃ b' t, v = .bytes b' t ∧ KBw.bInts b' = ks) ∧ RdO w od' b (at_ + ks.length)) :=
  take_rctr w b kz ks at_ ks.length t2 hb (by omega) (by omega) (by have := inv_len e; omega) h3 (fun lo hi h1 h2 => inv_6 e (by omega) (by omega))
end
end Mine
end

section
open PySem PySem.W PyProof.Rows PySem.Calls PySem.Spec
set_option maxRecDepth 100000
set_option maxHeartbeats 0
namespace Mine
section
theorem regT8x1 : True := by
  k_with_none
  k_with "k_steps" => ((repeat' (first | (k_unfold; (try dsimp only)) | (k_end; wrow_close) | ((fail_if_success (with_reducible show wpAny _ _ (subscriptTail _ _ _ _) _ _ _)); dsimp only; walk1) | walk1 | (dsimp only; walk1) | (leave1; walk_say "STEP leave1"; try dsimp only) | fail "no step")))
  k_with "omega" => ((first
  | ((with_reducible show @LT.lt Nat _ _ _); first | (with_reducible assumption) | ((with_reducible refine' rm2 ?omA ?omB); (case omA => with_reducible assumption); (case omB => exact rfl)) | ((with_reducible refine' rm1 ?omA ?omB); (case omA => with_reducible assumption); (case omB => exact rfl)) | ((with_reducible refine' rm0 ?omA); (case omA => with_reducible assumption)) | ((with_reducible refine' ltL ?omA ?omB); (case omA => with_reducible assumption); (case omB => exact rfl)) | ((with_reducible refine' rm3 ?omA ?omB); (case omA => with_reducible assumption); (case omB => exact rfl)) | (simp only [Nat.reduceAdd, Nat.reduceMul, Nat.reduceSub, Nat.reducePow, Nat.reduceLeDiff, Nat.reduceLT, Nat.zero_le, Nat.le_refl, Nat.zero_lt_one]; done))
  | ((with_reducible show @LE.le Nat _ _ _); first | (with_reducible assumption) | (with_reducible exact Nat.zero_le _) | ((with_reducible refine' leL ?omA ?omB); (case omA => with_reducible assumption); (case omB => exact rfl)) | (simp only [Nat.reduceAdd, Nat.reduceMul, Nat.reduceSub, Nat.reducePow, Nat.reduceLeDiff, Nat.reduceLT, Nat.zero_le, Nat.le_refl, Nat.zero_lt_one]; done))
  | ((with_reducible show @Ne Nat _ _); (with_reducible first
  | assumption
  | exact Ne.symm (by with_reducible assumption)
  | exact Nat.ne_of_gt (by with_reducible assumption)
  | exact Nat.ne_of_gt (And.left (by with_reducible assumption))
  | exact Nat.ne_of_gt (And.left (And.right (by with_reducible assumption)))
  | exact Nat.ne_of_gt (And.left (And.right (And.right (by with_reducible assumption))))
  | exact Nat.ne_of_gt (And.right (by with_reducible assumption))
  | exact Nat.ne_of_gt (And.right (And.right (by with_reducible assumption)))
  | exact gs1 (by with_reducible assumption)
  | exact gs1 (And.left (by with_reducible assumption))
  | exact gs1 (And.left (And.right (by with_reducible assumption)))
  | exact gs1 (And.left (And.right (And.right (by with_reducible assumption))))
  | exact gs1 (And.right (by with_reducible assumption))
  | exact gs1 (And.right (And.right (by with_reducible assumption)))
  | exact gs2 (by with_reducible assumption)
  | exact gs2 (And.left (by with_reducible assumption))
  | exact gs2 (And.left (And.right (by with_reducible assumption)))
  | exact gs2 (And.left (And.right (And.right (by with_reducible assumption))))
  | exact gs2 (And.right (by with_reducible assumption))
  | exact gs2 (And.right (And.right (by with_reducible assumption)))
  | exact Nat.ne_of_lt (by with_reducible assumption)
  | exact Nat.ne_of_lt (And.left (by with_reducible assumption))
  | exact Nat.ne_of_lt (And.left (And.right (by with_reducible assumption)))
  | exact Nat.ne_of_lt (And.left (And.right (And.right (by with_reducible assumption))))
  | exact Nat.ne_of_lt (And.right (by with_reducible assumption))
  | exact Nat.ne_of_lt (And.right (And.right (by with_reducible assumption)))
  | exact ls1 (by with_reducible assumption)
  | exact ls1 (And.left (by with_reducible assumption))
  | exact ls1 (And.left (And.right (by with_reducible assumption)))
  | exact ls1 (And.left (And.right (And.right (by with_reducible assumption))))
  | exact ls1 (And.right (by with_reducible assumption))
  | exact ls1 (And.right (And.right (by with_reducible assumption)))
  | exact ls2 (by with_reducible assumption)
  | exact ls2 (And.left (by with_reducible assumption))
  | exact ls2 (And.left (And.right (by with_reducible assumption)))
  | exact ls2 (And.left (And.right (And.right (by with_reducible assumption))))
  | exact ls2 (And.right (by with_reducible assumption))
  | exact ls2 (And.right (And.right (by with_reducible assumption)))
  | exact Ne.symm (And.left (by with_reducible assumption))
  | exact Ne.symm (And.left (And.right (by with_reducible assumption)))
  | exact Ne.symm (And.left (And.right (And.right (by with_reducible assumption))))
  | exact Ne.symm (And.right (And.right (And.right (by with_reducible assumption))))
  | exact Ne.symm (And.left (And.left (by with_reducible assumption)))
  | exact Ne.symm (And.left (And.right (And.left (by with_reducible assumption))))
  | exact Ne.symm (And.right (And.right (And.left (by with_reducible assumption))))
  | exact Ne.symm (And.left (And.left (And.right (by with_reducible assumption))))
  | exact Ne.symm (And.left (And.right (And.left (And.right (by with_reducible assumption)))))
  | exact Ne.symm (And.right (And.right (And.left (And.right (by with_reducible assumption)))))
  | exact Ne.symm (And.left (And.left (And.right (And.right (by with_reducible assumption)))))
  | exact Ne.symm (And.left (And.right (And.left (And.right (And.right (by with_reducible assumption))))))
  | exact Ne.symm (And.right (And.right (And.left (And.right (And.right (by with_reducible assumption))))))
  | exact Ne.symm (And.left (And.right (And.right (And.right (by with_reducible assumption)))))
  | exact Ne.symm (And.left (And.right (And.right (And.right (And.right (by with_reducible assumption))))))
  | exact Ne.symm (And.right (And.right (And.right (And.right (And.right (by with_reducible assumption))))))
  | exact (And.left (by with_reducible assumption))
  | exact (And.left (And.right (by with_reducible assumption)))
  | exact (And.left (And.right (And.right (by with_reducible assumption))))
  | exact (And.right (And.right (And.right (by with_reducible assumption))))
  | exact (And.left (And.left (by with_reducible assumption)))
  | exact (And.left (And.right (And.left (by with_reducible assumption))))
  | exact (And.right (And.right (And.left (by with_reducible assumption))))
  | exact (And.left (And.left (And.right (by with_reducible assumption))))
  | exact (And.left (And.right (And.left (And.right (by with_reducible assumption)))))
  | exact (And.right (And.right (And.left (And.right (by with_reducible assumption)))))
  | exact (And.left (And.left (And.right (And.right (by with_reducible assumption)))))
  | exact (And.left (And.right (And.left (And.right (And.right (by with_reducible assumption))))))
  | exact (And.right (And.right (And.left (And.right (And.right (by with_reducible assumption))))))
  | exact (And.left (And.right (And.right (And.right (by with_reducible assumption)))))
  | exact (And.left (And.right (And.right (And.right (And.right (by with_reducible assumption))))))
  | exact (And.right (And.right (And.right (And.right (And.right (by with_reducible assumption))))))
  | exact gt2 (by with_reducible assumption) (by with_reducible assumption)
  | fail "no ne"))))
  k_with "units_room" => ((simp only [units_under_make, units_in1, units_deeper, Around.mark_units, units_caller, cLine]; (try dsimp only [ktrTop]); omega))
  k_with "ktr_room" => (((simp only [depth_under_make, depth_under_kw, depth_in1, depth_deeper, depth_caller, recursionLimit]); (try dsimp only [ktrTop]); omega))
  k_with "k_room" => (((simp only [depth_under_make, depth_under_kw, depth_in1, depth_deeper, depth_caller, recursionLimit]); (try dsimp only [ktrTop]); omega))
  k_with "k_all" => (first | assumption | exact ne_of_allLt (by assumption) | exact ne_of_allLt (And.right (by assumption)) | exact ne_of_allLt (And.right (And.right (by assumption))) | exact ne_of_allLt (And.right (And.right (And.right (by assumption)))))
  k_with "m exec For" => (((with_reducible show wpAny _ _ (exec (Stmt.For (PySem.Expr.Name _ _) _ _ [] _) _) _ _ _); (rename Fr _ _ _ _ => lF'); (with_unfolding_all refine' For_invVF lF' ?k1 ?k2 ?_; (case k1 => exact rfl); (case k2 => exact rfl); k_whole)))
  k_with "m InvEndN" => ((refine InvEndN.intro (by assumption) (by assumption) ⟨rfl, ⟨_, by with_unfolding_all rfl⟩, fun z h1 h2 => by first | (simp only [if_neg h1, if_neg h2]; done) | (simp only [if_neg h1, if_neg h2]; rfl) | exact (if_neg h1).trans (if_neg h2)⟩ rfl ?zz1 ?zz2; (case zz1 => exact fun p hp => List.mem_append_left _ hp); (case zz2 => exact fun p hp => List.mem_append_right _ hp)))
  k_with "m ite" => (first | refine ite_pos (by (simp; done)) ?_ | refine ite_neg (by (simp; done)) ?_)
  k_with "kba_size" => (((try simp only [List.length_append, be_length, List.length_cons, List.length_nil, List.length_map, List.length_take, List.length_drop, Int.reduceToNat]); omega))
  k_with "m storeName" => ((k_dflt (refine' storeL ?F ?N ?_ ?a ?b; (case F => k_asm); (case N => k_asm); (case a => rfl); (case b => rfl); k_whole; intro h' m' F' N'; (try k_sweep))))
  k_with "m getAttr ref" => ((first
  | ((with_reducible show wpAny _ _ (getAttr (Value.ref _) (PySem.Str.ofString "data") _) _ _ _); k_dflt (refine' rd_data ?F ?X ?N ?x ?d ?r ?_; (case F => k_asm); (case X => k_asm); (case N => k_asm); (case x => k_mem); (case d => k_mem); (case r => assumption)); (intro t'))
  | ((with_reducible show wpAny _ _ (getAttr (Value.ref _) (PySem.Str.ofString "at") _) _ _ _); k_dflt (refine' rd_at ?F ?X ?N ?x ?d ?r ?_; (case F => k_asm); (case X => k_asm); (case N => k_asm); (case x => k_mem); (case d => k_mem); (case r => assumption)); (intro t'))))
  k_with "m setAttr ref" => (((with_reducible show wpAny _ _ (setAttr (Value.ref _) (PySem.Str.ofString "at") _) _ _ _); k_dflt (refine' set_rd_at ?F ?X ?N ?x ?U ?r ?_; (case F => k_asm); (case X => k_asm); (case N => k_asm); (case x => k_mem); (case U => k_updF); (case r => assumption)); (intro h' od2' F' N' hr'; (try dsimp only at N'); (try k_sweep))))
  k_with "m getMethod ref" => ((first
  | ((with_reducible show wpAny _ _ (getMethod (Value.ref _) (PySem.Str.ofString "whole") _) _ _ _); k_dflt (refine' rd_m_whole ?F ?X ?N ?x ?d ?r ?_; (case F => k_asm); (case X => k_asm); (case N => k_asm); (case x => k_mem); (case d => k_mem); (case r => assumption)))
  | ((with_reducible show wpAny _ _ (getMethod (Value.ref _) (PySem.Str.ofString "take") _) _ _ _); k_dflt (refine' rd_m_take ?F ?X ?N ?x ?d ?r ?_; (case F => k_asm); (case X => k_asm); (case N => k_asm); (case x => k_mem); (case d => k_mem); (case r => assumption)))
  | ((with_reducible show wpAny _ _ (getMethod (Value.ref _) (PySem.Str.ofString "left") _) _ _ _); k_dflt (refine' rd_m_left ?F ?X ?N ?x ?d ?r ?_; (case F => k_asm); (case X => k_asm); (case N => k_asm); (case x => k_mem); (case d => k_mem); (case r => assumption)))))
  k_with "m call ref" => (((with_reducible show wpAny _ _ (call (Value.ref 155) _) _ _ _); k_dflt (refine' (reader_new _ _ _ _) _ _ _ _ _ _ _ _ _ _ _ _ _ _ _ _ _ _ _ _ ?kB ?kF ?kX ?kN ?kT ?kK ?kD ?kW ?_; (case kB => k_asm); (case kF => k_asm); (case kX => k_asm); (case kN => k_asm); (case kT => k_asm); (case kK => first | exact rfl | assumption); (case kD => ((simp only [depth_under_make, depth_under_kw, depth_in1, depth_deeper, depth_caller]); (try dsimp only [ktrTop]); omega)); (case kW => ((simp only [units_under_make, units_in1, units_deeper, Around.mark_units, units_caller]); (try dsimp only [ktrTop]); omega))); (intro v' nw' h' tk' F' N' hv'); (obtain ⟨x', d', od2', e', hdx', hlt', hr', en'⟩ := hv'; subst e'; subst en'); (try k_sweep)))
  k_with "m call ref" => (((with_reducible show wpAny _ _ (call (Value.ref 131) _) _ _ _); k_dflt (refine' RCtr.use (rd_t6 ?p1 ?p2 ?p3 ?p4) ?kB ?kF ?kX ?kN ?kT ?kK ?hx ?kU ?hP ?hne ?kD ?kW ?_; (case kB => k_asm); (case kF => k_asm); (case kX => k_asm); (case kN => k_asm); (case kT => k_asm); (case kK => first | exact rfl | assumption); (case hx => k_mem); (case kU => k_updF); (case hP => assumption); (case hne => k_ne); (case kD => ((simp only [depth_under_make, depth_under_kw, depth_in1, depth_deeper, depth_caller]); (try dsimp only [ktrTop]); omega)); (case kW => ((simp only [units_under_make, units_in1, units_deeper, Around.mark_units, units_caller]); (try dsimp only [ktrTop]); omega)); (case p1 => assumption); (case p2 => assumption); (case p3 => omega); (case p4 => omega)); (intro v' od2' h' tk' hv' F' N'); (obtain ⟨⟨b', t', e', hb'⟩, hr'⟩ := hv'; subst e'); (try dsimp only at N'); (try k_sweep)))
  k_with "m call ref" => (((with_reducible show wpAny _ _ (call (Value.ref 131) _) _ _ _); k_dflt (refine' RCtr.use (rd_t5 ?p1 ?p2 ?p3 ?p4) ?kB ?kF ?kX ?kN ?kT ?kK ?hx ?kU ?hP ?hne ?kD ?kW ?_; (case kB => k_asm); (case kF => k_asm); (case kX => k_asm); (case kN => k_asm); (case kT => k_asm); (case kK => first | exact rfl | assumption); (case hx => k_mem); (case kU => k_updF); (case hP => assumption); (case hne => k_ne); (case kD => ((simp only [depth_under_make, depth_under_kw, depth_in1, depth_deeper, depth_caller]); (try dsimp only [ktrTop]); omega)); (case kW => ((simp only [units_under_make, units_in1, units_deeper, Around.mark_units, units_caller]); (try dsimp only [ktrTop]); omega)); (case p1 => assumption); (case p2 => assumption); (case p3 => omega); (case p4 => omega)); (intro v' od2' h' tk' hv' F' N'); (obtain ⟨⟨b', t', e', hb'⟩, hr'⟩ := hv'; subst e'); (try dsimp only at N'); (try k_sweep)))
  k_with "m call ref" => (((with_reducible show wpAny _ _ (call (Value.ref 145) _) _ _ _); k_dflt (refine' RCtr.use (rd_w4 ?p1 ?p2 ?p3 ?p4) ?kB ?kF ?kX ?kN ?kT ?kK ?hx ?kU ?hP ?hne ?kD ?kW ?_; (case kB => k_asm); (case kF => k_asm); (case kX => k_asm); (case kN => k_asm); (case kT => k_asm); (case kK => first | exact rfl | assumption); (case hx => k_mem); (case kU => k_updF); (case hP => assumption); (case hne => k_ne); (case kD => ((simp only [depth_under_make, depth_under_kw, depth_in1, depth_deeper, depth_caller]); (try dsimp only [ktrTop]); omega)); (case kW => ((simp only [units_under_make, units_in1, units_deeper, Around.mark_units, units_caller]); (try dsimp only [ktrTop]); omega)); (case p1 => assumption); (case p2 => assumption); (case p3 => omega); (case p4 => omega)); (intro v' od2' h' tk' hv' F' N'); (obtain ⟨⟨t', e'⟩, hr'⟩ := hv'; subst e'); (try dsimp only at N'); (try k_sweep)))
  k_with "m call ref" => (((with_reducible show wpAny _ _ (call (Value.ref 145) _) _ _ _); k_dflt (refine' RCtr.use (rd_w3 ?p1 ?p2 ?p3 ?p4) ?kB ?kF ?kX ?kN ?kT ?kK ?hx ?kU ?hP ?hne ?kD ?kW ?_; (case kB => k_asm); (case kF => k_asm); (case kX => k_asm); (case kN => k_asm); (case kT => k_asm); (case kK => first | exact rfl | assumption); (case hx => k_mem); (case kU => k_updF); (case hP => assumption); (case hne => k_ne); (case kD => ((simp only [depth_under_make, depth_under_kw, depth_in1, depth_deeper, depth_caller]); (try dsimp only [ktrTop]); omega)); (case kW => ((simp only [units_under_make, units_in1, units_deeper, Around.mark_units, units_caller]); (try dsimp only [ktrTop]); omega)); (case p1 => assumption); (case p2 => assumption); (case p3 => omega); (case p4 => omega)); (intro v' od2' h' tk' hv' F' N'); (obtain ⟨⟨t', e'⟩, hr'⟩ := hv'; subst e'); (try dsimp only at N'); (try k_sweep)))
  k_with "m call ref" => (((with_reducible show wpAny _ _ (call (Value.ref 145) _) _ _ _); k_dflt (refine' RCtr.use (rd_w2 ?p1 ?p2 ?p3 ?h0 ?h1 ?p4) ?kB ?kF ?kX ?kN ?kT ?kK ?hx ?kU ?hP ?hne ?kD ?kW ?_; (case kB => k_asm); (case kF => k_asm); (case kX => k_asm); (case kN => k_asm); (case kT => k_asm); (case kK => first | exact rfl | assumption); (case hx => k_mem); (case kU => k_updF); (case hP => assumption); (case hne => k_ne); (case kD => ((simp only [depth_under_make, depth_under_kw, depth_in1, depth_deeper, depth_caller]); (try dsimp only [ktrTop]); omega)); (case kW => ((simp only [units_under_make, units_in1, units_deeper, Around.mark_units, units_caller]); (try dsimp only [ktrTop]); omega)); (case p1 => assumption); (case p2 => assumption); (case p3 => omega); (case h0 => assumption); (case h1 => assumption); (case p4 => omega)); (intro v' od2' h' tk' hv' F' N'); (obtain ⟨⟨t', e'⟩, hr'⟩ := hv'; subst e'); (try dsimp only at N'); (try k_sweep)))
  k_with "m call ref" => (((with_reducible show wpAny _ _ (call (Value.ref 145) _) _ _ _); k_dflt (refine' RCtr.use (rd_w1 ?p1 ?p2 ?p3 ?p4) ?kB ?kF ?kX ?kN ?kT ?kK ?hx ?kU ?hP ?hne ?kD ?kW ?_; (case kB => k_asm); (case kF => k_asm); (case kX => k_asm); (case kN => k_asm); (case kT => k_asm); (case kK => first | exact rfl | assumption); (case hx => k_mem); (case kU => k_updF); (case hP => assumption); (case hne => k_ne); (case kD => ((simp only [depth_under_make, depth_under_kw, depth_in1, depth_deeper, depth_caller]); (try dsimp only [ktrTop]); omega)); (case kW => ((simp only [units_under_make, units_in1, units_deeper, Around.mark_units, units_caller]); (try dsimp only [ktrTop]); omega)); (case p1 => assumption); (case p2 => assumption); (case p3 => omega); (case p4 => omega)); (intro v' od2' h' tk' hv' F' N'); (obtain ⟨⟨t', e'⟩, hr'⟩ := hv'; subst e'); (try dsimp only at N'); (try k_sweep)))
  trivial
theorem read_invariants_ctr (w : World) (bz : Array UInt8) (kz kd ks rest : List Int) (tz t0 : Tok) (first version : Int) (news : List (Addr × Obj)) (hz1 : KBw.bInts bz = kz) (e : kz = [first] ++ be version 4 ++ idsOf kd ks ++ rest) (hl : kz.length = 7 + kd.length + ks.length + rest.length)
    (h0 : 0 ≤ version) (h1 : version < 4294967296) (l1 : kd.length ≤ 100) (l2 : ks.length ≤ 100) (l3 : rest.length ≤ 500) :
    Ctr w 214 40 4000 [.bytes bz tz, .int 0 t0] news (fun v news' => ∃ P bd bs n t1 t2 t3 t4 t5, v = .ref P ∧ KBw.bInts bd = kd ∧ KBw.bInts bs = ks ∧ n = 7 + (kd.length : Int) + ks.length ∧ news' = (P, ({ cls := .type "tuple", data := .seq #[.int first t1, .int version t2, .bytes bd t3, .bytes bs t4, .int n t5] } : Obj)) :: news) := use _ (by exact True.intro : Wit (by
  unfold Ctr
  k_fill
  intro mean mg mb dp un gd cn cs a ccd cl outer A₀ base h₀ L m s Q E B F X N T hk hd hu hret
  refine wpAny_call ?_
  k_dflt cell_enter
  k_steps
  refine' hret _ _ _ _ (by k_asm) (cb_drop (by k_asm) fun p hp => ?m1) ⟨_, _, _, _, _, _, _, _, _, rfl, ?m2, ?m3, ?m4, rfl⟩
  case m1 =>
    rcases List.mem_cons.mp hp with rfl | hp
    · exact .head _
    · exact .tail _ (.tail _ (.tail _ (.tail _ hp)))
  case m2 => assumption
  case m3 => assumption
  case m4 => omega
  ))

end
end Mine
end

section
open PySem PySem.W PyProof.Rows PySem.Calls PySem.Spec
set_option maxRecDepth 100000
set_option maxHeartbeats 0
namespace Mine
theorem regT10x1 : True := by
  k_with_none
  k_with "k_steps" => ((repeat' (first | (k_unfold; (try dsimp only)) | (k_end; wrow_close) | ((fail_if_success (with_reducible show wpAny _ _ (subscriptTail _ _ _ _) _ _ _)); dsimp only; walk1) | walk1 | (dsimp only; walk1) | (leave1; walk_say "STEP leave1"; try dsimp only) | fail "no step")))
  k_with "omega" => ((first
  | ((with_reducible show @LT.lt Nat _ _ _); first | (with_reducible assumption) | ((with_reducible refine' rm2 ?omA ?omB); (case omA => with_reducible assumption); (case omB => exact rfl)) | ((with_reducible refine' rm1 ?omA ?omB); (case omA => with_reducible assumption); (case omB => exact rfl)) | ((with_reducible refine' rm0 ?omA); (case omA => with_reducible assumption)) | ((with_reducible refine' ltL ?omA ?omB); (case omA => with_reducible assumption); (case omB => exact rfl)) | ((with_reducible refine' rm3 ?omA ?omB); (case omA => with_reducible assumption); (case omB => exact rfl)) | (simp only [Nat.reduceAdd, Nat.reduceMul, Nat.reduceSub, Nat.reducePow, Nat.reduceLeDiff, Nat.reduceLT, Nat.zero_le, Nat.le_refl, Nat.zero_lt_one]; done))
  | ((with_reducible show @LE.le Nat _ _ _); first | (with_reducible assumption) | (with_reducible exact Nat.zero_le _) | ((with_reducible refine' leL ?omA ?omB); (case omA => with_reducible assumption); (case omB => exact rfl)) | (simp only [Nat.reduceAdd, Nat.reduceMul, Nat.reduceSub, Nat.reducePow, Nat.reduceLeDiff, Nat.reduceLT, Nat.zero_le, Nat.le_refl, Nat.zero_lt_one]; done))
  | ((with_reducible show @Ne Nat _ _); (with_reducible first
  | assumption
  | exact Ne.symm (by with_reducible assumption)
  | exact Nat.ne_of_gt (by with_reducible assumption)
  | exact Nat.ne_of_gt (And.left (by with_reducible assumption))
  | exact Nat.ne_of_gt (And.left (And.right (by with_reducible assumption)))
  | exact Nat.ne_of_gt (And.left (And.right (And.right (by with_reducible assumption))))
  | exact Nat.ne_of_gt (And.right (by with_reducible assumption))
  | exact Nat.ne_of_gt (And.right (And.right (by with_reducible assumption)))
  | exact gs1 (by with_reducible assumption)
  | exact gs1 (And.left (by with_reducible assumption))
  | exact gs1 (And.left (And.right (by with_reducible assumption)))
  | exact gs1 (And.left (And.right (And.right (by with_reducible assumption))))
  | exact gs1 (And.right (by with_reducible assumption))
  | exact gs1 (And.right (And.right (by with_reducible assumption)))
  | exact gs2 (by with_reducible assumption)
  | exact gs2 (And.left (by with_reducible assumption))
  | exact gs2 (And.left (And.right (by with_reducible assumption)))
  | exact gs2 (And.left (And.right (And.right (by with_reducible assumption))))
  | exact gs2 (And.right (by with_reducible assumption))
  | exact gs2 (And.right (And.right (by with_reducible assumption)))
  | exact Nat.ne_of_lt (by with_reducible assumption)
  | exact Nat.ne_of_lt (And.left (by with_reducible assumption))
  | exact Nat.ne_of_lt (And.left (And.right (by with_reducible assumption)))
  | exact Nat.ne_of_lt (And.left (And.right (And.right (by with_reducible assumption))))
  | exact Nat.ne_of_lt (And.right (by with_reducible assumption))
  | exact Nat.ne_of_lt (And.right (And.right (by with_reducible assumption)))
  | exact ls1 (by with_reducible assumption)
  | exact ls1 (And.left (by with_reducible assumption))
  | exact ls1 (And.left (And.right (by with_reducible assumption)))
  | exact ls1 (And.left (And.right (And.right (by with_reducible assumption))))
  | exact ls1 (And.right (by with_reducible assumption))
  | exact ls1 (And.right (And.right (by with_reducible assumption)))
  | exact ls2 (by with_reducible assumption)
  | exact ls2 (And.left (by with_reducible assumption))
  | exact ls2 (And.left (And.right (by with_reducible assumption)))
  | exact ls2 (And.left (And.right (And.right (by with_reducible assumption))))
  | exact ls2 (And.right (by with_reducible assumption))
  | exact ls2 (And.right (And.right (by with_reducible assumption)))
  | exact Ne.symm (And.left (by with_reducible assumption))
  | exact Ne.symm (And.left (And.right (by with_reducible assumption)))
  | exact Ne.symm (And.left (And.right (And.right (by with_reducible assumption))))
  | exact Ne.symm (And.right (And.right (And.right (by with_reducible assumption))))
  | exact Ne.symm (And.left (And.left (by with_reducible assumption)))
  | exact Ne.symm (And.left (And.right (And.left (by with_reducible assumption))))
  | exact Ne.symm (And.right (And.right (And.left (by with_reducible assumption))))
  | exact Ne.symm (And.left (And.left (And.right (by with_reducible assumption))))
  | exact Ne.symm (And.left (And.right (And.left (And.right (by with_reducible assumption)))))
  | exact Ne.symm (And.right (And.right (And.left (And.right (by with_reducible assumption)))))
  | exact Ne.symm (And.left (And.left (And.right (And.right (by with_reducible assumption)))))
  | exact Ne.symm (And.left (And.right (And.left (And.right (And.right (by with_reducible assumption))))))
  | exact Ne.symm (And.right (And.right (And.left (And.right (And.right (by with_reducible assumption))))))
  | exact Ne.symm (And.left (And.right (And.right (And.right (by with_reducible assumption)))))
  | exact Ne.symm (And.left (And.right (And.right (And.right (And.right (by with_reducible assumption))))))
  | exact Ne.symm (And.right (And.right (And.right (And.right (And.right (by with_reducible assumption))))))
  | exact (And.left (by with_reducible assumption))
  | exact (And.left (And.right (by with_reducible assumption)))
  | exact (And.left (And.right (And.right (by with_reducible assumption))))
  | exact (And.right (And.right (And.right (by with_reducible assumption))))
  | exact (And.left (And.left (by with_reducible assumption)))
  | exact (And.left (And.right (And.left (by with_reducible assumption))))
  | exact (And.right (And.right (And.left (by with_reducible assumption))))
  | exact (And.left (And.left (And.right (by with_reducible assumption))))
  | exact (And.left (And.right (And.left (And.right (by with_reducible assumption)))))
  | exact (And.right (And.right (And.left (And.right (by with_reducible assumption)))))
  | exact (And.left (And.left (And.right (And.right (by with_reducible assumption)))))
  | exact (And.left (And.right (And.left (And.right (And.right (by with_reducible assumption))))))
  | exact (And.right (And.right (And.left (And.right (And.right (by with_reducible assumption))))))
  | exact (And.left (And.right (And.right (And.right (by with_reducible assumption)))))
  | exact (And.left (And.right (And.right (And.right (And.right (by with_reducible assumption))))))
  | exact (And.right (And.right (And.right (And.right (And.right (by with_reducible assumption))))))
  | exact gt2 (by with_reducible assumption) (by with_reducible assumption)
  | fail "no ne"))))
  k_with "units_room" => ((simp only [units_under_make, units_in1, units_deeper, Around.mark_units, units_caller, cLine]; (try dsimp only [ktrTop]); omega))
  k_with "ktr_room" => (((simp only [depth_under_make, depth_under_kw, depth_in1, depth_deeper, depth_caller, recursionLimit]); (try dsimp only [ktrTop]); omega))
  k_with "k_room" => (((simp only [depth_under_make, depth_under_kw, depth_in1, depth_deeper, depth_caller, recursionLimit]); (try dsimp only [ktrTop]); omega))
  k_with "k_all" => (first | assumption | exact ne_of_allLt (by assumption) | exact ne_of_allLt (And.right (by assumption)) | exact ne_of_allLt (And.right (And.right (by assumption))) | exact ne_of_allLt (And.right (And.right (And.right (by assumption)))))
  k_with "m exec For" => (((with_reducible show wpAny _ _ (exec (Stmt.For (PySem.Expr.Name _ _) _ _ [] _) _) _ _ _); (rename Fr _ _ _ _ => lF'); (with_unfolding_all refine' For_invVF lF' ?k1 ?k2 ?_; (case k1 => exact rfl); (case k2 => exact rfl); k_whole)))
  k_with "m InvEndN" => ((refine InvEndN.intro (by assumption) (by assumption) ⟨rfl, ⟨_, by with_unfolding_all rfl⟩, fun z h1 h2 => by first | (simp only [if_neg h1, if_neg h2]; done) | (simp only [if_neg h1, if_neg h2]; rfl) | exact (if_neg h1).trans (if_neg h2)⟩ rfl ?zz1 ?zz2; (case zz1 => exact fun p hp => List.mem_append_left _ hp); (case zz2 => exact fun p hp => List.mem_append_right _ hp)))
  k_with "m ite" => (first | refine ite_pos (by (simp; done)) ?_ | refine ite_neg (by (simp; done)) ?_)
  k_with "kba_size" => (((try simp only [List.length_append, be_length, List.length_cons, List.length_nil, List.length_map, List.length_take, List.length_drop, Int.reduceToNat]); omega))
  k_with "kba_size" => (((try simp only [List.length_append, be_length, tag_length, idsOf_length, bodyOf_length, tokOf_length, retryRaw_length, retryTag_length, retryPkt_length, negPkt_length, flat4_length, List.length_cons, List.length_nil, List.length_map, List.length_take, List.length_drop, List.length_set, Int.reduceToNat]); first | done | omega))
  k_with "m call ref" => (((with_reducible show wpAny _ _ (call (Value.ref 331) _) _ _ _); k_dflt (refine' DCtr.use (take_ctr _ _ _ ?p1 ?p2) ?kB ?kF ?kX ?kN ?kT ?kK ?kO ?kE ?kU ?kV ?kD ?kW ?_; (case kB => k_asm); (case kF => k_asm); (case kX => k_asm); (case kN => k_asm); (case kT => k_asm); (case kK => first | exact rfl | assumption); (case kU => k_updF); (case kO => assumption); (case kV => (intro _; k_updF)); (case kE => first | assumption | k_ne); (case kD => ((simp only [depth_under_make, depth_under_kw, depth_in1, depth_deeper, depth_caller]); (try dsimp only [ktrTop]); omega)); (case kW => ((simp only [units_under_make, units_in1, units_deeper, Around.mark_units, units_caller]); (try dsimp only [ktrTop]); omega)); (case p1 => first | omega | kba_size | decide +kernel); (case p2 => first | omega | kba_size | decide +kernel)); (intro v' od' oR' h' tk' hv' ok' F' N'); (obtain ⟨k', t', e', lo', hi'⟩ := hv'; subst e'; (try simp only [Int.reducePow, Int.reduceToNat, Nat.reducePow] at hi')); (try dsimp only at N'); (try k_sweep)))
  k_with "m CompSrc" => ((
  (rename DrawsOk _ _ _ => ok8);
  k_dflt (refine LCg.CompSrc.range (by rfl) (by k_asm) (by k_asm) (by assumption) (small_one (by omega) (by omega) (by omega) (by omega)) (rangeSize_nat _ _) (by rw [PySem.sizeLine_eq]; omega) ?_);
  intro g';
  refine' comp_draws (fun od oR => (_, _) :: (_, od) :: (_, oR) :: _) (fun y => ∃ k t, y = Value.int k t ∧ 0 ≤ k ∧ k < 256) ok8 ?_ ?_;
  (intro od' oR' ys' v' I' oI' C' oC' D' m' h' tk' i' E' ok' hi' hv' hC' hx' F' N' off' ne'; (try dsimp only at N'); (have off2 := off'); (try simp only [LCg.Off3, and_true] at off2));
  rotate_left; (intro ys' od' oR' hl' hy' ok'; (try dsimp only); (obtain ⟨ks', hks', hkl', hkin'⟩ := octs_of hy'))))
  k_with "m CompEnd" => ((refine LCg.CompEnd.intro (by k_asm) (by k_asm) ((_, _) :: (_, _) :: (_, _) :: _) (fun p hp => hp) (by assumption) True.intro ⟨⟨_, _, rfl, by omega, by omega⟩, _, _, rfl, by assumption⟩))
  trivial
theorem octets_ctr (w : World) (most : Int) (t1 : Tok) (h0 : 0 ≤ most) (h1 : most ≤ 10) :
    DCtr w 336 20 2000 (fun d => [.ref d, .int most t1]) (fun v => ∃ b t, v = .bytes b t ∧ (KBw.bInts b).length ≤ most.toNat) := use _ (by exact True.intro : Wit (by
  intro d r od oR rest hne hr1 hr2 ok
  unfold Ctr
  k_fill
  intro mean mg mb dp un gd cn cs a ccd cl outer A₀ base h₀ L m s Q E B F X N T hk hd hu hret
  refine wpAny_call ?_
  k_dflt (refine' code_defC ?k1 ?k2 ?k3 ?k4 ?k5 ?kA ?kF ?kK ?k6 ?k7 ?k8 ?k9 ?kB ?kD ?_ ?c2 ?c3 ?c4; (case kA => exact rfl); (case kF => exact rfl); (case kK => assumption); (case k1 => k_asm); (case k2 => k_asm); (case k3 => k_asm); (case k4 => k_asm); (case k5 => k_asm); (case k6 => k_is); (case k7 => k_is); (case k8 => ktr_room); (case k9 => exact BindsTo.of_eq rfl); (case kB => exact rfl); (case kD => decide +kernel); (case c2 => exact rfl); (case c3 => exact rfl); (case c4 => exact rfl); k_whole; intro g' L' h' tk' cells' FG' F' N' Y' B' X' T' l1; (try (revert F'; refine letm ?_; intro m' F')); (try k_lt l1); k_cells Y'; (try simp only [List.cons_append, List.nil_append] at N'); (try dsimp only); (try k_lift B'))
  replace hne := neN hne
  k_steps
  exact hret _ ((d, _) :: (r, _) :: rest) _ _ (by k_asm) (cb_drop (by k_asm) fun p hp => .tail _ (.tail _ hp)) ⟨⟨_, _, rfl, by rw [KBa.ints_make (by assumption)]; omega⟩, _, _, rfl, by assumption⟩
  ))

end Mine
end

section
open PySem PySem.W PyProof.Rows PySem.Calls PySem.Spec
set_option maxRecDepth 100000
set_option maxHeartbeats 0
namespace Mine
theorem regT11x1 : True := by
  k_with_none
  k_with "k_steps" => ((repeat' (first | (k_unfold; (try dsimp only)) | (k_end; wrow_close) | ((fail_if_success (with_reducible show wpAny _ _ (subscriptTail _ _ _ _) _ _ _)); dsimp only; walk1) | walk1 | (dsimp only; walk1) | (leave1; walk_say "STEP leave1"; try dsimp only) | fail "no step")))
  k_with "omega" => ((first
  | ((with_reducible show @LT.lt Nat _ _ _); first | (with_reducible assumption) | ((with_reducible refine' rm2 ?omA ?omB); (case omA => with_reducible assumption); (case omB => exact rfl)) | ((with_reducible refine' rm1 ?omA ?omB); (case omA => with_reducible assumption); (case omB => exact rfl)) | ((with_reducible refine' rm0 ?omA); (case omA => with_reducible assumption)) | ((with_reducible refine' ltL ?omA ?omB); (case omA => with_reducible assumption); (case omB => exact rfl)) | ((with_reducible refine' rm3 ?omA ?omB); (case omA => with_reducible assumption); (case omB => exact rfl)) | (simp only [Nat.reduceAdd, Nat.reduceMul, Nat.reduceSub, Nat.reducePow, Nat.reduceLeDiff, Nat.reduceLT, Nat.zero_le, Nat.le_refl, Nat.zero_lt_one]; done))
  | ((with_reducible show @LE.le Nat _ _ _); first | (with_reducible assumption) | (with_reducible exact Nat.zero_le _) | ((with_reducible refine' leL ?omA ?omB); (case omA => with_reducible assumption); (case omB => exact rfl)) | (simp only [Nat.reduceAdd, Nat.reduceMul, Nat.reduceSub, Nat.reducePow, Nat.reduceLeDiff, Nat.reduceLT, Nat.zero_le, Nat.le_refl, Nat.zero_lt_one]; done))
  | ((with_reducible show @Ne Nat _ _); (with_reducible first
  | assumption
  | exact Ne.symm (by with_reducible assumption)
  | exact Nat.ne_of_gt (by with_reducible assumption)
  | exact Nat.ne_of_gt (And.left (by with_reducible assumption))
  | exact Nat.ne_of_gt (And.left (And.right (by with_reducible assumption)))
  | exact Nat.ne_of_gt (And.left (And.right (And.right (by with_reducible assumption))))
  | exact Nat.ne_of_gt (And.right (by with_reducible assumption))
  | exact Nat.ne_of_gt (And.right (And.right (by with_reducible assumption)))
  | exact gs1 (by with_reducible assumption)
  | exact gs1 (And.left (by with_reducible assumption))
  | exact gs1 (And.left (And.right (by with_reducible assumption)))
  | exact gs1 (And.left (And.right (And.right (by with_reducible assumption))))
  | exact gs1 (And.right (by with_reducible assumption))
  | exact gs1 (And.right (And.right (by with_reducible assumption)))
  | exact gs2 (by with_reducible assumption)
  | exact gs2 (And.left (by with_reducible assumption))
  | exact gs2 (And.left (And.right (by with_reducible assumption)))
  | exact gs2 (And.left (And.right (And.right (by with_reducible assumption))))
  | exact gs2 (And.right (by with_reducible assumption))
  | exact gs2 (And.right (And.right (by with_reducible assumption)))
  | exact Nat.ne_of_lt (by with_reducible assumption)
  | exact Nat.ne_of_lt (And.left (by with_reducible assumption))
  | exact Nat.ne_of_lt (And.left (And.right (by with_reducible assumption)))
  | exact Nat.ne_of_lt (And.left (And.right (And.right (by with_reducible assumption))))
  | exact Nat.ne_of_lt (And.right (by with_reducible assumption))
  | exact Nat.ne_of_lt (And.right (And.right (by with_reducible assumption)))
  | exact ls1 (by with_reducible assumption)
  | exact ls1 (And.left (by with_reducible assumption))
  | exact ls1 (And.left (And.right (by with_reducible assumption)))
  | exact ls1 (And.left (And.right (And.right (by with_reducible assumption))))
  | exact ls1 (And.right (by with_reducible assumption))
  | exact ls1 (And.right (And.right (by with_reducible assumption)))
  | exact ls2 (by with_reducible assumption)
  | exact ls2 (And.left (by with_reducible assumption))
  | exact ls2 (And.left (And.right (by with_reducible assumption)))
  | exact ls2 (And.left (And.right (And.right (by with_reducible assumption))))
  | exact ls2 (And.right (by with_reducible assumption))
  | exact ls2 (And.right (And.right (by with_reducible assumption)))
  | exact Ne.symm (And.left (by with_reducible assumption))
  | exact Ne.symm (And.left (And.right (by with_reducible assumption)))
  | exact Ne.symm (And.left (And.right (And.right (by with_reducible assumption))))
  | exact Ne.symm (And.right (And.right (And.right (by with_reducible assumption))))
  | exact Ne.symm (And.left (And.left (by with_reducible assumption)))
  | exact Ne.symm (And.left (And.right (And.left (by with_reducible assumption))))
  | exact Ne.symm (And.right (And.right (And.left (by with_reducible assumption))))
  | exact Ne.symm (And.left (And.left (And.right (by with_reducible assumption))))
  | exact Ne.symm (And.left (And.right (And.left (And.right (by with_reducible assumption)))))
  | exact Ne.symm (And.right (And.right (And.left (And.right (by with_reducible assumption)))))
  | exact Ne.symm (And.left (And.left (And.right (And.right (by with_reducible assumption)))))
  | exact Ne.symm (And.left (And.right (And.left (And.right (And.right (by with_reducible assumption))))))
  | exact Ne.symm (And.right (And.right (And.left (And.right (And.right (by with_reducible assumption))))))
  | exact Ne.symm (And.left (And.right (And.right (And.right (by with_reducible assumption)))))
  | exact Ne.symm (And.left (And.right (And.right (And.right (And.right (by with_reducible assumption))))))
  | exact Ne.symm (And.right (And.right (And.right (And.right (And.right (by with_reducible assumption))))))
  | exact (And.left (by with_reducible assumption))
  | exact (And.left (And.right (by with_reducible assumption)))
  | exact (And.left (And.right (And.right (by with_reducible assumption))))
  | exact (And.right (And.right (And.right (by with_reducible assumption))))
  | exact (And.left (And.left (by with_reducible assumption)))
  | exact (And.left (And.right (And.left (by with_reducible assumption))))
  | exact (And.right (And.right (And.left (by with_reducible assumption))))
  | exact (And.left (And.left (And.right (by with_reducible assumption))))
  | exact (And.left (And.right (And.left (And.right (by with_reducible assumption)))))
  | exact (And.right (And.right (And.left (And.right (by with_reducible assumption)))))
  | exact (And.left (And.left (And.right (And.right (by with_reducible assumption)))))
  | exact (And.left (And.right (And.left (And.right (And.right (by with_reducible assumption))))))
  | exact (And.right (And.right (And.left (And.right (And.right (by with_reducible assumption))))))
  | exact (And.left (And.right (And.right (And.right (by with_reducible assumption)))))
  | exact (And.left (And.right (And.right (And.right (And.right (by with_reducible assumption))))))
  | exact (And.right (And.right (And.right (And.right (And.right (by with_reducible assumption))))))
  | exact gt2 (by with_reducible assumption) (by with_reducible assumption)
  | fail "no ne"))))
  k_with "units_room" => ((simp only [units_under_make, units_in1, units_deeper, Around.mark_units, units_caller, cLine]; (try dsimp only [ktrTop]); omega))
  k_with "ktr_room" => (((simp only [depth_under_make, depth_under_kw, depth_in1, depth_deeper, depth_caller, recursionLimit]); (try dsimp only [ktrTop]); omega))
  k_with "k_room" => (((simp only [depth_under_make, depth_under_kw, depth_in1, depth_deeper, depth_caller, recursionLimit]); (try dsimp only [ktrTop]); omega))
  k_with "k_all" => (first | assumption | exact ne_of_allLt (by assumption) | exact ne_of_allLt (And.right (by assumption)) | exact ne_of_allLt (And.right (And.right (by assumption))) | exact ne_of_allLt (And.right (And.right (And.right (by assumption)))))
  k_with "m exec For" => (((with_reducible show wpAny _ _ (exec (Stmt.For (PySem.Expr.Name _ _) _ _ [] _) _) _ _ _); (rename Fr _ _ _ _ => lF'); (with_unfolding_all refine' For_invVF lF' ?k1 ?k2 ?_; (case k1 => exact rfl); (case k2 => exact rfl); k_whole)))
  k_with "m InvEndN" => ((refine InvEndN.intro (by assumption) (by assumption) ⟨rfl, ⟨_, by with_unfolding_all rfl⟩, fun z h1 h2 => by first | (simp only [if_neg h1, if_neg h2]; done) | (simp only [if_neg h1, if_neg h2]; rfl) | exact (if_neg h1).trans (if_neg h2)⟩ rfl ?zz1 ?zz2; (case zz1 => exact fun p hp => List.mem_append_left _ hp); (case zz2 => exact fun p hp => List.mem_append_right _ hp)))
  k_with "m ite" => (first | refine ite_pos (by (simp; done)) ?_ | refine ite_neg (by (simp; done)) ?_)
  k_with "kba_size" => (((try simp only [List.length_append, be_length, List.length_cons, List.length_nil, List.length_map, List.length_take, List.length_drop, Int.reduceToNat]); omega))
  k_with "kba_size" => (((try simp only [List.length_append, be_length, tag_length, idsOf_length, bodyOf_length, tokOf_length, retryRaw_length, retryTag_length, retryPkt_length, negPkt_length, flat4_length, List.length_cons, List.length_nil, List.length_map, List.length_take, List.length_drop, List.length_set, Int.reduceToNat]); first | done | omega))
  k_with "m storeName" => ((k_dflt (refine' storeL ?F ?N ?_ ?a ?b; (case F => k_asm); (case N => k_asm); (case a => rfl); (case b => rfl); k_whole; intro h' m' F' N'; (try k_sweep))))
  k_with "m call ref" => (((with_reducible show wpAny _ _ (call (Value.ref 331) _) _ _ _); k_dflt (refine' DCtr.use (take_ctr _ _ _ ?p1 ?p2) ?kB ?kF ?kX ?kN ?kT ?kK ?kO ?kE ?kU ?kV ?kD ?kW ?_; (case kB => k_asm); (case kF => k_asm); (case kX => k_asm); (case kN => k_asm); (case kT => k_asm); (case kK => first | exact rfl | assumption); (case kU => k_updF); (case kO => assumption); (case kV => (intro _; k_updF)); (case kE => first | assumption | k_ne); (case kD => ((simp only [depth_under_make, depth_under_kw, depth_in1, depth_deeper, depth_caller]); (try dsimp only [ktrTop]); omega)); (case kW => ((simp only [units_under_make, units_in1, units_deeper, Around.mark_units, units_caller]); (try dsimp only [ktrTop]); omega)); (case p1 => first | omega | kba_size | decide +kernel); (case p2 => first | omega | kba_size | decide +kernel)); (intro v' od' oR' h' tk' hv' ok' F' N'); (obtain ⟨k', t', e', lo', hi'⟩ := hv'; subst e'; (try simp only [Int.reducePow, Int.reduceToNat, Nat.reducePow] at hi')); (try dsimp only at N'); (try k_sweep)))
  trivial
theorem turned_ctr (w : World) (bd : Array UInt8) (kd : List Int) (td : Tok) (hd1 : KBw.bInts bd = kd) (l0 : 0 < kd.length) (l1 : kd.length ≤ 500) :
    DCtr w 343 20 2000 (fun d => [.ref d, .bytes bd td]) (fun v => ∃ b t i y, v = .bytes b t ∧ i < kd.length ∧ 0 ≤ y ∧ y < 256 ∧ kd[i]? ≠ some y ∧ KBw.bInts b = kd.set i y) := use _ (by exact True.intro : Wit (by
  intro d r od oR rest hne hr1 hr2 ok
  unfold Ctr
  k_fill
  intro mean mg mb dp un gd cn cs a ccd cl outer A₀ base h₀ L m s Q E B F X N T hk hd hu hret
  refine wpAny_call ?_
  k_dflt cell_enter
  replace hne := neN hne
  k_steps
  rename KBw.bInts _ = List.take _ _ ++ List.map _ _ ++ List.take _ _ => hB
  obtain ⟨b', t', i, y, rfl, rfl, p1, p2, p3, p4, p5⟩ := turned_is (hb := hB) (by assumption) (by assumption) (by assumption) (by assumption)
  exact hret _ ((d, _) :: (r, _) :: rest) _ _ (by k_asm) (cb_drop (by k_asm) fun p hp => .tail _ hp) ⟨⟨_, _, i, y, rfl, p1, p2, p3, p4, p5⟩, _, _, rfl, by assumption⟩
  ))

end Mine
end

section
open PySem PySem.W PyProof.Rows PySem.Calls PySem.Spec
set_option maxRecDepth 100000
set_option maxHeartbeats 0
namespace Mine
section
theorem regT12x1 : True := by
  k_with_none
  k_with "k_steps" => ((repeat' (first | (k_unfold; (try dsimp only)) | (k_end; wrow_close) | ((fail_if_success (with_reducible show wpAny _ _ (subscriptTail _ _ _ _) _ _ _)); dsimp only; walk1) | walk1 | (dsimp only; walk1) | (leave1; walk_say "STEP leave1"; try dsimp only) | fail "no step")))
  k_with "omega" => ((first
  | ((with_reducible show @LT.lt Nat _ _ _); first | (with_reducible assumption) | ((with_reducible refine' rm2 ?omA ?omB); (case omA => with_reducible assumption); (case omB => exact rfl)) | ((with_reducible refine' rm1 ?omA ?omB); (case omA => with_reducible assumption); (case omB => exact rfl)) | ((with_reducible refine' rm0 ?omA); (case omA => with_reducible assumption)) | ((with_reducible refine' ltL ?omA ?omB); (case omA => with_reducible assumption); (case omB => exact rfl)) | ((with_reducible refine' rm3 ?omA ?omB); (case omA => with_reducible assumption); (case omB => exact rfl)) | (simp only [Nat.reduceAdd, Nat.reduceMul, Nat.reduceSub, Nat.reducePow, Nat.reduceLeDiff, Nat.reduceLT, Nat.zero_le, Nat.le_refl, Nat.zero_lt_one]; done))
  | ((with_reducible show @LE.le Nat _ _ _); first | (with_reducible assumption) | (with_reducible exact Nat.zero_le _) | ((with_reducible refine' leL ?omA ?omB); (case omA => with_reducible assumption); (case omB => exact rfl)) | (simp only [Nat.reduceAdd, Nat.reduceMul, Nat.reduceSub, Nat.reducePow, Nat.reduceLeDiff, Nat.reduceLT, Nat.zero_le, Nat.le_refl, Nat.zero_lt_one]; done))
  | ((with_reducible show @Ne Nat _ _); (with_reducible first
  | assumption
  | exact Ne.symm (by with_reducible assumption)
  | exact Nat.ne_of_gt (by with_reducible assumption)
  | exact Nat.ne_of_gt (And.left (by with_reducible assumption))
  | exact Nat.ne_of_gt (And.left (And.right (by with_reducible assumption)))
  | exact Nat.ne_of_gt (And.left (And.right (And.right (by with_reducible assumption))))
  | exact Nat.ne_of_gt (And.right (by with_reducible assumption))
  | exact Nat.ne_of_gt (And.right (And.right (by with_reducible assumption)))
  | exact gs1 (by with_reducible assumption)
  | exact gs1 (And.left (by with_reducible assumption))
  | exact gs1 (And.left (And.right (by with_reducible assumption)))
  | exact gs1 (And.left (And.right (And.right (by with_reducible assumption))))
  | exact gs1 (And.right (by with_reducible assumption))
  | exact gs1 (And.right (And.right (by with_reducible assumption)))
  | exact gs2 (by with_reducible assumption)
  | exact gs2 (And.left (by with_reducible assumption))
  | exact gs2 (And.left (And.right (by with_reducible assumption)))
  | exact gs2 (And.left (And.right (And.right (by with_reducible assumption))))
  | exact gs2 (And.right (by with_reducible assumption))
  | exact gs2 (And.right (And.right (by with_reducible assumption)))
  | exact Nat.ne_of_lt (by with_reducible assumption)
  | exact Nat.ne_of_lt (And.left (by with_reducible assumption))
  | exact Nat.ne_of_lt (And.left (And.right (by with_reducible assumption)))
  | exact Nat.ne_of_lt (And.left (And.right (And.right (by with_reducible assumption))))
  | exact Nat.ne_of_lt (And.right (by with_reducible assumption))
  | exact Nat.ne_of_lt (And.right (And.right (by with_reducible assumption)))
  | exact ls1 (by with_reducible assumption)
  | exact ls1 (And.left (by with_reducible assumption))
  | exact ls1 (And.left (And.right (by with_reducible assumption)))
  | exact ls1 (And.left (And.right (And.right (by with_reducible assumption))))
  | exact ls1 (And.right (by with_reducible assumption))
  | exact ls1 (And.right (And.right (by with_reducible assumption)))
  | exact ls2 (by with_reducible assumption)
  | exact ls2 (And.left (by with_reducible assumption))
  | exact ls2 (And.left (And.right (by with_reducible assumption)))
  | exact ls2 (And.left (And.right (And.right (by with_reducible assumption))))
  | exact ls2 (And.right (by with_reducible assumption))
  | exact ls2 (And.right (And.right (by with_reducible assumption)))
  | exact Ne.symm (And.left (by with_reducible assumption))
  | exact Ne.symm (And.left (And.right (by with_reducible assumption)))
  | exact Ne.symm (And.left (And.right (And.right (by with_reducible assumption))))
  | exact Ne.symm (And.right (And.right (And.right (by with_reducible assumption))))
  | exact Ne.symm (And.left (And.left (by with_reducible assumption)))
  | exact Ne.symm (And.left (And.right (And.left (by with_reducible assumption))))
  | exact Ne.symm (And.right (And.right (And.left (by with_reducible assumption))))
  | exact Ne.symm (And.left (And.left (And.right (by with_reducible assumption))))
  | exact Ne.symm (And.left (And.right (And.left (And.right (by with_reducible assumption)))))
  | exact Ne.symm (And.right (And.right (And.left (And.right (by with_reducible assumption)))))
  | exact Ne.symm (And.left (And.left (And.right (And.right (by with_reducible assumption)))))
  | exact Ne.symm (And.left (And.right (And.left (And.right (And.right (by with_reducible assumption))))))
  | exact Ne.symm (And.right (And.right (And.left (And.right (And.right (by with_reducible assumption))))))
  | exact Ne.symm (And.left (And.right (And.right (And.right (by with_reducible assumption)))))
  | exact Ne.symm (And.left (And.right (And.right (And.right (And.right (by with_reducible assumption))))))
  | exact Ne.symm (And.right (And.right (And.right (And.right (And.right (by with_reducible assumption))))))
  | exact (And.left (by with_reducible assumption))
  | exact (And.left (And.right (by with_reducible assumption)))
  | exact (And.left (And.right (And.right (by with_reducible assumption))))
  | exact (And.right (And.right (And.right (by with_reducible assumption))))
  | exact (And.left (And.left (by with_reducible assumption)))
  | exact (And.left (And.right (And.left (by with_reducible assumption))))
  | exact (And.right (And.right (And.left (by with_reducible assumption))))
  | exact (And.left (And.left (And.right (by with_reducible assumption))))
  | exact (And.left (And.right (And.left (And.right (by with_reducible assumption)))))
  | exact (And.right (And.right (And.left (And.right (by with_reducible assumption)))))
  | exact (And.left (And.left (And.right (And.right (by with_reducible assumption)))))
  | exact (And.left (And.right (And.left (And.right (And.right (by with_reducible assumption))))))
  | exact (And.right (And.right (And.left (And.right (And.right (by with_reducible assumption))))))
  | exact (And.left (And.right (And.right (And.right (by with_reducible assumption)))))
  | exact (And.left (And.right (And.right (And.right (And.right (by with_reducible assumption))))))
  | exact (And.right (And.right (And.right (And.right (And.right (by with_reducible assumption))))))
  | exact gt2 (by with_reducible assumption) (by with_reducible assumption)
  | fail "no ne"))))
  k_with "units_room" => ((simp only [units_under_make, units_in1, units_deeper, Around.mark_units, units_caller, cLine]; (try dsimp only [ktrTop]); omega))
  k_with "ktr_room" => (((simp only [depth_under_make, depth_under_kw, depth_in1, depth_deeper, depth_caller, recursionLimit]); (try dsimp only [ktrTop]); omega))
  k_with "k_room" => (((simp only [depth_under_make, depth_under_kw, depth_in1, depth_deeper, depth_caller, recursionLimit]); (try dsimp only [ktrTop]); omega))
  k_with "k_all" => (first | assumption | exact ne_of_allLt (by assumption) | exact ne_of_allLt (And.right (by assumption)) | exact ne_of_allLt (And.right (And.right (by assumption))) | exact ne_of_allLt (And.right (And.right (And.right (by assumption)))))
  k_with "m exec For" => (((with_reducible show wpAny _ _ (exec (Stmt.For (PySem.Expr.Name _ _) _ _ [] _) _) _ _ _); (rename Fr _ _ _ _ => lF'); (with_unfolding_all refine' For_invVF lF' ?k1 ?k2 ?_; (case k1 => exact rfl); (case k2 => exact rfl); k_whole)))
  k_with "m InvEndN" => ((refine InvEndN.intro (by assumption) (by assumption) ⟨rfl, ⟨_, by with_unfolding_all rfl⟩, fun z h1 h2 => by first | (simp only [if_neg h1, if_neg h2]; done) | (simp only [if_neg h1, if_neg h2]; rfl) | exact (if_neg h1).trans (if_neg h2)⟩ rfl ?zz1 ?zz2; (case zz1 => exact fun p hp => List.mem_append_left _ hp); (case zz2 => exact fun p hp => List.mem_append_right _ hp)))
  k_with "m ite" => (first | refine ite_pos (by (simp; done)) ?_ | refine ite_neg (by (simp; done)) ?_)
  k_with "kba_size" => (((try simp only [List.length_append, be_length, List.length_cons, List.length_nil, List.length_map, List.length_take, List.length_drop, Int.reduceToNat]); omega))
  k_with "kba_size" => (((try simp only [List.length_append, be_length, tag_length, idsOf_length, bodyOf_length, tokOf_length, retryRaw_length, retryTag_length, retryPkt_length, negPkt_length, flat4_length, List.length_cons, List.length_nil, List.length_map, List.length_take, List.length_drop, List.length_set, Int.reduceToNat]); first | done | omega))
  k_with "m call ref" => (((with_reducible show wpAny _ _ (call (Value.ref 96) _) _ _ _); k_dflt (refine' (get_whole_ctr _ _ _ _ _ _ _ _ _ ?p1 ?p2 ?p3 ?p4 ?p5) _ _ _ _ _ _ _ _ _ _ _ _ _ _ _ _ _ _ _ _ ?kB ?kF ?kX ?kN ?kT ?kK ?kD ?kW ?_; (case kB => k_asm); (case kF => k_asm); (case kX => k_asm); (case kN => k_asm); (case kT => k_asm); (case kK => first | exact rfl | assumption); (case kD => ((simp only [depth_under_make, depth_under_kw, depth_in1, depth_deeper, depth_caller]); (try dsimp only [ktrTop]); omega)); (case kW => ((simp only [units_under_make, units_in1, units_deeper, Around.mark_units, units_caller]); (try dsimp only [ktrTop]); omega)); (case p1 => kba_ints); (case p2 => omega); (case p3 => omega); (case p4 => omega); (case p5 => omega)); (intro v' nw' h' tk' F' N' hv'); (obtain ⟨t', e', en'⟩ := hv'; subst e'; subst en'); (try k_sweep)))
  k_with "m exec While" => ((
  (rename Fr _ _ _ _ => lF'); (rename News _ _ _ _ => lN');
  k_dflt (refine' while_read (by assumption) lF' lN' ?_ ?kE; (case kE => passes_own));
  (intro k' vs' t' c' h' tk' hk' hvl' hi' F' N'); (try k_fold)))
  trivial
theorem read_versions_ctr (w : World) (bz : Array UInt8) (kz vers : List Int) (tz ta : Tok) (at_ : Int) (news : List (Addr × Obj)) (hz1 : KBw.bInts bz = kz) (h0 : 0 ≤ at_) (h1 : kz.drop at_.toNat = vers.flatMap (be · 4)) (hl : (kz.length : Int) = at_ + 4 * vers.length) (h2 : 0 < vers.length) (h3 : vers.length ≤ 20) (h4 : kz.length ≤ 1000)
    (hv : ∀ n ∈ vers, 0 ≤ n ∧ n < 4294967296) :
    Ctr w 221 40 4000 [.bytes bz tz, .int at_ ta] news (fun v news' => ∃ D vs n, v = .ref D ∧ IntsAre vs vers ∧ AllLt D news ∧ news' = (D, W.listOf vs.toArray n) :: news) := use _ (by exact True.intro : Wit (by
  unfold Ctr
  k_fill
  intro mean mg mb dp un gd cn cs a ccd cl outer A₀ base h₀ L m s Q E B F X N T hk hd hu hret
  refine wpAny_call ?_
  k_dflt cell_enter
  have hm : ((kz.length : Int) - at_).fmod 4 = 0 := by rw [Int.fmod_eq_emod_of_nonneg _ (by decide)]; omega
  k_steps
  · exact absurd hm (by assumption)
  · exfalso; omega
  · rename News _ _ _ _ => N9
    rename IntsAre _ (List.take _ _) => hi9
    exact RvEnd.intro (by assumption) N9 (vers_at h0 h1 hv (by omega)) hi9 (by omega)
  · rename News _ _ _ _ => N9
    rename IntsAre _ (List.take _ _) => hi9
    exact hret _ _ _ _ (by k_asm) (drop_2of4 N9) ⟨_, _, _, rfl, by rwa [List.take_of_length_le (by omega)] at hi9, And.right (And.right (by assumption)), rfl⟩
  ))

end
end Mine
end

section
open PySem PySem.W PyProof.Rows PySem.Calls PySem.Spec
set_option maxRecDepth 100000
set_option maxHeartbeats 0
namespace Mine
theorem allLt_tail {d : Addr} {p : Addr × Obj} {l : List (Addr × Obj)} (h : AllLt d (p :: l)) : AllLt d l := h.2
section
theorem regT13x1 : True := by
  k_with_none
  k_with "k_steps" => ((repeat' (first | (k_unfold; (try dsimp only)) | (k_end; wrow_close) | ((fail_if_success (with_reducible show wpAny _ _ (subscriptTail _ _ _ _) _ _ _)); dsimp only; walk1) | walk1 | (dsimp only; walk1) | (leave1; walk_say "STEP leave1"; try dsimp only) | fail "no step")))
  k_with "omega" => ((first
  | ((with_reducible show @LT.lt Nat _ _ _); first | (with_reducible assumption) | ((with_reducible refine' rm2 ?omA ?omB); (case omA => with_reducible assumption); (case omB => exact rfl)) | ((with_reducible refine' rm1 ?omA ?omB); (case omA => with_reducible assumption); (case omB => exact rfl)) | ((with_reducible refine' rm0 ?omA); (case omA => with_reducible assumption)) | ((with_reducible refine' ltL ?omA ?omB); (case omA => with_reducible assumption); (case omB => exact rfl)) | ((with_reducible refine' rm3 ?omA ?omB); (case omA => with_reducible assumption); (case omB => exact rfl)) | (simp only [Nat.reduceAdd, Nat.reduceMul, Nat.reduceSub, Nat.reducePow, Nat.reduceLeDiff, Nat.reduceLT, Nat.zero_le, Nat.le_refl, Nat.zero_lt_one]; done))
  | ((with_reducible show @LE.le Nat _ _ _); first | (with_reducible assumption) | (with_reducible exact Nat.zero_le _) | ((with_reducible refine' leL ?omA ?omB); (case omA => with_reducible assumption); (case omB => exact rfl)) | (simp only [Nat.reduceAdd, Nat.reduceMul, Nat.reduceSub, Nat.reducePow, Nat.reduceLeDiff, Nat.reduceLT, Nat.zero_le, Nat.le_refl, Nat.zero_lt_one]; done))
  | ((with_reducible show @Ne Nat _ _); (with_reducible first
  | assumption
  | exact Ne.symm (by with_reducible assumption)
  | exact Nat.ne_of_gt (by with_reducible assumption)
  | exact Nat.ne_of_gt (And.left (by with_reducible assumption))
  | exact Nat.ne_of_gt (And.left (And.right (by with_reducible assumption)))
  | exact Nat.ne_of_gt (And.left (And.right (And.right (by with_reducible assumption))))
  | exact Nat.ne_of_gt (And.right (by with_reducible assumption))
  | exact Nat.ne_of_gt (And.right (And.right (by with_reducible assumption)))
  | exact gs1 (by with_reducible assumption)
  | exact gs1 (And.left (by with_reducible assumption))
  | exact gs1 (And.left (And.right (by with_reducible assumption)))
  | exact gs1 (And.left (And.right (And.right (by with_reducible assumption))))
  | exact gs1 (And.right (by with_reducible assumption))
  | exact gs1 (And.right (And.right (by with_reducible assumption)))
  | exact gs2 (by with_reducible assumption)
  | exact gs2 (And.left (by with_reducible assumption))
  | exact gs2 (And.left (And.right (by with_reducible assumption)))
  | exact gs2 (And.left (And.right (And.right (by with_reducible assumption))))
  | exact gs2 (And.right (by with_reducible assumption))
  | exact gs2 (And.right (And.right (by with_reducible assumption)))
  | exact Nat.ne_of_lt (by with_reducible assumption)
  | exact Nat.ne_of_lt (And.left (by with_reducible assumption))
  | exact Nat.ne_of_lt (And.left (And.right (by with_reducible assumption)))
  | exact Nat.ne_of_lt (And.left (And.right (And.right (by with_reducible assumption))))
  | exact Nat.ne_of_lt (And.right (by with_reducible assumption))
  | exact Nat.ne_of_lt (And.right (And.right (by with_reducible assumption)))
  | exact ls1 (by with_reducible assumption)
  | exact ls1 (And.left (by with_reducible assumption))
  | exact ls1 (And.left (And.right (by with_reducible assumption)))
  | exact ls1 (And.left (And.right (And.right (by with_reducible assumption))))
  | exact ls1 (And.right (by with_reducible assumption))
  | exact ls1 (And.right (And.right (by with_reducible assumption)))
  | exact ls2 (by with_reducible assumption)
  | exact ls2 (And.left (by with_reducible assumption))
  | exact ls2 (And.left (And.right (by with_reducible assumption)))
  | exact ls2 (And.left (And.right (And.right (by with_reducible assumption))))
  | exact ls2 (And.right (by with_reducible assumption))
  | exact ls2 (And.right (And.right (by with_reducible assumption)))
  | exact Ne.symm (And.left (by with_reducible assumption))
  | exact Ne.symm (And.left (And.right (by with_reducible assumption)))
  | exact Ne.symm (And.left (And.right (And.right (by with_reducible assumption))))
  | exact Ne.symm (And.right (And.right (And.right (by with_reducible assumption))))
  | exact Ne.symm (And.left (And.left (by with_reducible assumption)))
  | exact Ne.symm (And.left (And.right (And.left (by with_reducible assumption))))
  | exact Ne.symm (And.right (And.right (And.left (by with_reducible assumption))))
  | exact Ne.symm (And.left (And.left (And.right (by with_reducible assumption))))
  | exact Ne.symm (And.left (And.right (And.left (And.right (by with_reducible assumption)))))
  | exact Ne.symm (And.right (And.right (And.left (And.right (by with_reducible assumption)))))
  | exact Ne.symm (And.left (And.left (And.right (And.right (by with_reducible assumption)))))
  | exact Ne.symm (And.left (And.right (And.left (And.right (And.right (by with_reducible assumption))))))
  | exact Ne.symm (And.right (And.right (And.left (And.right (And.right (by with_reducible assumption))))))
  | exact Ne.symm (And.left (And.right (And.right (And.right (by with_reducible assumption)))))
  | exact Ne.symm (And.left (And.right (And.right (And.right (And.right (by with_reducible assumption))))))
  | exact Ne.symm (And.right (And.right (And.right (And.right (And.right (by with_reducible assumption))))))
  | exact (And.left (by with_reducible assumption))
  | exact (And.left (And.right (by with_reducible assumption)))
  | exact (And.left (And.right (And.right (by with_reducible assumption))))
  | exact (And.right (And.right (And.right (by with_reducible assumption))))
  | exact (And.left (And.left (by with_reducible assumption)))
  | exact (And.left (And.right (And.left (by with_reducible assumption))))
  | exact (And.right (And.right (And.left (by with_reducible assumption))))
  | exact (And.left (And.left (And.right (by with_reducible assumption))))
  | exact (And.left (And.right (And.left (And.right (by with_reducible assumption)))))
  | exact (And.right (And.right (And.left (And.right (by with_reducible assumption)))))
  | exact (And.left (And.left (And.right (And.right (by with_reducible assumption)))))
  | exact (And.left (And.right (And.left (And.right (And.right (by with_reducible assumption))))))
  | exact (And.right (And.right (And.left (And.right (And.right (by with_reducible assumption))))))
  | exact (And.left (And.right (And.right (And.right (by with_reducible assumption)))))
  | exact (And.left (And.right (And.right (And.right (And.right (by with_reducible assumption))))))
  | exact (And.right (And.right (And.right (And.right (And.right (by with_reducible assumption))))))
  | exact gt2 (by with_reducible assumption) (by with_reducible assumption)
  | fail "no ne"))))
  k_with "units_room" => ((simp only [units_under_make, units_in1, units_deeper, Around.mark_units, units_caller, cLine]; (try dsimp only [ktrTop]); omega))
  k_with "ktr_room" => (((simp only [depth_under_make, depth_under_kw, depth_in1, depth_deeper, depth_caller, recursionLimit]); (try dsimp only [ktrTop]); omega))
  k_with "k_room" => (((simp only [depth_under_make, depth_under_kw, depth_in1, depth_deeper, depth_caller, recursionLimit]); (try dsimp only [ktrTop]); omega))
  k_with "k_all" => (first | assumption | exact ne_of_allLt (by assumption) | exact ne_of_allLt (And.right (by assumption)) | exact ne_of_allLt (And.right (And.right (by assumption))) | exact ne_of_allLt (And.right (And.right (And.right (by assumption)))))
  k_with "m exec For" => (((with_reducible show wpAny _ _ (exec (Stmt.For (PySem.Expr.Name _ _) _ _ [] _) _) _ _ _); (rename Fr _ _ _ _ => lF'); (with_unfolding_all refine' For_invVF lF' ?k1 ?k2 ?_; (case k1 => exact rfl); (case k2 => exact rfl); k_whole)))
  k_with "m InvEndN" => ((refine InvEndN.intro (by assumption) (by assumption) ⟨rfl, ⟨_, by with_unfolding_all rfl⟩, fun z h1 h2 => by first | (simp only [if_neg h1, if_neg h2]; done) | (simp only [if_neg h1, if_neg h2]; rfl) | exact (if_neg h1).trans (if_neg h2)⟩ rfl ?zz1 ?zz2; (case zz1 => exact fun p hp => List.mem_append_left _ hp); (case zz2 => exact fun p hp => List.mem_append_right _ hp)))
  k_with "m ite" => (first | refine ite_pos (by (simp; done)) ?_ | refine ite_neg (by (simp; done)) ?_)
  k_with "kba_size" => (((try simp only [List.length_append, be_length, List.length_cons, List.length_nil, List.length_map, List.length_take, List.length_drop, Int.reduceToNat]); omega))
  k_with "kba_size" => (((try simp only [List.length_append, be_length, tag_length, idsOf_length, bodyOf_length, tokOf_length, retryRaw_length, retryTag_length, retryPkt_length, negPkt_length, flat4_length, List.length_cons, List.length_nil, List.length_map, List.length_take, List.length_drop, List.length_set, Int.reduceToNat]); first | done | omega))
  k_with "m storeName" => ((k_dflt (refine' storeL ?F ?N ?_ ?a ?b; (case F => k_asm); (case N => k_asm); (case a => rfl); (case b => rfl); k_whole; intro h' m' F' N'; (try k_sweep))))
  k_with "m call ref" => (((with_reducible show wpAny _ _ (call (Value.ref 214) _) _ _ _); k_dflt (refine' (read_invariants_ctr _ _ _ _ _ _ _ _ _ _ _ ?p1 ?p2 ?p3 ?h0 ?h1 ?p4 ?p5 ?p6) _ _ _ _ _ _ _ _ _ _ _ _ _ _ _ _ _ _ _ _ ?kB ?kF ?kX ?kN ?kT ?kK ?kD ?kW ?_; (case kB => k_asm); (case kF => k_asm); (case kX => k_asm); (case kN => k_asm); (case kT => k_asm); (case kK => first | exact rfl | assumption); (case kD => ((simp only [depth_under_make, depth_under_kw, depth_in1, depth_deeper, depth_caller]); (try dsimp only [ktrTop]); omega)); (case kW => ((simp only [units_under_make, units_in1, units_deeper, Around.mark_units, units_caller]); (try dsimp only [ktrTop]); omega)); (case p1 => assumption); (case p2 => assumption); (case p3 => assumption); (case h0 => omega); (case h1 => omega); (case p4 => omega); (case p5 => omega); (case p6 => omega)); (intro v' nw' h' tk' F' N' hv'); (obtain ⟨P', bd', bs', n', t1', t2', t3', t4', t5', e', hb1', hb2', hn', en'⟩ := hv'; subst e'; subst en'); (try k_sweep)))
  k_with "m call ref" => (((with_reducible show wpAny _ _ (call (Value.ref 221) _) _ _ _); k_dflt (refine' (read_versions_ctr _ _ _ _ _ _ _ _ ?p1 ?p2 ?p3 ?p4 ?p5 ?p6 ?p7 ?p8) _ _ _ _ _ _ _ _ _ _ _ _ _ _ _ _ _ _ _ _ ?kB ?kF ?kX ?kN ?kT ?kK ?kD ?kW ?_; (case kB => k_asm); (case kF => k_asm); (case kX => k_asm); (case kN => k_asm); (case kT => k_asm); (case kK => first | exact rfl | assumption); (case kD => ((simp only [depth_under_make, depth_under_kw, depth_in1, depth_deeper, depth_caller]); (try dsimp only [ktrTop]); omega)); (case kW => ((simp only [units_under_make, units_in1, units_deeper, Around.mark_units, units_caller]); (try dsimp only [ktrTop]); omega)); (case p1 => assumption); (case p2 => omega); (case p3 => (refine neg_drop (by assumption) ?_; omega)); (case p4 => omega); (case p5 => omega); (case p6 => omega); (case p7 => omega); (case p8 => assumption)); (intro v' nw' h' tk' F' N' hv'); (obtain ⟨D', vs', n', e', hi', hlt', en'⟩ := hv'; subst e'; subst en'; (try simp only [AllLt] at hlt')); (try k_sweep)))
  k_with "m call ref" => (((with_reducible show wpAny _ _ (call (Value.ref 177) _) _ _ _); k_dflt (refine' (raw_new _ _ _ _ _ _ _ _ _) _ _ _ _ _ _ _ _ _ _ _ _ _ _ _ _ _ _ _ _ ?kB ?kF ?kX ?kN ?kT ?kK ?kD ?kW ?_; (case kB => k_asm); (case kF => k_asm); (case kX => k_asm); (case kN => k_asm); (case kT => k_asm); (case kK => first | exact rfl | assumption); (case kD => ((simp only [depth_under_make, depth_under_kw, depth_in1, depth_deeper, depth_caller]); (try dsimp only [ktrTop]); omega)); (case kW => ((simp only [units_under_make, units_in1, units_deeper, Around.mark_units, units_caller]); (try dsimp only [ktrTop]); omega))); (intro v' nw' h' tk' F' N' hv'); (obtain ⟨x', d', V', od2', e', hdx', hxV', hlt', hr', en'⟩ := hv'; subst e'; subst en'); (try k_sweep)))
  k_with "m setAttr ref" => ((first
  | ((with_reducible show wpAny _ _ (setAttr (Value.ref _) (PySem.Str.ofString "kind") _) _ _ _); k_dflt (refine' set_raw_kind ?F ?X ?N ?x ?U ?r ?_; (case F => k_asm); (case X => k_asm); (case N => k_asm); (case x => k_mem); (case U => k_updF); (case r => assumption)); (intro h' od2' F' N' hr'; (try dsimp only at N'); (try k_sweep)))
  | ((with_reducible show wpAny _ _ (setAttr (Value.ref _) (PySem.Str.ofString "version") _) _ _ _); k_dflt (refine' set_raw_version ?F ?X ?N ?x ?U ?r ?_; (case F => k_asm); (case X => k_asm); (case N => k_asm); (case x => k_mem); (case U => k_updF); (case r => assumption)); (intro h' od2' F' N' hr'; (try dsimp only at N'); (try k_sweep)))
  | ((with_reducible show wpAny _ _ (setAttr (Value.ref _) (PySem.Str.ofString "scid") _) _ _ _); k_dflt (refine' set_raw_scid ?F ?X ?N ?x ?U ?r ?_; (case F => k_asm); (case X => k_asm); (case N => k_asm); (case x => k_mem); (case U => k_updF); (case r => assumption)); (intro h' od2' F' N' hr'; (try dsimp only at N'); (try k_sweep)))
  | ((with_reducible show wpAny _ _ (setAttr (Value.ref _) (PySem.Str.ofString "token") _) _ _ _); k_dflt (refine' set_raw_token ?F ?X ?N ?x ?U ?r ?_; (case F => k_asm); (case X => k_asm); (case N => k_asm); (case x => k_mem); (case U => k_updF); (case r => assumption)); (intro h' od2' F' N' hr'; (try dsimp only at N'); (try k_sweep)))
  | ((with_reducible show wpAny _ _ (setAttr (Value.ref _) (PySem.Str.ofString "tag") _) _ _ _); k_dflt (refine' set_raw_tag ?F ?X ?N ?x ?U ?r ?_; (case F => k_asm); (case X => k_asm); (case N => k_asm); (case x => k_mem); (case U => k_updF); (case r => assumption)); (intro h' od2' F' N' hr'; (try dsimp only at N'); (try k_sweep)))
  | ((with_reducible show wpAny _ _ (setAttr (Value.ref _) (PySem.Str.ofString "versions") _) _ _ _); k_dflt (refine' set_raw_versions ?F ?X ?N ?x ?U ?r ?_; (case F => k_asm); (case X => k_asm); (case N => k_asm); (case x => k_mem); (case U => k_updF); (case r => assumption)); (intro h' od2' F' N' hr'; (try dsimp only at N'); (try k_sweep)))
  | ((with_reducible show wpAny _ _ (setAttr (Value.ref _) (PySem.Str.ofString "end") _) _ _ _); k_dflt (refine' set_raw_end ?F ?X ?N ?x ?U ?r ?_; (case F => k_asm); (case X => k_asm); (case N => k_asm); (case x => k_mem); (case U => k_updF); (case r => assumption)); (intro h' od2' F' N' hr'; (try dsimp only at N'); (try k_sweep)))))
  k_with "m getAttr ref" => ((first
  | ((with_reducible show wpAny _ _ (getAttr (Value.ref _) (PySem.Str.ofString "kind") _) _ _ _); k_dflt (refine' raw_kind ?F ?X ?N ?x ?d ?r ?_; (case F => k_asm); (case X => k_asm); (case N => k_asm); (case x => k_mem); (case d => k_mem); (case r => assumption)); (intro t'))
  | ((with_reducible show wpAny _ _ (getAttr (Value.ref _) (PySem.Str.ofString "version") _) _ _ _); k_dflt (refine' raw_version ?F ?X ?N ?x ?d ?r ?_; (case F => k_asm); (case X => k_asm); (case N => k_asm); (case x => k_mem); (case d => k_mem); (case r => assumption)); (intro t'))
  | ((with_reducible show wpAny _ _ (getAttr (Value.ref _) (PySem.Str.ofString "dcid") _) _ _ _); k_dflt (refine' raw_dcid ?F ?X ?N ?x ?d ?r ?_; (case F => k_asm); (case X => k_asm); (case N => k_asm); (case x => k_mem); (case d => k_mem); (case r => assumption)); (intro t'))
  | ((with_reducible show wpAny _ _ (getAttr (Value.ref _) (PySem.Str.ofString "scid") _) _ _ _); k_dflt (refine' raw_scid ?F ?X ?N ?x ?d ?r ?_; (case F => k_asm); (case X => k_asm); (case N => k_asm); (case x => k_mem); (case d => k_mem); (case r => assumption)); (intro t'))
  | ((with_reducible show wpAny _ _ (getAttr (Value.ref _) (PySem.Str.ofString "token") _) _ _ _); k_dflt (refine' raw_token ?F ?X ?N ?x ?d ?r ?_; (case F => k_asm); (case X => k_asm); (case N => k_asm); (case x => k_mem); (case d => k_mem); (case r => assumption)); (intro t'))
  | ((with_reducible show wpAny _ _ (getAttr (Value.ref _) (PySem.Str.ofString "tag") _) _ _ _); k_dflt (refine' raw_tag ?F ?X ?N ?x ?d ?r ?_; (case F => k_asm); (case X => k_asm); (case N => k_asm); (case x => k_mem); (case d => k_mem); (case r => assumption)); (intro t'))
  | ((with_reducible show wpAny _ _ (getAttr (Value.ref _) (PySem.Str.ofString "versions") _) _ _ _); k_dflt (refine' raw_versions ?F ?X ?N ?x ?d ?r ?_; (case F => k_asm); (case X => k_asm); (case N => k_asm); (case x => k_mem); (case d => k_mem); (case r => assumption)))
  | ((with_reducible show wpAny _ _ (getAttr (Value.ref _) (PySem.Str.ofString "end") _) _ _ _); k_dflt (refine' raw_end ?F ?X ?N ?x ?d ?r ?_; (case F => k_asm); (case X => k_asm); (case N => k_asm); (case x => k_mem); (case d => k_mem); (case r => assumption)); (intro t'))))
  k_with "m ite" => (first | refine ite_pos (by (try simp only [decide_eq_true_eq, beq_iff_eq, bne_iff_ne, ne_eq]); omega) ?_ | refine ite_neg (by (try simp only [decide_eq_true_eq, beq_iff_eq, bne_iff_ne, ne_eq]); omega) ?_)
  trivial
theorem read_long_unknown (w : World) (bz : Array UInt8) (kz kd ks rest : List Int) (tz t0 : Tok) (first version : Int) (news : List (Addr × Obj)) (hz1 : KBw.bInts bz = kz) (e : kz = [first] ++ be version 4 ++ idsOf kd ks ++ rest) (hl : kz.length = 7 + kd.length + ks.length + rest.length)
    (h0 : 2 ≤ version) (h1 : version < 4294967296) (l1 : kd.length ≤ 100) (l2 : ks.length ≤ 100) (l3 : rest.length ≤ 500) :
    Ctr w 228 50 5000 [.bytes bz tz, .int 0 t0] news (fun v news' => ∃ x d od bd bs V, v = .ref x ∧ KBw.bInts bd = kd ∧ KBw.bInts bs = ks ∧ @LT.lt Nat _ d x ∧ AllLt d news ∧ RawO w od (PySem.Str.ofString "unknown") first version bd bs #[] #[] V (kz.length : Int) ∧ news' = (x, instObj 177 d) :: (d, od) :: news) := use _ (by exact True.intro : Wit (by
  unfold Ctr
  k_fill
  intro mean mg mb dp un gd cn cs a ccd cl outer A₀ base h₀ L m s Q E B F X N T hk hd hu hret
  refine wpAny_call ?_
  k_dflt cell_enter
  k_steps
  refine' hret _ _ _ _ (by k_asm) ?zzn ⟨_, _, _, _, _, _, rfl, ?zza, ?zzb, ?zzc, ?zzd, ?zzr, rfl⟩
  case zzn => exact pick_34of5 (by assumption)
  case zza => assumption
  case zzb => assumption
  case zzc => assumption
  case zzr => assumption
  case zzd => exact allLt_tail (by assumption)
  ))

theorem read_long_neg (w : World) (bz : Array UInt8) (kz kd ks vers : List Int) (tz t0 : Tok) (first : Int) (news : List (Addr × Obj)) (hz1 : KBw.bInts bz = kz) (e : kz = [first] ++ be 0 4 ++ idsOf kd ks ++ vers.flatMap (be · 4)) (hl : kz.length = 7 + kd.length + ks.length + (vers.flatMap (be · 4)).length)
    (hl2 : (vers.flatMap (be · 4)).length = 4 * vers.length) (h2 : 0 < vers.length) (h3 : vers.length ≤ 20) (hv : ∀ n ∈ vers, 0 ≤ n ∧ n < 4294967296) (l1 : kd.length ≤ 100) (l2 : ks.length ≤ 100) :
    Ctr w 228 50 5000 [.bytes bz tz, .int 0 t0] news (fun v news' => ∃ x d od V bd bs vs n, v = .ref x ∧ KBw.bInts bd = kd ∧ KBw.bInts bs = ks ∧ IntsAre vs vers ∧ @LT.lt Nat _ d x ∧ @LT.lt Nat _ x V ∧ AllLt d news ∧ RawO w od (PySem.Str.ofString "negotiation") first 0 bd bs #[] #[] V (kz.length : Int) ∧ news' = (V, W.listOf vs.toArray n) :: (x, instObj 177 d) :: (d, od) :: news) := use _ (by exact True.intro : Wit (by
  unfold Ctr
  k_fill
  intro mean mg mb dp un gd cn cs a ccd cl outer A₀ base h₀ L m s Q E B F X N T hk hd hu hret
  refine wpAny_call ?_
  k_dflt cell_enter
  k_steps
  refine' hret _ _ _ _ (by k_asm) ?zzn ⟨_, _, _, _, _, _, _, _, rfl, ?zza, ?zzb, ?zzi, ?zzc, ?zzc2, ?zzd, ?zzr, rfl⟩
  case zzn => exact pick_145of6 (by assumption)
  case zza => assumption
  case zzb => assumption
  case zzi => assumption
  case zzc => assumption
  case zzc2 => omega
  case zzr => assumption
  case zzd => exact allLt_tail (by assumption)
  ))

end
theorem regT13x2 : True := by
  k_with_none
  k_with "k_steps" => ((repeat' (first | (k_unfold; (try dsimp only)) | (k_end; wrow_close) | ((fail_if_success (with_reducible show wpAny _ _ (subscriptTail _ _ _ _) _ _ _)); dsimp only; walk1) | walk1 | (dsimp only; walk1) | (leave1; walk_say "STEP leave1"; try dsimp only) | fail "no step")))
  k_with "omega" => ((first
  | ((with_reducible show @LT.lt Nat _ _ _); first | (with_reducible assumption) | ((with_reducible refine' rm2 ?omA ?omB); (case omA => with_reducible assumption); (case omB => exact rfl)) | ((with_reducible refine' rm1 ?omA ?omB); (case omA => with_reducible assumption); (case omB => exact rfl)) | ((with_reducible refine' rm0 ?omA); (case omA => with_reducible assumption)) | ((with_reducible refine' ltL ?omA ?omB); (case omA => with_reducible assumption); (case omB => exact rfl)) | ((with_reducible refine' rm3 ?omA ?omB); (case omA => with_reducible assumption); (case omB => exact rfl)) | (simp only [Nat.reduceAdd, Nat.reduceMul, Nat.reduceSub, Nat.reducePow, Nat.reduceLeDiff, Nat.reduceLT, Nat.zero_le, Nat.le_refl, Nat.zero_lt_one]; done))
  | ((with_reducible show @LE.le Nat _ _ _); first | (with_reducible assumption) | (with_reducible exact Nat.zero_le _) | ((with_reducible refine' leL ?omA ?omB); (case omA => with_reducible assumption); (case omB => exact rfl)) | (simp only [Nat.reduceAdd, Nat.reduceMul, Nat.reduceSub, Nat.reducePow, Nat.reduceLeDiff, Nat.reduceLT, Nat.zero_le, Nat.le_refl, Nat.zero_lt_one]; done))
  | ((with_reducible show @Ne Nat _ _); (with_reducible first
  | assumption
  | exact Ne.symm (by with_reducible assumption)
  | exact Nat.ne_of_gt (by with_reducible assumption)
  | exact Nat.ne_of_gt (And.left (by with_reducible assumption))
  | exact Nat.ne_of_gt (And.left (And.right (by with_reducible assumption)))
  | exact Nat.ne_of_gt (And.left (And.right (And.right (by with_reducible assumption))))
  | exact Nat.ne_of_gt (And.right (by with_reducible assumption))
  | exact Nat.ne_of_gt (And.right (And.right (by with_reducible assumption)))
  | exact gs1 (by with_reducible assumption)
  | exact gs1 (And.left (by with_reducible assumption))
  | exact gs1 (And.left (And.right (by with_reducible assumption)))
  | exact gs1 (And.left (And.right (And.right (by with_reducible assumption))))
  | exact gs1 (And.right (by with_reducible assumption))
  | exact gs1 (And.right (And.right (by with_reducible assumption)))
  | exact gs2 (by with_reducible assumption)
  | exact gs2 (And.left (by with_reducible assumption))
  | exact gs2 (And.left (And.right (by with_reducible assumption)))
  | exact gs2 (And.left (And.right (And.right (by with_reducible assumption))))
  | exact gs2 (And.right (by with_reducible assumption))
  | exact gs2 (And.right (And.right (by with_reducible assumption)))
  | exact Nat.ne_of_lt (by with_reducible assumption)
  | exact Nat.ne_of_lt (And.left (by with_reducible assumption))
  | exact Nat.ne_of_lt (And.left (And.right (by with_reducible assumption)))
  | exact Nat.ne_of_lt (And.left (And.right (And.right (by with_reducible assumption))))
  | exact Nat.ne_of_lt (And.right (by with_reducible assumption))
  | exact Nat.ne_of_lt (And.right (And.right (by with_reducible assumption)))
  | exact ls1 (by with_reducible assumption)
  | exact ls1 (And.left (by with_reducible assumption))
  | exact ls1 (And.left (And.right (by with_reducible assumption)))
  | exact ls1 (And.left (And.right (And.right (by with_reducible assumption))))
  | exact ls1 (And.right (by with_reducible assumption))
  | exact ls1 (And.right (And.right (by with_reducible assumption)))
  | exact ls2 (by with_reducible assumption)
  | exact ls2 (And.left (by with_reducible assumption))
  | exact ls2 (And.left (And.right (by with_reducible assumption)))
  | exact ls2 (And.left (And.right (And.right (by with_reducible assumption))))
  | exact ls2 (And.right (by with_reducible assumption))
  | exact ls2 (And.right (And.right (by with_reducible assumption)))
  | exact Ne.symm (And.left (by with_reducible assumption))
  | exact Ne.symm (And.left (And.right (by with_reducible assumption)))
  | exact Ne.symm (And.left (And.right (And.right (by with_reducible assumption))))
  | exact Ne.symm (And.right (And.right (And.right (by with_reducible assumption))))
  | exact Ne.symm (And.left (And.left (by with_reducible assumption)))
  | exact Ne.symm (And.left (And.right (And.left (by with_reducible assumption))))
  | exact Ne.symm (And.right (And.right (And.left (by with_reducible assumption))))
  | exact Ne.symm (And.left (And.left (And.right (by with_reducible assumption))))
  | exact Ne.symm (And.left (And.right (And.left (And.right (by with_reducible assumption)))))
  | exact Ne.symm (And.right (And.right (And.left (And.right (by with_reducible assumption)))))
  | exact Ne.symm (And.left (And.left (And.right (And.right (by with_reducible assumption)))))
  | exact Ne.symm (And.left (And.right (And.left (And.right (And.right (by with_reducible assumption))))))
  | exact Ne.symm (And.right (And.right (And.left (And.right (And.right (by with_reducible assumption))))))
  | exact Ne.symm (And.left (And.right (And.right (And.right (by with_reducible assumption)))))
  | exact Ne.symm (And.left (And.right (And.right (And.right (And.right (by with_reducible assumption))))))
  | exact Ne.symm (And.right (And.right (And.right (And.right (And.right (by with_reducible assumption))))))
  | exact (And.left (by with_reducible assumption))
  | exact (And.left (And.right (by with_reducible assumption)))
  | exact (And.left (And.right (And.right (by with_reducible assumption))))
  | exact (And.right (And.right (And.right (by with_reducible assumption))))
  | exact (And.left (And.left (by with_reducible assumption)))
  | exact (And.left (And.right (And.left (by with_reducible assumption))))
  | exact (And.right (And.right (And.left (by with_reducible assumption))))
  | exact (And.left (And.left (And.right (by with_reducible assumption))))
  | exact (And.left (And.right (And.left (And.right (by with_reducible assumption)))))
  | exact (And.right (And.right (And.left (And.right (by with_reducible assumption)))))
  | exact (And.left (And.left (And.right (And.right (by with_reducible assumption)))))
  | exact (And.left (And.right (And.left (And.right (And.right (by with_reducible assumption))))))
  | exact (And.right (And.right (And.left (And.right (And.right (by with_reducible assumption))))))
  | exact (And.left (And.right (And.right (And.right (by with_reducible assumption)))))
  | exact (And.left (And.right (And.right (And.right (And.right (by with_reducible assumption))))))
  | exact (And.right (And.right (And.right (And.right (And.right (by with_reducible assumption))))))
  | exact gt2 (by with_reducible assumption) (by with_reducible assumption)
  | fail "no ne"))))
  k_with "units_room" => ((simp only [units_under_make, units_in1, units_deeper, Around.mark_units, units_caller, cLine]; (try dsimp only [ktrTop]); omega))
  k_with "ktr_room" => (((simp only [depth_under_make, depth_under_kw, depth_in1, depth_deeper, depth_caller, recursionLimit]); (try dsimp only [ktrTop]); omega))
  k_with "k_room" => (((simp only [depth_under_make, depth_under_kw, depth_in1, depth_deeper, depth_caller, recursionLimit]); (try dsimp only [ktrTop]); omega))
  k_with "k_all" => (first | assumption | exact ne_of_allLt (by assumption) | exact ne_of_allLt (And.right (by assumption)) | exact ne_of_allLt (And.right (And.right (by assumption))) | exact ne_of_allLt (And.right (And.right (And.right (by assumption)))))
  k_with "m exec For" => (((with_reducible show wpAny _ _ (exec (Stmt.For (PySem.Expr.Name _ _) _ _ [] _) _) _ _ _); (rename Fr _ _ _ _ => lF'); (with_unfolding_all refine' For_invVF lF' ?k1 ?k2 ?_; (case k1 => exact rfl); (case k2 => exact rfl); k_whole)))
  k_with "m InvEndN" => ((refine InvEndN.intro (by assumption) (by assumption) ⟨rfl, ⟨_, by with_unfolding_all rfl⟩, fun z h1 h2 => by first | (simp only [if_neg h1, if_neg h2]; done) | (simp only [if_neg h1, if_neg h2]; rfl) | exact (if_neg h1).trans (if_neg h2)⟩ rfl ?zz1 ?zz2; (case zz1 => exact fun p hp => List.mem_append_left _ hp); (case zz2 => exact fun p hp => List.mem_append_right _ hp)))
  k_with "m ite" => (first | refine ite_pos (by (simp; done)) ?_ | refine ite_neg (by (simp; done)) ?_)
  k_with "kba_size" => (((try simp only [List.length_append, be_length, List.length_cons, List.length_nil, List.length_map, List.length_take, List.length_drop, Int.reduceToNat]); omega))
  k_with "kba_size" => (((try simp only [List.length_append, be_length, tag_length, idsOf_length, bodyOf_length, tokOf_length, retryRaw_length, retryTag_length, retryPkt_length, negPkt_length, flat4_length, List.length_cons, List.length_nil, List.length_map, List.length_take, List.length_drop, List.length_set, Int.reduceToNat]); first | done | omega))
  k_with "m storeName" => ((k_dflt (refine' storeL ?F ?N ?_ ?a ?b; (case F => k_asm); (case N => k_asm); (case a => rfl); (case b => rfl); k_whole; intro h' m' F' N'; (try k_sweep))))
  k_with "m call ref" => (((with_reducible show wpAny _ _ (call (Value.ref 214) _) _ _ _); k_dflt (refine' (read_invariants_ctr _ _ _ _ _ _ _ _ _ _ _ ?p1 ?p2 ?p3 ?h0 ?h1 ?p4 ?p5 ?p6) _ _ _ _ _ _ _ _ _ _ _ _ _ _ _ _ _ _ _ _ ?kB ?kF ?kX ?kN ?kT ?kK ?kD ?kW ?_; (case kB => k_asm); (case kF => k_asm); (case kX => k_asm); (case kN => k_asm); (case kT => k_asm); (case kK => first | exact rfl | assumption); (case kD => ((simp only [depth_under_make, depth_under_kw, depth_in1, depth_deeper, depth_caller]); (try dsimp only [ktrTop]); omega)); (case kW => ((simp only [units_under_make, units_in1, units_deeper, Around.mark_units, units_caller]); (try dsimp only [ktrTop]); omega)); (case p1 => assumption); (case p2 => assumption); (case p3 => assumption); (case h0 => omega); (case h1 => omega); (case p4 => omega); (case p5 => omega); (case p6 => omega)); (intro v' nw' h' tk' F' N' hv'); (obtain ⟨P', bd', bs', n', t1', t2', t3', t4', t5', e', hb1', hb2', hn', en'⟩ := hv'; subst e'; subst en'); (try k_sweep)))
  k_with "m call ref" => (((with_reducible show wpAny _ _ (call (Value.ref 221) _) _ _ _); k_dflt (refine' (read_versions_ctr _ _ _ _ _ _ _ _ ?p1 ?p2 ?p3 ?p4 ?p5 ?p6 ?p7 ?p8) _ _ _ _ _ _ _ _ _ _ _ _ _ _ _ _ _ _ _ _ ?kB ?kF ?kX ?kN ?kT ?kK ?kD ?kW ?_; (case kB => k_asm); (case kF => k_asm); (case kX => k_asm); (case kN => k_asm); (case kT => k_asm); (case kK => first | exact rfl | assumption); (case kD => ((simp only [depth_under_make, depth_under_kw, depth_in1, depth_deeper, depth_caller]); (try dsimp only [ktrTop]); omega)); (case kW => ((simp only [units_under_make, units_in1, units_deeper, Around.mark_units, units_caller]); (try dsimp only [ktrTop]); omega)); (case p1 => assumption); (case p2 => omega); (case p3 => (refine neg_drop (by assumption) ?_; omega)); (case p4 => omega); (case p5 => omega); (case p6 => omega); (case p7 => omega); (case p8 => assumption)); (intro v' nw' h' tk' F' N' hv'); (obtain ⟨D', vs', n', e', hi', hlt', en'⟩ := hv'; subst e'; subst en'; (try simp only [AllLt] at hlt')); (try k_sweep)))
  k_with "m call ref" => (((with_reducible show wpAny _ _ (call (Value.ref 177) _) _ _ _); k_dflt (refine' (raw_new _ _ _ _ _ _ _ _ _) _ _ _ _ _ _ _ _ _ _ _ _ _ _ _ _ _ _ _ _ ?kB ?kF ?kX ?kN ?kT ?kK ?kD ?kW ?_; (case kB => k_asm); (case kF => k_asm); (case kX => k_asm); (case kN => k_asm); (case kT => k_asm); (case kK => first | exact rfl | assumption); (case kD => ((simp only [depth_under_make, depth_under_kw, depth_in1, depth_deeper, depth_caller]); (try dsimp only [ktrTop]); omega)); (case kW => ((simp only [units_under_make, units_in1, units_deeper, Around.mark_units, units_caller]); (try dsimp only [ktrTop]); omega))); (intro v' nw' h' tk' F' N' hv'); (obtain ⟨x', d', V', od2', e', hdx', hxV', hlt', hr', en'⟩ := hv'; subst e'; subst en'); (try k_sweep)))
  k_with "m setAttr ref" => ((first
  | ((with_reducible show wpAny _ _ (setAttr (Value.ref _) (PySem.Str.ofString "kind") _) _ _ _); k_dflt (refine' set_raw_kind ?F ?X ?N ?x ?U ?r ?_; (case F => k_asm); (case X => k_asm); (case N => k_asm); (case x => k_mem); (case U => k_updF); (case r => assumption)); (intro h' od2' F' N' hr'; (try dsimp only at N'); (try k_sweep)))
  | ((with_reducible show wpAny _ _ (setAttr (Value.ref _) (PySem.Str.ofString "version") _) _ _ _); k_dflt (refine' set_raw_version ?F ?X ?N ?x ?U ?r ?_; (case F => k_asm); (case X => k_asm); (case N => k_asm); (case x => k_mem); (case U => k_updF); (case r => assumption)); (intro h' od2' F' N' hr'; (try dsimp only at N'); (try k_sweep)))
  | ((with_reducible show wpAny _ _ (setAttr (Value.ref _) (PySem.Str.ofString "scid") _) _ _ _); k_dflt (refine' set_raw_scid ?F ?X ?N ?x ?U ?r ?_; (case F => k_asm); (case X => k_asm); (case N => k_asm); (case x => k_mem); (case U => k_updF); (case r => assumption)); (intro h' od2' F' N' hr'; (try dsimp only at N'); (try k_sweep)))
  | ((with_reducible show wpAny _ _ (setAttr (Value.ref _) (PySem.Str.ofString "token") _) _ _ _); k_dflt (refine' set_raw_token ?F ?X ?N ?x ?U ?r ?_; (case F => k_asm); (case X => k_asm); (case N => k_asm); (case x => k_mem); (case U => k_updF); (case r => assumption)); (intro h' od2' F' N' hr'; (try dsimp only at N'); (try k_sweep)))
  | ((with_reducible show wpAny _ _ (setAttr (Value.ref _) (PySem.Str.ofString "tag") _) _ _ _); k_dflt (refine' set_raw_tag ?F ?X ?N ?x ?U ?r ?_; (case F => k_asm); (case X => k_asm); (case N => k_asm); (case x => k_mem); (case U => k_updF); (case r => assumption)); (intro h' od2' F' N' hr'; (try dsimp only at N'); (try k_sweep)))
  | ((with_reducible show wpAny _ _ (setAttr (Value.ref _) (PySem.Str.ofString "versions") _) _ _ _); k_dflt (refine' set_raw_versions ?F ?X ?N ?x ?U ?r ?_; (case F => k_asm); (case X => k_asm); (case N => k_asm); (case x => k_mem); (case U => k_updF); (case r => assumption)); (intro h' od2' F' N' hr'; (try dsimp only at N'); (try k_sweep)))
  | ((with_reducible show wpAny _ _ (setAttr (Value.ref _) (PySem.Str.ofString "end") _) _ _ _); k_dflt (refine' set_raw_end ?F ?X ?N ?x ?U ?r ?_; (case F => k_asm); (case X => k_asm); (case N => k_asm); (case x => k_mem); (case U => k_updF); (case r => assumption)); (intro h' od2' F' N' hr'; (try dsimp only at N'); (try k_sweep)))))
  k_with "m getAttr ref" => ((first
  | ((with_reducible show wpAny _ _ (getAttr (Value.ref _) (PySem.Str.ofString "kind") _) _ _ _); k_dflt (refine' raw_kind ?F ?X ?N ?x ?d ?r ?_; (case F => k_asm); (case X => k_asm); (case N => k_asm); (case x => k_mem); (case d => k_mem); (case r => assumption)); (intro t'))
  | ((with_reducible show wpAny _ _ (getAttr (Value.ref _) (PySem.Str.ofString "version") _) _ _ _); k_dflt (refine' raw_version ?F ?X ?N ?x ?d ?r ?_; (case F => k_asm); (case X => k_asm); (case N => k_asm); (case x => k_mem); (case d => k_mem); (case r => assumption)); (intro t'))
  | ((with_reducible show wpAny _ _ (getAttr (Value.ref _) (PySem.Str.ofString "dcid") _) _ _ _); k_dflt (refine' raw_dcid ?F ?X ?N ?x ?d ?r ?_; (case F => k_asm); (case X => k_asm); (case N => k_asm); (case x => k_mem); (case d => k_mem); (case r => assumption)); (intro t'))
  | ((with_reducible show wpAny _ _ (getAttr (Value.ref _) (PySem.Str.ofString "scid") _) _ _ _); k_dflt (refine' raw_scid ?F ?X ?N ?x ?d ?r ?_; (case F => k_asm); (case X => k_asm); (case N => k_asm); (case x => k_mem); (case d => k_mem); (case r => assumption)); (intro t'))
  | ((with_reducible show wpAny _ _ (getAttr (Value.ref _) (PySem.Str.ofString "token") _) _ _ _); k_dflt (refine' raw_token ?F ?X ?N ?x ?d ?r ?_; (case F => k_asm); (case X => k_asm); (case N => k_asm); (case x => k_mem); (case d => k_mem); (case r => assumption)); (intro t'))
  | ((with_reducible show wpAny _ _ (getAttr (Value.ref _) (PySem.Str.ofString "tag") _) _ _ _); k_dflt (refine' raw_tag ?F ?X ?N ?x ?d ?r ?_; (case F => k_asm); (case X => k_asm); (case N => k_asm); (case x => k_mem); (case d => k_mem); (case r => assumption)); (intro t'))
  | ((with_reducible show wpAny _ _ (getAttr (Value.ref _) (PySem.Str.ofString "versions") _) _ _ _); k_dflt (refine' raw_versions ?F ?X ?N ?x ?d ?r ?_; (case F => k_asm); (case X => k_asm); (case N => k_asm); (case x => k_mem); (case d => k_mem); (case r => assumption)))
  | ((with_reducible show wpAny _ _ (getAttr (Value.ref _) (PySem.Str.ofString "end") _) _ _ _); k_dflt (refine' raw_end ?F ?X ?N ?x ?d ?r ?_; (case F => k_asm); (case X => k_asm); (case N => k_asm); (case x => k_mem); (case d => k_mem); (case r => assumption)); (intro t'))))
  k_with "m ite" => (first | refine ite_pos (by (try simp only [decide_eq_true_eq, beq_iff_eq, bne_iff_ne, ne_eq]); omega) ?_ | refine ite_neg (by (try simp only [decide_eq_true_eq, beq_iff_eq, bne_iff_ne, ne_eq]); omega) ?_)
  k_with "m subscriptTail Name BinOp ref int" => (((with_reducible show wpAny _ _ (subscriptTail _ _ (Value.ref 160) (Value.int (Int.fmod (Int.fdiv _ 16) 4) _)) _ _ _); k_dflt (refine' strs_item3 ?kx ?kf ?ko ?kk ?_ ?ks; (case kx => k_asm); (case kf => k_asm); (case ko => k_is); (case kk => assumption); (case ks => with_unfolding_all rfl))))
  k_with "m ite" => (refine ite_neg (by (try simp only [decide_eq_true_eq, beq_iff_eq, bne_iff_ne, ne_eq]); (rename Int.fmod (Int.fdiv _ 64) 2 = 1 => hf9); rw [hf9]; decide) ?_)
  trivial
theorem read_long_retry (w : World) (bz : Array UInt8) (kz kd ks kt kg : List Int) (tz t0 : Tok) (first : Int) (news : List (Addr × Obj)) (hz1 : KBw.bInts bz = kz) (e : kz = [first] ++ be 1 4 ++ idsOf kd ks ++ (kt ++ kg)) (hl : kz.length = 7 + kd.length + ks.length + (kt ++ kg).length)
    (hg : kg.length = 16) (hl2 : (kt ++ kg).length = kt.length + 16) (f0 : 240 ≤ first) (f1 : first < 256) (ht : kt.length ≤ 100) (l1 : kd.length ≤ 20) (l2 : ks.length ≤ 20) :
    Ctr w 228 50 5000 [.bytes bz tz, .int 0 t0] news (fun v news' => ∃ x d od bd bs bt bg V, v = .ref x ∧ KBw.bInts bd = kd ∧ KBw.bInts bs = ks ∧ KBw.bInts bt = kt ∧ KBw.bInts bg = kg ∧ @LT.lt Nat _ d x ∧ AllLt d news ∧ RawO w od (PySem.Str.ofString "retry") first 1 bd bs bt bg V (kz.length : Int) ∧ news' = (x, instObj 177 d) :: (d, od) :: news) := use _ (by exact True.intro : Wit (by
  unfold Ctr
  k_fill
  intro mean mg mb dp un gd cn cs a ccd cl outer A₀ base h₀ L m s Q E B F X N T hk hd hu hret
  refine wpAny_call ?_
  k_dflt cell_enter
  have f2 : (first.fdiv 64).fmod 2 = 1 := by rw [Int.fmod_eq_emod_of_nonneg _ (by decide), Int.fdiv_eq_ediv_of_nonneg _ (by decide)]; omega
  have f3 : (first.fdiv 16).fmod 4 = 3 := by rw [Int.fmod_eq_emod_of_nonneg _ (by decide), Int.fdiv_eq_ediv_of_nonneg _ (by decide)]; omega
  k_steps
  refine' hret _ _ _ _ (by k_asm) ?zzn ⟨_, _, _, _, _, _, _, _, rfl, ?zza, ?zzb, ?zzt, ?zzg, ?zzc, ?zzd, ?zzr, rfl⟩
  case zzn => exact pick_45of6 (by assumption)
  case zza => assumption
  case zzb => assumption
  case zzt => exact Eq.trans (by assumption) (retry_token e hg (by omega))
  case zzg => exact Eq.trans (by assumption) (retry_tail e hg)
  case zzc => assumption
  case zzr => assumption
  case zzd => exact allLt_tail (by assumption)
  ))

end Mine
end

section
open PySem PySem.W PyProof.Rows PySem.Calls PySem.Spec
set_option maxRecDepth 100000
set_option maxHeartbeats 0
namespace Mine
section
theorem regT14x1 : True := by
  k_with_none
  k_with "k_steps" => ((repeat' (first | (k_unfold; (try dsimp only)) | (k_end; wrow_close) | ((fail_if_success (with_reducible show wpAny _ _ (subscriptTail _ _ _ _) _ _ _)); dsimp only; walk1) | walk1 | (dsimp only; walk1) | (leave1; walk_say "STEP leave1"; try dsimp only) | fail "no step")))
  k_with "omega" => ((first
  | ((with_reducible show @LT.lt Nat _ _ _); first | (with_reducible assumption) | ((with_reducible refine' rm2 ?omA ?omB); (case omA => with_reducible assumption); (case omB => exact rfl)) | ((with_reducible refine' rm1 ?omA ?omB); (case omA => with_reducible assumption); (case omB => exact rfl)) | ((with_reducible refine' rm0 ?omA); (case omA => with_reducible assumption)) | ((with_reducible refine' ltL ?omA ?omB); (case omA => with_reducible assumption); (case omB => exact rfl)) | ((with_reducible refine' rm3 ?omA ?omB); (case omA => with_reducible assumption); (case omB => exact rfl)) | (simp only [Nat.reduceAdd, Nat.reduceMul, Nat.reduceSub, Nat.reducePow, Nat.reduceLeDiff, Nat.reduceLT, Nat.zero_le, Nat.le_refl, Nat.zero_lt_one]; done))
  | ((with_reducible show @LE.le Nat _ _ _); first | (with_reducible assumption) | (with_reducible exact Nat.zero_le _) | ((with_reducible refine' leL ?omA ?omB); (case omA => with_reducible assumption); (case omB => exact rfl)) | (simp only [Nat.reduceAdd, Nat.reduceMul, Nat.reduceSub, Nat.reducePow, Nat.reduceLeDiff, Nat.reduceLT, Nat.zero_le, Nat.le_refl, Nat.zero_lt_one]; done))
  | ((with_reducible show @Ne Nat _ _); (with_reducible first
  | assumption
  | exact Ne.symm (by with_reducible assumption)
  | exact Nat.ne_of_gt (by with_reducible assumption)
  | exact Nat.ne_of_gt (And.left (by with_reducible assumption))
  | exact Nat.ne_of_gt (And.left (And.right (by with_reducible assumption)))
  | exact Nat.ne_of_gt (And.left (And.right (And.right (by with_reducible assumption))))
  | exact Nat.ne_of_gt (And.right (by with_reducible assumption))
  | exact Nat.ne_of_gt (And.right (And.right (by with_reducible assumption)))
  | exact gs1 (by with_reducible assumption)
  | exact gs1 (And.left (by with_reducible assumption))
  | exact gs1 (And.left (And.right (by with_reducible assumption)))
  | exact gs1 (And.left (And.right (And.right (by with_reducible assumption))))
  | exact gs1 (And.right (by with_reducible assumption))
  | exact gs1 (And.right (And.right (by with_reducible assumption)))
  | exact gs2 (by with_reducible assumption)
  | exact gs2 (And.left (by with_reducible assumption))
  | exact gs2 (And.left (And.right (by with_reducible assumption)))
  | exact gs2 (And.left (And.right (And.right (by with_reducible assumption))))
  | exact gs2 (And.right (by with_reducible assumption))
  | exact gs2 (And.right (And.right (by with_reducible assumption)))
  | exact Nat.ne_of_lt (by with_reducible assumption)
  | exact Nat.ne_of_lt (And.left (by with_reducible assumption))
  | exact Nat.ne_of_lt (And.left (And.right (by with_reducible assumption)))
  | exact Nat.ne_of_lt (And.left (And.right (And.right (by with_reducible assumption))))
  | exact Nat.ne_of_lt (And.right (by with_reducible assumption))
  | exact Nat.ne_of_lt (And.right (And.right (by with_reducible assumption)))
  | exact ls1 (by with_reducible assumption)
  | exact ls1 (And.left (by with_reducible assumption))
  | exact ls1 (And.left (And.right (by with_reducible assumption)))
  | exact ls1 (And.left (And.right (And.right (by with_reducible assumption))))
  | exact ls1 (And.right (by with_reducible assumption))
  | exact ls1 (And.right (And.right (by with_reducible assumption)))
  | exact ls2 (by with_reducible assumption)
  | exact ls2 (And.left (by with_reducible assumption))
  | exact ls2 (And.left (And.right (by with_reducible assumption)))
  | exact ls2 (And.left (And.right (And.right (by with_reducible assumption))))
  | exact ls2 (And.right (by with_reducible assumption))
  | exact ls2 (And.right (And.right (by with_reducible assumption)))
  | exact Ne.symm (And.left (by with_reducible assumption))
  | exact Ne.symm (And.left (And.right (by with_reducible assumption)))
  | exact Ne.symm (And.left (And.right (And.right (by with_reducible assumption))))
  | exact Ne.symm (And.right (And.right (And.right (by with_reducible assumption))))
  | exact Ne.symm (And.left (And.left (by with_reducible assumption)))
  | exact Ne.symm (And.left (And.right (And.left (by with_reducible assumption))))
  | exact Ne.symm (And.right (And.right (And.left (by with_reducible assumption))))
  | exact Ne.symm (And.left (And.left (And.right (by with_reducible assumption))))
  | exact Ne.symm (And.left (And.right (And.left (And.right (by with_reducible assumption)))))
  | exact Ne.symm (And.right (And.right (And.left (And.right (by with_reducible assumption)))))
  | exact Ne.symm (And.left (And.left (And.right (And.right (by with_reducible assumption)))))
  | exact Ne.symm (And.left (And.right (And.left (And.right (And.right (by with_reducible assumption))))))
  | exact Ne.symm (And.right (And.right (And.left (And.right (And.right (by with_reducible assumption))))))
  | exact Ne.symm (And.left (And.right (And.right (And.right (by with_reducible assumption)))))
  | exact Ne.symm (And.left (And.right (And.right (And.right (And.right (by with_reducible assumption))))))
  | exact Ne.symm (And.right (And.right (And.right (And.right (And.right (by with_reducible assumption))))))
  | exact (And.left (by with_reducible assumption))
  | exact (And.left (And.right (by with_reducible assumption)))
  | exact (And.left (And.right (And.right (by with_reducible assumption))))
  | exact (And.right (And.right (And.right (by with_reducible assumption))))
  | exact (And.left (And.left (by with_reducible assumption)))
  | exact (And.left (And.right (And.left (by with_reducible assumption))))
  | exact (And.right (And.right (And.left (by with_reducible assumption))))
  | exact (And.left (And.left (And.right (by with_reducible assumption))))
  | exact (And.left (And.right (And.left (And.right (by with_reducible assumption)))))
  | exact (And.right (And.right (And.left (And.right (by with_reducible assumption)))))
  | exact (And.left (And.left (And.right (And.right (by with_reducible assumption)))))
  | exact (And.left (And.right (And.left (And.right (And.right (by with_reducible assumption))))))
  | exact (And.right (And.right (And.left (And.right (And.right (by with_reducible assumption))))))
  | exact (And.left (And.right (And.right (And.right (by with_reducible assumption)))))
  | exact (And.left (And.right (And.right (And.right (And.right (by with_reducible assumption))))))
  | exact (And.right (And.right (And.right (And.right (And.right (by with_reducible assumption))))))
  | exact gt2 (by with_reducible assumption) (by with_reducible assumption)
  | fail "no ne"))))
  k_with "units_room" => ((simp only [units_under_make, units_in1, units_deeper, Around.mark_units, units_caller, cLine]; (try dsimp only [ktrTop]); omega))
  k_with "ktr_room" => (((simp only [depth_under_make, depth_under_kw, depth_in1, depth_deeper, depth_caller, recursionLimit]); (try dsimp only [ktrTop]); omega))
  k_with "k_room" => (((simp only [depth_under_make, depth_under_kw, depth_in1, depth_deeper, depth_caller, recursionLimit]); (try dsimp only [ktrTop]); omega))
  k_with "k_all" => (first | assumption | exact ne_of_allLt (by assumption) | exact ne_of_allLt (And.right (by assumption)) | exact ne_of_allLt (And.right (And.right (by assumption))) | exact ne_of_allLt (And.right (And.right (And.right (by assumption)))))
  k_with "m exec For" => (((with_reducible show wpAny _ _ (exec (Stmt.For (PySem.Expr.Name _ _) _ _ [] _) _) _ _ _); (rename Fr _ _ _ _ => lF'); (with_unfolding_all refine' For_invVF lF' ?k1 ?k2 ?_; (case k1 => exact rfl); (case k2 => exact rfl); k_whole)))
  k_with "m InvEndN" => ((refine InvEndN.intro (by assumption) (by assumption) ⟨rfl, ⟨_, by with_unfolding_all rfl⟩, fun z h1 h2 => by first | (simp only [if_neg h1, if_neg h2]; done) | (simp only [if_neg h1, if_neg h2]; rfl) | exact (if_neg h1).trans (if_neg h2)⟩ rfl ?zz1 ?zz2; (case zz1 => exact fun p hp => List.mem_append_left _ hp); (case zz2 => exact fun p hp => List.mem_append_right _ hp)))
  k_with "m ite" => (first | refine ite_pos (by (simp; done)) ?_ | refine ite_neg (by (simp; done)) ?_)
  k_with "kba_size" => (((try simp only [List.length_append, be_length, List.length_cons, List.length_nil, List.length_map, List.length_take, List.length_drop, Int.reduceToNat]); omega))
  k_with "kba_size" => (((try simp only [List.length_append, be_length, tag_length, idsOf_length, bodyOf_length, tokOf_length, retryRaw_length, retryTag_length, retryPkt_length, negPkt_length, flat4_length, List.length_cons, List.length_nil, List.length_map, List.length_take, List.length_drop, List.length_set, Int.reduceToNat]); first | done | omega))
  k_with "m pyIter ref" => (((rename Fr _ _ _ _ => lF'); (rename News _ _ _ _ => lN'); (rename SearchIn _ => hm9); (with_unfolding_all refine' search_M hm9 (by rfl) (by k_memK) (by assumption) lF' lN' ?_ ?_); (intro pre' post' n' t' h' tk' own' hsp' hoff' hpre' F' N'); rotate_left; (intro u' h' tk' hall' F' N'); rotate_left; (all_goals (try k_fold))))
  k_with "m InvEndN" => ((refine InvEndN.intro (by assumption) (by assumption) ⟨rfl, fun z h1 => by first | (simp only [if_neg h1]; done) | (simp only [if_neg h1]; rfl) | exact if_neg h1, ?_⟩ rfl ?zz1 ?zz2; (case zz1 => exact fun p hp => List.mem_append_left _ hp); (case zz2 => exact fun p hp => List.mem_append_right _ hp)))
  trivial
theorem chosen_ctr (w : World) (P Vd Wd : Addr) (vs ws : List Value) (vers wanted : List Int) (nv nw : Nat) (bd bs bo bn : Array UInt8) (kd ks ko kn : List Int) (kind : PySem.Str) (tk td ts to tn t1 : Tok) (own : Int) (seen : Bool) (rest : List (Addr × Obj)) (hvs : IntsAre vs vers) (hws : IntsAre ws wanted)
    (hd1 : KBw.bInts bd = kd) (hs1 : KBw.bInts bs = ks) (ho1 : KBw.bInts bo = ko) (hn1 : KBw.bInts bn = kn) (l1 : kd.length ≤ 100) (l2 : ks.length ≤ 100) (l3 : ko.length ≤ 100) (l4 : kn.length ≤ 100) (hm : SearchIn vers) (l5 : vers.length ≤ 20) (l6 : wanted.length ≤ 20) :
    Ctr w 277 40 4000 [.ref P, .int own t1, .bytes bo to, .bytes bn tn, .ref Wd, .bool seen] ((P, ({ cls := .type "tuple", data := .seq #[.str kind tk, .bytes bd td, .bytes bs ts, .ref Vd] } : Obj)) :: (Vd, W.listOf vs.toArray nv) :: (Wd, W.listOf ws.toArray nw) :: rest) (fun v news' => ∃ T o, v = .ref T ∧ AllLt T ((P, ({ cls := .type "tuple", data := .seq #[.str kind tk, .bytes bd td, .bytes bs ts, .ref Vd] } : Obj)) :: (Vd, W.listOf vs.toArray nv) :: (Wd, W.listOf ws.toArray nw) :: rest) ∧ Told seen kd kn ks ko own vers wanted o ∧ news' = (T, o) :: (P, ({ cls := .type "tuple", data := .seq #[.str kind tk, .bytes bd td, .bytes bs ts, .ref Vd] } : Obj)) :: (Vd, W.listOf vs.toArray nv) :: (Wd, W.listOf ws.toArray nw) :: rest) := use _ (by exact True.intro : Wit (by
  unfold Ctr
  k_fill
  intro mean mg mb dp un gd cn cs a ccd cl outer A₀ base h₀ L m s Q E B F X N T hk hd hu hret
  refine wpAny_call ?_
  k_dflt cell_enter
  k_steps
  · exact hret _ _ _ _ (by k_asm) (by k_asm) ⟨_, _, rfl, by assumption, .inl ⟨.inl (by assumption), _, rfl⟩, rfl⟩
  · exact hret _ _ _ _ (by k_asm) (by k_asm) ⟨_, _, rfl, by assumption, .inl ⟨.inr (.inl (bne_ints hd1 hn1 (by assumption))), _, rfl⟩, rfl⟩
  · exact hret _ _ _ _ (by k_asm) (by k_asm) ⟨_, _, rfl, by assumption, .inl ⟨.inr (.inr (.inl (bne_ints hs1 ho1 (by assumption)))), _, rfl⟩, rfl⟩
  · exact hret _ _ _ _ (by k_asm) (by k_asm) ⟨_, _, rfl, by assumption, .inl ⟨.inr (.inr (.inr (by assumption))), _, rfl⟩, rfl⟩
  · exact hret _ _ _ _ (by k_asm) (drop_own (by assumption)) ⟨_, _, rfl, lt_own (by assumption), .inr (.inl ⟨not_ign (by assumption) hd1 hn1 (by assumption) hs1 ho1 (by assumption) (by assumption), _, _, _, find_at (by assumption) (by assumption) (by assumption), rfl⟩), rfl⟩
  · exact all_snoc (by assumption) (by assumption) _ (by assumption)
  · exact hret _ _ _ _ (by k_asm) (by k_asm) ⟨_, _, rfl, by assumption, .inr (.inr ⟨not_ign (by assumption) hd1 hn1 (by assumption) hs1 ho1 (by assumption) (by assumption), find_none (by assumption), _, rfl⟩), rfl⟩
  ))

end
end Mine
end

section
open PySem PySem.W PyProof.Rows PySem.Calls PySem.Spec
set_option maxRecDepth 100000
set_option maxHeartbeats 0
namespace Mine
theorem seed_in : ∀ (l : List Int) (a : Int), 0 ≤ a ∧ a < 2147483647 → 0 ≤ l.foldl (fun a n => (a * 31 + n.fmod 1000003 + 9).fmod 2147483647) a ∧ l.foldl (fun a n => (a * 31 + n.fmod 1000003 + 9).fmod 2147483647) a < 2147483647
  | [], _, h => h
  | _ :: l, _, _ => seed_in l _ ⟨fmod_lo _ (by decide), fmod_hi _ (by decide)⟩
theorem regT15x1 : True := by
  k_with_none
  k_with "k_steps" => ((repeat' (first | (k_unfold; (try dsimp only)) | (k_end; wrow_close) | ((fail_if_success (with_reducible show wpAny _ _ (subscriptTail _ _ _ _) _ _ _)); dsimp only; walk1) | walk1 | (dsimp only; walk1) | (leave1; walk_say "STEP leave1"; try dsimp only) | fail "no step")))
  k_with "omega" => ((first
  | ((with_reducible show @LT.lt Nat _ _ _); first | (with_reducible assumption) | ((with_reducible refine' rm2 ?omA ?omB); (case omA => with_reducible assumption); (case omB => exact rfl)) | ((with_reducible refine' rm1 ?omA ?omB); (case omA => with_reducible assumption); (case omB => exact rfl)) | ((with_reducible refine' rm0 ?omA); (case omA => with_reducible assumption)) | ((with_reducible refine' ltL ?omA ?omB); (case omA => with_reducible assumption); (case omB => exact rfl)) | ((with_reducible refine' rm3 ?omA ?omB); (case omA => with_reducible assumption); (case omB => exact rfl)) | (simp only [Nat.reduceAdd, Nat.reduceMul, Nat.reduceSub, Nat.reducePow, Nat.reduceLeDiff, Nat.reduceLT, Nat.zero_le, Nat.le_refl, Nat.zero_lt_one]; done))
  | ((with_reducible show @LE.le Nat _ _ _); first | (with_reducible assumption) | (with_reducible exact Nat.zero_le _) | ((with_reducible refine' leL ?omA ?omB); (case omA => with_reducible assumption); (case omB => exact rfl)) | (simp only [Nat.reduceAdd, Nat.reduceMul, Nat.reduceSub, Nat.reducePow, Nat.reduceLeDiff, Nat.reduceLT, Nat.zero_le, Nat.le_refl, Nat.zero_lt_one]; done))
  | ((with_reducible show @Ne Nat _ _); (with_reducible first
  | assumption
  | exact Ne.symm (by with_reducible assumption)
  | exact Nat.ne_of_gt (by with_reducible assumption)
  | exact Nat.ne_of_gt (And.left (by with_reducible assumption))
  | exact Nat.ne_of_gt (And.left (And.right (by with_reducible assumption)))
  | exact Nat.ne_of_gt (And.left (And.right (And.right (by with_reducible assumption))))
  | exact Nat.ne_of_gt (And.right (by with_reducible assumption))
  | exact Nat.ne_of_gt (And.right (And.right (by with_reducible assumption)))
  | exact gs1 (by with_reducible assumption)
  | exact gs1 (And.left (by with_reducible assumption))
  | exact gs1 (And.left (And.right (by with_reducible assumption)))
  | exact gs1 (And.left (And.right (And.right (by with_reducible assumption))))
  | exact gs1 (And.right (by with_reducible assumption))
  | exact gs1 (And.right (And.right (by with_reducible assumption)))
  | exact gs2 (by with_reducible assumption)
  | exact gs2 (And.left (by with_reducible assumption))
  | exact gs2 (And.left (And.right (by with_reducible assumption)))
  | exact gs2 (And.left (And.right (And.right (by with_reducible assumption))))
  | exact gs2 (And.right (by with_reducible assumption))
  | exact gs2 (And.right (And.right (by with_reducible assumption)))
  | exact Nat.ne_of_lt (by with_reducible assumption)
  | exact Nat.ne_of_lt (And.left (by with_reducible assumption))
  | exact Nat.ne_of_lt (And.left (And.right (by with_reducible assumption)))
  | exact Nat.ne_of_lt (And.left (And.right (And.right (by with_reducible assumption))))
  | exact Nat.ne_of_lt (And.right (by with_reducible assumption))
  | exact Nat.ne_of_lt (And.right (And.right (by with_reducible assumption)))
  | exact ls1 (by with_reducible assumption)
  | exact ls1 (And.left (by with_reducible assumption))
  | exact ls1 (And.left (And.right (by with_reducible assumption)))
  | exact ls1 (And.left (And.right (And.right (by with_reducible assumption))))
  | exact ls1 (And.right (by with_reducible assumption))
  | exact ls1 (And.right (And.right (by with_reducible assumption)))
  | exact ls2 (by with_reducible assumption)
  | exact ls2 (And.left (by with_reducible assumption))
  | exact ls2 (And.left (And.right (by with_reducible assumption)))
  | exact ls2 (And.left (And.right (And.right (by with_reducible assumption))))
  | exact ls2 (And.right (by with_reducible assumption))
  | exact ls2 (And.right (And.right (by with_reducible assumption)))
  | exact Ne.symm (And.left (by with_reducible assumption))
  | exact Ne.symm (And.left (And.right (by with_reducible assumption)))
  | exact Ne.symm (And.left (And.right (And.right (by with_reducible assumption))))
  | exact Ne.symm (And.right (And.right (And.right (by with_reducible assumption))))
  | exact Ne.symm (And.left (And.left (by with_reducible assumption)))
  | exact Ne.symm (And.left (And.right (And.left (by with_reducible assumption))))
  | exact Ne.symm (And.right (And.right (And.left (by with_reducible assumption))))
  | exact Ne.symm (And.left (And.left (And.right (by with_reducible assumption))))
  | exact Ne.symm (And.left (And.right (And.left (And.right (by with_reducible assumption)))))
  | exact Ne.symm (And.right (And.right (And.left (And.right (by with_reducible assumption)))))
  | exact Ne.symm (And.left (And.left (And.right (And.right (by with_reducible assumption)))))
  | exact Ne.symm (And.left (And.right (And.left (And.right (And.right (by with_reducible assumption))))))
  | exact Ne.symm (And.right (And.right (And.left (And.right (And.right (by with_reducible assumption))))))
  | exact Ne.symm (And.left (And.right (And.right (And.right (by with_reducible assumption)))))
  | exact Ne.symm (And.left (And.right (And.right (And.right (And.right (by with_reducible assumption))))))
  | exact Ne.symm (And.right (And.right (And.right (And.right (And.right (by with_reducible assumption))))))
  | exact (And.left (by with_reducible assumption))
  | exact (And.left (And.right (by with_reducible assumption)))
  | exact (And.left (And.right (And.right (by with_reducible assumption))))
  | exact (And.right (And.right (And.right (by with_reducible assumption))))
  | exact (And.left (And.left (by with_reducible assumption)))
  | exact (And.left (And.right (And.left (by with_reducible assumption))))
  | exact (And.right (And.right (And.left (by with_reducible assumption))))
  | exact (And.left (And.left (And.right (by with_reducible assumption))))
  | exact (And.left (And.right (And.left (And.right (by with_reducible assumption)))))
  | exact (And.right (And.right (And.left (And.right (by with_reducible assumption)))))
  | exact (And.left (And.left (And.right (And.right (by with_reducible assumption)))))
  | exact (And.left (And.right (And.left (And.right (And.right (by with_reducible assumption))))))
  | exact (And.right (And.right (And.left (And.right (And.right (by with_reducible assumption))))))
  | exact (And.left (And.right (And.right (And.right (by with_reducible assumption)))))
  | exact (And.left (And.right (And.right (And.right (And.right (by with_reducible assumption))))))
  | exact (And.right (And.right (And.right (And.right (And.right (by with_reducible assumption))))))
  | exact gt2 (by with_reducible assumption) (by with_reducible assumption)
  | fail "no ne"))))
  k_with "units_room" => ((simp only [units_under_make, units_in1, units_deeper, Around.mark_units, units_caller, cLine]; (try dsimp only [ktrTop]); omega))
  k_with "ktr_room" => (((simp only [depth_under_make, depth_under_kw, depth_in1, depth_deeper, depth_caller, recursionLimit]); (try dsimp only [ktrTop]); omega))
  k_with "k_room" => (((simp only [depth_under_make, depth_under_kw, depth_in1, depth_deeper, depth_caller, recursionLimit]); (try dsimp only [ktrTop]); omega))
  k_with "k_all" => (first | assumption | exact ne_of_allLt (by assumption) | exact ne_of_allLt (And.right (by assumption)) | exact ne_of_allLt (And.right (And.right (by assumption))) | exact ne_of_allLt (And.right (And.right (And.right (by assumption)))))
  k_with "m exec For" => (((with_reducible show wpAny _ _ (exec (Stmt.For (PySem.Expr.Name _ _) _ _ [] _) _) _ _ _); (rename Fr _ _ _ _ => lF'); (with_unfolding_all refine' For_invVF lF' ?k1 ?k2 ?_; (case k1 => exact rfl); (case k2 => exact rfl); k_whole)))
  k_with "m InvEndN" => ((refine InvEndN.intro (by assumption) (by assumption) ⟨rfl, ⟨_, by with_unfolding_all rfl⟩, fun z h1 h2 => by first | (simp only [if_neg h1, if_neg h2]; done) | (simp only [if_neg h1, if_neg h2]; rfl) | exact (if_neg h1).trans (if_neg h2)⟩ rfl ?zz1 ?zz2; (case zz1 => exact fun p hp => List.mem_append_left _ hp); (case zz2 => exact fun p hp => List.mem_append_right _ hp)))
  k_with "m ite" => (first | refine ite_pos (by (simp; done)) ?_ | refine ite_neg (by (simp; done)) ?_)
  k_with "kba_size" => (((try simp only [List.length_append, be_length, List.length_cons, List.length_nil, List.length_map, List.length_take, List.length_drop, Int.reduceToNat]); omega))
  k_with "kba_size" => (((try simp only [List.length_append, be_length, tag_length, idsOf_length, bodyOf_length, tokOf_length, retryRaw_length, retryTag_length, retryPkt_length, negPkt_length, flat4_length, List.length_cons, List.length_nil, List.length_map, List.length_take, List.length_drop, List.length_set, Int.reduceToNat]); first | done | omega))
  trivial
theorem pick_13 {h₀ h : Heap} {L : Addr} {a b c d : Addr × Obj} (N : News h₀ L h [a, b, c, d]) : News h₀ L h [a, c] := fun p hp => N p (by
  rcases List.mem_cons.mp hp with rfl | hp
  · exact .head _
  · rw [List.mem_singleton.mp hp]; exact .tail _ (.tail _ (.head _)))
theorem abs_pos {ns : List Int} : ∀ n ∈ List.map (fun k' : Int => if k' < 0 then -k' else k') ns, 0 ≤ n := fun n hn => by
  obtain ⟨k, _, rfl⟩ := List.mem_map.1 hn
  split <;> omega
theorem draws_ctr (w : World) (l : Addr) (vs : List Value) (ns : List Int) (hi : IntsAre vs ns) (hlen : ns.length ≤ 63) :
  ∀ (mean : ExcName → Option Value) (mg mb : PySem.Str → Option Value) (dp un : Nat) (gd : Option (List Code)) (cn : PySem.Str) (cs : Scope) (a : Addr) (ccd : Value) (cl : List (PySem.Str × Addr)) (outer : List Env) (A₀ : Around) (base h₀ : Heap) (L : Addr) (m : PySem.Str → Option Value) (s : Shared) (Q E : Value → Shared → Prop),
    h₀.IsList l vs.toArray → Below A₀ base outer h₀ → Fr h₀ L s.heap m → (Mine.hd.heap_1 w.params).In h₀ → News h₀ L s.heap [] → Top Mine.view Lo mean mg mb h₀ → cs.kind = .function →
    dp + 20 < 1000 → un + 2000 < 9900 →
    (∀ d r od oR h' tk', Fr h₀ L h' m → News h₀ L h' [(d, od), (r, oR)] → @LT.lt Nat _ r d → DrawsOk r od oR → Q (.ref d) { s with heap := h', toks := tk' }) →
    wpAny (model PySem.Challenge.rw_no0079_01.row.prog w) (ktrTop dp un gd cn cs L a ccd cl outer) (call (.ref 324) [.ref l]) Q E s := use _ (by exact True.intro : Wit (by
  k_fill
  intro mean mg mb dp un gd cn cs a ccd cl outer A₀ base h₀ L m s Q E hls B F X N T hk hd hu hret
  refine wpAny_call ?_
  k_dflt cell_enter
  rename Fr h₀ L _ m => FG9
  have hls2 := hls.at fun o e => FG9.keep _ o e
  k_steps
  refine hret _ _ _ _ _ _ (by k_asm) (pick_13 (by k_asm)) ?_ ⟨_, _, _, _, _, _, rfl, rfl, by assumption, abs_pos, (seed_in _ _ (by decide)).1, (seed_in _ _ (by decide)).2, by rw [List.length_map]; omega⟩
  exact And.left (And.right (by assumption))
  ))

end Mine
end

section
open PySem PySem.W PyProof.Rows PySem.Calls PySem.Spec
set_option maxRecDepth 100000
set_option maxHeartbeats 0
namespace Mine
theorem regT16x1 : True := by
  k_with_none
  k_with "k_steps" => ((repeat' (first | (k_unfold; (try dsimp only)) | (k_end; wrow_close) | ((fail_if_success (with_reducible show wpAny _ _ (subscriptTail _ _ _ _) _ _ _)); dsimp only; walk1) | walk1 | (dsimp only; walk1) | (leave1; walk_say "STEP leave1"; try dsimp only) | fail "no step")))
  k_with "omega" => ((first
  | ((with_reducible show @LT.lt Nat _ _ _); first | (with_reducible assumption) | ((with_reducible refine' rm2 ?omA ?omB); (case omA => with_reducible assumption); (case omB => exact rfl)) | ((with_reducible refine' rm1 ?omA ?omB); (case omA => with_reducible assumption); (case omB => exact rfl)) | ((with_reducible refine' rm0 ?omA); (case omA => with_reducible assumption)) | ((with_reducible refine' ltL ?omA ?omB); (case omA => with_reducible assumption); (case omB => exact rfl)) | ((with_reducible refine' rm3 ?omA ?omB); (case omA => with_reducible assumption); (case omB => exact rfl)) | (simp only [Nat.reduceAdd, Nat.reduceMul, Nat.reduceSub, Nat.reducePow, Nat.reduceLeDiff, Nat.reduceLT, Nat.zero_le, Nat.le_refl, Nat.zero_lt_one]; done))
  | ((with_reducible show @LE.le Nat _ _ _); first | (with_reducible assumption) | (with_reducible exact Nat.zero_le _) | ((with_reducible refine' leL ?omA ?omB); (case omA => with_reducible assumption); (case omB => exact rfl)) | (simp only [Nat.reduceAdd, Nat.reduceMul, Nat.reduceSub, Nat.reducePow, Nat.reduceLeDiff, Nat.reduceLT, Nat.zero_le, Nat.le_refl, Nat.zero_lt_one]; done))
  | ((with_reducible show @Ne Nat _ _); (with_reducible first
  | assumption
  | exact Ne.symm (by with_reducible assumption)
  | exact Nat.ne_of_gt (by with_reducible assumption)
  | exact Nat.ne_of_gt (And.left (by with_reducible assumption))
  | exact Nat.ne_of_gt (And.left (And.right (by with_reducible assumption)))
  | exact Nat.ne_of_gt (And.left (And.right (And.right (by with_reducible assumption))))
  | exact Nat.ne_of_gt (And.right (by with_reducible assumption))
  | exact Nat.ne_of_gt (And.right (And.right (by with_reducible assumption)))
  | exact gs1 (by with_reducible assumption)
  | exact gs1 (And.left (by with_reducible assumption))
  | exact gs1 (And.left (And.right (by with_reducible assumption)))
  | exact gs1 (And.left (And.right (And.right (by with_reducible assumption))))
  | exact gs1 (And.right (by with_reducible assumption))
  | exact gs1 (And.right (And.right (by with_reducible assumption)))
  | exact gs2 (by with_reducible assumption)
  | exact gs2 (And.left (by with_reducible assumption))
  | exact gs2 (And.left (And.right (by with_reducible assumption)))
  | exact gs2 (And.left (And.right (And.right (by with_reducible assumption))))
  | exact gs2 (And.right (by with_reducible assumption))
  | exact gs2 (And.right (And.right (by with_reducible assumption)))
  | exact Nat.ne_of_lt (by with_reducible assumption)
  | exact Nat.ne_of_lt (And.left (by with_reducible assumption))
  | exact Nat.ne_of_lt (And.left (And.right (by with_reducible assumption)))
  | exact Nat.ne_of_lt (And.left (And.right (And.right (by with_reducible assumption))))
  | exact Nat.ne_of_lt (And.right (by with_reducible assumption))
  | exact Nat.ne_of_lt (And.right (And.right (by with_reducible assumption)))
  | exact ls1 (by with_reducible assumption)
  | exact ls1 (And.left (by with_reducible assumption))
  | exact ls1 (And.left (And.right (by with_reducible assumption)))
  | exact ls1 (And.left (And.right (And.right (by with_reducible assumption))))
  | exact ls1 (And.right (by with_reducible assumption))
  | exact ls1 (And.right (And.right (by with_reducible assumption)))
  | exact ls2 (by with_reducible assumption)
  | exact ls2 (And.left (by with_reducible assumption))
  | exact ls2 (And.left (And.right (by with_reducible assumption)))
  | exact ls2 (And.left (And.right (And.right (by with_reducible assumption))))
  | exact ls2 (And.right (by with_reducible assumption))
  | exact ls2 (And.right (And.right (by with_reducible assumption)))
  | exact Ne.symm (And.left (by with_reducible assumption))
  | exact Ne.symm (And.left (And.right (by with_reducible assumption)))
  | exact Ne.symm (And.left (And.right (And.right (by with_reducible assumption))))
  | exact Ne.symm (And.right (And.right (And.right (by with_reducible assumption))))
  | exact Ne.symm (And.left (And.left (by with_reducible assumption)))
  | exact Ne.symm (And.left (And.right (And.left (by with_reducible assumption))))
  | exact Ne.symm (And.right (And.right (And.left (by with_reducible assumption))))
  | exact Ne.symm (And.left (And.left (And.right (by with_reducible assumption))))
  | exact Ne.symm (And.left (And.right (And.left (And.right (by with_reducible assumption)))))
  | exact Ne.symm (And.right (And.right (And.left (And.right (by with_reducible assumption)))))
  | exact Ne.symm (And.left (And.left (And.right (And.right (by with_reducible assumption)))))
  | exact Ne.symm (And.left (And.right (And.left (And.right (And.right (by with_reducible assumption))))))
  | exact Ne.symm (And.right (And.right (And.left (And.right (And.right (by with_reducible assumption))))))
  | exact Ne.symm (And.left (And.right (And.right (And.right (by with_reducible assumption)))))
  | exact Ne.symm (And.left (And.right (And.right (And.right (And.right (by with_reducible assumption))))))
  | exact Ne.symm (And.right (And.right (And.right (And.right (And.right (by with_reducible assumption))))))
  | exact (And.left (by with_reducible assumption))
  | exact (And.left (And.right (by with_reducible assumption)))
  | exact (And.left (And.right (And.right (by with_reducible assumption))))
  | exact (And.right (And.right (And.right (by with_reducible assumption))))
  | exact (And.left (And.left (by with_reducible assumption)))
  | exact (And.left (And.right (And.left (by with_reducible assumption))))
  | exact (And.right (And.right (And.left (by with_reducible assumption))))
  | exact (And.left (And.left (And.right (by with_reducible assumption))))
  | exact (And.left (And.right (And.left (And.right (by with_reducible assumption)))))
  | exact (And.right (And.right (And.left (And.right (by with_reducible assumption)))))
  | exact (And.left (And.left (And.right (And.right (by with_reducible assumption)))))
  | exact (And.left (And.right (And.left (And.right (And.right (by with_reducible assumption))))))
  | exact (And.right (And.right (And.left (And.right (And.right (by with_reducible assumption))))))
  | exact (And.left (And.right (And.right (And.right (by with_reducible assumption)))))
  | exact (And.left (And.right (And.right (And.right (And.right (by with_reducible assumption))))))
  | exact (And.right (And.right (And.right (And.right (And.right (by with_reducible assumption))))))
  | exact gt2 (by with_reducible assumption) (by with_reducible assumption)
  | fail "no ne"))))
  k_with "units_room" => ((simp only [units_under_make, units_in1, units_deeper, Around.mark_units, units_caller, cLine]; (try dsimp only [ktrTop]); omega))
  k_with "ktr_room" => (((simp only [depth_under_make, depth_under_kw, depth_in1, depth_deeper, depth_caller, recursionLimit]); (try dsimp only [ktrTop]); omega))
  k_with "k_room" => (((simp only [depth_under_make, depth_under_kw, depth_in1, depth_deeper, depth_caller, recursionLimit]); (try dsimp only [ktrTop]); omega))
  k_with "k_all" => (first | assumption | exact ne_of_allLt (by assumption) | exact ne_of_allLt (And.right (by assumption)) | exact ne_of_allLt (And.right (And.right (by assumption))) | exact ne_of_allLt (And.right (And.right (And.right (by assumption)))))
  k_with "m exec For" => (((with_reducible show wpAny _ _ (exec (Stmt.For (PySem.Expr.Name _ _) _ _ [] _) _) _ _ _); (rename Fr _ _ _ _ => lF'); (with_unfolding_all refine' For_invVF lF' ?k1 ?k2 ?_; (case k1 => exact rfl); (case k2 => exact rfl); k_whole)))
  k_with "m InvEndN" => ((refine InvEndN.intro (by assumption) (by assumption) ⟨rfl, ⟨_, by with_unfolding_all rfl⟩, fun z h1 h2 => by first | (simp only [if_neg h1, if_neg h2]; done) | (simp only [if_neg h1, if_neg h2]; rfl) | exact (if_neg h1).trans (if_neg h2)⟩ rfl ?zz1 ?zz2; (case zz1 => exact fun p hp => List.mem_append_left _ hp); (case zz2 => exact fun p hp => List.mem_append_right _ hp)))
  k_with "m ite" => (first | refine ite_pos (by (simp; done)) ?_ | refine ite_neg (by (simp; done)) ?_)
  k_with "kba_size" => (((try simp only [List.length_append, be_length, List.length_cons, List.length_nil, List.length_map, List.length_take, List.length_drop, Int.reduceToNat]); omega))
  k_with "kba_size" => (((try simp only [List.length_append, be_length, tag_length, idsOf_length, bodyOf_length, tokOf_length, retryRaw_length, retryTag_length, retryPkt_length, negPkt_length, flat4_length, List.length_cons, List.length_nil, List.length_map, List.length_take, List.length_drop, List.length_set, Int.reduceToNat]); first | done | omega))
  k_with "m wpC" => ((
  (fail_if_success (with_reducible show wpC _ _ (call (Value.ref 89) _) _ _ _));
  (fail_if_success (with_reducible show wpC _ _ (call (Value.ref 200) _) _ _ _));
  (fail_if_success (with_reducible show wpC _ _ (call (Value.ref 207) _) _ _ _));
  (fail_if_success (with_reducible show wpC _ _ (call (Value.ref 256) _) _ _ _));
  (fail_if_success (with_reducible show wpC _ _ (call (Value.ref 270) _) _ _ _));
  (fail_if_success (with_reducible show wpC _ _ (call (Value.ref 284) _) _ _ _));
  (fail_if_success (with_reducible show wpC _ _ (call (Value.ref 291) _) _ _ _));
  (fail_if_success (with_reducible show wpC _ _ (call (Value.ref 298) _) _ _ _));
  (fail_if_success (with_reducible show wpC _ _ (call (Value.ref 305) _) _ _ _));
  (fail_if_success (with_reducible show wpC _ _ (call (Value.ref 312) _) _ _ _));
  (fail_if_success (with_reducible show wpC _ _ (call (Value.ref 348) _) _ _ _));
  (fail_if_success (with_reducible show wpC _ _ (call (Value.ref 355) _) _ _ _));
  (fail_if_success (with_reducible show wpC _ _ (call (Value.ref 362) _) _ _ _));
  refine C_any ?_; (try k_fold)))
  k_with "m wpC" => ((k_dflt (with_reducible first
  | refine C_execs_cons ?_
  | refine C_Return ?_
  | refine C_BinOp ?_
  | refine C_Tuple ?_
  | refine C_Call ?_)))
  k_with "m wpC" => ((k_dflt (first
  | ((with_reducible show wpC _ _ (exec (Stmt.Assign [PySem.Expr.Name _ _] _ _) _) _ _ _); refine C_Assign_Name ?_)
  | ((with_reducible show wpC _ _ (eval (PySem.Expr.Compare _ [_] [_] _) _) _ _ _); refine C_Compare ?_)
  | ((with_reducible show wpC _ _ (spliced (backTo _ (starEach (_ :: _) _))) _ _ _); refine C_args_cons ?_)
  | ((with_reducible show wpC _ _ (spliced (backTo _ (starEach [] _))) _ _ _); refine C_args_nil ?_)
  | ((with_reducible show wpC _ _ (callWith _ (Value.builtin _) _ _ _) _ _ _); refine C_callWith_builtin ?_)
  | ((with_reducible show wpC _ _ (callWith _ (Value.type _) _ _ _) _ _ _); refine C_callWith_type ?_)
  | ((with_reducible show wpC _ _ (callWith _ (Value.ref _) _ _ _) _ _ _); refine' C_callK ?k0 ?k1 ?_; (case k0 => k_asm); (case k1 => k_is)))))
  k_with "m wpC" => ((k_dflt (with_reducible first
  | refine C_If ?_
  | refine C_isTrue_Compare ?_
  | refine C_isTrue_not ?_
  | refine C_isTrue_or_nil ?_
  | refine C_isTrue_or ?_
  | refine C_And ?_)))
  k_with "m wpC" => ((k_dflt (first
  | ((with_reducible show wpC _ _ (isTrue (PySem.Expr.Call _ _ _ _) _ _) _ _ _); refine C_isTrue_plain ?_)
  | ((with_reducible show wpC _ _ (isTrue (PySem.Expr.Name _ _) _ _) _ _ _); refine C_isTrue_plain ?_)
  | ((with_reducible show wpC _ _ (eval (PySem.Expr.UnaryOp _ _ _) _) _ _ _); refine C_UnaryOp ?_))))
  k_with "m storeName" => ((k_dflt (refine' storeL ?F ?N ?_ ?a ?b; (case F => k_asm); (case N => k_asm); (case a => rfl); (case b => rfl); k_whole; intro h' m' F' N'; (try k_sweep))))
  k_with "m wpC" => (((with_reducible show wpC _ _ (call (Value.ref 200) _) _ _ _); k_dflt (refine' (put_negotiation_ctr _ _ _ _ _ _ _ _ _ _ _ _ _ _ ?p1 ?p2 ?p3 ?p4 ?p5 ?p6 ?p7 ?p8 ?p9 ?q1) _ _ _ _ _ _ _ _ _ _ _ _ _ _ _ _ _ _ _ _ ?kB ?kF ?kX ?kN ?kT ?kK ?kD ?kW ?_; (case kB => k_asm); (case kF => k_asm); (case kX => k_asm); (case kN => k_asm); (case kT => k_asm); (case kK => first | exact rfl | assumption); (case kD => ((simp only [depth_under_make, depth_under_kw, depth_in1, depth_deeper, depth_caller]); (try dsimp only [ktrTop]); omega)); (case kW => ((simp only [units_under_make, units_in1, units_deeper, Around.mark_units, units_caller]); (try dsimp only [ktrTop]); omega)); (case p1 => k_memK); (case p2 => assumption); (case p3 => assumption); (case p4 => omega); (case p5 => assumption); (case p6 => assumption); (case p7 => omega); (case p8 => omega); (case p9 => omega); (case q1 => omega)); (intro v' nw' h' tk' F' N' hv'); (obtain ⟨b', t', e', hb', en'⟩ := hv'; subst e'; subst en'); (try k_sweep)))
  k_with "m getAttr ref" => ((first
  | ((with_reducible show wpAny _ _ (getAttr (Value.ref _) (PySem.Str.ofString "kind") _) _ _ _); k_dflt (refine' raw_kind ?F ?X ?N ?x ?d ?r ?_; (case F => k_asm); (case X => k_asm); (case N => k_asm); (case x => k_mem); (case d => k_mem); (case r => assumption)); (intro t'))
  | ((with_reducible show wpAny _ _ (getAttr (Value.ref _) (PySem.Str.ofString "version") _) _ _ _); k_dflt (refine' raw_version ?F ?X ?N ?x ?d ?r ?_; (case F => k_asm); (case X => k_asm); (case N => k_asm); (case x => k_mem); (case d => k_mem); (case r => assumption)); (intro t'))
  | ((with_reducible show wpAny _ _ (getAttr (Value.ref _) (PySem.Str.ofString "dcid") _) _ _ _); k_dflt (refine' raw_dcid ?F ?X ?N ?x ?d ?r ?_; (case F => k_asm); (case X => k_asm); (case N => k_asm); (case x => k_mem); (case d => k_mem); (case r => assumption)); (intro t'))
  | ((with_reducible show wpAny _ _ (getAttr (Value.ref _) (PySem.Str.ofString "scid") _) _ _ _); k_dflt (refine' raw_scid ?F ?X ?N ?x ?d ?r ?_; (case F => k_asm); (case X => k_asm); (case N => k_asm); (case x => k_mem); (case d => k_mem); (case r => assumption)); (intro t'))
  | ((with_reducible show wpAny _ _ (getAttr (Value.ref _) (PySem.Str.ofString "token") _) _ _ _); k_dflt (refine' raw_token ?F ?X ?N ?x ?d ?r ?_; (case F => k_asm); (case X => k_asm); (case N => k_asm); (case x => k_mem); (case d => k_mem); (case r => assumption)); (intro t'))
  | ((with_reducible show wpAny _ _ (getAttr (Value.ref _) (PySem.Str.ofString "tag") _) _ _ _); k_dflt (refine' raw_tag ?F ?X ?N ?x ?d ?r ?_; (case F => k_asm); (case X => k_asm); (case N => k_asm); (case x => k_mem); (case d => k_mem); (case r => assumption)); (intro t'))
  | ((with_reducible show wpAny _ _ (getAttr (Value.ref _) (PySem.Str.ofString "versions") _) _ _ _); k_dflt (refine' raw_versions ?F ?X ?N ?x ?d ?r ?_; (case F => k_asm); (case X => k_asm); (case N => k_asm); (case x => k_mem); (case d => k_mem); (case r => assumption)))
  | ((with_reducible show wpAny _ _ (getAttr (Value.ref _) (PySem.Str.ofString "end") _) _ _ _); k_dflt (refine' raw_end ?F ?X ?N ?x ?d ?r ?_; (case F => k_asm); (case X => k_asm); (case N => k_asm); (case x => k_mem); (case d => k_mem); (case r => assumption)); (intro t'))))
  trivial
theorem negotiation_ctr (w : World) (x d V Vd : Addr) (vs : List Value) (nv : Nat) (vers : List Int) (bd bs : Array UInt8) (kd ks : List Int) (first version zl : Int) (od : Obj) (low : Int) (tl : Tok) (rest : List (Addr × Obj)) (hr : RawO w od (PySem.Str.ofString "unknown") first version bd bs #[] #[] V zl) (hi : IntsAre vs vers) (hv : ∀ n ∈ vers, 0 ≤ n ∧ n < 4294967296) (hl : vers.length ≤ 100)
    (hd1 : KBw.bInts bd = kd) (hs1 : KBw.bInts bs = ks) (l1 : kd.length ≤ 100) (l2 : ks.length ≤ 100) (h0 : 0 ≤ low) (h1 : low < 256) :
    CtrC w 270 30 3000 [.ref x, .int low tl, .ref Vd] ((x, instObj 177 d) :: (d, od) :: (Vd, W.listOf vs.toArray nv) :: rest) (fun v news' => ∃ b t, v = .bytes b t ∧ KBw.bInts b = negPkt low ks kd vers ∧ news' = (x, instObj 177 d) :: (d, od) :: (Vd, W.listOf vs.toArray nv) :: rest) := use _ (by exact True.intro : Wit (by
  unfold CtrC
  k_fill
  intro mean mg mb dp un gd cn cs a ccd cl outer A₀ base h₀ L m s Q E B F X N T hk hd hu hret
  refine C_call ?_
  k_dflt (refine' code_defK ?k1 ?k2 ?k3 ?k4 ?k5 ?kA ?kF ?kK ?k6 ?k7 ?k8 ?k9 ?kB ?_ ?c2 ?c3 ?c4 ?c5; (case kA => exact rfl); (case kF => exact rfl); (case kK => assumption); (case k1 => k_asm); (case k2 => k_asm); (case k3 => k_asm); (case k4 => k_asm); (case k5 => k_asm); (case k6 => k_is); (case k7 => k_is); (case k8 => ktr_room); (case k9 => exact BindsTo.of_eq rfl); (case c5 => decide); (case kB => exact locs rfl); (case c2 => exact rfl); (case c3 => exact rfl); (case c4 => exact rfl); k_whole; intro g' L' h' FG' F' N' B' X' T'; (try (revert F'; refine letm ?_; intro m' F')); (try dsimp only); (try k_lift B'))
  k_steps
  exact hret _ _ _ _ (by k_asm) (by k_asm) ⟨_, _, rfl, by assumption, rfl⟩
  ))

end Mine
end

section
open PySem PySem.W PyProof.Rows PySem.Calls PySem.Spec
set_option maxRecDepth 100000
set_option maxHeartbeats 0
namespace Mine
theorem regT17x1 : True := by
  k_with_none
  k_with "k_steps" => ((repeat' (first | (k_unfold; (try dsimp only)) | (k_end; wrow_close) | ((fail_if_success (with_reducible show wpAny _ _ (subscriptTail _ _ _ _) _ _ _)); dsimp only; walk1) | walk1 | (dsimp only; walk1) | (leave1; walk_say "STEP leave1"; try dsimp only) | fail "no step")))
  k_with "omega" => ((first
  | ((with_reducible show @LT.lt Nat _ _ _); first | (with_reducible assumption) | ((with_reducible refine' rm2 ?omA ?omB); (case omA => with_reducible assumption); (case omB => exact rfl)) | ((with_reducible refine' rm1 ?omA ?omB); (case omA => with_reducible assumption); (case omB => exact rfl)) | ((with_reducible refine' rm0 ?omA); (case omA => with_reducible assumption)) | ((with_reducible refine' ltL ?omA ?omB); (case omA => with_reducible assumption); (case omB => exact rfl)) | ((with_reducible refine' rm3 ?omA ?omB); (case omA => with_reducible assumption); (case omB => exact rfl)) | (simp only [Nat.reduceAdd, Nat.reduceMul, Nat.reduceSub, Nat.reducePow, Nat.reduceLeDiff, Nat.reduceLT, Nat.zero_le, Nat.le_refl, Nat.zero_lt_one]; done))
  | ((with_reducible show @LE.le Nat _ _ _); first | (with_reducible assumption) | (with_reducible exact Nat.zero_le _) | ((with_reducible refine' leL ?omA ?omB); (case omA => with_reducible assumption); (case omB => exact rfl)) | (simp only [Nat.reduceAdd, Nat.reduceMul, Nat.reduceSub, Nat.reducePow, Nat.reduceLeDiff, Nat.reduceLT, Nat.zero_le, Nat.le_refl, Nat.zero_lt_one]; done))
  | ((with_reducible show @Ne Nat _ _); (with_reducible first
  | assumption
  | exact Ne.symm (by with_reducible assumption)
  | exact Nat.ne_of_gt (by with_reducible assumption)
  | exact Nat.ne_of_gt (And.left (by with_reducible assumption))
  | exact Nat.ne_of_gt (And.left (And.right (by with_reducible assumption)))
  | exact Nat.ne_of_gt (And.left (And.right (And.right (by with_reducible assumption))))
  | exact Nat.ne_of_gt (And.right (by with_reducible assumption))
  | exact Nat.ne_of_gt (And.right (And.right (by with_reducible assumption)))
  | exact gs1 (by with_reducible assumption)
  | exact gs1 (And.left (by with_reducible assumption))
  | exact gs1 (And.left (And.right (by with_reducible assumption)))
  | exact gs1 (And.left (And.right (And.right (by with_reducible assumption))))
  | exact gs1 (And.right (by with_reducible assumption))
  | exact gs1 (And.right (And.right (by with_reducible assumption)))
  | exact gs2 (by with_reducible assumption)
  | exact gs2 (And.left (by with_reducible assumption))
  | exact gs2 (And.left (And.right (by with_reducible assumption)))
  | exact gs2 (And.left (And.right (And.right (by with_reducible assumption))))
  | exact gs2 (And.right (by with_reducible assumption))
  | exact gs2 (And.right (And.right (by with_reducible assumption)))
  | exact Nat.ne_of_lt (by with_reducible assumption)
  | exact Nat.ne_of_lt (And.left (by with_reducible assumption))
  | exact Nat.ne_of_lt (And.left (And.right (by with_reducible assumption)))
  | exact Nat.ne_of_lt (And.left (And.right (And.right (by with_reducible assumption))))
  | exact Nat.ne_of_lt (And.right (by with_reducible assumption))
  | exact Nat.ne_of_lt (And.right (And.right (by with_reducible assumption)))
  | exact ls1 (by with_reducible assumption)
  | exact ls1 (And.left (by with_reducible assumption))
  | exact ls1 (And.left (And.right (by with_reducible assumption)))
  | exact ls1 (And.left (And.right (And.right (by with_reducible assumption))))
  | exact ls1 (And.right (by with_reducible assumption))
  | exact ls1 (And.right (And.right (by with_reducible assumption)))
  | exact ls2 (by with_reducible assumption)
  | exact ls2 (And.left (by with_reducible assumption))
  | exact ls2 (And.left (And.right (by with_reducible assumption)))
  | exact ls2 (And.left (And.right (And.right (by with_reducible assumption))))
  | exact ls2 (And.right (by with_reducible assumption))
  | exact ls2 (And.right (And.right (by with_reducible assumption)))
  | exact Ne.symm (And.left (by with_reducible assumption))
  | exact Ne.symm (And.left (And.right (by with_reducible assumption)))
  | exact Ne.symm (And.left (And.right (And.right (by with_reducible assumption))))
  | exact Ne.symm (And.right (And.right (And.right (by with_reducible assumption))))
  | exact Ne.symm (And.left (And.left (by with_reducible assumption)))
  | exact Ne.symm (And.left (And.right (And.left (by with_reducible assumption))))
  | exact Ne.symm (And.right (And.right (And.left (by with_reducible assumption))))
  | exact Ne.symm (And.left (And.left (And.right (by with_reducible assumption))))
  | exact Ne.symm (And.left (And.right (And.left (And.right (by with_reducible assumption)))))
  | exact Ne.symm (And.right (And.right (And.left (And.right (by with_reducible assumption)))))
  | exact Ne.symm (And.left (And.left (And.right (And.right (by with_reducible assumption)))))
  | exact Ne.symm (And.left (And.right (And.left (And.right (And.right (by with_reducible assumption))))))
  | exact Ne.symm (And.right (And.right (And.left (And.right (And.right (by with_reducible assumption))))))
  | exact Ne.symm (And.left (And.right (And.right (And.right (by with_reducible assumption)))))
  | exact Ne.symm (And.left (And.right (And.right (And.right (And.right (by with_reducible assumption))))))
  | exact Ne.symm (And.right (And.right (And.right (And.right (And.right (by with_reducible assumption))))))
  | exact (And.left (by with_reducible assumption))
  | exact (And.left (And.right (by with_reducible assumption)))
  | exact (And.left (And.right (And.right (by with_reducible assumption))))
  | exact (And.right (And.right (And.right (by with_reducible assumption))))
  | exact (And.left (And.left (by with_reducible assumption)))
  | exact (And.left (And.right (And.left (by with_reducible assumption))))
  | exact (And.right (And.right (And.left (by with_reducible assumption))))
  | exact (And.left (And.left (And.right (by with_reducible assumption))))
  | exact (And.left (And.right (And.left (And.right (by with_reducible assumption)))))
  | exact (And.right (And.right (And.left (And.right (by with_reducible assumption)))))
  | exact (And.left (And.left (And.right (And.right (by with_reducible assumption)))))
  | exact (And.left (And.right (And.left (And.right (And.right (by with_reducible assumption))))))
  | exact (And.right (And.right (And.left (And.right (And.right (by with_reducible assumption))))))
  | exact (And.left (And.right (And.right (And.right (by with_reducible assumption)))))
  | exact (And.left (And.right (And.right (And.right (And.right (by with_reducible assumption))))))
  | exact (And.right (And.right (And.right (And.right (And.right (by with_reducible assumption))))))
  | exact gt2 (by with_reducible assumption) (by with_reducible assumption)
  | fail "no ne"))))
  k_with "units_room" => ((simp only [units_under_make, units_in1, units_deeper, Around.mark_units, units_caller, cLine]; (try dsimp only [ktrTop]); omega))
  k_with "ktr_room" => (((simp only [depth_under_make, depth_under_kw, depth_in1, depth_deeper, depth_caller, recursionLimit]); (try dsimp only [ktrTop]); omega))
  k_with "k_room" => (((simp only [depth_under_make, depth_under_kw, depth_in1, depth_deeper, depth_caller, recursionLimit]); (try dsimp only [ktrTop]); omega))
  k_with "k_all" => (first | assumption | exact ne_of_allLt (by assumption) | exact ne_of_allLt (And.right (by assumption)) | exact ne_of_allLt (And.right (And.right (by assumption))) | exact ne_of_allLt (And.right (And.right (And.right (by assumption)))))
  k_with "m exec For" => (((with_reducible show wpAny _ _ (exec (Stmt.For (PySem.Expr.Name _ _) _ _ [] _) _) _ _ _); (rename Fr _ _ _ _ => lF'); (with_unfolding_all refine' For_invVF lF' ?k1 ?k2 ?_; (case k1 => exact rfl); (case k2 => exact rfl); k_whole)))
  k_with "m InvEndN" => ((refine InvEndN.intro (by assumption) (by assumption) ⟨rfl, ⟨_, by with_unfolding_all rfl⟩, fun z h1 h2 => by first | (simp only [if_neg h1, if_neg h2]; done) | (simp only [if_neg h1, if_neg h2]; rfl) | exact (if_neg h1).trans (if_neg h2)⟩ rfl ?zz1 ?zz2; (case zz1 => exact fun p hp => List.mem_append_left _ hp); (case zz2 => exact fun p hp => List.mem_append_right _ hp)))
  k_with "m ite" => (first | refine ite_pos (by (simp; done)) ?_ | refine ite_neg (by (simp; done)) ?_)
  k_with "kba_size" => (((try simp only [List.length_append, be_length, List.length_cons, List.length_nil, List.length_map, List.length_take, List.length_drop, Int.reduceToNat]); omega))
  k_with "kba_size" => (((try simp only [List.length_append, be_length, tag_length, idsOf_length, bodyOf_length, tokOf_length, retryRaw_length, retryTag_length, retryPkt_length, negPkt_length, flat4_length, List.length_cons, List.length_nil, List.length_map, List.length_take, List.length_drop, List.length_set, Int.reduceToNat]); first | done | omega))
  trivial
theorem check_none_ctr (w : World) (bs ba bt : Array UInt8) (ks ka kt : List Int) (ts ta tt t1 t2 : Tok) (now life : Int) (news : List (Addr × Obj)) (hs1 : KBw.bInts bs = ks) (ha1 : KBw.bInts ba = ka) (ht1 : KBw.bInts bt = kt) (l2 : ka.length ≤ 255) (l3 : kt.length ≤ 255) (hc : chk ks ka kt now life = none) :
    CtrC w 312 30 3000 [.bytes bs ts, .bytes ba ta, .bytes bt tt, .int now t1, .int life t2] news (fun v news' => v = .none ∧ news' = news) := use _ (by exact True.intro : Wit (by
  intro mean mg mb dp un gd cn cs a ccd cl outer A₀ base h₀ L m s Q E B F X N T hk hd hu hret
  refine check_token_ctr w bs ba bt ks ka kt ts ta tt t1 t2 now life news hs1 ha1 ht1 l2 l3 mean mg mb dp un gd cn cs a ccd cl outer A₀ base h₀ L m s Q E B F X N T hk hd hu fun r news' h' tk' F' N' p => hret r news' h' tk' F' N' ?_
  obtain ⟨⟨b, t, rfl, e⟩ | ⟨rfl, _⟩, rfl⟩ := p
  · rw [hc] at e; cases e
  · exact ⟨rfl, rfl⟩
  ))

theorem check_good_ctr (w : World) (bs ba bt : Array UInt8) (ks ka kt kd : List Int) (ts ta tt t1 t2 : Tok) (time now life : Int) (news : List (Addr × Obj)) (hs1 : KBw.bInts bs = ks) (ha1 : KBw.bInts ba = ka) (ht1 : KBw.bInts bt = kt) (ht : kt = tokOf ks ka kd time) (l2 : ka.length ≤ 255) (l3 : kd.length ≤ 20) (h0 : 0 ≤ time) (h1 : time < 1099511627776) :
    CtrC w 312 30 3000 [.bytes bs ts, .bytes ba ta, .bytes bt tt, .int now t1, .int life t2] news (fun v news' => ((time ≤ now ∧ now ≤ time + life ∧ ∃ b t, v = .bytes b t ∧ KBw.bInts b = kd) ∨ (¬ (time ≤ now ∧ now ≤ time + life) ∧ v = .none)) ∧ news' = news) := use _ (by exact True.intro : Wit (by
  intro mean mg mb dp un gd cn cs a ccd cl outer A₀ base h₀ L m s Q E B F X N T hk hd hu hret
  refine check_token_ctr w bs ba bt ks ka kt ts ta tt t1 t2 now life news hs1 ha1 ht1 l2 (by rw [ht, tokOf_length]; omega) mean mg mb dp un gd cn cs a ccd cl outer A₀ base h₀ L m s Q E B F X N T hk hd hu fun r news' h' tk' F' N' p => hret r news' h' tk' F' N' ?_
  rw [ht, chk_good h0 h1 l3] at p
  by_cases hw : time ≤ now ∧ now ≤ time + life
  · rw [if_pos hw] at p
    obtain ⟨⟨b, t, rfl, e⟩ | ⟨rfl, e⟩, rfl⟩ := p
    · exact ⟨.inl ⟨hw.1, hw.2, b, t, rfl, (Option.some.inj e).symm⟩, rfl⟩
    · cases e
  · rw [if_neg hw] at p
    obtain ⟨⟨b, t, rfl, e⟩ | ⟨rfl, e⟩, rfl⟩ := p
    · cases e
    · exact ⟨.inr ⟨hw, rfl⟩, rfl⟩
  ))

theorem regT17x2 : True := by
  k_with_none
  k_with "k_steps" => ((repeat' (first | (k_unfold; (try dsimp only)) | (k_end; wrow_close) | ((fail_if_success (with_reducible show wpAny _ _ (subscriptTail _ _ _ _) _ _ _)); dsimp only; walk1) | walk1 | (dsimp only; walk1) | (leave1; walk_say "STEP leave1"; try dsimp only) | fail "no step")))
  k_with "omega" => ((first
  | ((with_reducible show @LT.lt Nat _ _ _); first | (with_reducible assumption) | ((with_reducible refine' rm2 ?omA ?omB); (case omA => with_reducible assumption); (case omB => exact rfl)) | ((with_reducible refine' rm1 ?omA ?omB); (case omA => with_reducible assumption); (case omB => exact rfl)) | ((with_reducible refine' rm0 ?omA); (case omA => with_reducible assumption)) | ((with_reducible refine' ltL ?omA ?omB); (case omA => with_reducible assumption); (case omB => exact rfl)) | ((with_reducible refine' rm3 ?omA ?omB); (case omA => with_reducible assumption); (case omB => exact rfl)) | (simp only [Nat.reduceAdd, Nat.reduceMul, Nat.reduceSub, Nat.reducePow, Nat.reduceLeDiff, Nat.reduceLT, Nat.zero_le, Nat.le_refl, Nat.zero_lt_one]; done))
  | ((with_reducible show @LE.le Nat _ _ _); first | (with_reducible assumption) | (with_reducible exact Nat.zero_le _) | ((with_reducible refine' leL ?omA ?omB); (case omA => with_reducible assumption); (case omB => exact rfl)) | (simp only [Nat.reduceAdd, Nat.reduceMul, Nat.reduceSub, Nat.reducePow, Nat.reduceLeDiff, Nat.reduceLT, Nat.zero_le, Nat.le_refl, Nat.zero_lt_one]; done))
  | ((with_reducible show @Ne Nat _ _); (with_reducible first
  | assumption
  | exact Ne.symm (by with_reducible assumption)
  | exact Nat.ne_of_gt (by with_reducible assumption)
  | exact Nat.ne_of_gt (And.left (by with_reducible assumption))
  | exact Nat.ne_of_gt (And.left (And.right (by with_reducible assumption)))
  | exact Nat.ne_of_gt (And.left (And.right (And.right (by with_reducible assumption))))
  | exact Nat.ne_of_gt (And.right (by with_reducible assumption))
  | exact Nat.ne_of_gt (And.right (And.right (by with_reducible assumption)))
  | exact gs1 (by with_reducible assumption)
  | exact gs1 (And.left (by with_reducible assumption))
  | exact gs1 (And.left (And.right (by with_reducible assumption)))
  | exact gs1 (And.left (And.right (And.right (by with_reducible assumption))))
  | exact gs1 (And.right (by with_reducible assumption))
  | exact gs1 (And.right (And.right (by with_reducible assumption)))
  | exact gs2 (by with_reducible assumption)
  | exact gs2 (And.left (by with_reducible assumption))
  | exact gs2 (And.left (And.right (by with_reducible assumption)))
  | exact gs2 (And.left (And.right (And.right (by with_reducible assumption))))
  | exact gs2 (And.right (by with_reducible assumption))
  | exact gs2 (And.right (And.right (by with_reducible assumption)))
  | exact Nat.ne_of_lt (by with_reducible assumption)
  | exact Nat.ne_of_lt (And.left (by with_reducible assumption))
  | exact Nat.ne_of_lt (And.left (And.right (by with_reducible assumption)))
  | exact Nat.ne_of_lt (And.left (And.right (And.right (by with_reducible assumption))))
  | exact Nat.ne_of_lt (And.right (by with_reducible assumption))
  | exact Nat.ne_of_lt (And.right (And.right (by with_reducible assumption)))
  | exact ls1 (by with_reducible assumption)
  | exact ls1 (And.left (by with_reducible assumption))
  | exact ls1 (And.left (And.right (by with_reducible assumption)))
  | exact ls1 (And.left (And.right (And.right (by with_reducible assumption))))
  | exact ls1 (And.right (by with_reducible assumption))
  | exact ls1 (And.right (And.right (by with_reducible assumption)))
  | exact ls2 (by with_reducible assumption)
  | exact ls2 (And.left (by with_reducible assumption))
  | exact ls2 (And.left (And.right (by with_reducible assumption)))
  | exact ls2 (And.left (And.right (And.right (by with_reducible assumption))))
  | exact ls2 (And.right (by with_reducible assumption))
  | exact ls2 (And.right (And.right (by with_reducible assumption)))
  | exact Ne.symm (And.left (by with_reducible assumption))
  | exact Ne.symm (And.left (And.right (by with_reducible assumption)))
  | exact Ne.symm (And.left (And.right (And.right (by with_reducible assumption))))
  | exact Ne.symm (And.right (And.right (And.right (by with_reducible assumption))))
  | exact Ne.symm (And.left (And.left (by with_reducible assumption)))
  | exact Ne.symm (And.left (And.right (And.left (by with_reducible assumption))))
  | exact Ne.symm (And.right (And.right (And.left (by with_reducible assumption))))
  | exact Ne.symm (And.left (And.left (And.right (by with_reducible assumption))))
  | exact Ne.symm (And.left (And.right (And.left (And.right (by with_reducible assumption)))))
  | exact Ne.symm (And.right (And.right (And.left (And.right (by with_reducible assumption)))))
  | exact Ne.symm (And.left (And.left (And.right (And.right (by with_reducible assumption)))))
  | exact Ne.symm (And.left (And.right (And.left (And.right (And.right (by with_reducible assumption))))))
  | exact Ne.symm (And.right (And.right (And.left (And.right (And.right (by with_reducible assumption))))))
  | exact Ne.symm (And.left (And.right (And.right (And.right (by with_reducible assumption)))))
  | exact Ne.symm (And.left (And.right (And.right (And.right (And.right (by with_reducible assumption))))))
  | exact Ne.symm (And.right (And.right (And.right (And.right (And.right (by with_reducible assumption))))))
  | exact (And.left (by with_reducible assumption))
  | exact (And.left (And.right (by with_reducible assumption)))
  | exact (And.left (And.right (And.right (by with_reducible assumption))))
  | exact (And.right (And.right (And.right (by with_reducible assumption))))
  | exact (And.left (And.left (by with_reducible assumption)))
  | exact (And.left (And.right (And.left (by with_reducible assumption))))
  | exact (And.right (And.right (And.left (by with_reducible assumption))))
  | exact (And.left (And.left (And.right (by with_reducible assumption))))
  | exact (And.left (And.right (And.left (And.right (by with_reducible assumption)))))
  | exact (And.right (And.right (And.left (And.right (by with_reducible assumption)))))
  | exact (And.left (And.left (And.right (And.right (by with_reducible assumption)))))
  | exact (And.left (And.right (And.left (And.right (And.right (by with_reducible assumption))))))
  | exact (And.right (And.right (And.left (And.right (And.right (by with_reducible assumption))))))
  | exact (And.left (And.right (And.right (And.right (by with_reducible assumption)))))
  | exact (And.left (And.right (And.right (And.right (And.right (by with_reducible assumption))))))
  | exact (And.right (And.right (And.right (And.right (And.right (by with_reducible assumption))))))
  | exact gt2 (by with_reducible assumption) (by with_reducible assumption)
  | fail "no ne"))))
  k_with "units_room" => ((simp only [units_under_make, units_in1, units_deeper, Around.mark_units, units_caller, cLine]; (try dsimp only [ktrTop]); omega))
  k_with "ktr_room" => (((simp only [depth_under_make, depth_under_kw, depth_in1, depth_deeper, depth_caller, recursionLimit]); (try dsimp only [ktrTop]); omega))
  k_with "k_room" => (((simp only [depth_under_make, depth_under_kw, depth_in1, depth_deeper, depth_caller, recursionLimit]); (try dsimp only [ktrTop]); omega))
  k_with "k_all" => (first | assumption | exact ne_of_allLt (by assumption) | exact ne_of_allLt (And.right (by assumption)) | exact ne_of_allLt (And.right (And.right (by assumption))) | exact ne_of_allLt (And.right (And.right (And.right (by assumption)))))
  k_with "m exec For" => (((with_reducible show wpAny _ _ (exec (Stmt.For (PySem.Expr.Name _ _) _ _ [] _) _) _ _ _); (rename Fr _ _ _ _ => lF'); (with_unfolding_all refine' For_invVF lF' ?k1 ?k2 ?_; (case k1 => exact rfl); (case k2 => exact rfl); k_whole)))
  k_with "m InvEndN" => ((refine InvEndN.intro (by assumption) (by assumption) ⟨rfl, ⟨_, by with_unfolding_all rfl⟩, fun z h1 h2 => by first | (simp only [if_neg h1, if_neg h2]; done) | (simp only [if_neg h1, if_neg h2]; rfl) | exact (if_neg h1).trans (if_neg h2)⟩ rfl ?zz1 ?zz2; (case zz1 => exact fun p hp => List.mem_append_left _ hp); (case zz2 => exact fun p hp => List.mem_append_right _ hp)))
  k_with "m ite" => (first | refine ite_pos (by (simp; done)) ?_ | refine ite_neg (by (simp; done)) ?_)
  k_with "kba_size" => (((try simp only [List.length_append, be_length, List.length_cons, List.length_nil, List.length_map, List.length_take, List.length_drop, Int.reduceToNat]); omega))
  k_with "kba_size" => (((try simp only [List.length_append, be_length, tag_length, idsOf_length, bodyOf_length, tokOf_length, retryRaw_length, retryTag_length, retryPkt_length, negPkt_length, flat4_length, List.length_cons, List.length_nil, List.length_map, List.length_take, List.length_drop, List.length_set, Int.reduceToNat]); first | done | omega))
  k_with "m wpC" => ((
  (fail_if_success (with_reducible show wpC _ _ (call (Value.ref 89) _) _ _ _));
  (fail_if_success (with_reducible show wpC _ _ (call (Value.ref 200) _) _ _ _));
  (fail_if_success (with_reducible show wpC _ _ (call (Value.ref 207) _) _ _ _));
  (fail_if_success (with_reducible show wpC _ _ (call (Value.ref 256) _) _ _ _));
  (fail_if_success (with_reducible show wpC _ _ (call (Value.ref 270) _) _ _ _));
  (fail_if_success (with_reducible show wpC _ _ (call (Value.ref 284) _) _ _ _));
  (fail_if_success (with_reducible show wpC _ _ (call (Value.ref 291) _) _ _ _));
  (fail_if_success (with_reducible show wpC _ _ (call (Value.ref 298) _) _ _ _));
  (fail_if_success (with_reducible show wpC _ _ (call (Value.ref 305) _) _ _ _));
  (fail_if_success (with_reducible show wpC _ _ (call (Value.ref 312) _) _ _ _));
  (fail_if_success (with_reducible show wpC _ _ (call (Value.ref 348) _) _ _ _));
  (fail_if_success (with_reducible show wpC _ _ (call (Value.ref 355) _) _ _ _));
  (fail_if_success (with_reducible show wpC _ _ (call (Value.ref 362) _) _ _ _));
  refine C_any ?_; (try k_fold)))
  k_with "m wpC" => ((k_dflt (with_reducible first
  | refine C_execs_cons ?_
  | refine C_Return ?_
  | refine C_BinOp ?_
  | refine C_Tuple ?_
  | refine C_Call ?_)))
  k_with "m wpC" => ((k_dflt (first
  | ((with_reducible show wpC _ _ (exec (Stmt.Assign [PySem.Expr.Name _ _] _ _) _) _ _ _); refine C_Assign_Name ?_)
  | ((with_reducible show wpC _ _ (eval (PySem.Expr.Compare _ [_] [_] _) _) _ _ _); refine C_Compare ?_)
  | ((with_reducible show wpC _ _ (spliced (backTo _ (starEach (_ :: _) _))) _ _ _); refine C_args_cons ?_)
  | ((with_reducible show wpC _ _ (spliced (backTo _ (starEach [] _))) _ _ _); refine C_args_nil ?_)
  | ((with_reducible show wpC _ _ (callWith _ (Value.builtin _) _ _ _) _ _ _); refine C_callWith_builtin ?_)
  | ((with_reducible show wpC _ _ (callWith _ (Value.type _) _ _ _) _ _ _); refine C_callWith_type ?_)
  | ((with_reducible show wpC _ _ (callWith _ (Value.ref _) _ _ _) _ _ _); refine' C_callK ?k0 ?k1 ?_; (case k0 => k_asm); (case k1 => k_is)))))
  k_with "m wpC" => ((k_dflt (with_reducible first
  | refine C_If ?_
  | refine C_isTrue_Compare ?_
  | refine C_isTrue_not ?_
  | refine C_isTrue_or_nil ?_
  | refine C_isTrue_or ?_
  | refine C_And ?_)))
  k_with "m wpC" => ((k_dflt (first
  | ((with_reducible show wpC _ _ (isTrue (PySem.Expr.Call _ _ _ _) _ _) _ _ _); refine C_isTrue_plain ?_)
  | ((with_reducible show wpC _ _ (isTrue (PySem.Expr.Name _ _) _ _) _ _ _); refine C_isTrue_plain ?_)
  | ((with_reducible show wpC _ _ (eval (PySem.Expr.UnaryOp _ _ _) _) _ _ _); refine C_UnaryOp ?_))))
  k_with "m storeName" => ((k_dflt (refine' storeL ?F ?N ?_ ?a ?b; (case F => k_asm); (case N => k_asm); (case a => rfl); (case b => rfl); k_whole; intro h' m' F' N'; (try k_sweep))))
  k_with "m wpC" => ((k_dflt (first
  | ((with_reducible show wpC _ _ (exec (Stmt.Assign [PySem.Expr.Tuple _ _ _] _ _) _) _ _ _); refine C_AssignT ?_)
  | ((with_reducible show wpC _ _ (exec (Stmt.Assign [PySem.Expr.Tuple _ _ _] _ _) _) _ _ _); refine C_AssignT_swapped ?_))))
  k_with "m call ref" => (((with_reducible show wpAny _ _ (call (Value.ref 331) _) _ _ _); k_dflt (refine' DCtr.use (take_ctr _ _ _ ?p1 ?p2) ?kB ?kF ?kX ?kN ?kT ?kK ?kO ?kE ?kU ?kV ?kD ?kW ?_; (case kB => k_asm); (case kF => k_asm); (case kX => k_asm); (case kN => k_asm); (case kT => k_asm); (case kK => first | exact rfl | assumption); (case kU => k_updF); (case kO => assumption); (case kV => (intro _; k_updF)); (case kE => first | assumption | k_ne); (case kD => ((simp only [depth_under_make, depth_under_kw, depth_in1, depth_deeper, depth_caller]); (try dsimp only [ktrTop]); omega)); (case kW => ((simp only [units_under_make, units_in1, units_deeper, Around.mark_units, units_caller]); (try dsimp only [ktrTop]); omega)); (case p1 => first | omega | kba_size | decide +kernel); (case p2 => first | omega | kba_size | decide +kernel)); (intro v' od' oR' h' tk' hv' ok' F' N'); (obtain ⟨k', t', e', lo', hi'⟩ := hv'; subst e'; (try simp only [Int.reducePow, Int.reduceToNat, Nat.reducePow] at hi')); (try dsimp only at N'); (try k_sweep)))
  k_with "m call ref" => (((with_reducible show wpAny _ _ (call (Value.ref 336) _) _ _ _); k_dflt (refine' DCtr.use (octets_ctr _ _ _ ?p1 ?p2) ?kB ?kF ?kX ?kN ?kT ?kK ?kO ?kE ?kU ?kV ?kD ?kW ?_; (case kB => k_asm); (case kF => k_asm); (case kX => k_asm); (case kN => k_asm); (case kT => k_asm); (case kK => first | exact rfl | assumption); (case kU => k_updF); (case kO => assumption); (case kV => (intro _; k_updF)); (case kE => first | assumption | k_ne); (case kD => ((simp only [depth_under_make, depth_under_kw, depth_in1, depth_deeper, depth_caller]); (try dsimp only [ktrTop]); omega)); (case kW => ((simp only [units_under_make, units_in1, units_deeper, Around.mark_units, units_caller]); (try dsimp only [ktrTop]); omega)); (case p1 => omega); (case p2 => omega)); (intro v' od' oR' h' tk' hv' ok' F' N'); (obtain ⟨b', t', e', hl'⟩ := hv'; subst e'; (obtain ⟨ks', hb'⟩ : ∃ ks', KBw.bInts b' = ks' := ⟨_, rfl⟩); rw [hb'] at hl'; (try simp only [Int.reduceToNat] at hl')); (try dsimp only at N'); (try k_sweep)))
  k_with "m call ref" => (((with_reducible show wpAny _ _ (call (Value.ref 343) _) _ _ _); k_dflt (refine' DCtr.use (turned_ctr _ _ _ _ ?p1 ?p2 ?p3) ?kB ?kF ?kX ?kN ?kT ?kK ?kO ?kE ?kU ?kV ?kD ?kW ?_; (case kB => k_asm); (case kF => k_asm); (case kX => k_asm); (case kN => k_asm); (case kT => k_asm); (case kK => first | exact rfl | assumption); (case kU => k_updF); (case kO => assumption); (case kV => (intro _; k_updF)); (case kE => first | assumption | k_ne); (case kD => ((simp only [depth_under_make, depth_under_kw, depth_in1, depth_deeper, depth_caller]); (try dsimp only [ktrTop]); omega)); (case kW => ((simp only [units_under_make, units_in1, units_deeper, Around.mark_units, units_caller]); (try dsimp only [ktrTop]); omega)); (case p1 => kba_ints2); (case p2 => kba_size); (case p3 => kba_size)); (intro v' od' oR' h' tk' hv' ok' F' N'); (obtain ⟨b', t', i', y', e', hi', y0', y1', hne', hb'⟩ := hv'; subst e'); (try dsimp only at N'); (try k_sweep)))
  k_with "m wpC" => (((with_reducible show wpC _ _ (call (Value.ref 305) _) _ _ _); k_dflt (refine' (token_for_ctr _ _ _ _ _ _ _ _ _ _ _ _ _ ?p1 ?p2 ?p3 ?p4 ?p5 ?p6 ?p7) _ _ _ _ _ _ _ _ _ _ _ _ _ _ _ _ _ _ _ _ ?kB ?kF ?kX ?kN ?kT ?kK ?kD ?kW ?_; (case kB => k_asm); (case kF => k_asm); (case kX => k_asm); (case kN => k_asm); (case kT => k_asm); (case kK => first | exact rfl | assumption); (case kD => ((simp only [depth_under_make, depth_under_kw, depth_in1, depth_deeper, depth_caller]); (try dsimp only [ktrTop]); omega)); (case kW => ((simp only [units_under_make, units_in1, units_deeper, Around.mark_units, units_caller]); (try dsimp only [ktrTop]); omega)); (case p1 => kba_ints2); (case p2 => kba_ints2); (case p3 => kba_ints2); (case p4 => kba_size); (case p5 => kba_size); (case p6 => omega); (case p7 => omega)); (intro v' nw' h' tk' F' N' hv'); (obtain ⟨b', t', e', hb', en'⟩ := hv'; subst e'; subst en'); (try k_sweep)))
  k_with "m wpC" => (((with_reducible show wpC _ _ (call (Value.ref 312) _) _ _ _); k_dflt (refine' (check_good_ctr _ _ _ _ _ _ _ _ _ _ _ _ _ _ _ _ _ ?p1 ?p2 ?p3 ?p4 ?p5 ?p6 ?p7 ?p8) _ _ _ _ _ _ _ _ _ _ _ _ _ _ _ _ _ _ _ _ ?kB ?kF ?kX ?kN ?kT ?kK ?kD ?kW ?_; (case kB => k_asm); (case kF => k_asm); (case kX => k_asm); (case kN => k_asm); (case kT => k_asm); (case kK => first | exact rfl | assumption); (case kD => ((simp only [depth_under_make, depth_under_kw, depth_in1, depth_deeper, depth_caller]); (try dsimp only [ktrTop]); omega)); (case kW => ((simp only [units_under_make, units_in1, units_deeper, Around.mark_units, units_caller]); (try dsimp only [ktrTop]); omega)); (case p1 => kba_ints2); (case p2 => kba_ints2); (case p3 => assumption); (case p4 => with_reducible exact rfl); (case p5 => kba_size); (case p6 => omega); (case p7 => omega); (case p8 => omega)); (intro v' nw' h' tk' F' N' hv'); (obtain ⟨hc', en'⟩ := hv'; subst en'; (rcases hc' with ⟨w1', w2', b', t', e', hb'⟩ | ⟨w1', e'⟩); (all_goals subst e'))))
  k_with "m wpC" => (((with_reducible show wpC _ _ (call (Value.ref 312) _) _ _ _); k_dflt (refine' (check_none_ctr _ _ _ _ _ _ _ _ _ _ _ _ _ _ _ ?p1 ?p2 ?p3 ?p4 ?p5 ?p6) _ _ _ _ _ _ _ _ _ _ _ _ _ _ _ _ _ _ _ _ ?kB ?kF ?kX ?kN ?kT ?kK ?kD ?kW ?_; (case kB => k_asm); (case kF => k_asm); (case kX => k_asm); (case kN => k_asm); (case kT => k_asm); (case kK => first | exact rfl | assumption); (case kD => ((simp only [depth_under_make, depth_under_kw, depth_in1, depth_deeper, depth_caller]); (try dsimp only [ktrTop]); omega)); (case kW => ((simp only [units_under_make, units_in1, units_deeper, Around.mark_units, units_caller]); (try dsimp only [ktrTop]); omega)); (case p1 => kba_ints2); (case p2 => kba_ints2); (case p3 => kba_ints2); (case p4 => kba_size); (case p5 => kba_size); (case p6 => with_reducible (first | exact chk_t1 (in_of (by assumption)) (in_of (by assumption)) (by omega) (by assumption) (by assumption) (by assumption) (by assumption) | exact chk_t2 (in_of (by assumption)) (by assumption) (by assumption) (by assumption) (by assumption) | exact chk_t3 (in_of (by assumption)) (in_of (by assumption)) (by omega) (by assumption) (by assumption) (by assumption) (by assumption) | exact chk_t4 rfl (by assumption) (by assumption)))); (intro v' nw' h' tk' F' N' hv'); (obtain ⟨e', en'⟩ := hv'; subst e'; subst en'); (try k_sweep)))
  k_with "m wpC" => (((first | (with_reducible show wpC _ _ (exec (Stmt.Assign _ _ (PySem.Pos.mk 252 _ _ _)) _) _ _ _) | (with_reducible show wpC _ _ (exec (Stmt.Assign _ _ (PySem.Pos.mk 255 _ _ _)) _) _ _ _)); refine C_any ?_; (try k_fold)))
  k_with "m wpC" => (((with_reducible show wpC _ _ (exec (Stmt.For (PySem.Expr.Name _ _) _ _ [] _) _) _ _ _); (rename Fr _ _ _ _ => lF'); (rename News _ _ _ _ => lN'); k_dflt (refine C_For_range (PySem.Str.ofString "due") lF' lN' (by rfl) (by rfl) (by rfl) ?_)))
  k_with "m CTurn" => ((refine ⟨rfl, _, _, _, rfl, by k_asm, by k_asm, fun z h1 h2 => by first | (simp only [if_neg h1, if_neg h2]; done) | (simp only [if_neg h1, if_neg h2]; rfl) | exact (if_neg h1).trans (if_neg h2) | exact (if_neg h2).trans ((if_neg h1).trans (if_neg h2)) | (simp +zetaDelta only [if_neg h1, if_neg h2]; done)⟩))
  trivial
theorem tokens_ctr (w : World) (bd : Array UInt8) (kd : List Int) (td : Tok) (hd1 : KBw.bInts bd = kd) (l1 : kd.length ≤ 5) (d r : Addr) (od oR : Obj) (hne : d ≠ r) (ok : DrawsOk r od oR) :
    CtrC w 362 60 6000 [.ref d, .bytes bd td] [(d, od), (r, oR)] (fun v news' => v = .bool true) := use _ (by exact True.intro : Wit (by
  unfold CtrC
  k_fill
  intro mean mg mb dp un gd cn cs a ccd cl outer A₀ base h₀ L m s Q E B F X N T hk hd hu hret
  refine C_call ?_
  k_dflt (refine' code_defK ?k1 ?k2 ?k3 ?k4 ?k5 ?kA ?kF ?kK ?k6 ?k7 ?k8 ?k9 ?kB ?_ ?c2 ?c3 ?c4 ?c5; (case kA => exact rfl); (case kF => exact rfl); (case kK => assumption); (case k1 => k_asm); (case k2 => k_asm); (case k3 => k_asm); (case k4 => k_asm); (case k5 => k_asm); (case k6 => k_is); (case k7 => k_is); (case k8 => ktr_room); (case k9 => exact BindsTo.of_eq rfl); (case c5 => decide); (case kB => exact locs rfl); (case c2 => exact rfl); (case c3 => exact rfl); (case c4 => exact rfl); k_whole; intro g' L' h' FG' F' N' B' X' T'; (try (revert F'; refine letm ?_; intro m' F')); (try dsimp only); (try k_lift B'))
  replace hne := neN hne
  k_steps
  refine' ⟨_, _, _, _, _, _, 10, rfl, ?zr, ?zs, ?zq, ?zf, ?zn, ?zt, ?zd⟩; (case zr => assumption); (case zs => exact small_one (by omega) (by omega) (by omega) (by omega)); (case zq => exact rangeSize_10 (by omega)); (case zf => k_asm); (case zn => k_asm)
  · intro i' t' u' I' oI' h' tk' hi' hoff' F' N'
    try k_lt hoff'
    try k_fold
    k_steps
    · rename (_ != _) = true => hq
      exact absurd rfl (bne_ints (by assumption) hd1 hq)
    · exfalso; omega
    · exfalso; omega
    · exfalso; omega
  · intro u' h' tk' F' N'
    try k_fold
    dsimp only
    k_steps
    exact hret _ _ _ _ (by k_asm) (by k_asm) rfl
  ))

end Mine
end

section
open PySem PySem.W PyProof.Rows PySem.Calls PySem.Spec
set_option maxRecDepth 100000
set_option maxHeartbeats 0
namespace Mine
theorem pick2 {prog : Program} {w : World} {A : Around} {E : Value → Shared → Prop} {s : Shared} {h₀ : Heap} {L l : Addr} {news : List (Addr × Obj)} {value slice : PySem.Expr} {a b : Array UInt8} {ta tb u : Tok} {n : Nat} {k : Int} {Q : Value → Shared → Prop} (N : News h₀ L s.heap news)
    (hm : (l, W.listOf #[.bytes a ta, .bytes b tb] n) ∈ news) (k0 : 0 ≤ k) (k1 : k < 2) (ha : a.size ≤ 5) (hb : b.size ≤ 5) (h : ∀ c t kc, KBw.bInts c = kc → kc.length ≤ 5 → Q (.bytes c t) s)
    (hs : subscripted slice false (.ref l) (.int k u) = operate [.ref l, .int k u] (getItem (.ref l) (.int k u)) := by with_unfolding_all rfl) :
    wpAny (model prog w) A (subscriptTail value slice (.ref l) (.int k u)) Q E s := by
  have hl : s.heap.IsList l #[Value.bytes a ta, Value.bytes b tb] := ⟨_, (N _ hm).1, rfl, _, rfl⟩
  obtain rfl | rfl : k = 0 ∨ k = 1 := by omega
  · exact tail_any hl.typeIs slot_list_getitem.lookup (wpAny_getItem_list (k := 0) hl (by decide) (by decide) rfl (h _ _ _ rfl (by rw [KBw.ints_length]; exact ha))) hs
  · exact tail_any hl.typeIs slot_list_getitem.lookup (wpAny_getItem_list (k := 1) hl (by decide) (by decide) rfl (h _ _ _ rfl (by rw [KBw.ints_length]; exact hb))) hs
theorem fd3_lo {k : Int} (h0 : 0 ≤ k) : 0 ≤ k.fdiv 3 := by rw [Int.fdiv_eq_ediv_of_nonneg _ (by decide)]; omega
theorem fd3_hi {k : Int} (h1 : k < 4) : k.fdiv 3 < 2 := by rw [Int.fdiv_eq_ediv_of_nonneg _ (by decide)]; omega
theorem size_of {b : Array UInt8} {kb : List Int} {n : Nat} (h : KBw.bInts b = kb) (l : kb.length ≤ n) : b.size ≤ n := by rw [← KBw.ints_length, h]; exact l
theorem regT18x1 : True := by
  k_with_none
  k_with "k_steps" => ((repeat' (first | (k_unfold; (try dsimp only)) | (k_end; wrow_close) | ((fail_if_success (with_reducible show wpAny _ _ (subscriptTail _ _ _ _) _ _ _)); dsimp only; walk1) | walk1 | (dsimp only; walk1) | (leave1; walk_say "STEP leave1"; try dsimp only) | fail "no step")))
  k_with "omega" => ((first
  | ((with_reducible show @LT.lt Nat _ _ _); first | (with_reducible assumption) | ((with_reducible refine' rm2 ?omA ?omB); (case omA => with_reducible assumption); (case omB => exact rfl)) | ((with_reducible refine' rm1 ?omA ?omB); (case omA => with_reducible assumption); (case omB => exact rfl)) | ((with_reducible refine' rm0 ?omA); (case omA => with_reducible assumption)) | ((with_reducible refine' ltL ?omA ?omB); (case omA => with_reducible assumption); (case omB => exact rfl)) | ((with_reducible refine' rm3 ?omA ?omB); (case omA => with_reducible assumption); (case omB => exact rfl)) | (simp only [Nat.reduceAdd, Nat.reduceMul, Nat.reduceSub, Nat.reducePow, Nat.reduceLeDiff, Nat.reduceLT, Nat.zero_le, Nat.le_refl, Nat.zero_lt_one]; done))
  | ((with_reducible show @LE.le Nat _ _ _); first | (with_reducible assumption) | (with_reducible exact Nat.zero_le _) | ((with_reducible refine' leL ?omA ?omB); (case omA => with_reducible assumption); (case omB => exact rfl)) | (simp only [Nat.reduceAdd, Nat.reduceMul, Nat.reduceSub, Nat.reducePow, Nat.reduceLeDiff, Nat.reduceLT, Nat.zero_le, Nat.le_refl, Nat.zero_lt_one]; done))
  | ((with_reducible show @Ne Nat _ _); (with_reducible first
  | assumption
  | exact Ne.symm (by with_reducible assumption)
  | exact Nat.ne_of_gt (by with_reducible assumption)
  | exact Nat.ne_of_gt (And.left (by with_reducible assumption))
  | exact Nat.ne_of_gt (And.left (And.right (by with_reducible assumption)))
  | exact Nat.ne_of_gt (And.left (And.right (And.right (by with_reducible assumption))))
  | exact Nat.ne_of_gt (And.right (by with_reducible assumption))
  | exact Nat.ne_of_gt (And.right (And.right (by with_reducible assumption)))
  | exact gs1 (by with_reducible assumption)
  | exact gs1 (And.left (by with_reducible assumption))
  | exact gs1 (And.left (And.right (by with_reducible assumption)))
  | exact gs1 (And.left (And.right (And.right (by with_reducible assumption))))
  | exact gs1 (And.right (by with_reducible assumption))
  | exact gs1 (And.right (And.right (by with_reducible assumption)))
  | exact gs2 (by with_reducible assumption)
  | exact gs2 (And.left (by with_reducible assumption))
  | exact gs2 (And.left (And.right (by with_reducible assumption)))
  | exact gs2 (And.left (And.right (And.right (by with_reducible assumption))))
  | exact gs2 (And.right (by with_reducible assumption))
  | exact gs2 (And.right (And.right (by with_reducible assumption)))
  | exact Nat.ne_of_lt (by with_reducible assumption)
  | exact Nat.ne_of_lt (And.left (by with_reducible assumption))
  | exact Nat.ne_of_lt (And.left (And.right (by with_reducible assumption)))
  | exact Nat.ne_of_lt (And.left (And.right (And.right (by with_reducible assumption))))
  | exact Nat.ne_of_lt (And.right (by with_reducible assumption))
  | exact Nat.ne_of_lt (And.right (And.right (by with_reducible assumption)))
  | exact ls1 (by with_reducible assumption)
  | exact ls1 (And.left (by with_reducible assumption))
  | exact ls1 (And.left (And.right (by with_reducible assumption)))
  | exact ls1 (And.left (And.right (And.right (by with_reducible assumption))))
  | exact ls1 (And.right (by with_reducible assumption))
  | exact ls1 (And.right (And.right (by with_reducible assumption)))
  | exact ls2 (by with_reducible assumption)
  | exact ls2 (And.left (by with_reducible assumption))
  | exact ls2 (And.left (And.right (by with_reducible assumption)))
  | exact ls2 (And.left (And.right (And.right (by with_reducible assumption))))
  | exact ls2 (And.right (by with_reducible assumption))
  | exact ls2 (And.right (And.right (by with_reducible assumption)))
  | exact Ne.symm (And.left (by with_reducible assumption))
  | exact Ne.symm (And.left (And.right (by with_reducible assumption)))
  | exact Ne.symm (And.left (And.right (And.right (by with_reducible assumption))))
  | exact Ne.symm (And.right (And.right (And.right (by with_reducible assumption))))
  | exact Ne.symm (And.left (And.left (by with_reducible assumption)))
  | exact Ne.symm (And.left (And.right (And.left (by with_reducible assumption))))
  | exact Ne.symm (And.right (And.right (And.left (by with_reducible assumption))))
  | exact Ne.symm (And.left (And.left (And.right (by with_reducible assumption))))
  | exact Ne.symm (And.left (And.right (And.left (And.right (by with_reducible assumption)))))
  | exact Ne.symm (And.right (And.right (And.left (And.right (by with_reducible assumption)))))
  | exact Ne.symm (And.left (And.left (And.right (And.right (by with_reducible assumption)))))
  | exact Ne.symm (And.left (And.right (And.left (And.right (And.right (by with_reducible assumption))))))
  | exact Ne.symm (And.right (And.right (And.left (And.right (And.right (by with_reducible assumption))))))
  | exact Ne.symm (And.left (And.right (And.right (And.right (by with_reducible assumption)))))
  | exact Ne.symm (And.left (And.right (And.right (And.right (And.right (by with_reducible assumption))))))
  | exact Ne.symm (And.right (And.right (And.right (And.right (And.right (by with_reducible assumption))))))
  | exact (And.left (by with_reducible assumption))
  | exact (And.left (And.right (by with_reducible assumption)))
  | exact (And.left (And.right (And.right (by with_reducible assumption))))
  | exact (And.right (And.right (And.right (by with_reducible assumption))))
  | exact (And.left (And.left (by with_reducible assumption)))
  | exact (And.left (And.right (And.left (by with_reducible assumption))))
  | exact (And.right (And.right (And.left (by with_reducible assumption))))
  | exact (And.left (And.left (And.right (by with_reducible assumption))))
  | exact (And.left (And.right (And.left (And.right (by with_reducible assumption)))))
  | exact (And.right (And.right (And.left (And.right (by with_reducible assumption)))))
  | exact (And.left (And.left (And.right (And.right (by with_reducible assumption)))))
  | exact (And.left (And.right (And.left (And.right (And.right (by with_reducible assumption))))))
  | exact (And.right (And.right (And.left (And.right (And.right (by with_reducible assumption))))))
  | exact (And.left (And.right (And.right (And.right (by with_reducible assumption)))))
  | exact (And.left (And.right (And.right (And.right (And.right (by with_reducible assumption))))))
  | exact (And.right (And.right (And.right (And.right (And.right (by with_reducible assumption))))))
  | exact gt2 (by with_reducible assumption) (by with_reducible assumption)
  | fail "no ne"))))
  k_with "units_room" => ((simp only [units_under_make, units_in1, units_deeper, Around.mark_units, units_caller, cLine]; (try dsimp only [ktrTop]); omega))
  k_with "ktr_room" => (((simp only [depth_under_make, depth_under_kw, depth_in1, depth_deeper, depth_caller, recursionLimit]); (try dsimp only [ktrTop]); omega))
  k_with "k_room" => (((simp only [depth_under_make, depth_under_kw, depth_in1, depth_deeper, depth_caller, recursionLimit]); (try dsimp only [ktrTop]); omega))
  k_with "k_all" => (first | assumption | exact ne_of_allLt (by assumption) | exact ne_of_allLt (And.right (by assumption)) | exact ne_of_allLt (And.right (And.right (by assumption))) | exact ne_of_allLt (And.right (And.right (And.right (by assumption)))))
  k_with "m exec For" => (((with_reducible show wpAny _ _ (exec (Stmt.For (PySem.Expr.Name _ _) _ _ [] _) _) _ _ _); (rename Fr _ _ _ _ => lF'); (with_unfolding_all refine' For_invVF lF' ?k1 ?k2 ?_; (case k1 => exact rfl); (case k2 => exact rfl); k_whole)))
  k_with "m InvEndN" => ((refine InvEndN.intro (by assumption) (by assumption) ⟨rfl, ⟨_, by with_unfolding_all rfl⟩, fun z h1 h2 => by first | (simp only [if_neg h1, if_neg h2]; done) | (simp only [if_neg h1, if_neg h2]; rfl) | exact (if_neg h1).trans (if_neg h2)⟩ rfl ?zz1 ?zz2; (case zz1 => exact fun p hp => List.mem_append_left _ hp); (case zz2 => exact fun p hp => List.mem_append_right _ hp)))
  k_with "m ite" => (first | refine ite_pos (by (simp; done)) ?_ | refine ite_neg (by (simp; done)) ?_)
  k_with "kba_size" => (((try simp only [List.length_append, be_length, List.length_cons, List.length_nil, List.length_map, List.length_take, List.length_drop, Int.reduceToNat]); omega))
  k_with "kba_size" => (((try simp only [List.length_append, be_length, tag_length, idsOf_length, bodyOf_length, tokOf_length, retryRaw_length, retryTag_length, retryPkt_length, negPkt_length, flat4_length, List.length_cons, List.length_nil, List.length_map, List.length_take, List.length_drop, List.length_set, Int.reduceToNat, clip_m16]); first | done | omega))
  k_with "m wpC" => ((
  (fail_if_success (with_reducible show wpC _ _ (call (Value.ref 89) _) _ _ _));
  (fail_if_success (with_reducible show wpC _ _ (call (Value.ref 200) _) _ _ _));
  (fail_if_success (with_reducible show wpC _ _ (call (Value.ref 207) _) _ _ _));
  (fail_if_success (with_reducible show wpC _ _ (call (Value.ref 256) _) _ _ _));
  (fail_if_success (with_reducible show wpC _ _ (call (Value.ref 270) _) _ _ _));
  (fail_if_success (with_reducible show wpC _ _ (call (Value.ref 284) _) _ _ _));
  (fail_if_success (with_reducible show wpC _ _ (call (Value.ref 291) _) _ _ _));
  (fail_if_success (with_reducible show wpC _ _ (call (Value.ref 298) _) _ _ _));
  (fail_if_success (with_reducible show wpC _ _ (call (Value.ref 305) _) _ _ _));
  (fail_if_success (with_reducible show wpC _ _ (call (Value.ref 312) _) _ _ _));
  (fail_if_success (with_reducible show wpC _ _ (call (Value.ref 348) _) _ _ _));
  (fail_if_success (with_reducible show wpC _ _ (call (Value.ref 355) _) _ _ _));
  (fail_if_success (with_reducible show wpC _ _ (call (Value.ref 362) _) _ _ _));
  refine C_any ?_; (try k_fold)))
  k_with "m wpC" => ((k_dflt (with_reducible first
  | refine C_execs_cons ?_
  | refine C_Return ?_
  | refine C_BinOp ?_
  | refine C_Tuple ?_
  | refine C_Call ?_)))
  k_with "m wpC" => ((k_dflt (first
  | ((with_reducible show wpC _ _ (exec (Stmt.Assign [PySem.Expr.Name _ _] _ _) _) _ _ _); refine C_Assign_Name ?_)
  | ((with_reducible show wpC _ _ (eval (PySem.Expr.Compare _ [_] [_] _) _) _ _ _); refine C_Compare ?_)
  | ((with_reducible show wpC _ _ (spliced (backTo _ (starEach (_ :: _) _))) _ _ _); refine C_args_cons ?_)
  | ((with_reducible show wpC _ _ (spliced (backTo _ (starEach [] _))) _ _ _); refine C_args_nil ?_)
  | ((with_reducible show wpC _ _ (callWith _ (Value.builtin _) _ _ _) _ _ _); refine C_callWith_builtin ?_)
  | ((with_reducible show wpC _ _ (callWith _ (Value.type _) _ _ _) _ _ _); refine C_callWith_type ?_)
  | ((with_reducible show wpC _ _ (callWith _ (Value.ref _) _ _ _) _ _ _); refine' C_callK ?k0 ?k1 ?_; (case k0 => k_asm); (case k1 => k_is)))))
  k_with "m wpC" => ((k_dflt (with_reducible first
  | refine C_If ?_
  | refine C_isTrue_Compare ?_
  | refine C_isTrue_not ?_
  | refine C_isTrue_or_nil ?_
  | refine C_isTrue_or ?_
  | refine C_And ?_)))
  k_with "m wpC" => ((k_dflt (first
  | ((with_reducible show wpC _ _ (isTrue (PySem.Expr.Call _ _ _ _) _ _) _ _ _); refine C_isTrue_plain ?_)
  | ((with_reducible show wpC _ _ (isTrue (PySem.Expr.Name _ _) _ _) _ _ _); refine C_isTrue_plain ?_)
  | ((with_reducible show wpC _ _ (eval (PySem.Expr.UnaryOp _ _ _) _) _ _ _); refine C_UnaryOp ?_))))
  k_with "m storeName" => ((k_dflt (refine' storeL ?F ?N ?_ ?a ?b; (case F => k_asm); (case N => k_asm); (case a => rfl); (case b => rfl); k_whole; intro h' m' F' N'; (try k_sweep))))
  k_with "m wpC" => ((k_dflt (first
  | ((with_reducible show wpC _ _ (exec (Stmt.Assign [PySem.Expr.Tuple _ _ _] _ _) _) _ _ _); refine C_AssignT ?_)
  | ((with_reducible show wpC _ _ (exec (Stmt.Assign [PySem.Expr.Tuple _ _ _] _ _) _) _ _ _); refine C_AssignT_swapped ?_))))
  k_with "m call ref" => (((with_reducible show wpAny _ _ (call (Value.ref 331) _) _ _ _); k_dflt (refine' DCtr.use (take_ctr _ _ _ ?p1 ?p2) ?kB ?kF ?kX ?kN ?kT ?kK ?kO ?kE ?kU ?kV ?kD ?kW ?_; (case kB => k_asm); (case kF => k_asm); (case kX => k_asm); (case kN => k_asm); (case kT => k_asm); (case kK => first | exact rfl | assumption); (case kU => k_updF); (case kO => assumption); (case kV => (intro _; k_updF)); (case kE => first | assumption | k_ne); (case kD => ((simp only [depth_under_make, depth_under_kw, depth_in1, depth_deeper, depth_caller]); (try dsimp only [ktrTop]); omega)); (case kW => ((simp only [units_under_make, units_in1, units_deeper, Around.mark_units, units_caller]); (try dsimp only [ktrTop]); omega)); (case p1 => first | omega | kba_size | decide +kernel); (case p2 => first | omega | kba_size | decide +kernel)); (intro v' od' oR' h' tk' hv' ok' F' N'); (obtain ⟨k', t', e', lo', hi'⟩ := hv'; subst e'; (try simp only [Int.reducePow, Int.reduceToNat, Nat.reducePow] at hi')); (try dsimp only at N'); (try k_sweep)))
  k_with "m call ref" => (((with_reducible show wpAny _ _ (call (Value.ref 336) _) _ _ _); k_dflt (refine' DCtr.use (octets_ctr _ _ _ ?p1 ?p2) ?kB ?kF ?kX ?kN ?kT ?kK ?kO ?kE ?kU ?kV ?kD ?kW ?_; (case kB => k_asm); (case kF => k_asm); (case kX => k_asm); (case kN => k_asm); (case kT => k_asm); (case kK => first | exact rfl | assumption); (case kU => k_updF); (case kO => assumption); (case kV => (intro _; k_updF)); (case kE => first | assumption | k_ne); (case kD => ((simp only [depth_under_make, depth_under_kw, depth_in1, depth_deeper, depth_caller]); (try dsimp only [ktrTop]); omega)); (case kW => ((simp only [units_under_make, units_in1, units_deeper, Around.mark_units, units_caller]); (try dsimp only [ktrTop]); omega)); (case p1 => omega); (case p2 => omega)); (intro v' od' oR' h' tk' hv' ok' F' N'); (obtain ⟨b', t', e', hl'⟩ := hv'; subst e'; (obtain ⟨ks', hb'⟩ : ∃ ks', KBw.bInts b' = ks' := ⟨_, rfl⟩); rw [hb'] at hl'; (try simp only [Int.reduceToNat] at hl')); (try dsimp only at N'); (try k_sweep)))
  k_with "m call ref" => (((with_reducible show wpAny _ _ (call (Value.ref 343) _) _ _ _); k_dflt (refine' DCtr.use (turned_ctr _ _ _ _ ?p1 ?p2 ?p3) ?kB ?kF ?kX ?kN ?kT ?kK ?kO ?kE ?kU ?kV ?kD ?kW ?_; (case kB => k_asm); (case kF => k_asm); (case kX => k_asm); (case kN => k_asm); (case kT => k_asm); (case kK => first | exact rfl | assumption); (case kU => k_updF); (case kO => assumption); (case kV => (intro _; k_updF)); (case kE => first | assumption | k_ne); (case kD => ((simp only [depth_under_make, depth_under_kw, depth_in1, depth_deeper, depth_caller]); (try dsimp only [ktrTop]); omega)); (case kW => ((simp only [units_under_make, units_in1, units_deeper, Around.mark_units, units_caller]); (try dsimp only [ktrTop]); omega)); (case p1 => ((rename KBw.bInts (KBy.picked _ _ _) = List.take (clipAt (retryPkt _ _ _ _ _ _).length (-16)) _ => hB9); (have hB8 := hB9.trans (pkt_cut _ _ _ _ _)); exact hB8)); (case p2 => kba_size); (case p3 => kba_size)); (intro v' od' oR' h' tk' hv' ok' F' N'); (obtain ⟨b', t', i', y', e', hi', y0', y1', hne', hb'⟩ := hv'; subst e'); (try dsimp only at N'); (try k_sweep)))
  k_with "m wpC" => (((with_reducible show wpC _ _ (call (Value.ref 291) _) _ _ _); k_dflt (refine' (put_retry_packet_ctr _ _ _ _ _ _ _ _ _ _ _ _ _ _ _ _ _ _ ?p1 ?p2 ?p3 ?p4 ?p5 ?p6 ?p7 ?p8 ?p9 ?q1 ?q2 ?q3) _ _ _ _ _ _ _ _ _ _ _ _ _ _ _ _ _ _ _ _ ?kB ?kF ?kX ?kN ?kT ?kK ?kD ?kW ?_; (case kB => k_asm); (case kF => k_asm); (case kX => k_asm); (case kN => k_asm); (case kT => k_asm); (case kK => first | exact rfl | assumption); (case kD => ((simp only [depth_under_make, depth_under_kw, depth_in1, depth_deeper, depth_caller]); (try dsimp only [ktrTop]); omega)); (case kW => ((simp only [units_under_make, units_in1, units_deeper, Around.mark_units, units_caller]); (try dsimp only [ktrTop]); omega)); (case p1 => kba_ints2); (case p2 => kba_ints2); (case p3 => kba_ints2); (case p4 => kba_ints2); (case p5 => kba_size); (case p6 => kba_size); (case p7 => kba_size); (case p8 => kba_size); (case p9 => omega); (case q1 => omega); (case q2 => omega); (case q3 => omega)); (intro v' nw' h' tk' F' N' hv'); (obtain ⟨b', t', e', hb', en'⟩ := hv'; subst e'; subst en'); (try k_sweep)))
  k_with "m call ref" => (((with_reducible show wpAny _ _ (call (Value.ref 228) _) _ _ _); k_dflt (refine' (read_long_retry _ _ _ _ _ _ _ _ _ _ _ ?p1 ?p2 ?p3 ?p4 ?p5 ?p6 ?p7 ?p8 ?p9 ?q1) _ _ _ _ _ _ _ _ _ _ _ _ _ _ _ _ _ _ _ _ ?kB ?kF ?kX ?kN ?kT ?kK ?kD ?kW ?_; (case kB => k_asm); (case kF => k_asm); (case kX => k_asm); (case kN => k_asm); (case kT => k_asm); (case kK => first | exact rfl | assumption); (case kD => ((simp only [depth_under_make, depth_under_kw, depth_in1, depth_deeper, depth_caller]); (try dsimp only [ktrTop]); omega)); (case kW => ((simp only [units_under_make, units_in1, units_deeper, Around.mark_units, units_caller]); (try dsimp only [ktrTop]); omega)); (case p1 => assumption); (case p2 => exact pkt_eq _ _ _ _ _); (case p3 => kba_size); (case p4 => exact retryTag_length _ _); (case p5 => kba_size); (case p6 => exact rf_lo _); (case p7 => exact rf_hi _); (case p8 => kba_size); (case p9 => kba_size); (case q1 => kba_size)); (intro v' nw' h' tk' F' N' hv'); (obtain ⟨x', d', od2', bd', bs', bt', bg', V', e', hb1', hb2', hb3', hb4', hdx', hlt', hr', en'⟩ := hv'; subst e'; subst en'; (try simp only [AllLt] at hlt')); (try k_sweep)))
  k_with "m wpC" => (((with_reducible show wpC _ _ (call (Value.ref 298) _) _ _ _); k_dflt (refine' (takes_retry_ctr _ _ _ _ _ _ _ _ _ _ _ _ _ _ _ _ _ _ _ _ _ _ _ _ _ _ _ _ _ ?p0 ?p1 ?p2 ?p3 ?p4 ?p5 ?p6 ?p7 ?l0 ?l1 ?l2 ?l3 ?l4 ?l5 ?l6 ?l7) _ _ _ _ _ _ _ _ _ _ _ _ _ _ _ _ _ _ _ _ ?kB ?kF ?kX ?kN ?kT ?kK ?kD ?kW ?_; (case kB => k_asm); (case kF => k_asm); (case kX => k_asm); (case kN => k_asm); (case kT => k_asm); (case kK => first | exact rfl | assumption); (case kD => ((simp only [depth_under_make, depth_under_kw, depth_in1, depth_deeper, depth_caller]); (try dsimp only [ktrTop]); omega)); (case kW => ((simp only [units_under_make, units_in1, units_deeper, Around.mark_units, units_caller]); (try dsimp only [ktrTop]); omega)); (case p0 => k_mem); (case p1 => kba_ints2); (case p2 => kba_ints2); (case p3 => kba_ints2); (case p4 => kba_ints2); (case p5 => kba_ints2); (case p6 => kba_ints2); (case p7 => kba_ints2); (case l0 => kba_size); (case l1 => kba_size); (case l2 => kba_size); (case l3 => kba_size); (case l4 => kba_size); (case l5 => kba_size); (case l6 => kba_size); (case l7 => kba_size)); (intro v' nw' h' tk' F' N' hv'); (obtain ⟨q', e', hq', en'⟩ := hv'; subst e'; subst en'); (try k_sweep)))
  k_with "m getAttr ref" => ((first
  | ((with_reducible show wpAny _ _ (getAttr (Value.ref _) (PySem.Str.ofString "kind") _) _ _ _); k_dflt (refine' raw_kind ?F ?X ?N ?x ?d ?r ?_; (case F => k_asm); (case X => k_asm); (case N => k_asm); (case x => k_mem); (case d => k_mem); (case r => assumption)); (intro t'))
  | ((with_reducible show wpAny _ _ (getAttr (Value.ref _) (PySem.Str.ofString "version") _) _ _ _); k_dflt (refine' raw_version ?F ?X ?N ?x ?d ?r ?_; (case F => k_asm); (case X => k_asm); (case N => k_asm); (case x => k_mem); (case d => k_mem); (case r => assumption)); (intro t'))
  | ((with_reducible show wpAny _ _ (getAttr (Value.ref _) (PySem.Str.ofString "dcid") _) _ _ _); k_dflt (refine' raw_dcid ?F ?X ?N ?x ?d ?r ?_; (case F => k_asm); (case X => k_asm); (case N => k_asm); (case x => k_mem); (case d => k_mem); (case r => assumption)); (intro t'))
  | ((with_reducible show wpAny _ _ (getAttr (Value.ref _) (PySem.Str.ofString "scid") _) _ _ _); k_dflt (refine' raw_scid ?F ?X ?N ?x ?d ?r ?_; (case F => k_asm); (case X => k_asm); (case N => k_asm); (case x => k_mem); (case d => k_mem); (case r => assumption)); (intro t'))
  | ((with_reducible show wpAny _ _ (getAttr (Value.ref _) (PySem.Str.ofString "token") _) _ _ _); k_dflt (refine' raw_token ?F ?X ?N ?x ?d ?r ?_; (case F => k_asm); (case X => k_asm); (case N => k_asm); (case x => k_mem); (case d => k_mem); (case r => assumption)); (intro t'))
  | ((with_reducible show wpAny _ _ (getAttr (Value.ref _) (PySem.Str.ofString "tag") _) _ _ _); k_dflt (refine' raw_tag ?F ?X ?N ?x ?d ?r ?_; (case F => k_asm); (case X => k_asm); (case N => k_asm); (case x => k_mem); (case d => k_mem); (case r => assumption)); (intro t'))
  | ((with_reducible show wpAny _ _ (getAttr (Value.ref _) (PySem.Str.ofString "versions") _) _ _ _); k_dflt (refine' raw_versions ?F ?X ?N ?x ?d ?r ?_; (case F => k_asm); (case X => k_asm); (case N => k_asm); (case x => k_mem); (case d => k_mem); (case r => assumption)))
  | ((with_reducible show wpAny _ _ (getAttr (Value.ref _) (PySem.Str.ofString "end") _) _ _ _); k_dflt (refine' raw_end ?F ?X ?N ?x ?d ?r ?_; (case F => k_asm); (case X => k_asm); (case N => k_asm); (case x => k_mem); (case d => k_mem); (case r => assumption)); (intro t'))))
  k_with "m wpC" => (((first | (with_reducible show wpC _ _ (exec (Stmt.Assign _ _ (PySem.Pos.mk 240 _ _ _)) _) _ _ _) | (with_reducible show wpC _ _ (exec (Stmt.Assign _ _ (PySem.Pos.mk 242 _ _ _)) _) _ _ _) | (with_reducible show wpC _ _ (exec (Stmt.Assign _ _ (PySem.Pos.mk 243 _ _ _)) _) _ _ _) | (with_reducible show wpC _ _ (exec (Stmt.Assign _ _ (PySem.Pos.mk 246 _ _ _)) _) _ _ _) | (with_reducible show wpC _ _ (exec (Stmt.Assign _ _ (PySem.Pos.mk 249 _ _ _)) _) _ _ _) | (with_reducible show wpC _ _ (exec (Stmt.If _ _ _ (PySem.Pos.mk 244 _ _ _)) _) _ _ _)); refine C_any ?_; (try k_fold)))
  k_with "m subscriptTail" => (((with_reducible show wpAny _ _ (subscriptTail _ _ (Value.ref _) (Value.int (Int.fdiv _ 3) _)) _ _ _); k_dflt (refine' pick2 ?kN ?km ?k0 ?k1 ?ka ?kb ?_ ?ks; (case kN => k_asm); (case km => k_mem); (case k0 => exact fd3_lo (by assumption)); (case k1 => exact fd3_hi (by assumption)); (case ka => decide); (case kb => exact size_of (by assumption) (by assumption)); (case ks => with_unfolding_all rfl)); (intro b' t' ks' hb' hl')))
  k_with "m subscriptTail Name Slice ref ref" => (((with_reducible show wpAny _ _ (subscriptTail _ (PySem.Expr.Slice none _ none _) (Value.ref _) (Value.ref _)) _ _ _); k_dflt (refine' slice_5of6 ?F ?N ?t ?_ ?s ?g; (case F => k_asm); (case N => k_asm); (case t => k_mem); (case s => with_unfolding_all rfl); (case g => kmk_pure)); intro D' h' F' N' l1; (try k_lt l1); (try k_sweep)))
  k_with "m compareOp NotEq ref ref" => ((k_dflt (refine' tups_ne (xs := [_, _, _, _, _]) (ys := [_, _, _, _, _]) ?N ?a ?b ?u ?e ?_; (case N => k_asm); (case a => k_mem); (case b => k_mem); (case u => units_room); (case e => exact ⟨eq_at_str _ _ _, eq_at_int _ _ _, eq_at_bytes (by assumption) (by assumption), eq_at_bytes (by assumption) (by assumption), eq_at_bytes (by assumption) (by assumption), True.intro⟩))))
  trivial
theorem retries_ctr (w : World) (bd bs : Array UInt8) (kd ks : List Int) (td ts : Tok) (hd1 : KBw.bInts bd = kd) (hs1 : KBw.bInts bs = ks) (l1 : kd.length ≤ 5) (l2 : ks.length ≤ 5) (d r : Addr) (od oR : Obj) (hne : d ≠ r) (ok : DrawsOk r od oR) :
    CtrC w 355 70 7000 [.ref d, .bytes bd td, .bytes bs ts] [(d, od), (r, oR)] (fun v news' => v = .bool true ∧ ∃ od' oR', news' = [(d, od'), (r, oR')] ∧ DrawsOk r od' oR') := use _ (by exact True.intro : Wit (by
  unfold CtrC
  k_fill
  intro mean mg mb dp un gd cn cs a ccd cl outer A₀ base h₀ L m s Q E B F X N T hk hd hu hret
  refine C_call ?_
  k_dflt (refine' code_defK ?k1 ?k2 ?k3 ?k4 ?k5 ?kA ?kF ?kK ?k6 ?k7 ?k8 ?k9 ?kB ?_ ?c2 ?c3 ?c4 ?c5; (case kA => exact rfl); (case kF => exact rfl); (case kK => assumption); (case k1 => k_asm); (case k2 => k_asm); (case k3 => k_asm); (case k4 => k_asm); (case k5 => k_asm); (case k6 => k_is); (case k7 => k_is); (case k8 => ktr_room); (case k9 => exact BindsTo.of_eq rfl); (case c5 => decide); (case kB => exact locs rfl); (case c2 => exact rfl); (case c3 => exact rfl); (case c4 => exact rfl); k_whole; intro g' L' h' FG' F' N' B' X' T'; (try (revert F'; refine letm ?_; intro m' F')); (try dsimp only); (try k_lift B'))
  replace hne := neN hne
  k_steps
  · rename (@Ne Int _ _) => h9
    exact absurd rfl h9
  · rename (_ != (_ != _)) = true => h9
    rename (_ ↔ Takes _ _ _ _ _ _ _ _) => q9
    exact (end_2 h9 q9 (by assumption) hd1 (by assumption)).elim
  · rename (_ ↔ Takes true _ _ _ _ _ _ _) => q9
    exact absurd (q9.1 (by assumption)) takes_seen
  · rename (_ ↔ Takes _ _ _ _ _ _ _ _) => q9
    exact (end_4 q9 (by assumption) (last_16 (by kba_size)) (by assumption) hs1 (by assumption) (by assumption) hd1 (by omega) (by omega) (by assumption) (by assumption) (by assumption) (by assumption)).elim
  · rename (_ ↔ Takes _ _ _ _ _ _ _ _) => q9
    obtain rfl := end_5 q9
    refine' hret _ [(d, _), (r, _)] _ _ ?za ?zb ⟨rfl, _, _, rfl, ?zc⟩
    case zc => assumption
    case za => k_asm
    case zb =>
      refine cb_drop (by k_asm) fun p hp => ?_
      rcases List.mem_cons.mp hp with rfl | hp
      · k_mem
      · rw [List.mem_singleton.mp hp]; k_mem
  · rename (_ != decide _) = true => h9
    rename (_ ↔ Takes _ _ _ _ _ _ _ _) => q9
    exact (end_6 h9 q9 (by assumption)).elim
  · rename (_ ↔ Takes true _ _ _ _ _ _ _) => q9
    exact absurd (q9.1 (by assumption)) takes_seen
  · rename (_ ↔ Takes _ _ _ _ _ _ _ _) => q9
    exact (end_4 q9 (by assumption) (last_16 (by kba_size)) (by assumption) hs1 (by assumption) (by assumption) hd1 (by omega) (by omega) (by assumption) (by assumption) (by assumption) (by assumption)).elim
  · rename (_ ↔ Takes _ _ _ _ _ _ _ _) => q9
    obtain rfl := end_5 q9
    refine' hret _ [(d, _), (r, _)] _ _ ?za ?zb ⟨rfl, _, _, rfl, ?zc⟩
    case zc => assumption
    case za => k_asm
    case zb =>
      refine cb_drop (by k_asm) fun p hp => ?_
      rcases List.mem_cons.mp hp with rfl | hp
      · k_mem
      · rw [List.mem_singleton.mp hp]; k_mem
  ))

end Mine
end

section
open PySem PySem.W PyProof.Rows PySem.Calls PySem.Spec
set_option maxRecDepth 100000
set_option maxHeartbeats 0
namespace Mine
local macro_rules | `(tactic| k_lt $h:ident) => `(tactic| replace $h := allLt_of $h)
theorem regT19x1 : True := by
  k_with_none
  k_with "k_steps" => ((repeat' (first | (k_unfold; (try dsimp only)) | (k_end; wrow_close) | ((fail_if_success (with_reducible show wpAny _ _ (subscriptTail _ _ _ _) _ _ _)); dsimp only; walk1) | walk1 | (dsimp only; walk1) | (leave1; walk_say "STEP leave1"; try dsimp only) | fail "no step")))
  k_with "omega" => ((first
  | ((with_reducible show @LT.lt Nat _ _ _); first | (with_reducible assumption) | ((with_reducible refine' rm2 ?omA ?omB); (case omA => with_reducible assumption); (case omB => exact rfl)) | ((with_reducible refine' rm1 ?omA ?omB); (case omA => with_reducible assumption); (case omB => exact rfl)) | ((with_reducible refine' rm0 ?omA); (case omA => with_reducible assumption)) | ((with_reducible refine' ltL ?omA ?omB); (case omA => with_reducible assumption); (case omB => exact rfl)) | ((with_reducible refine' rm3 ?omA ?omB); (case omA => with_reducible assumption); (case omB => exact rfl)) | (simp only [Nat.reduceAdd, Nat.reduceMul, Nat.reduceSub, Nat.reducePow, Nat.reduceLeDiff, Nat.reduceLT, Nat.zero_le, Nat.le_refl, Nat.zero_lt_one]; done))
  | ((with_reducible show @LE.le Nat _ _ _); first | (with_reducible assumption) | (with_reducible exact Nat.zero_le _) | ((with_reducible refine' leL ?omA ?omB); (case omA => with_reducible assumption); (case omB => exact rfl)) | (simp only [Nat.reduceAdd, Nat.reduceMul, Nat.reduceSub, Nat.reducePow, Nat.reduceLeDiff, Nat.reduceLT, Nat.zero_le, Nat.le_refl, Nat.zero_lt_one]; done))
  | ((with_reducible show @Ne Nat _ _); (with_reducible first
  | assumption
  | exact Ne.symm (by with_reducible assumption)
  | exact Nat.ne_of_gt (by with_reducible assumption)
  | exact Nat.ne_of_gt (And.left (by with_reducible assumption))
  | exact Nat.ne_of_gt (And.left (And.right (by with_reducible assumption)))
  | exact Nat.ne_of_gt (And.left (And.right (And.right (by with_reducible assumption))))
  | exact Nat.ne_of_gt (And.right (by with_reducible assumption))
  | exact Nat.ne_of_gt (And.right (And.right (by with_reducible assumption)))
  | exact gs1 (by with_reducible assumption)
  | exact gs1 (And.left (by with_reducible assumption))
  | exact gs1 (And.left (And.right (by with_reducible assumption)))
  | exact gs1 (And.left (And.right (And.right (by with_reducible assumption))))
  | exact gs1 (And.right (by with_reducible assumption))
  | exact gs1 (And.right (And.right (by with_reducible assumption)))
  | exact gs2 (by with_reducible assumption)
  | exact gs2 (And.left (by with_reducible assumption))
  | exact gs2 (And.left (And.right (by with_reducible assumption)))
  | exact gs2 (And.left (And.right (And.right (by with_reducible assumption))))
  | exact gs2 (And.right (by with_reducible assumption))
  | exact gs2 (And.right (And.right (by with_reducible assumption)))
  | exact Nat.ne_of_lt (by with_reducible assumption)
  | exact Nat.ne_of_lt (And.left (by with_reducible assumption))
  | exact Nat.ne_of_lt (And.left (And.right (by with_reducible assumption)))
  | exact Nat.ne_of_lt (And.left (And.right (And.right (by with_reducible assumption))))
  | exact Nat.ne_of_lt (And.right (by with_reducible assumption))
  | exact Nat.ne_of_lt (And.right (And.right (by with_reducible assumption)))
  | exact ls1 (by with_reducible assumption)
  | exact ls1 (And.left (by with_reducible assumption))
  | exact ls1 (And.left (And.right (by with_reducible assumption)))
  | exact ls1 (And.left (And.right (And.right (by with_reducible assumption))))
  | exact ls1 (And.right (by with_reducible assumption))
  | exact ls1 (And.right (And.right (by with_reducible assumption)))
  | exact ls2 (by with_reducible assumption)
  | exact ls2 (And.left (by with_reducible assumption))
  | exact ls2 (And.left (And.right (by with_reducible assumption)))
  | exact ls2 (And.left (And.right (And.right (by with_reducible assumption))))
  | exact ls2 (And.right (by with_reducible assumption))
  | exact ls2 (And.right (And.right (by with_reducible assumption)))
  | exact Ne.symm (And.left (by with_reducible assumption))
  | exact Ne.symm (And.left (And.right (by with_reducible assumption)))
  | exact Ne.symm (And.left (And.right (And.right (by with_reducible assumption))))
  | exact Ne.symm (And.right (And.right (And.right (by with_reducible assumption))))
  | exact Ne.symm (And.left (And.left (by with_reducible assumption)))
  | exact Ne.symm (And.left (And.right (And.left (by with_reducible assumption))))
  | exact Ne.symm (And.right (And.right (And.left (by with_reducible assumption))))
  | exact Ne.symm (And.left (And.left (And.right (by with_reducible assumption))))
  | exact Ne.symm (And.left (And.right (And.left (And.right (by with_reducible assumption)))))
  | exact Ne.symm (And.right (And.right (And.left (And.right (by with_reducible assumption)))))
  | exact Ne.symm (And.left (And.left (And.right (And.right (by with_reducible assumption)))))
  | exact Ne.symm (And.left (And.right (And.left (And.right (And.right (by with_reducible assumption))))))
  | exact Ne.symm (And.right (And.right (And.left (And.right (And.right (by with_reducible assumption))))))
  | exact Ne.symm (And.left (And.right (And.right (And.right (by with_reducible assumption)))))
  | exact Ne.symm (And.left (And.right (And.right (And.right (And.right (by with_reducible assumption))))))
  | exact Ne.symm (And.right (And.right (And.right (And.right (And.right (by with_reducible assumption))))))
  | exact (And.left (by with_reducible assumption))
  | exact (And.left (And.right (by with_reducible assumption)))
  | exact (And.left (And.right (And.right (by with_reducible assumption))))
  | exact (And.right (And.right (And.right (by with_reducible assumption))))
  | exact (And.left (And.left (by with_reducible assumption)))
  | exact (And.left (And.right (And.left (by with_reducible assumption))))
  | exact (And.right (And.right (And.left (by with_reducible assumption))))
  | exact (And.left (And.left (And.right (by with_reducible assumption))))
  | exact (And.left (And.right (And.left (And.right (by with_reducible assumption)))))
  | exact (And.right (And.right (And.left (And.right (by with_reducible assumption)))))
  | exact (And.left (And.left (And.right (And.right (by with_reducible assumption)))))
  | exact (And.left (And.right (And.left (And.right (And.right (by with_reducible assumption))))))
  | exact (And.right (And.right (And.left (And.right (And.right (by with_reducible assumption))))))
  | exact (And.left (And.right (And.right (And.right (by with_reducible assumption)))))
  | exact (And.left (And.right (And.right (And.right (And.right (by with_reducible assumption))))))
  | exact (And.right (And.right (And.right (And.right (And.right (by with_reducible assumption))))))
  | exact gt2 (by with_reducible assumption) (by with_reducible assumption)
  | fail "no ne"))))
  k_with "units_room" => ((simp only [units_under_make, units_in1, units_deeper, Around.mark_units, units_caller, cLine]; (try dsimp only [ktrTop]); omega))
  k_with "ktr_room" => (((simp only [depth_under_make, depth_under_kw, depth_in1, depth_deeper, depth_caller, recursionLimit]); (try dsimp only [ktrTop]); omega))
  k_with "k_room" => (((simp only [depth_under_make, depth_under_kw, depth_in1, depth_deeper, depth_caller, recursionLimit]); (try dsimp only [ktrTop]); omega))
  k_with "k_all" => (first | assumption | exact ne_of_allLt (by assumption) | exact ne_of_allLt (And.right (by assumption)) | exact ne_of_allLt (And.right (And.right (by assumption))) | exact ne_of_allLt (And.right (And.right (And.right (by assumption)))))
  k_with "m exec For" => (((with_reducible show wpAny _ _ (exec (Stmt.For (PySem.Expr.Name _ _) _ _ [] _) _) _ _ _); (rename Fr _ _ _ _ => lF'); (with_unfolding_all refine' For_invVF lF' ?k1 ?k2 ?_; (case k1 => exact rfl); (case k2 => exact rfl); k_whole)))
  k_with "m InvEndN" => ((refine InvEndN.intro (by assumption) (by assumption) ⟨rfl, ⟨_, by with_unfolding_all rfl⟩, fun z h1 h2 => by first | (simp only [if_neg h1, if_neg h2]; done) | (simp only [if_neg h1, if_neg h2]; rfl) | exact (if_neg h1).trans (if_neg h2)⟩ rfl ?zz1 ?zz2; (case zz1 => exact fun p hp => List.mem_append_left _ hp); (case zz2 => exact fun p hp => List.mem_append_right _ hp)))
  k_with "kba_size" => (((try simp only [List.length_append, be_length, List.length_cons, List.length_nil, List.length_map, List.length_take, List.length_drop, Int.reduceToNat]); omega))
  k_with "kba_size" => (((try simp only [List.length_append, be_length, tag_length, idsOf_length, bodyOf_length, tokOf_length, retryRaw_length, retryTag_length, retryPkt_length, negPkt_length, flat4_length, List.length_cons, List.length_nil, List.length_map, List.length_take, List.length_drop, List.length_set, Int.reduceToNat, clip_m16]); first | done | omega))
  k_with "k_ne" => ((refine neN ?_; (try dsimp only); first | exact gt_ne (by assumption) (by k_mem) | exact lt_ne (by assumption) (by k_mem) | omega))
  k_with "m wpC" => ((
  (fail_if_success (with_reducible show wpC _ _ (call (Value.ref 89) _) _ _ _));
  (fail_if_success (with_reducible show wpC _ _ (call (Value.ref 200) _) _ _ _));
  (fail_if_success (with_reducible show wpC _ _ (call (Value.ref 207) _) _ _ _));
  (fail_if_success (with_reducible show wpC _ _ (call (Value.ref 256) _) _ _ _));
  (fail_if_success (with_reducible show wpC _ _ (call (Value.ref 270) _) _ _ _));
  (fail_if_success (with_reducible show wpC _ _ (call (Value.ref 284) _) _ _ _));
  (fail_if_success (with_reducible show wpC _ _ (call (Value.ref 291) _) _ _ _));
  (fail_if_success (with_reducible show wpC _ _ (call (Value.ref 298) _) _ _ _));
  (fail_if_success (with_reducible show wpC _ _ (call (Value.ref 305) _) _ _ _));
  (fail_if_success (with_reducible show wpC _ _ (call (Value.ref 312) _) _ _ _));
  (fail_if_success (with_reducible show wpC _ _ (call (Value.ref 348) _) _ _ _));
  (fail_if_success (with_reducible show wpC _ _ (call (Value.ref 355) _) _ _ _));
  (fail_if_success (with_reducible show wpC _ _ (call (Value.ref 362) _) _ _ _));
  refine C_any ?_; (try k_fold)))
  k_with "m wpC" => ((k_dflt (with_reducible first
  | refine C_execs_cons ?_
  | refine C_Return ?_
  | refine C_BinOp ?_
  | refine C_Tuple ?_
  | refine C_Call ?_)))
  k_with "m wpC" => ((k_dflt (first
  | ((with_reducible show wpC _ _ (exec (Stmt.Assign [PySem.Expr.Name _ _] _ _) _) _ _ _); refine C_Assign_Name ?_)
  | ((with_reducible show wpC _ _ (eval (PySem.Expr.Compare _ [_] [_] _) _) _ _ _); refine C_Compare ?_)
  | ((with_reducible show wpC _ _ (spliced (backTo _ (starEach (_ :: _) _))) _ _ _); refine C_args_cons ?_)
  | ((with_reducible show wpC _ _ (spliced (backTo _ (starEach [] _))) _ _ _); refine C_args_nil ?_)
  | ((with_reducible show wpC _ _ (callWith _ (Value.builtin _) _ _ _) _ _ _); refine C_callWith_builtin ?_)
  | ((with_reducible show wpC _ _ (callWith _ (Value.type _) _ _ _) _ _ _); refine C_callWith_type ?_)
  | ((with_reducible show wpC _ _ (callWith _ (Value.ref _) _ _ _) _ _ _); refine' C_callK ?k0 ?k1 ?_; (case k0 => k_asm); (case k1 => k_is)))))
  k_with "m wpC" => ((k_dflt (with_reducible first
  | refine C_If ?_
  | refine C_isTrue_Compare ?_
  | refine C_isTrue_not ?_
  | refine C_isTrue_or_nil ?_
  | refine C_isTrue_or ?_
  | refine C_And ?_)))
  k_with "m wpC" => ((k_dflt (first
  | ((with_reducible show wpC _ _ (isTrue (PySem.Expr.Call _ _ _ _) _ _) _ _ _); refine C_isTrue_plain ?_)
  | ((with_reducible show wpC _ _ (isTrue (PySem.Expr.Name _ _) _ _) _ _ _); refine C_isTrue_plain ?_)
  | ((with_reducible show wpC _ _ (eval (PySem.Expr.UnaryOp _ _ _) _) _ _ _); refine C_UnaryOp ?_))))
  k_with "m storeName" => ((k_dflt (refine' storeL ?F ?N ?_ ?a ?b; (case F => k_asm); (case N => k_asm); (case a => rfl); (case b => rfl); k_whole; intro h' m' F' N'; (try k_sweep))))
  k_with "m wpC" => ((k_dflt (first
  | ((with_reducible show wpC _ _ (exec (Stmt.Assign [PySem.Expr.Tuple _ _ _] _ _) _) _ _ _); refine C_AssignT ?_)
  | ((with_reducible show wpC _ _ (exec (Stmt.Assign [PySem.Expr.Tuple _ _ _] _ _) _) _ _ _); refine C_AssignT_swapped ?_))))
  k_with "m call ref" => (((with_reducible show wpAny _ _ (call (Value.ref 331) _) _ _ _); k_dflt (refine' DCtr.use (take_ctr _ _ _ ?p1 ?p2) ?kB ?kF ?kX ?kN ?kT ?kK ?kO ?kE ?kU ?kV ?kD ?kW ?_; (case kB => k_asm); (case kF => k_asm); (case kX => k_asm); (case kN => k_asm); (case kT => k_asm); (case kK => first | exact rfl | assumption); (case kU => k_updF); (case kO => assumption); (case kV => (intro _; k_updF)); (case kE => first | assumption | k_ne); (case kD => ((simp only [depth_under_make, depth_under_kw, depth_in1, depth_deeper, depth_caller]); (try dsimp only [ktrTop]); omega)); (case kW => ((simp only [units_under_make, units_in1, units_deeper, Around.mark_units, units_caller]); (try dsimp only [ktrTop]); omega)); (case p1 => first | omega | kba_size | decide +kernel); (case p2 => first | omega | kba_size | decide +kernel)); (intro v' od' oR' h' tk' hv' ok' F' N'); (obtain ⟨k', t', e', lo', hi'⟩ := hv'; subst e'; (try simp only [Int.reducePow, Int.reduceToNat, Nat.reducePow] at hi')); (try dsimp only at N'); (try k_sweep)))
  k_with "m call ref" => (((with_reducible show wpAny _ _ (call (Value.ref 336) _) _ _ _); k_dflt (refine' DCtr.use (octets_ctr _ _ _ ?p1 ?p2) ?kB ?kF ?kX ?kN ?kT ?kK ?kO ?kE ?kU ?kV ?kD ?kW ?_; (case kB => k_asm); (case kF => k_asm); (case kX => k_asm); (case kN => k_asm); (case kT => k_asm); (case kK => first | exact rfl | assumption); (case kU => k_updF); (case kO => assumption); (case kV => (intro _; k_updF)); (case kE => first | assumption | k_ne); (case kD => ((simp only [depth_under_make, depth_under_kw, depth_in1, depth_deeper, depth_caller]); (try dsimp only [ktrTop]); omega)); (case kW => ((simp only [units_under_make, units_in1, units_deeper, Around.mark_units, units_caller]); (try dsimp only [ktrTop]); omega)); (case p1 => omega); (case p2 => omega)); (intro v' od' oR' h' tk' hv' ok' F' N'); (obtain ⟨b', t', e', hl'⟩ := hv'; subst e'; (obtain ⟨ks', hb'⟩ : ∃ ks', KBw.bInts b' = ks' := ⟨_, rfl⟩); rw [hb'] at hl'; (try simp only [Int.reduceToNat] at hl')); (try dsimp only at N'); (try k_sweep)))
  k_with "m call ref" => (((with_reducible show wpAny _ _ (call (Value.ref 188) _) _ _ _); k_dflt (refine' (put_ids_ctr _ _ _ _ _ _ _ _ ?p1 ?p2 ?p3 ?p4) _ _ _ _ _ _ _ _ _ _ _ _ _ _ _ _ _ _ _ _ ?kB ?kF ?kX ?kN ?kT ?kK ?kD ?kW ?_; (case kB => k_asm); (case kF => k_asm); (case kX => k_asm); (case kN => k_asm); (case kT => k_asm); (case kK => first | exact rfl | assumption); (case kD => ((simp only [depth_under_make, depth_under_kw, depth_in1, depth_deeper, depth_caller]); (try dsimp only [ktrTop]); omega)); (case kW => ((simp only [units_under_make, units_in1, units_deeper, Around.mark_units, units_caller]); (try dsimp only [ktrTop]); omega)); (case p1 => kba_ints2); (case p2 => kba_ints2); (case p3 => kba_size); (case p4 => kba_size)); (intro v' nw' h' tk' F' N' hv'); (obtain ⟨b', t', e', hb', en'⟩ := hv'; subst e'; subst en'); (try k_sweep)))
  k_with "m call ref" => (((with_reducible show wpAny _ _ (call (Value.ref 228) _) _ _ _); k_dflt (refine' (read_long_unknown _ _ _ _ _ _ _ _ _ _ _ ?p1 ?p2 ?p3 ?p4 ?p5 ?p6 ?p7 ?p8) _ _ _ _ _ _ _ _ _ _ _ _ _ _ _ _ _ _ _ _ ?kB ?kF ?kX ?kN ?kT ?kK ?kD ?kW ?_; (case kB => k_asm); (case kF => k_asm); (case kX => k_asm); (case kN => k_asm); (case kT => k_asm); (case kK => first | exact rfl | assumption); (case kD => ((simp only [depth_under_make, depth_under_kw, depth_in1, depth_deeper, depth_caller]); (try dsimp only [ktrTop]); omega)); (case kW => ((simp only [units_under_make, units_in1, units_deeper, Around.mark_units, units_caller]); (try dsimp only [ktrTop]); omega)); (case p1 => assumption); (case p2 => exact rfl); (case p3 => kba_size); (case p4 => omega); (case p5 => omega); (case p6 => omega); (case p7 => omega); (case p8 => omega)); (intro v' nw' h' tk' F' N' hv'); (obtain ⟨x', d', od2', bd', bs', V', e', hb1', hb2', hdx', hlt', hr', en'⟩ := hv'; subst e'; subst en'; (have hlx' := allLt_cons (o := od2') hlt' hdx')); (try k_sweep)))
  k_with "m call ref" => (((with_reducible show wpAny _ _ (call (Value.ref 228) _) _ _ _); k_dflt (refine' (read_long_neg _ _ _ _ _ _ _ _ _ _ ?p1 ?p2 ?p3 ?p4 ?p5 ?p6 ?p7 ?p8 ?p9) _ _ _ _ _ _ _ _ _ _ _ _ _ _ _ _ _ _ _ _ ?kB ?kF ?kX ?kN ?kT ?kK ?kD ?kW ?_; (case kB => k_asm); (case kF => k_asm); (case kX => k_asm); (case kN => k_asm); (case kT => k_asm); (case kK => first | exact rfl | assumption); (case kD => ((simp only [depth_under_make, depth_under_kw, depth_in1, depth_deeper, depth_caller]); (try dsimp only [ktrTop]); omega)); (case kW => ((simp only [units_under_make, units_in1, units_deeper, Around.mark_units, units_caller]); (try dsimp only [ktrTop]); omega)); (case p1 => assumption); (case p2 => exact negPkt_eq _ _ _ _); (case p3 => kba_size); (case p4 => exact flat4_length _); (case p5 => assumption); (case p6 => omega); (case p7 => exact vers_ok (by assumption)); (case p8 => omega); (case p9 => omega)); (intro v' nw' h' tk' F' N' hv'); (obtain ⟨x', d', od2', V', bd', bs', vs', n', e', hb1', hb2', hi', hdx', hxV', hlt', hr', en'⟩ := hv'; subst e'; subst en'; (have hlx' := allLt_cons (o := od2') hlt' hdx'); (have hlV' := allLt_cons (o := instObj 177 d') hlx' hxV')); (try k_sweep)))
  k_with "m wpC" => (((with_reducible show wpC _ _ (call (Value.ref 270) _) _ _ _); k_dflt (refine' (negotiation_ctr _ _ _ _ _ _ _ _ _ _ _ _ _ _ _ _ _ _ _ ?p0 ?p1 ?p2 ?p3 ?p4 ?p5 ?p6 ?p7 ?p8 ?p9) _ _ _ _ _ _ _ _ _ _ _ _ _ _ _ _ _ _ _ _ ?kB ?kF ?kX ?kN ?kT ?kK ?kD ?kW ?_; (case kB => k_asm); (case kF => k_asm); (case kX => k_asm); (case kN => exact pull3 (by k_asm) (by first | k_mem | k_memK) (by first | k_mem | k_memK) (by first | k_mem | k_memK)); (case kT => k_asm); (case kK => first | exact rfl | assumption); (case kD => ((simp only [depth_under_make, depth_under_kw, depth_in1, depth_deeper, depth_caller]); (try dsimp only [ktrTop]); omega)); (case kW => ((simp only [units_under_make, units_in1, units_deeper, Around.mark_units, units_caller]); (try dsimp only [ktrTop]); omega)); (case p0 => assumption); (case p1 => assumption); (case p2 => exact vers_ok (by assumption)); (case p3 => omega); (case p4 => assumption); (case p5 => assumption); (case p6 => omega); (case p7 => omega); (case p8 => omega); (case p9 => omega)); (intro v' nw' h' tk' F' N' hv'); (obtain ⟨b', t', e', hb', en'⟩ := hv'; subst e'; subst en'; (replace N' := drop_first3 N')); (try k_sweep)))
  k_with "m call ref" => (((with_reducible show wpAny _ _ (call (Value.ref 277) _) _ _ _); k_dflt (refine' (chosen_ctr _ _ _ _ _ _ _ _ _ _ _ _ _ _ _ _ _ _ _ _ _ _ _ _ _ _ _ _ ?p1 ?p2 ?p3 ?p4 ?p5 ?p6 ?l1 ?l2 ?l3 ?l4 ?hm ?l5 ?l6) _ _ _ _ _ _ _ _ _ _ _ _ _ _ _ _ _ _ _ _ ?kB ?kF ?kX ?kN ?kT ?kK ?kD ?kW ?_; (case kB => k_asm); (case kF => k_asm); (case kX => k_asm); (case kN => exact pull3 (by k_asm) (by first | k_mem | k_memK) (by first | k_mem | k_memK) (by first | k_mem | k_memK)); (case kT => k_asm); (case kK => first | exact rfl | assumption); (case kD => ((simp only [depth_under_make, depth_under_kw, depth_in1, depth_deeper, depth_caller]); (try dsimp only [ktrTop]); omega)); (case kW => ((simp only [units_under_make, units_in1, units_deeper, Around.mark_units, units_caller]); (try dsimp only [ktrTop]); omega)); (case p1 => assumption); (case p2 => assumption); (case p3 => assumption); (case p4 => assumption); (case p5 => assumption); (case p6 => assumption); (case l1 => omega); (case l2 => omega); (case l3 => omega); (case l4 => omega); (case hm => exact trivial); (case l5 => omega); (case l6 => kba_size)); (intro v' nw' h' tk' F' N' hv'); (obtain ⟨T', o', e', hlt', htold', en'⟩ := hv'; subst e'; subst en'; (replace N' := drop_234 N')); (try k_sweep)))
  k_with "m getAttr ref" => ((first
  | ((with_reducible show wpAny _ _ (getAttr (Value.ref _) (PySem.Str.ofString "kind") _) _ _ _); k_dflt (refine' raw_kind ?F ?X ?N ?x ?d ?r ?_; (case F => k_asm); (case X => k_asm); (case N => k_asm); (case x => k_mem); (case d => k_mem); (case r => assumption)); (intro t'))
  | ((with_reducible show wpAny _ _ (getAttr (Value.ref _) (PySem.Str.ofString "version") _) _ _ _); k_dflt (refine' raw_version ?F ?X ?N ?x ?d ?r ?_; (case F => k_asm); (case X => k_asm); (case N => k_asm); (case x => k_mem); (case d => k_mem); (case r => assumption)); (intro t'))
  | ((with_reducible show wpAny _ _ (getAttr (Value.ref _) (PySem.Str.ofString "dcid") _) _ _ _); k_dflt (refine' raw_dcid ?F ?X ?N ?x ?d ?r ?_; (case F => k_asm); (case X => k_asm); (case N => k_asm); (case x => k_mem); (case d => k_mem); (case r => assumption)); (intro t'))
  | ((with_reducible show wpAny _ _ (getAttr (Value.ref _) (PySem.Str.ofString "scid") _) _ _ _); k_dflt (refine' raw_scid ?F ?X ?N ?x ?d ?r ?_; (case F => k_asm); (case X => k_asm); (case N => k_asm); (case x => k_mem); (case d => k_mem); (case r => assumption)); (intro t'))
  | ((with_reducible show wpAny _ _ (getAttr (Value.ref _) (PySem.Str.ofString "token") _) _ _ _); k_dflt (refine' raw_token ?F ?X ?N ?x ?d ?r ?_; (case F => k_asm); (case X => k_asm); (case N => k_asm); (case x => k_mem); (case d => k_mem); (case r => assumption)); (intro t'))
  | ((with_reducible show wpAny _ _ (getAttr (Value.ref _) (PySem.Str.ofString "tag") _) _ _ _); k_dflt (refine' raw_tag ?F ?X ?N ?x ?d ?r ?_; (case F => k_asm); (case X => k_asm); (case N => k_asm); (case x => k_mem); (case d => k_mem); (case r => assumption)); (intro t'))
  | ((with_reducible show wpAny _ _ (getAttr (Value.ref _) (PySem.Str.ofString "versions") _) _ _ _); k_dflt (refine' raw_versions ?F ?X ?N ?x ?d ?r ?_; (case F => k_asm); (case X => k_asm); (case N => k_asm); (case x => k_mem); (case d => k_mem); (case r => assumption)))
  | ((with_reducible show wpAny _ _ (getAttr (Value.ref _) (PySem.Str.ofString "end") _) _ _ _); k_dflt (refine' raw_end ?F ?X ?N ?x ?d ?r ?_; (case F => k_asm); (case X => k_asm); (case N => k_asm); (case x => k_mem); (case d => k_mem); (case r => assumption)); (intro t'))))
  k_with "m wpC" => (((first | (with_reducible show wpC _ _ (exec (Stmt.Assign _ _ (PySem.Pos.mk 223 _ _ _)) _) _ _ _) | (with_reducible show wpC _ _ (exec (Stmt.Assign _ _ (PySem.Pos.mk 226 _ _ _)) _) _ _ _) | (with_reducible show wpC _ _ (exec (Stmt.Assign _ _ (PySem.Pos.mk 228 _ _ _)) _) _ _ _) | (with_reducible show wpC _ _ (exec (Stmt.If _ _ _ (PySem.Pos.mk 227 _ _ _)) _) _ _ _) | (with_reducible show wpC _ _ (exec (Stmt.Return _ (PySem.Pos.mk 237 _ _ _)) _) _ _ _) | (with_reducible show wpC _ _ (exec (Stmt.Return _ (PySem.Pos.mk 238 _ _ _)) _) _ _ _)); refine C_any ?_; (try k_fold)))
  k_with "m wpC" => (((with_reducible show wpC _ _ (exec (Stmt.Assign _ _ (PySem.Pos.mk 224 _ _ _)) _) _ _ _); (rename News _ _ _ _ => N9); (replace N9 := mask_news [false, false, true, false, false, false] N9); (dsimp only [mask] at N9); refine C_any ?_; (try k_fold)))
  k_with "m wpC" => (((with_reducible show wpC _ _ (exec (Stmt.Assign _ _ (PySem.Pos.mk 225 _ _ _)) _) _ _ _); (rename News _ _ _ _ => N9); (replace N9 := mask_news [false] N9); (dsimp only [mask] at N9); refine C_any ?_; (try k_fold)))
  k_with "m wpC" => (((with_reducible show wpC _ _ (exec (Stmt.If _ _ _ (PySem.Pos.mk 230 _ _ _)) _) _ _ _); (rename News _ _ _ _ => N9); (replace N9 := mask_news [true, true, true, false, false] N9); (dsimp only [mask] at N9); refine C_any ?_; (try k_fold)))
  k_with "m wpC" => (((with_reducible show wpC _ _ (exec (Stmt.Assign _ _ (PySem.Pos.mk 232 _ _ _)) _) _ _ _); (rename News _ _ _ _ => N9); (replace N9 := mask_news [false, false] N9); (dsimp only [mask] at N9); refine C_any ?_; (try k_fold)))
  k_with "m wpC" => (((with_reducible show wpC _ _ (exec (Stmt.Assign _ _ (PySem.Pos.mk 233 _ _ _)) _) _ _ _); (rename News _ _ _ _ => N9); (replace N9 := mask_news [false] N9); (dsimp only [mask] at N9); refine C_any ?_; (try k_fold)))
  k_with "m wpC" => (((with_reducible show wpC _ _ (exec (Stmt.Assign _ _ (PySem.Pos.mk 234 _ _ _)) _) _ _ _); (rename News _ _ _ _ => N9); (replace N9 := mask_news [true, false, false, false, false, false] N9); (dsimp only [mask] at N9); refine C_any ?_; (try k_fold)))
  k_with "m wpC" => (((with_reducible show wpC _ _ (exec (Stmt.Assign _ _ (PySem.Pos.mk 235 _ _ _)) _) _ _ _); (rename News _ _ _ _ => N9); (replace N9 := mask_news [true, false, false, false, false, false] N9); (dsimp only [mask] at N9); refine C_any ?_; (try k_fold)))
  k_with "m wpC" => (((first | (with_reducible show wpC _ _ (exec (Stmt.If _ _ _ (PySem.Pos.mk 236 _ _ _)) _) _ _ _)); refine C_any ?_; (try k_fold)))
  k_with "m CompSrcT" => ((
  (rename DrawsOk _ _ _ => ok8);
  k_dflt (refine LCt.CompSrcT.range (n := 4) (by rfl) (by k_asm) (by k_asm) (by assumption) (by decide) (by decide) (by first | size_fits | exact Nat.le_of_ble_eq_true rfl) ?_);
  intro g';
  refine' comp_pickT (fun od oR => (_, _) :: (_, _) :: (_, od) :: (_, oR) :: []) (fun k => 0 ≤ k ∧ k < 1000) ok8 ?_ ?_;
  (intro od' oR' ys' v' I' oI' C' oC' D' m' h' tk' i' E' ok' hi' hv' hC' hx' F' N' off' ne'; (try dsimp only at N'); (have off2 := off'); (try simp only [LCg.Off3, and_true] at off2); (obtain ⟨t9', hv9'⟩ := hv'; subst hv9'));
  rotate_left; (intro ys' ks' od' oR' hy' hl' hp' ok'; (try dsimp only))))
  k_with "m CompEnd" => (k_dflt (first
  | (refine LCg.CompEnd.intro (by k_asm) (by k_asm) ((_, _) :: (_, _) :: (_, _) :: (_, _) :: []) (fun p hp => .tail _ hp) (by assumption) True.intro ⟨⟨_, _, rfl, by assumption⟩, _, _, rfl, by assumption⟩)
  | (refine LCg.CompEnd.intro (by k_asm) (by k_asm) ((_, _) :: (_, _) :: (_, _) :: (_, _) :: []) (fun p hp => hp) (by assumption) True.intro ⟨_, _, rfl, by assumption⟩)))
  k_with "m subscriptTail" => (((with_reducible show wpAny _ _ (subscriptTail _ _ (Value.ref _) (Value.int _ _)) _ _ _); k_dflt (first
  | (refine' pick_ver ?kN ?km ?k0 ?k1 ?_ ?ks; (case kN => k_asm); (case km => k_mem); (case k0 => omega); (case k1 => omega); (case ks => with_unfolding_all rfl); intro v' t' hv')
  | (refine' pick_own ?kN ?km ?k0 ?k1 ?_ ?ks; (case kN => k_asm); (case km => k_mem); (case k0 => assumption); (case k1 => assumption); (case ks => with_unfolding_all rfl); intro own' t' o0' o1'))))
  k_with "m call type:bytes" => ((k_dflt (refine' bytes_ver ?kF ?kN ?kh ?km ?k0 ?k1 ?o0 ?o1 ?_; (case kF => k_asm); (case kN => k_asm); (case kh => rfl); (case km => k_mem); (case k0 => assumption); (case k1 => assumption); (case o0 => assumption); (case o1 => assumption)); intro b' h' t' tk' F' N' hb'))
  k_with "m compareOp NotIn int ref" => ((k_dflt (refine' notin_far ?kN ?km ?ki ?kb ?kk ?_; (case kN => k_asm); (case km => first | k_mem | k_memK); (case ki => assumption); (case kb => assumption); (case kk => omega))))
  k_with "m ite" => (refine ite_neg (size_bne (by assumption) (by assumption)) ?_)
  k_with "m compareOp NotEq ref ref" => ((k_dflt (refine' tups_ne (xs := [_, _, _, _]) (ys := [_, _, _, _]) ?N ?a ?b ?u ?e ?_; (case N => k_asm); (case a => k_mem); (case b => k_mem); (case u => units_room); (case e => exact ⟨eq_at_str _ _ _, eq_at_bytes (by assumption) (by assumption), eq_at_bytes (by assumption) (by assumption), eq_at_lists (by k_ne) (News.isList (by k_asm) (by first | k_mem | k_memK)) (News.isList (by k_asm) (by first | k_mem | k_memK)) (by assumption) (by assumption) (by units_room), True.intro⟩))))
  k_with "m subscriptTail" => (((with_reducible show wpAny _ _ (subscriptTail _ _ (Value.ref _) (Value.int _ _)) _ _ _); k_dflt (refine' pick_ids ?kN ?km ?m0 ?m1 ?m2 ?m3 ?k0 ?k1 ?kd ?ke ?e2 ?e3 ?z1 ?z2 ?z3 ?z4 ?_ ?ks; (case kN => k_asm); (case km => k_mem); (case m0 => k_mem); (case m1 => k_mem); (case m2 => k_mem); (case m3 => k_mem); (case k0 => assumption); (case k1 => assumption); (case kd => assumption); (case ke => assumption); (case e2 => assumption); (case e3 => assumption); (case z1 => omega); (case z2 => omega); (case z3 => exact Nat.zero_le _); (case z4 => exact Nat.zero_le _); (case ks => with_unfolding_all rfl)); intro T' a' b' ta' tb' ka' kb' ha' hb' hla' hlb' hsame' hdiff' N'))
  k_with "m exec Assign cons ListComp" => ((lct_look; k_dflt (refine LCt.Assign_ListComp_T (F₀ := by k_asm) (by rfl) (by with_unfolding_all rfl) (by with_unfolding_all rfl) (by decide) (by rfl) (by decide) (by rfl) (by rfl) (by rfl) ?_); k_dflt lct_toSrc))
  k_with "m CompSrcT" => ((
  (rename IntsAre _ (List.drop _ [7, 1, 300, 2] ++ [12]) => iw8);
  (rename IntsAre _ _ => ik8);
  k_dflt (refine LCt.CompSrcT.ledger (its := List.toArray _) (by rfl) (by k_asm) (by k_asm) (by first | k_mem | k_memK) (by rw [PySem.sizeLine_eq, List.size_toArray, iw8.length]; simp; omega) ?_);
  intro g';
  refine' comp_anyT ik8 iw8 ?_ ?_;
  (intro ys' k' t' I' oI' C' oC' D' m' h' tk' E' hC' hx' F' N' off' ne'; (try dsimp only at N'); (have off2 := off'); (try simp only [LCg.Off3, and_true] at off2));
  rotate_left; (intro ys' hy'; (try dsimp only))))
  k_with "m CompBr" => ((refine CompBr.intro rfl (fun hb' => ?_) (fun hb' => ?_)))
  k_with "m CompEnd" => (k_dflt (first
  | (refine LCg.CompEnd.intro (by k_asm) (by k_asm) _ (fun p hp => hp) (by assumption) (.inr ⟨_, by first | k_mem | k_memK, rfl, _, rfl⟩) ⟨⟨_, rfl⟩, rfl⟩)
  | (refine LCg.CompEnd.intro (by k_asm) (by k_asm) _ (fun p hp => hp) (by assumption) (.inr ⟨_, by first | k_mem | k_memK, rfl, _, rfl⟩) rfl)))
  k_with "m compareOp Eq ref ref" => (((rename Told _ _ _ _ _ _ _ _ _ => td9); (rename (1 < _ → _ ∨ _) => hdf9); (rename (¬ 1 < _ → _ ∧ _) => hsm9); k_dflt (first
  | (refine' told_ign ?N ?a ?b ?u td9 ?i ?_; (case N => k_asm); (case a => k_mem); (case b => k_mem); (case u => units_room); (case i => first | exact ign_seen (beq_iff_eq.2 (by assumption)) | exact ign_ids (hdf9 (by assumption)) | exact ign_own (by assumption)))
  | (refine' told_use ?N ?a ?b ?u td9 ?i ?x ?_; (case N => k_asm); (case a => k_mem); (case b => k_mem); (case u => units_room); (case i => exact not_ign_of (beq_eq_false_iff_ne.2 (by assumption)) (hsm9 (by assumption)) (by assumption)); (case x => assumption))
  | (refine' told_none ?N ?a ?b ?u td9 ?i ?x ?_; (case N => k_asm); (case a => k_mem); (case b => k_mem); (case u => units_room); (case i => exact not_ign_of (beq_eq_false_iff_ne.2 (by assumption)) (hsm9 (by assumption)) (by assumption)); (case x => assumption)))))
  k_with "m compareOp NotEq ref ref" => (((rename IntsAre _ (List.filter _ _) => hf9); k_dflt (refine' both_ne ?N ?D ?X ?u hf9 (fun hz' => ?_) (fun hz' => ?_); (case N => k_asm); (case D => k_mem); (case X => k_mem); (case u => units_room))))
  k_with "m subscriptTail" => (((with_reducible show wpAny _ _ (subscriptTail _ _ (Value.ref _) (Value.int 0 _)) _ _ _); (rename IntsAre _ (List.filter _ _) => hf9); k_dflt (refine' pick_first ?N ?D hf9 ?ne ?_ ?ks; (case N => k_asm); (case D => k_mem); (case ne => assumption); (case ks => with_unfolding_all rfl)); intro x' t' hx'))
  trivial
theorem versions_ctr (w : World) (bd bs : Array UInt8) (kd ks : List Int) (td ts : Tok) (hd1 : KBw.bInts bd = kd) (hs1 : KBw.bInts bs = ks) (l1 : kd.length ≤ 5) (l2 : ks.length ≤ 5) (d r : Addr) (od oR : Obj) (hne : d ≠ r) (ok : DrawsOk r od oR) :
    CtrC w 348 70 7000 [.ref d, .bytes bd td, .bytes bs ts] [(d, od), (r, oR)] (fun v news' => v = .bool true ∧ ∃ od' oR', news' = [(d, od'), (r, oR')] ∧ DrawsOk r od' oR') := use _ (by exact True.intro : Wit (by
  unfold CtrC
  k_fill
  intro mean mg mb dp un gd cn cs a ccd cl outer A₀ base h₀ L m s Q E B F X N T hk hd hu hret
  refine C_call ?_
  k_dflt (refine' code_defKC ?k1 ?k2 ?k3 ?k4 ?k5 ?kA ?kF ?kK ?k6 ?k7 ?k8 ?k9 ?kB ?kD ?_ ?c2 ?c3 ?c4; (case kA => exact rfl); (case kF => exact rfl); (case kK => assumption); (case k1 => k_asm); (case k2 => k_asm); (case k3 => k_asm); (case k4 => k_asm); (case k5 => k_asm); (case k6 => k_is); (case k7 => k_is); (case k8 => ktr_room); (case k9 => exact BindsTo.of_eq rfl); (case kB => exact rfl); (case kD => decide +kernel); (case c2 => exact rfl); (case c3 => exact rfl); (case c4 => exact rfl); k_whole; intro g' L' h' tk' cells' FG' F' N' Y' B' X' T' l1; (try (revert F'; refine letm ?_; intro m' F')); (try k_lt l1); k_cells Y'; (try simp only [List.cons_append, List.nil_append] at N'); (try dsimp only); (try k_lift B'))
  have l9 : @LT.lt Nat _ d L' ∧ @LT.lt Nat _ r L' := ⟨l1.1, l1.2.1⟩
  replace hne := neN hne
  rename Fr _ _ _ _ => FL9
  rename News _ _ _ _ => NL9
  refine cut_known _ _ d r FL9 NL9 ?_ ?_
  · refine C_any ?_
    k_steps
    all_goals first
      | (refine' ⟨rfl, _, _, _, [_], [9], _, _, _, _, rfl, ?zzf, ?zzn, ?zza, .cons _ _ .nil, by decide, by decide, by decide, ?zzl, ?zzo⟩
         case zzf => k_asm
         case zzo => assumption
         case zza => assumption
         case zzn => exact drop_2 (by k_asm)
         case zzl => refine ⟨?_, ?_, ?_, ?_⟩ <;> k_ne)
      | (refine' ⟨rfl, _, _, _, _, _, _, _, _, _, rfl, ?zzf, ?zzn, ?zza, ?zzi, ?zzb, ?zzp, ?zzz, ?zzl, ?zzo⟩
         case zzf => k_asm
         case zzn => k_asm
         case zza => assumption
         case zzi => assumption
         case zzo => assumption
         case zzl => assumption
         case zzb => assumption
         case zzp => first | assumption | exact not_empty (by assumption) (by assumption)
         case zzz => omega)
  intro h' tk' V' vs' ks' nv' o2' od' oR' F' N' d1' hi' hb' hlo' hhi' l1 ok'
  (try dsimp only)
  (try k_fold)
  k_steps
  all_goals (
    refine' hret _ [(d, _), (r, _)] _ _ ?zza ?zzb ⟨rfl, _, _, rfl, ?zzc⟩
    case zzc => assumption
    case zza => k_asm
    case zzb =>
      refine cb_drop (by k_asm) fun p hp => ?_
      rcases List.mem_cons.mp hp with rfl | hp
      · k_mem
      · rw [List.mem_singleton.mp hp]; k_mem)
  ))

end Mine
end

section
open PySem PySem.W PyProof.Rows PySem.Calls PySem.Spec
set_option maxRecDepth 100000
set_option maxHeartbeats 0
namespace Mine
theorem regT20x1 : True := by
  k_with_none
  k_with "k_steps" => ((repeat' (first | (k_unfold; (try dsimp only)) | (k_end; wrow_close) | ((fail_if_success (with_reducible show wpAny _ _ (subscriptTail _ _ _ _) _ _ _)); dsimp only; walk1) | walk1 | (dsimp only; walk1) | (leave1; walk_say "STEP leave1"; try dsimp only) | fail "no step")))
  k_with "omega" => ((first
  | ((with_reducible show @LT.lt Nat _ _ _); first | (with_reducible assumption) | ((with_reducible refine' rm2 ?omA ?omB); (case omA => with_reducible assumption); (case omB => exact rfl)) | ((with_reducible refine' rm1 ?omA ?omB); (case omA => with_reducible assumption); (case omB => exact rfl)) | ((with_reducible refine' rm0 ?omA); (case omA => with_reducible assumption)) | ((with_reducible refine' ltL ?omA ?omB); (case omA => with_reducible assumption); (case omB => exact rfl)) | ((with_reducible refine' rm3 ?omA ?omB); (case omA => with_reducible assumption); (case omB => exact rfl)) | (simp only [Nat.reduceAdd, Nat.reduceMul, Nat.reduceSub, Nat.reducePow, Nat.reduceLeDiff, Nat.reduceLT, Nat.zero_le, Nat.le_refl, Nat.zero_lt_one]; done))
  | ((with_reducible show @LE.le Nat _ _ _); first | (with_reducible assumption) | (with_reducible exact Nat.zero_le _) | ((with_reducible refine' leL ?omA ?omB); (case omA => with_reducible assumption); (case omB => exact rfl)) | (simp only [Nat.reduceAdd, Nat.reduceMul, Nat.reduceSub, Nat.reducePow, Nat.reduceLeDiff, Nat.reduceLT, Nat.zero_le, Nat.le_refl, Nat.zero_lt_one]; done))
  | ((with_reducible show @Ne Nat _ _); (with_reducible first
  | assumption
  | exact Ne.symm (by with_reducible assumption)
  | exact Nat.ne_of_gt (by with_reducible assumption)
  | exact Nat.ne_of_gt (And.left (by with_reducible assumption))
  | exact Nat.ne_of_gt (And.left (And.right (by with_reducible assumption)))
  | exact Nat.ne_of_gt (And.left (And.right (And.right (by with_reducible assumption))))
  | exact Nat.ne_of_gt (And.right (by with_reducible assumption))
  | exact Nat.ne_of_gt (And.right (And.right (by with_reducible assumption)))
  | exact gs1 (by with_reducible assumption)
  | exact gs1 (And.left (by with_reducible assumption))
  | exact gs1 (And.left (And.right (by with_reducible assumption)))
  | exact gs1 (And.left (And.right (And.right (by with_reducible assumption))))
  | exact gs1 (And.right (by with_reducible assumption))
  | exact gs1 (And.right (And.right (by with_reducible assumption)))
  | exact gs2 (by with_reducible assumption)
  | exact gs2 (And.left (by with_reducible assumption))
  | exact gs2 (And.left (And.right (by with_reducible assumption)))
  | exact gs2 (And.left (And.right (And.right (by with_reducible assumption))))
  | exact gs2 (And.right (by with_reducible assumption))
  | exact gs2 (And.right (And.right (by with_reducible assumption)))
  | exact Nat.ne_of_lt (by with_reducible assumption)
  | exact Nat.ne_of_lt (And.left (by with_reducible assumption))
  | exact Nat.ne_of_lt (And.left (And.right (by with_reducible assumption)))
  | exact Nat.ne_of_lt (And.left (And.right (And.right (by with_reducible assumption))))
  | exact Nat.ne_of_lt (And.right (by with_reducible assumption))
  | exact Nat.ne_of_lt (And.right (And.right (by with_reducible assumption)))
  | exact ls1 (by with_reducible assumption)
  | exact ls1 (And.left (by with_reducible assumption))
  | exact ls1 (And.left (And.right (by with_reducible assumption)))
  | exact ls1 (And.left (And.right (And.right (by with_reducible assumption))))
  | exact ls1 (And.right (by with_reducible assumption))
  | exact ls1 (And.right (And.right (by with_reducible assumption)))
  | exact ls2 (by with_reducible assumption)
  | exact ls2 (And.left (by with_reducible assumption))
  | exact ls2 (And.left (And.right (by with_reducible assumption)))
  | exact ls2 (And.left (And.right (And.right (by with_reducible assumption))))
  | exact ls2 (And.right (by with_reducible assumption))
  | exact ls2 (And.right (And.right (by with_reducible assumption)))
  | exact Ne.symm (And.left (by with_reducible assumption))
  | exact Ne.symm (And.left (And.right (by with_reducible assumption)))
  | exact Ne.symm (And.left (And.right (And.right (by with_reducible assumption))))
  | exact Ne.symm (And.right (And.right (And.right (by with_reducible assumption))))
  | exact Ne.symm (And.left (And.left (by with_reducible assumption)))
  | exact Ne.symm (And.left (And.right (And.left (by with_reducible assumption))))
  | exact Ne.symm (And.right (And.right (And.left (by with_reducible assumption))))
  | exact Ne.symm (And.left (And.left (And.right (by with_reducible assumption))))
  | exact Ne.symm (And.left (And.right (And.left (And.right (by with_reducible assumption)))))
  | exact Ne.symm (And.right (And.right (And.left (And.right (by with_reducible assumption)))))
  | exact Ne.symm (And.left (And.left (And.right (And.right (by with_reducible assumption)))))
  | exact Ne.symm (And.left (And.right (And.left (And.right (And.right (by with_reducible assumption))))))
  | exact Ne.symm (And.right (And.right (And.left (And.right (And.right (by with_reducible assumption))))))
  | exact Ne.symm (And.left (And.right (And.right (And.right (by with_reducible assumption)))))
  | exact Ne.symm (And.left (And.right (And.right (And.right (And.right (by with_reducible assumption))))))
  | exact Ne.symm (And.right (And.right (And.right (And.right (And.right (by with_reducible assumption))))))
  | exact (And.left (by with_reducible assumption))
  | exact (And.left (And.right (by with_reducible assumption)))
  | exact (And.left (And.right (And.right (by with_reducible assumption))))
  | exact (And.right (And.right (And.right (by with_reducible assumption))))
  | exact (And.left (And.left (by with_reducible assumption)))
  | exact (And.left (And.right (And.left (by with_reducible assumption))))
  | exact (And.right (And.right (And.left (by with_reducible assumption))))
  | exact (And.left (And.left (And.right (by with_reducible assumption))))
  | exact (And.left (And.right (And.left (And.right (by with_reducible assumption)))))
  | exact (And.right (And.right (And.left (And.right (by with_reducible assumption)))))
  | exact (And.left (And.left (And.right (And.right (by with_reducible assumption)))))
  | exact (And.left (And.right (And.left (And.right (And.right (by with_reducible assumption))))))
  | exact (And.right (And.right (And.left (And.right (And.right (by with_reducible assumption))))))
  | exact (And.left (And.right (And.right (And.right (by with_reducible assumption)))))
  | exact (And.left (And.right (And.right (And.right (And.right (by with_reducible assumption))))))
  | exact (And.right (And.right (And.right (And.right (And.right (by with_reducible assumption))))))
  | exact gt2 (by with_reducible assumption) (by with_reducible assumption)
  | fail "no ne"))))
  k_with "units_room" => ((simp only [units_under_make, units_in1, units_deeper, Around.mark_units, units_caller, cLine]; (try dsimp only [ktrTop]); omega))
  k_with "ktr_room" => (((simp only [depth_under_make, depth_under_kw, depth_in1, depth_deeper, depth_caller, recursionLimit]); (try dsimp only [ktrTop]); omega))
  k_with "k_room" => (((simp only [depth_under_make, depth_under_kw, depth_in1, depth_deeper, depth_caller, recursionLimit]); (try dsimp only [ktrTop]); omega))
  k_with "k_all" => (first | assumption | exact ne_of_allLt (by assumption) | exact ne_of_allLt (And.right (by assumption)) | exact ne_of_allLt (And.right (And.right (by assumption))) | exact ne_of_allLt (And.right (And.right (And.right (by assumption)))))
  k_with "m exec For" => (((with_reducible show wpAny _ _ (exec (Stmt.For (PySem.Expr.Name _ _) _ _ [] _) _) _ _ _); (rename Fr _ _ _ _ => lF'); (with_unfolding_all refine' For_invVF lF' ?k1 ?k2 ?_; (case k1 => exact rfl); (case k2 => exact rfl); k_whole)))
  k_with "m InvEndN" => ((refine InvEndN.intro (by assumption) (by assumption) ⟨rfl, ⟨_, by with_unfolding_all rfl⟩, fun z h1 h2 => by first | (simp only [if_neg h1, if_neg h2]; done) | (simp only [if_neg h1, if_neg h2]; rfl) | exact (if_neg h1).trans (if_neg h2)⟩ rfl ?zz1 ?zz2; (case zz1 => exact fun p hp => List.mem_append_left _ hp); (case zz2 => exact fun p hp => List.mem_append_right _ hp)))
  k_with "kba_size" => (((try simp only [List.length_append, be_length, List.length_cons, List.length_nil, List.length_map, List.length_take, List.length_drop, Int.reduceToNat]); omega))
  k_with "kba_size" => (((try simp only [List.length_append, be_length, tag_length, idsOf_length, bodyOf_length, tokOf_length, retryRaw_length, retryTag_length, retryPkt_length, negPkt_length, flat4_length, List.length_cons, List.length_nil, List.length_map, List.length_take, List.length_drop, List.length_set, Int.reduceToNat]); first | done | omega))
  k_with "m wpC" => ((
  (fail_if_success (with_reducible show wpC _ _ (call (Value.ref 89) _) _ _ _));
  (fail_if_success (with_reducible show wpC _ _ (call (Value.ref 200) _) _ _ _));
  (fail_if_success (with_reducible show wpC _ _ (call (Value.ref 207) _) _ _ _));
  (fail_if_success (with_reducible show wpC _ _ (call (Value.ref 256) _) _ _ _));
  (fail_if_success (with_reducible show wpC _ _ (call (Value.ref 270) _) _ _ _));
  (fail_if_success (with_reducible show wpC _ _ (call (Value.ref 284) _) _ _ _));
  (fail_if_success (with_reducible show wpC _ _ (call (Value.ref 291) _) _ _ _));
  (fail_if_success (with_reducible show wpC _ _ (call (Value.ref 298) _) _ _ _));
  (fail_if_success (with_reducible show wpC _ _ (call (Value.ref 305) _) _ _ _));
  (fail_if_success (with_reducible show wpC _ _ (call (Value.ref 312) _) _ _ _));
  (fail_if_success (with_reducible show wpC _ _ (call (Value.ref 348) _) _ _ _));
  (fail_if_success (with_reducible show wpC _ _ (call (Value.ref 355) _) _ _ _));
  (fail_if_success (with_reducible show wpC _ _ (call (Value.ref 362) _) _ _ _));
  refine C_any ?_; (try k_fold)))
  k_with "m wpC" => ((k_dflt (with_reducible first
  | refine C_execs_cons ?_
  | refine C_Return ?_
  | refine C_BinOp ?_
  | refine C_Tuple ?_
  | refine C_Call ?_)))
  k_with "m wpC" => ((k_dflt (first
  | ((with_reducible show wpC _ _ (exec (Stmt.Assign [PySem.Expr.Name _ _] _ _) _) _ _ _); refine C_Assign_Name ?_)
  | ((with_reducible show wpC _ _ (eval (PySem.Expr.Compare _ [_] [_] _) _) _ _ _); refine C_Compare ?_)
  | ((with_reducible show wpC _ _ (spliced (backTo _ (starEach (_ :: _) _))) _ _ _); refine C_args_cons ?_)
  | ((with_reducible show wpC _ _ (spliced (backTo _ (starEach [] _))) _ _ _); refine C_args_nil ?_)
  | ((with_reducible show wpC _ _ (callWith _ (Value.builtin _) _ _ _) _ _ _); refine C_callWith_builtin ?_)
  | ((with_reducible show wpC _ _ (callWith _ (Value.type _) _ _ _) _ _ _); refine C_callWith_type ?_)
  | ((with_reducible show wpC _ _ (callWith _ (Value.ref _) _ _ _) _ _ _); refine' C_callK ?k0 ?k1 ?_; (case k0 => k_asm); (case k1 => k_is)))))
  k_with "m wpC" => ((k_dflt (with_reducible first
  | refine C_If ?_
  | refine C_isTrue_Compare ?_
  | refine C_isTrue_not ?_
  | refine C_isTrue_or_nil ?_
  | refine C_isTrue_or ?_
  | refine C_And ?_)))
  k_with "m wpC" => ((k_dflt (first
  | ((with_reducible show wpC _ _ (isTrue (PySem.Expr.Call _ _ _ _) _ _) _ _ _); refine C_isTrue_plain ?_)
  | ((with_reducible show wpC _ _ (isTrue (PySem.Expr.Name _ _) _ _) _ _ _); refine C_isTrue_plain ?_)
  | ((with_reducible show wpC _ _ (eval (PySem.Expr.UnaryOp _ _ _) _) _ _ _); refine C_UnaryOp ?_))))
  k_with "m storeName" => ((k_dflt (refine' storeL ?F ?N ?_ ?a ?b; (case F => k_asm); (case N => k_asm); (case a => rfl); (case b => rfl); k_whole; intro h' m' F' N'; (try k_sweep))))
  k_with "m wpC" => ((k_dflt (first
  | ((with_reducible show wpC _ _ (exec (Stmt.Assign [PySem.Expr.Tuple _ _ _] _ _) _) _ _ _); refine C_AssignT ?_)
  | ((with_reducible show wpC _ _ (exec (Stmt.Assign [PySem.Expr.Tuple _ _ _] _ _) _) _ _ _); refine C_AssignT_swapped ?_))))
  k_with "m call ref" => (((with_reducible show wpAny _ _ (call (Value.ref 331) _) _ _ _); k_dflt (refine' DCtr.use (take_ctr _ _ _ ?p1 ?p2) ?kB ?kF ?kX ?kN ?kT ?kK ?kO ?kE ?kU ?kV ?kD ?kW ?_; (case kB => k_asm); (case kF => k_asm); (case kX => k_asm); (case kN => k_asm); (case kT => k_asm); (case kK => first | exact rfl | assumption); (case kU => k_updF); (case kO => assumption); (case kV => (intro _; k_updF)); (case kE => first | assumption | k_ne); (case kD => ((simp only [depth_under_make, depth_under_kw, depth_in1, depth_deeper, depth_caller]); (try dsimp only [ktrTop]); omega)); (case kW => ((simp only [units_under_make, units_in1, units_deeper, Around.mark_units, units_caller]); (try dsimp only [ktrTop]); omega)); (case p1 => first | omega | kba_size | decide +kernel); (case p2 => first | omega | kba_size | decide +kernel)); (intro v' od' oR' h' tk' hv' ok' F' N'); (obtain ⟨k', t', e', lo', hi'⟩ := hv'; subst e'; (try simp only [Int.reducePow, Int.reduceToNat, Nat.reducePow] at hi')); (try dsimp only at N'); (try k_sweep)))
  k_with "m call ref" => (((with_reducible show wpAny _ _ (call (Value.ref 336) _) _ _ _); k_dflt (refine' DCtr.use (octets_ctr _ _ _ ?p1 ?p2) ?kB ?kF ?kX ?kN ?kT ?kK ?kO ?kE ?kU ?kV ?kD ?kW ?_; (case kB => k_asm); (case kF => k_asm); (case kX => k_asm); (case kN => k_asm); (case kT => k_asm); (case kK => first | exact rfl | assumption); (case kU => k_updF); (case kO => assumption); (case kV => (intro _; k_updF)); (case kE => first | assumption | k_ne); (case kD => ((simp only [depth_under_make, depth_under_kw, depth_in1, depth_deeper, depth_caller]); (try dsimp only [ktrTop]); omega)); (case kW => ((simp only [units_under_make, units_in1, units_deeper, Around.mark_units, units_caller]); (try dsimp only [ktrTop]); omega)); (case p1 => omega); (case p2 => omega)); (intro v' od' oR' h' tk' hv' ok' F' N'); (obtain ⟨b', t', e', hl'⟩ := hv'; subst e'; (obtain ⟨ks', hb'⟩ : ∃ ks', KBw.bInts b' = ks' := ⟨_, rfl⟩); rw [hb'] at hl'; (try simp only [Int.reduceToNat] at hl')); (try dsimp only at N'); (try k_sweep)))
  k_with "m call ref" => (((with_reducible show wpAny _ _ (call (Value.ref 324) _) _ _ _); k_dflt (refine' (draws_ctr _ _ _ _ ?pi ?pl) _ _ _ _ _ _ _ _ _ _ _ _ _ _ _ _ _ _ _ _ ?ls ?kB ?kF ?kX ?kN ?kT ?kK ?kD ?kW ?_; (case ls => assumption); (case pi => assumption); (case pl => omega); (case kB => k_asm); (case kF => k_asm); (case kX => k_asm); (case kN => k_asm); (case kT => k_asm); (case kK => first | exact rfl | assumption); (case kD => ((simp only [depth_under_make, depth_under_kw, depth_in1, depth_deeper, depth_caller]); (try dsimp only [ktrTop]); omega)); (case kW => ((simp only [units_under_make, units_in1, units_deeper, Around.mark_units, units_caller]); (try dsimp only [ktrTop]); omega))); (intro d' r' od' oR' h' tk' F' N' hlt' ok'); (try k_sweep)))
  k_with "m wpC" => (((with_reducible show wpC _ _ (call (Value.ref 348) _) _ _ _); k_dflt (refine' (versions_ctr _ _ _ _ _ _ _ ?p1 ?p2 ?p3 ?p4 _ _ _ _ ?p5 ?p6) _ _ _ _ _ _ _ _ _ _ _ _ _ _ _ _ _ _ _ _ ?kB ?kF ?kX ?kN ?kT ?kK ?kD ?kW ?_; (case kB => k_asm); (case kF => k_asm); (case kX => k_asm); (case kN => first | k_asm | exact drop_1 (by k_asm)); (case kT => k_asm); (case kK => first | exact rfl | assumption); (case kD => ((simp only [depth_under_make, depth_under_kw, depth_in1, depth_deeper, depth_caller]); (try dsimp only [ktrTop]); omega)); (case kW => ((simp only [units_under_make, units_in1, units_deeper, Around.mark_units, units_caller]); (try dsimp only [ktrTop]); omega)); (case p1 => kba_ints2); (case p2 => kba_ints2); (case p3 => kba_size); (case p4 => kba_size); (case p5 => first | assumption | k_ne); (case p6 => assumption)); (intro v' nw' h' tk' F' N' hv'); (obtain ⟨e', od', oR', en', ok'⟩ := hv'; subst e'; subst en'); (try k_sweep)))
  k_with "m wpC" => (((with_reducible show wpC _ _ (call (Value.ref 355) _) _ _ _); k_dflt (refine' (retries_ctr _ _ _ _ _ _ _ ?p1 ?p2 ?p3 ?p4 _ _ _ _ ?p5 ?p6) _ _ _ _ _ _ _ _ _ _ _ _ _ _ _ _ _ _ _ _ ?kB ?kF ?kX ?kN ?kT ?kK ?kD ?kW ?_; (case kB => k_asm); (case kF => k_asm); (case kX => k_asm); (case kN => first | k_asm | exact drop_1 (by k_asm)); (case kT => k_asm); (case kK => first | exact rfl | assumption); (case kD => ((simp only [depth_under_make, depth_under_kw, depth_in1, depth_deeper, depth_caller]); (try dsimp only [ktrTop]); omega)); (case kW => ((simp only [units_under_make, units_in1, units_deeper, Around.mark_units, units_caller]); (try dsimp only [ktrTop]); omega)); (case p1 => kba_ints2); (case p2 => kba_ints2); (case p3 => kba_size); (case p4 => kba_size); (case p5 => first | assumption | k_ne); (case p6 => assumption)); (intro v' nw' h' tk' F' N' hv'); (obtain ⟨e', od', oR', en', ok'⟩ := hv'; subst e'; subst en'); (try k_sweep)))
  k_with "m wpC" => (((with_reducible show wpC _ _ (call (Value.ref 362) _) _ _ _); k_dflt (refine' (tokens_ctr _ _ _ _ ?p1 ?p2 _ _ _ _ ?p3 ?p4) _ _ _ _ _ _ _ _ _ _ _ _ _ _ _ _ _ _ _ _ ?kB ?kF ?kX ?kN ?kT ?kK ?kD ?kW ?_; (case kB => k_asm); (case kF => k_asm); (case kX => k_asm); (case kN => first | k_asm | exact drop_1 (by k_asm)); (case kT => k_asm); (case kK => first | exact rfl | assumption); (case kD => ((simp only [depth_under_make, depth_under_kw, depth_in1, depth_deeper, depth_caller]); (try dsimp only [ktrTop]); omega)); (case kW => ((simp only [units_under_make, units_in1, units_deeper, Around.mark_units, units_caller]); (try dsimp only [ktrTop]); omega)); (case p1 => kba_ints2); (case p2 => kba_size); (case p3 => first | assumption | k_ne); (case p4 => assumption)); (intro v' nw' h' tk' F' N' hv'); (subst hv'); (try k_sweep)))
  k_with "m wpC" => (((first | (with_reducible show wpC _ _ (exec (Stmt.Assign _ _ (PySem.Pos.mk 266 _ _ _)) _) _ _ _) | (with_reducible show wpC _ _ (exec (Stmt.Assign _ _ (PySem.Pos.mk 267 _ _ _)) _) _ _ _)); refine C_any ?_; (try k_fold)))
  trivial
theorem law_walk : PySem.Challenge.rw_no0079_01.Holds := use _ (by exact True.intro : Wit (by
  refine Mine.hd ?_
  k_fill
  intro w s₀ s₁ mg mb G Y fa o pm cd doc dV kV ho hd hcd hD hmg hg args vals as hpre hlay hrd hwl hlo
  have KX := kIn_of Y
  have X := (Ground.X G).1
  have V := (Ground.X G).2
  refine Ground.open G ?_
  intro T B D TE TW
  try (refine guard_noD D (by decide +kernel) ?_; clear D)
  obtain ⟨_, _, M⟩ := bmod_of_top T
  have TA := at_of_top T
  try (obtain ⟨_, _, he, B0⟩ := based_of_top T rfl hmg ho hd; have he' : cd = _ := he; subst he'; clear he)
  clear hmg
  wrow_args hpre hlay hrd hwl hlo
  refine C_call ?_
  have K0 := below_caller (Top.heap T)
  have he := Dflts.none hD rfl; subst he
  refine call_fullC (by decide) ho hd (Top.nolimit T) hcd (BindsTo.of_eq rfl) (locs rfl) fun h₁ F => ?_
  w_binds F
  have N0 := (News.nil : News _ _ _ []).at F
  clear hd TA
  k_drop
  (try k_fold)
  k_steps
  refine GoodW.toG ?_
  first | wrow_close | kc_close | wrow_closeG
  ))

end Mine
end

set_option maxRecDepth 100000 in
set_option maxHeartbeats 8000000 in
theorem PySem.Challenge.cw_no0079_01_holds : PySem.Challenge.rw_no0079_01.Holds := by
  exact Mine.law_walk
