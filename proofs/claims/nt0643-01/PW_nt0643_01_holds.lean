import PyProof.Rows.All
import Wide.All
import OpenK.AllK
import Wide.FinOn
import Lean
import PySem.Challenge.RW_nt0643_01
open PySem PySem.W PyProof.Rows PySem.Calls
set_option Elab.async false
set_option genSizeOf false
set_option genInjectivity false
set_option bootstrap.genMatcherCode false
set_option linter.all false
set_option compiler.extract_closed false
set_option maxRecDepth 100000
set_option maxHeartbeats 8000000
namespace Mine
/-! exists and and, many at once: one constructor in place of a chain -/
inductive E2 {α0 α1 : Type} (p : α0 → α1 → Prop) : Prop
  | mk (a0 : α0) (a1 : α1) (h : p a0 a1) : E2 p
inductive E3 {α0 α1 α2 : Type} (p : α0 → α1 → α2 → Prop) : Prop
  | mk (a0 : α0) (a1 : α1) (a2 : α2) (h : p a0 a1 a2) : E3 p
inductive E4 {α0 α1 α2 α3 : Type} (p : α0 → α1 → α2 → α3 → Prop) : Prop
  | mk (a0 : α0) (a1 : α1) (a2 : α2) (a3 : α3) (h : p a0 a1 a2 a3) : E4 p
inductive E5 {α0 α1 α2 α3 α4 : Type} (p : α0 → α1 → α2 → α3 → α4 → Prop) : Prop
  | mk (a0 : α0) (a1 : α1) (a2 : α2) (a3 : α3) (a4 : α4) (h : p a0 a1 a2 a3 a4) : E5 p
inductive E6 {α0 α1 α2 α3 α4 α5 : Type} (p : α0 → α1 → α2 → α3 → α4 → α5 → Prop) : Prop
  | mk (a0 : α0) (a1 : α1) (a2 : α2) (a3 : α3) (a4 : α4) (a5 : α5) (h : p a0 a1 a2 a3 a4 a5) : E6 p
inductive E7 {α0 α1 α2 α3 α4 α5 α6 : Type} (p : α0 → α1 → α2 → α3 → α4 → α5 → α6 → Prop) : Prop
  | mk (a0 : α0) (a1 : α1) (a2 : α2) (a3 : α3) (a4 : α4) (a5 : α5) (a6 : α6) (h : p a0 a1 a2 a3 a4 a5 a6) : E7 p
inductive E8 {α0 α1 α2 α3 α4 α5 α6 α7 : Type} (p : α0 → α1 → α2 → α3 → α4 → α5 → α6 → α7 → Prop) : Prop
  | mk (a0 : α0) (a1 : α1) (a2 : α2) (a3 : α3) (a4 : α4) (a5 : α5) (a6 : α6) (a7 : α7) (h : p a0 a1 a2 a3 a4 a5 a6 a7) : E8 p
inductive E9 {α0 α1 α2 α3 α4 α5 α6 α7 α8 : Type} (p : α0 → α1 → α2 → α3 → α4 → α5 → α6 → α7 → α8 → Prop) : Prop
  | mk (a0 : α0) (a1 : α1) (a2 : α2) (a3 : α3) (a4 : α4) (a5 : α5) (a6 : α6) (a7 : α7) (a8 : α8) (h : p a0 a1 a2 a3 a4 a5 a6 a7 a8) : E9 p
inductive E10 {α0 α1 α2 α3 α4 α5 α6 α7 α8 α9 : Type} (p : α0 → α1 → α2 → α3 → α4 → α5 → α6 → α7 → α8 → α9 → Prop) : Prop
  | mk (a0 : α0) (a1 : α1) (a2 : α2) (a3 : α3) (a4 : α4) (a5 : α5) (a6 : α6) (a7 : α7) (a8 : α8) (a9 : α9) (h : p a0 a1 a2 a3 a4 a5 a6 a7 a8 a9) : E10 p
inductive A3 (a0 a1 a2 : Prop) : Prop
  | mk (h0 : a0) (h1 : a1) (h2 : a2) : A3 a0 a1 a2
inductive A4 (a0 a1 a2 a3 : Prop) : Prop
  | mk (h0 : a0) (h1 : a1) (h2 : a2) (h3 : a3) : A4 a0 a1 a2 a3
inductive A5 (a0 a1 a2 a3 a4 : Prop) : Prop
  | mk (h0 : a0) (h1 : a1) (h2 : a2) (h3 : a3) (h4 : a4) : A5 a0 a1 a2 a3 a4
inductive A6 (a0 a1 a2 a3 a4 a5 : Prop) : Prop
  | mk (h0 : a0) (h1 : a1) (h2 : a2) (h3 : a3) (h4 : a4) (h5 : a5) : A6 a0 a1 a2 a3 a4 a5
inductive A7 (a0 a1 a2 a3 a4 a5 a6 : Prop) : Prop
  | mk (h0 : a0) (h1 : a1) (h2 : a2) (h3 : a3) (h4 : a4) (h5 : a5) (h6 : a6) : A7 a0 a1 a2 a3 a4 a5 a6
inductive A8 (a0 a1 a2 a3 a4 a5 a6 a7 : Prop) : Prop
  | mk (h0 : a0) (h1 : a1) (h2 : a2) (h3 : a3) (h4 : a4) (h5 : a5) (h6 : a6) (h7 : a7) : A8 a0 a1 a2 a3 a4 a5 a6 a7
inductive A10 (a0 a1 a2 a3 a4 a5 a6 a7 a8 a9 : Prop) : Prop
  | mk (h0 : a0) (h1 : a1) (h2 : a2) (h3 : a3) (h4 : a4) (h5 : a5) (h6 : a6) (h7 : a7) (h8 : a8) (h9 : a9) : A10 a0 a1 a2 a3 a4 a5 a6 a7 a8 a9
/-! a choice that is told -/
theorem ite_t {α : Type} {c : Prop} {i : Decidable c} {a b r : α} (h : c) (e : @ite α c i a b = r) : a = r := (if_pos h).symm.trans e
theorem ite_f {α : Type} {c : Prop} {i : Decidable c} {a b r : α} (h : ¬ c) (e : @ite α c i a b = r) : b = r := (if_neg h).symm.trans e
theorem ite_td {α : Type} {c : Prop} {i j : Decidable c} {a b r : α} (h : @decide c j = true) (e : @ite α c i a b = r) : a = r := ite_t (of_decide_eq_true h) e
theorem ite_fd {α : Type} {c : Prop} {i j : Decidable c} {a b r : α} (h : @decide c j = false) (e : @ite α c i a b = r) : b = r := ite_f (of_decide_eq_false h) e
theorem ite_b {α : Type} {x : Bool} {i : Decidable (x = true)} {a b r : α} (h : x = false) (e : @ite α (x = true) i a b = r) : b = r := ite_f (by rw [h]; exact Bool.false_ne_true) e
/-! few values -/
theorem nat4 : ∀ n : Nat, n < 4 → (n : Int) = 0 ∨ (n : Int) = 1 ∨ (n : Int) = 2 ∨ (n : Int) = 3 := by decide
theorem int4 {f : Int} (h0 : 0 ≤ f) (h : f < 4) : f = 0 ∨ f = 1 ∨ f = 2 ∨ f = 3 := by
  obtain ⟨n, rfl⟩ := Int.eq_ofNat_of_zero_le h0
  exact nat4 n (by omega)
theorem nat6 : ∀ n : Nat, n < 6 → (n : Int) = 0 ∨ (n : Int) = 1 ∨ (n : Int) = 2 ∨ (n : Int) = 3 ∨ (n : Int) = 4 ∨ (n : Int) = 5 := by decide
theorem int6 {f : Int} (h0 : 0 ≤ f) (h : f < 6) : f = 0 ∨ f = 1 ∨ f = 2 ∨ f = 3 ∨ f = 4 ∨ f = 5 := by
  obtain ⟨n, rfl⟩ := Int.eq_ofNat_of_zero_le h0
  exact nat6 n (by omega)
theorem nat8 : ∀ n : Nat, n < 8 → (n : Int) = 0 ∨ (n : Int) = 1 ∨ (n : Int) = 2 ∨ (n : Int) = 3 ∨ (n : Int) = 4 ∨ (n : Int) = 5 ∨ (n : Int) = 6 ∨ (n : Int) = 7 := by decide
theorem int8 {f : Int} (h0 : 0 ≤ f) (h : f < 8) : f = 0 ∨ f = 1 ∨ f = 2 ∨ f = 3 ∨ f = 4 ∨ f = 5 ∨ f = 6 ∨ f = 7 := by
  obtain ⟨n, rfl⟩ := Int.eq_ofNat_of_zero_le h0
  exact nat8 n (by omega)
theorem nat10 : ∀ n : Nat, n < 10 → (n : Int) = 0 ∨ (n : Int) = 1 ∨ (n : Int) = 2 ∨ (n : Int) = 3 ∨ (n : Int) = 4 ∨ (n : Int) = 5 ∨ (n : Int) = 6 ∨ (n : Int) = 7 ∨ (n : Int) = 8 ∨ (n : Int) = 9 := by decide
theorem int10 {f : Int} (h0 : 0 ≤ f) (h : f < 10) : f = 0 ∨ f = 1 ∨ f = 2 ∨ f = 3 ∨ f = 4 ∨ f = 5 ∨ f = 6 ∨ f = 7 ∨ f = 8 ∨ f = 9 := by
  obtain ⟨n, rfl⟩ := Int.eq_ofNat_of_zero_le h0
  exact nat10 n (by omega)
/-! a walk over clean stacks: no code on the stack is one of the decoders that hold a bytearray -/
noncomputable def notDec : Code → Bool
  | .builtin id _ => !(PySem.Builtin.Bytes.decodersThatHold.contains id)
  | _ => true
noncomputable def CleanL (l : List (Code × Pos)) : Prop := l.all (fun x => notDec x.1) = true
noncomputable def Clean (Γ : Ctx) : Prop := notDec Γ.code = true ∧ CleanL Γ.below
noncomputable def wpC {α : Type} (M : Model) (A : Around) (t : Sem α) (Q : α → Shared → Prop) (E : Value → Shared → Prop) (s : Shared) : Prop :=
  ∀ Γ p, Γ.In A → Clean Γ → PySem.Sem.wp M Γ t (fun a _ s' => Q a s') (fun e _ s' => E e s') p s
noncomputable def codeC (M : Model) (A : Around) (c : Code) (R : Result → Shared → Prop) (s : Shared) : Prop :=
  ∀ Γ p, Γ.code = c → Γ.Below A → CleanL Γ.below → wpCode M Γ R p s
section
variable {α β : Type} {M : Model} {A : Around} {E : Value → Shared → Prop} {s : Shared}
theorem wpC.ofAny {t : Sem α} {Q : α → Shared → Prop} (h : wpAny M A t Q E s) : wpC M A t Q E s := fun Γ p hΓ _ => h Γ p hΓ
theorem wpC_pure {a : α} {Q : α → Shared → Prop} (h : Q a s) : wpC M A (pure a) Q E s := .ofAny (wpAny_pure h)
theorem wpC_mono {t : Sem α} {Q Q' : α → Shared → Prop} {E' : Value → Shared → Prop} (h : wpC M A t Q E s) (hQ : ∀ a s, Q a s → Q' a s) (hE : ∀ e s, E e s → E' e s) : wpC M A t Q' E' s :=
  fun Γ p hΓ hc => Sem.wp_mono M Γ t (fun a _ s => hQ a s) (fun e _ s => hE e s) p s (h Γ p hΓ hc)
theorem wpC_bind {m : Sem α} {f : α → Sem β} {Q : β → Shared → Prop} (h : wpC M A m (fun a s' => wpC M A (f a) Q E s') E s) : wpC M A (m >>= f) Q E s := fun Γ p hΓ hc => by
  rw [Sem.wp_bind']
  exact Sem.wp_mono M Γ m (fun a p' s' h' => h' Γ p' hΓ hc) (fun _ _ _ h' => h') p s (h Γ p hΓ hc)
/-- a first part of which the library's rules speak -/
theorem wpC_anyBind {m : Sem α} {f : α → Sem β} {Q : β → Shared → Prop} (h : wpAny M A m (fun a s' => wpC M A (f a) Q E s') E s) : wpC M A (m >>= f) Q E s := wpC_bind (.ofAny h)
theorem wpC_onRaise {m : Sem α} {k : Value → Sem Unit} {Q : α → Shared → Prop} (h : wpC M A m Q (fun e s' => wpAny M A (k e) (fun _ s'' => E e s'') E s') s) : wpC M A (m.onRaise k) Q E s := fun Γ p hΓ hc => by
  rw [Sem.wp_onRaise]
  exact Sem.wp_mono M Γ m (fun _ _ _ h' => h') (fun e p' s' h' => h' Γ p' hΓ) p s (h Γ p hΓ hc)
theorem wpC_holding {vs : List Value} {m : Sem α} {Q : α → Shared → Prop} (h : wpC M A m Q E s) : wpC M A (holding vs m) Q E s := fun Γ p hΓ hc => by rw [Sem.wp_holding]; exact h Γ p hΓ hc
theorem wpC_operate {vs : List Value} {m : Sem Value} {Q : Value → Shared → Prop} (h : wpC M A m Q E s) : wpC M A (operate vs m) Q E s := fun Γ p hΓ hc => by rw [Sem.wp_operate]; exact h Γ p hΓ hc
theorem Clean.enter {Γ : Ctx} (h : Clean Γ) (c : Code) (hd : Option Value) (p : Pos) : CleanL (Γ.enter c hd p).below := by
  show (((Γ.code, p) :: Γ.below).all fun x => notDec x.1) = true
  rw [List.all_cons, h.1]; exact h.2
theorem wpC_run {c : Code} {h : Option Value} {Q : Flow → Shared → Prop} (hc : codeC M (A.mark h) c (fun r s' => match r with | .ok f => Q f s' | .error e => E e s') s) (hnb : h ≠ some byPass := by intro x; cases x) : wpC M A (run c h) Q E s :=
  fun Γ p hΓ hcl => by rw [Sem.wp_run]; exact hc _ p rfl (hΓ.enter c h p hnb) (hcl.enter c h p)
theorem wpC_runOwn {c : Code} {env : Env} {Q : Flow → Shared → Prop} (hc : codeC M A c (fun r s' => match r with | .ok f => Q f s' | .error e => cameBackBy M A env E e s') s) : wpC M A (runOwn c env none) Q E s := by
  unfold runOwn
  exact wpC_onRaise (wpC_run (h := none) hc)
theorem wpC_call {f : Value} {pos : List Value} {kw : List (Str × Value)} {Q : Value → Shared → Prop} (hc : codeC M A (.call f ⟨pos, kw⟩) (wants Q E) s) : wpC M A (call f pos kw) Q E s :=
  fun Γ p hΓ hcl => by
    unfold PySem.call
    rw [Sem.wp_runValue]
    exact hc _ p rfl (hΓ.enter _ none p (by intro x; cases x)) (hcl.enter _ none p)
theorem codeC_of_tree {c : Code} {R : Result → Shared → Prop} (hn : notDec c = true)
    (h : wpC M (A.under c) (M.den c) (fun fin s' => match fin with | .done f => R (.ok f) s' | .again c' => c'.quiet = true ∧ codeC M A c' R s') (fun e s' => R (.error e) s') s) : codeC M A c R s := fun Γ p hc hΓ hcl => by
  rw [wpCode_iff_wp, hc]
  refine Sem.wp_mono M Γ _ (fun fin p' s' h' => ?_) (fun _ _ _ h' => h') p s (h Γ p (hc ▸ hΓ.in) ⟨by rw [hc]; exact hn, hcl⟩)
  cases fin with
  | done f => exact h'
  | again c' => exact ⟨h'.1, h'.2 (Γ.goto c') p' rfl (hΓ.goto c') hcl⟩
theorem codeC_loop {c : Code} {R : Result → Shared → Prop} (hn : notDec c = true) (hq : c.quiet = true) (I : Nat → Shared → Prop)
    (turn : ∀ n s, I n s → wpC M (A.under c) (M.den c) (fun fin s' => match fin with | .done f => R (.ok f) s' | .again c' => c' = c ∧ ∃ m, m < n ∧ I m s') (fun e s' => R (.error e) s') s) : ∀ (n : Nat) (s : Shared), I n s → codeC M A c R s := by
  intro n
  induction n using Nat.strongRecOn with
  | ind n ih =>
    intro s h
    refine codeC_of_tree hn (wpC_mono (turn n s h) (fun fin s' hf => ?_) fun _ _ h' => h')
    cases fin with
    | done f => exact hf
    | again c' => obtain ⟨rfl, m, hm, hI⟩ := hf; exact ⟨hq, ih m hm s' hI⟩
end
/-! the statements -/
section
variable {prog : Program} {w : World} {A : Around} {E : Value → Shared → Prop} {s : Shared} {env : Env}
theorem codeC_func {body : List Stmt} {R : Result → Shared → Prop}
    (h : wpC (model prog w) (A.deeper env) (execs body env) (fun f s' => R (.ok (.ret (match f with | .ret v => v | _ => .none))) s') (fun e s' => wpAny (model prog w) (A.deeper env) (leaving env e) (fun _ s'' => R (.error e) s'') (fun e' s'' => R (.error e') s'') s') s) :
    codeC (model prog w) A (.func body env) R s := by
  refine codeC_of_tree rfl ?_
  show wpC _ (A.deeper env) (do point; match ← (execs body env).onRaise (leaving env) with | .ret v => ret v | _ => ret .none) _ _ s
  refine wpC_anyBind (wpAny_point (wpC_bind (wpC_onRaise ?_)))
  refine wpC_mono h (fun f s' h' => ?_) (fun _ _ h' => h')
  cases f <;> exact wpC_pure h'
theorem codeC_call_function {a : Addr} {args : Args} {o : Obj} {fd : FuncData} {body : List Stmt} {R : Result → Shared → Prop} (hroom : A.depth < recursionLimit) (ho : s.heap.get? a = some o)
    (hd' : o.data = .func fd) (hco : fd.scope.isCoroutine = false) (hgen : fd.scope.isGenerator = false) (hbody : fd.body = .stmts body) (hcd : s.heap.CodeRec fd.code fd.qualname)
    (h : wpAny (model prog w) A.in1 (bindArgs fd args) (fun binds s₁ =>
      wpAny (model prog w) A.in1 (newFunctionEnv fd.scope fd.globals fd.closure binds (fd.qualname ++ ".<locals>.") (some a) fd.code none fd.builtins)
        (fun env s₂ => s₂.heap.NoLimit ∧ codeC (model prog w) A (.func body env) R s₂) (fun e s' => R (.error e) s') s₁) (fun e s' => R (.error e) s') s) :
    codeC (model prog w) A (.call (.ref a) args) R s := by
  refine codeC_of_tree rfl ?_
  show wpC _ A.in1 (callAny (.ref a) args) _ _ s
  refine .ofAny ?_
  unfold callAny
  refine wpAny_bind (wpAny_load ho ?_)
  obtain ⟨c, oc, vs, tq, hc, hoc, hdc, hq⟩ := hcd
  rw [hd']
  show wpAny _ _ (callFunction a fd args) _ _ s
  unfold callFunction
  rw [hc] at h ⊢
  rw [hco, hgen, hbody]
  refine wpAny_bind (m := field (.ref c) 1) (wpAny_field hoc hdc hq (wpAny_bind (wpAny_pure ?_)))
  exact wpAny_bind (wpAny_mono h (fun binds s₁ h₁ => wpAny_bind (wpAny_mono h₁ (fun env s₂ h₂ => wpAny_bind (wpAny_enterFrame h₂.1 hroom (wpAny_pure (And.intro rfl h₂.2)))) fun _ _ h' => h')) fun _ _ h' => h')
theorem execsC_nil {Q : Flow → Shared → Prop} (h : Q .next s) : wpC (model prog w) A (execs [] env) Q E s := .ofAny (wpAny_execs_nil h)
theorem execsC_cons {st : Stmt} {rest : List Stmt} {Q : Flow → Shared → Prop}
    (h : wpC (model prog w) A (exec st env) (fun f s' => match f with | .next => wpC (model prog w) A (execs rest env) Q E s' | f => Q f s') E s) : wpC (model prog w) A (execs (st :: rest) env) Q E s := by
  rw [execs_cons]
  refine wpC_bind (wpC_mono h (fun f s' h' => ?_) fun _ _ x => x)
  cases f <;> first | exact h' | exact wpC_pure h'
theorem IfC {test : Expr} {body orelse : List Stmt} {pos : Pos} {Q : Flow → Shared → Prop}
    (h : wpAny (model prog w) A (isTrue test env (eval test env)) (fun b s₂ => if b then wpC (model prog w) A (execs body env) Q E s₂ else wpC (model prog w) A (execs orelse env) Q E s₂) E s) :
    wpC (model prog w) A (exec (.If test body orelse pos) env) Q E s := by
  rw [exec_If]
  refine wpC_anyBind (wpAny_standAt (wpC_anyBind (wpAny_mono h (fun b s₂ h₂ => ?_) fun _ _ x => x)))
  cases b <;> simpa using h₂
theorem ExprC {e : Expr} {pos : Pos} {Q : Flow → Shared → Prop} (h : wpC (model prog w) A (eval e env) (fun v s' => match v with | .ref _ => False | _ => Q .next s') E s)
    (hi : interactive env = false := by rfl) (hs : swapsWith e none pos.line env = pure false := by rfl) : wpC (model prog w) A (exec (.Expr e pos) env) Q E s := by
  rw [exec_Expr env e pos hi hs]
  refine wpC_anyBind (wpAny_standAt (wpC_bind (wpC_mono h (fun v s' h' => ?_) fun _ _ x => x)))
  have hv : ∀ a, v ≠ .ref a := fun a hva => by subst hva; exact h'
  rw [dropValue_plain hv]
  refine wpC_pure ?_
  cases v <;> first | exact h' | exact (hv _ rfl).elim
theorem AssignC {x : Str} {pos' pos : Pos} {value : Expr} {Q : Flow → Shared → Prop}
    (h : wpC (model prog w) A (eval value env) (fun v s₁ => wpAny (model prog w) A (storeName env x v) (fun _ => Q .next) E s₁) E s)
    (hs : swapsWith value (some (.Name x pos')) pos.line env = pure false := by rfl) : wpC (model prog w) A (exec (.Assign [.Name x pos'] value pos) env) Q E s := by
  rw [exec_Assign_Name env x pos' value pos hs]
  refine wpC_anyBind (wpAny_standAt (wpC_bind (wpC_mono h (fun v s' h' => ?_) fun _ _ x => x)))
  exact wpC_anyBind (wpAny_standAt (wpC_anyBind (wpAny_bindName (wpAny_mono h' (fun _ _ q => wpC_pure q) fun _ _ x => x))))
theorem ReturnC {e : Expr} {pos : Pos} {Q : Flow → Shared → Prop} (h : wpC (model prog w) A (eval e env) (fun v => Q (.ret v)) E s) : wpC (model prog w) A (exec (.Return (some e) pos) env) Q E s := by
  rw [exec_Return_some]
  exact wpC_anyBind (wpAny_standAt (wpC_bind (wpC_mono h (fun v s' h' => wpC_pure h') fun _ _ x => x)))
theorem Compare1C {l r : Expr} {op : CmpOp} {pos : Pos} {Q : Value → Shared → Prop}
    (h : wpC (model prog w) A (eval l env) (fun a s₁ => wpC (model prog w) A (eval r env) (fun b s₂ => wpAny (model prog w) A (compareOp op a b) Q E s₂) E s₁) E s)
    (hm : behindInMarks op r = false := by with_unfolding_all rfl) : wpC (model prog w) A (eval (.Compare l [op] [r] pos) env) Q E s := by
  rw [eval_Compare1]
  refine wpC_bind (wpC_mono h (fun a s₁ h₁ => ?_) fun _ _ x => x)
  rw [markedBehindIn_of_false hm]
  refine wpC_bind (wpC_holding (wpC_mono h₁ (fun b s₂ h₂ => ?_) fun _ _ x => x))
  exact wpC_anyBind (wpAny_standAt (wpC_operate (.ofAny h₂)))
end
/-! a loop -/
section
variable {prog : Program} {w : World} {A : Around} {E : Value → Shared → Prop} {Q : Flow → Shared → Prop} {s : Shared} {env : Env} {h₀ : Heap} {L : Addr}
theorem codeC_whileLoop {test : Expr} {body : List Stmt} {R : Result → Shared → Prop} (I : Nat → Shared → Prop)
    (turn : ∀ n s, I n s →
      wpAny (model prog w) A (isTrue test env (eval test env)) (fun b s₂ =>
        if b = true then wpC (model prog w) A (execs body env) (fun f s₃ => match f with
            | .next | .cont => ∃ m, m < n ∧ I m s₃
            | .brk => R (.ok .next) s₃
            | .ret v => R (.ok (.ret v)) s₃) (notedBy (model prog w) A env fun e s' => R (.error e) s') s₂
        else R (.ok .next) s₂)
        (notedBy (model prog w) A env fun e s' => R (.error e) s') s) (n : Nat) (s : Shared) (h : I n s) : codeC (model prog w) A (.whileLoop test body [] env) R s := by
  refine codeC_loop rfl rfl I (fun n s hI => ?_) n s h
  show wpC _ A ((whileTurn test body [] env).onRaise (fun x => do noteFrame x env; theTreesLotGoes x)) _ _ s
  refine wpC_onRaise (wpC_mono (Q := fun fin s' => match fin with | .done f => R (.ok f) s' | .again c' => c' = Code.whileLoop test body [] env ∧ ∃ m, m < n ∧ I m s') (E := notedBy (model prog w) A env fun e s' => R (.error e) s') ?_ (fun _ _ x => x) fun x s' hx => ?_)
  · unfold whileTurn
    refine wpC_anyBind (wpAny_mono (turn n s hI) (fun b s₂ h₂ => ?_) fun _ _ h' => h')
    cases b with
    | false =>
      simp -iota only [Bool.false_eq_true, if_false] at h₂ ⊢
      exact wpC_bind (execsC_nil (wpC_pure h₂))
    | true =>
      simp -iota only [if_true] at h₂ ⊢
      refine wpC_bind (wpC_mono h₂ (fun f s₃ h₃ => ?_) fun _ _ h' => h')
      cases f with
      | next => exact wpC_pure ⟨rfl, h₃⟩
      | cont => exact wpC_pure ⟨rfl, h₃⟩
      | brk => exact wpC_pure h₃
      | ret v => exact wpC_pure h₃
  · exact wpAny_bind (wpAny_mono hx (fun _ _ e => wpAny_theTreesLotGoes e) fun _ _ e => e)
theorem WhileC {test : Expr} {body : List Stmt} {pos : Pos} {m : Str → Option Value} {news : List (Addr × Obj)} (J : Nat → (Str → Option Value) → List (Addr × Obj) → Prop) {n₀ : Nat}
    (F : Fr h₀ L s.heap m) (N : News h₀ L s.heap news) (hJ : J n₀ m news)
    (turn : ∀ n m₁ news₁ h₁ tk₁, Fr h₀ L h₁ m₁ → News h₀ L h₁ news₁ → J n m₁ news₁ →
      wpAny (model prog w) A (isTrue test env (eval test env)) (fun b s₂ =>
        if b = true then wpC (model prog w) A (execs body env) (WhileStep2 h₀ L s J Q n) E s₂ else Q .next s₂) E { s with heap := h₁, toks := tk₁ })
    (hE : PassesOwn (model prog w) A env E) : wpC (model prog w) A (exec (.While test body [] pos) env) Q E s := by
  rw [exec_While]
  refine wpC_anyBind (wpAny_standAt (wpC_runOwn (codeC_whileLoop (fun n s' => ∃ h₁ tk₁ m₁ news₁, s' = { s with heap := h₁, toks := tk₁ } ∧ Fr h₀ L h₁ m₁ ∧ News h₀ L h₁ news₁ ∧ J n m₁ news₁) ?_ n₀ s ⟨s.heap, s.toks, m, news, rfl, F, N, hJ⟩)))
  rintro n s' ⟨h₁, tk₁, m₁, news₁, rfl, F₁, N₁, J₁⟩
  refine wpAny_mono (turn n m₁ news₁ h₁ tk₁ F₁ N₁ J₁) (fun b s₂ h₂ => ?_) hE
  cases b with
  | false => exact h₂
  | true =>
    simp -iota only [if_true] at h₂ ⊢
    refine wpC_mono h₂ (fun f s₃ h₃ => ?_) hE
    cases f with
    | next =>
      obtain ⟨h', tk, m₂, news₂, n', rfl, F₂, N₂, hn, J₂⟩ := h₃
      exact ⟨n', hn, h', tk, m₂, news₂, rfl, F₂, N₂, J₂⟩
    | cont =>
      obtain ⟨h', tk, m₂, news₂, n', rfl, F₂, N₂, hn, J₂⟩ := h₃
      exact ⟨n', hn, h', tk, m₂, news₂, rfl, F₂, N₂, J₂⟩
    | brk => exact h₃
    | ret v => exact h₃
end
/-! the head, over the one stack that the claim speaks of -/
theorem thread_endsC {prog : Program} {w : World} {t : Sem Fin} {s : Shared} {R : Result → Shared → Prop} (hreg : s.asleep)
    (h : wpC (model prog w) callerA t (fun fin s' => ∃ f, fin = .done f ∧ (R (.ok f) s' ∧ leftWithCleanup s'.gens = false)) (fun e s' => R (.error e) s' ∧ leftWithCleanup s'.gens = false) s) :
    ∃ n r s' s'', runN (denote table) prog w n s ⟨t, .builtin "claim.caller" {}, default, []⟩ = .halted (outcomeOf r) s' ∧
      schedN (denote table) prog w n (.single s ⟨t, .builtin "claim.caller" {}, default, []⟩) = .halted (outcomeOf r) s' ∧ s'.forget = s''.forget ∧ R r s'' := by
  have hw := h ⟨.builtin "claim.caller" {}, none, none, [], none⟩ default caller_in ⟨by decide +kernel, rfl⟩
  obtain ⟨n, r, a, b, q1, q2, q3, q4⟩ := wp_halts_full (M := model prog w) (R := R) hreg (Sem.wp_mono _ _ _ (fun fin p' s' h' => by obtain ⟨f, rfl, hf⟩ := h'; exact hf) (fun _ _ _ x => x) _ _ hw)
  exact ⟨n, r, b, a, q2, q1, q3, q4⟩
/-- what the law's call must bring, over clean stacks -/
noncomputable def WalkC (q : Program) (loose : List Str) (XP : (Str → Option Value) → Heap → Prop) (YP : World → Heap → Prop) (r : RowW) (d : DefRec) (kwd : List (Str × PySem.Expr)) : Prop :=
  ∀ (w : World) (s₀ s₁ : Shared) (mg mb : Str → Option Value), Ground q loose r.records XP w s₀ mg mb s₁.heap → YP w s₁.heap → ∀ (a : Addr) (o : Obj) (pm cd doc dV kV : Value), s₁.heap.get? a = some o →
    o.data = .func { docDef d.name d.params d.body d.scope pm cd doc with defaults := dV, kwdefaults := kV } → s₁.heap.CodeRec cd d.name → Dflts mg s₁.heap d.params kwd dV kV → mg d.name = some (.ref a) → s₁.gens = #[] →
    ∀ (args : List WData) (vals : List Value) (as : List Addr), r.claim.pre args = true → WData.layableAll args = true → ReadsAllW r.records (classAt s₀.heap) s₁.heap vals args as → WellAll w.params s₁.heap vals args → (∀ a ∈ as, (a == sysModules) = false) →
      wpC (model r.prog w) callerA (PySem.call (.ref a) vals) (fun v s' => GoodWG r.claim (classAt s₀.heap) (ExcName.means s₀.heap) args s₁ (.ok (.ret v)) s')
        (fun e s' => GoodWG r.claim (classAt s₀.heap) (ExcName.means s₀.heap) args s₁ (.error e) s') s₁
namespace PySem.W
theorem holds_open {r : OpenRow} {q : Program} {loose : List Str} {Xt : Shared → Bool} {XP : (Str → Option Value) → Heap → Prop} {α : Type} {Yf : Shared → α} {Ya : World → α} {YP : World → Heap → Prop} {d : DefRec} {kwd : List (Str × PySem.Expr)} {N : Nat}
    (left : LeftO r.prog q loose Xt Yf Ya N) (hY : ∀ w s, Yf s = Ya w → YP w s.heap) (hYk : ∀ w h h', YP w h → (∀ b o, h.get? b = some o → h'.get? b = some o) → YP w h')
    (hX : ∀ s, Xt s = true → XP (s.heap.nsMap mainGlobals) s.heap) (hXk : ∀ mg h h', XP mg h → (∀ b o, h.get? b = some o → h'.get? b = some o) → XP mg h')
    (hdef : defOf q r.name = some (d, kwd)) (hp : r.prog.theDef r.name = some (d.params, d.body, d.scope)) (hk : kwWritten? d.params.kwonlyargs d.params.kw_defaults = some kwd) (hRf : ∀ s, Xt s = true → RecFacts r.records s.heap) (hwr : (!r.writes || r.records.isEmpty) = true)
    (k1 : r.wellSaid = true) (ok : (chainsOk q && opensWell r.prog && (frees r.toRowW && r.within.isEmpty)) = true) (hb : r.prog.bare) (hw : r.toRowW.promised)
    (walk : WalkC q loose XP YP r.toRowW d kwd) : r.Holds := by
  simp only [Bool.and_eq_true] at ok
  obtain ⟨⟨hch, o1⟩, hfr, hwi⟩ := ok
  obtain ⟨hsame, hu, ha, hap, hm⟩ := frees_parts hfr
  have hwi : r.toRowW.claim.within = [] := List.isEmpty_iff.mp hwi
  refine ⟨k1, hw, ⟨hb, o1, by show r.makers.map _ = []; rw [hm]; rfl⟩, hw.witness, fun w => ⟨(left.behind hX hch w).1, fun s' hs' => ?_⟩⟩
  refine Classical.byContradiction fun hno => ?_
  obtain ⟨s₀, hf, hg0, s, hT, hz, hgens, hg, GX, y⟩ := (left.behind (XP := fun mg h => XP mg h ∧ RecFacts r.records h) (fun s hs => ⟨hX s hs, hRf s hs⟩) hch w).2 s' hs'
  have G0 : Ground q loose [] XP w s (s.heap.nsMap mainGlobals) (s.heap.nsMap builtinsNs) s.heap := ⟨GX.T, GX.B, GX.D, GX.TE, GX.TD, GX.W, GX.X.1, GX.cls, GX.has, GX.apart, GX.once, GX.K⟩
  have RF := GX.X.2
  have hgens : s.gens = #[] := Array.eq_empty_of_size_eq_zero (beq_iff_eq.mp hgens)
  have G : Ground q loose r.records XP w s _ _ s.heap := RF.ground G0
  refine hno ⟨s₀, hf, hg0, s, hT, fun n hn => ?_, RF.1, RF.2.1, fun args hpre hlay ord hord => Classical.byContradiction fun hno => ?_⟩
  · obtain rfl : n = r.name := by clear hno left hY hYk hX hXk hRf walk G0 RF; split at hn <;> simp_all
    exact pinned_of_view hg G0 hdef hp hk
  obtain ⟨⟨vs, s₁⟩, hlaid⟩ := Option.isSome_iff_exists.mp (layAllW_isSome (P := w.params) (ord := ord) G.has args r.args s (pre_splitW hpre).1)
  have keeps := layAllW_keeps _ _ _ hlaid
  have hal := layAllW_rest _ _ _ hlaid
  obtain ⟨as, hrd, hin, hold⟩ := reads_layAllW hord _ _ _ hlaid hlay s₁.heap (fun _ _ e => e)
  have L : Laid r.records w s s₁ args vs as := ⟨⟨ord, hord, hlaid⟩, hrd, hin, hold, keeps, hal.1.trans hgens, hal.2.2.1⟩
  have G₁ := G.keeps hXk keeps
  obtain ⟨a, o, pm, cd, doc, dV, kV, h1, h2, h3, h4, h5⟩ := G₁.fn hdef
  have main := walk w s s₁ _ _ G₁ (hYk _ _ _ (hY w s y) keeps) a o pm cd doc dV kV h2 h3 h4 h5 (defOf_name hdef ▸ h1) L.gens args vs as hpre hlay L.reads L.well (L.low G.low)
  have hi := ident_freeW hu ha hap
  have good : ∀ (res : Result) (s' : Shared), GoodWG r.claim (classAt s.heap) (ExcName.means s.heap) args s₁ res s' →
      (r.toRowW.claim.Ends s args vs s₁ res s' ∧ s'.os = s.os ∧ (r.writes = true → namesKept r.toRowW.claim.prog r.keeps s.heap s'.heap ∧ ∀ x ∈ r.toRowW.claim.records, ∀ a, classAt s.heap x.1 = some a → recordClass s'.heap a x.1 (x.2.map (·.1)) = true)) ∧ leftWithCleanup s'.gens = false := fun res s' g => by
    have z := g.laid (c := r.toRowW.claim) hsame hwi hi L
    exact ⟨⟨z.1, z.2.1, fun q => ⟨namesKept_of hT hg r.keeps keeps g.2.1.old, noTable hwr q⟩⟩, leftWithCleanup_false_of_bare z.2.2⟩
  obtain ⟨k, res, s', s'', hrun, hsched, hfo, hcase, hos, hkp⟩ := thread_endsC (prog := r.prog) (w := w) (s := s₁)
    (t := do match ← nsGet mainNs r.name with
      | some f => do ret (← PySem.call f vs)
      | none => unsupported "claim.caller:no-such-global")
    (R := fun res s' => r.toRowW.claim.Ends s args vs s₁ res s' ∧ s'.os = s.os ∧ (r.writes = true → namesKept r.toRowW.claim.prog r.keeps s.heap s'.heap ∧ ∀ x ∈ r.toRowW.claim.records, ∀ a, classAt s.heap x.1 = some a → recordClass s'.heap a x.1 (x.2.map (·.1)) = true))
    (Shared.asleep_of_life hal.2.2.2 hz)
    (wpC_anyBind (wpAny_nsGet G₁.T.g (by
      rw [h1]
      refine wpC_bind (wpC_mono main (fun v s' g => wpC_pure ⟨_, rfl, good _ _ g⟩) fun e s' g => good _ _ g))))
  obtain ⟨eh, _, _, eo, _⟩ := Shared.forget_eq hfo
  have hcase := hcase.congr eh
  rw [← eh] at hkp
  rw [← eo] at hos
  have hlife : s'.heap.life = s.heap.life := (runN_life _ _ _ hrun).trans hal.2.2.2
  refine hno ⟨vs, s₁, hlaid, k, _, s', hsched, ?_, (fun _ i x hx => by rw [hgens] at hx; simp at hx), hkp, by rw [hlife], Shared.rest_eq hos⟩
  rcases hcase with ⟨v, rfl, d1, d2, d3, d4, d5⟩ | ⟨e, ob, cls, rfl, d1, d2, d3, d4, d5⟩
  · exact .inl ⟨v, rfl, d1, d2, d3, fun b o y _ => d4 b o y, d5⟩
  · exact .inr ⟨e, ob, cls, rfl, d1, d2, d3, d4, fun b o y _ => d5 b o y⟩
end PySem.W
/-! bytearrays -/
theorem ba_mro : mroOf (.type "bytearray") = pure [.type "bytearray", .type "object"] := by rw [mroOf_type]; kernel_rfl
theorem ba_lookup_new : typeLookup (.type "bytearray") "__new__" = pure (some (.builtin "bytearray.__new__")) := by rw [typeLookup_type, builtinLookup_eq_fast]; kernel_rfl
theorem ba_slot_init : Slot "bytearray" "__init__" "bytearray.__init__" :=
  .of (owner := "bytearray") (n := "__init__") (by rw [typeLookup_type, builtinLookup_eq_fast]; kernel_rfl) (by decide +kernel) (by decide +kernel) (by decide +kernel)
    (by first | exact .inl (by decide +kernel) | exact .inr (by decide +kernel)) (by rw [isSubtype_type]; kernel_rfl)
theorem ba_slot_append : Slot "bytearray" "append" "bytearray.append" :=
  .of (owner := "bytearray") (n := "append") (by rw [typeLookup_type, builtinLookup_eq_fast]; kernel_rfl) (by decide +kernel) (by decide +kernel) (by decide +kernel)
    (by first | exact .inl (by decide +kernel) | exact .inr (by decide +kernel)) (by rw [isSubtype_type]; kernel_rfl)
theorem ba_slot_extend : Slot "bytearray" "extend" "bytearray.extend" :=
  .of (owner := "bytearray") (n := "extend") (by rw [typeLookup_type, builtinLookup_eq_fast]; kernel_rfl) (by decide +kernel) (by decide +kernel) (by decide +kernel)
    (by first | exact .inl (by decide +kernel) | exact .inr (by decide +kernel)) (by rw [isSubtype_type]; kernel_rfl)
theorem ba_entry_append : entryFor table "bytearray.append" = some Builtin.«bytearray.append» := entryFor_of_tree (by kernel_rfl)
theorem ba_entry_extend : entryFor table "bytearray.extend" = some Builtin.«bytearray.extend» := entryFor_of_tree (by kernel_rfl)
theorem ba_entry_init : entryFor table "bytearray.__init__" = some Builtin.«bytearray.__init__» := entryFor_of_tree (by kernel_rfl)
theorem ba_args_append (a b : Value) : argsOk "bytearray.append" ⟨[a, b], []⟩ := by unfold argsOk; kernel_rfl
theorem ba_args_extend (a b : Value) : argsOk "bytearray.extend" ⟨[a, b], []⟩ := by unfold argsOk; kernel_rfl
theorem ba_args_init (a : Value) : argsOk "bytearray.__init__" ⟨[a], []⟩ := by unfold argsOk; kernel_rfl
theorem ba_typeCall : checkTypeCall "bytearray" ⟨[], []⟩ = pure () := by kernel_rfl
theorem ba_type_append : typeOf (.builtin "bytearray.append") = pure (.type "method_descriptor") := by show builtinType _ = _; rw [builtinType_eq_fast]; kernel_rfl
theorem ba_type_extend : typeOf (.builtin "bytearray.extend") = pure (.type "method_descriptor") := by show builtinType _ = _; rw [builtinType_eq_fast]; kernel_rfl
theorem ba_bind : Builtin.Bytes.bindOptional "bytearray.__init__" "bytearray" ["source", "encoding", "errors"] [] [] = pure [none, none, none] := by kernel_rfl

theorem ba_plainAttrs : PlainAttrs "bytearray" := ⟨⟨"bytearray.__getattribute__", by rw [typeLookup_type, builtinLookup_eq_fast]; kernel_rfl, by decide +kernel⟩, by rw [typeLookup_type, builtinLookup_eq_fast]; kernel_rfl⟩
theorem ba_made : Bind.madeBy (.type "bytearray") = pure (some "bytearray.__new__") := madeBy_type ba_mro ba_lookup_new (by decide +kernel)
theorem ba_called : TypeCalled "bytearray" "bytearray.__new__" "bytearray.__init__" :=
  ⟨by decide +kernel, by decide +kernel, ⟨_, _, ba_mro⟩, ba_made, by decide +kernel, by rw [isSubtype_type]; kernel_rfl, ba_slot_init⟩
theorem ba_newCall : checkBuiltinCall "bytearray.__new__" ⟨[.type "bytearray"], []⟩ = pure () := by kernel_rfl
theorem ba_entry_new : entryFor table "bytearray.__new__" = some Builtin.«list.__new__» := entryFor_alias (id' := "list.__new__") (by kernel_rfl) (by decide +kernel) (by decide +kernel) (by kernel_rfl)
section
variable {prog : Program} {w : World} {A : Around} {E : Value → Shared → Prop} {s : Shared}
theorem stackAnyC {f : Code × Pos → Bool} {Q : Bool → Shared → Prop} (hg : A.guards = some []) (hf : ∀ c q, c.isGuard = false → notDec c = true → f (c, q) = false) (h : Q false s) : wpC (model prog w) A (do return (← stack).any f) Q E s := by
  intro Γ p hΓ hc
  show Q (((Γ.code, p) :: Γ.below).any f) s
  have e : ((Γ.code, p) :: Γ.below).any f = false := by
    rw [List.any_eq_false]
    intro x hx
    have hgd : guardsOf ((Γ.code, p) :: Γ.below) = [] := by rw [guardsOf_cons]; exact hΓ.2.2.2.1 [] hg
    have h1 : x.1.isGuard = false := by
      cases hq : x.1.isGuard with
      | false => rfl
      | true =>
        have : x.1 ∈ guardsOf ((Γ.code, p) :: Γ.below) := List.mem_filter.mpr ⟨List.mem_map_of_mem hx, hq⟩
        rw [hgd] at this; cases this
    have h2 : notDec x.1 = true := by
      rcases List.mem_cons.mp hx with rfl | hx
      · exact hc.1
      · exact List.all_eq_true.mp hc.2 x hx
    rw [show f x = f (x.1, x.2) from rfl, hf x.1 x.2 h1 h2]
    exact Bool.false_ne_true
  rw [e]; exact h
theorem exportedC {self : Value} {Q : Bool → Shared → Prop} (hg : A.guards = some []) (h : Q false s) : wpC (model prog w) A (PySem.Builtin.Bytes.exported self) Q E s := by
  unfold PySem.Builtin.Bytes.exported
  refine stackAnyC hg (fun c q h1 h2 => ?_) h
  cases c with
  | builtin id a =>
    have g : ∀ x, guardIds.contains x = true → id ≠ x := fun x hx e => by subst e; rw [show Code.isGuard (.builtin id a) = guardIds.contains id from rfl, hx] at h1; cases h1
    have d : PySem.Builtin.Bytes.decodersThatHold.contains id = false := (Bool.not_eq_true' _).mp h2
    obtain ⟨p, kw⟩ := a
    unfold PySem.Builtin.Bytes.exported.match_1
    dsimp only [PySem.Builtin.Bytes.exported._sparseCasesOn_1]
    rw [dif_neg (g "bytearray.__contains__" (by decide +kernel)), dif_neg (g "bytearray.__mod__" (by decide +kernel)), dif_neg (g "bytearray.__rmod__" (by decide +kernel)), dif_neg (g "_struct.pack_into.held" (by decide +kernel)), dif_neg (g "bytearray.find.held" (by decide +kernel))]
    cases p with
    | nil => rfl
    | cons v r =>
      show (PySem.Builtin.Bytes.sameRef v self && PySem.Builtin.Bytes.decodersThatHold.contains id) = false
      rw [d, Bool.and_false]
  | _ => rfl

noncomputable abbrev baObj (b : Array UInt8) : Obj := { cls := .type "bytearray", data := .bytearray b }
theorem exportsAny {a : Addr} {b : Array UInt8} {Q : Nat → Shared → Prop} (ho : s.heap.get? a = some (baObj b)) (h : Q 0 s) : wpAny (model prog w) A (PySem.Builtin.Bytes.exportsOf (.ref a)) Q E s := by
  unfold PySem.Builtin.Bytes.exportsOf
  exact wpAny_bind (wpAny_load ho (wpAny_pure h))
theorem exportedOrC {a : Addr} {b : Array UInt8} {Q : Bool → Shared → Prop} (hg : A.guards = some []) (ho : s.heap.get? a = some (baObj b)) (h : Q false s) :
    wpC (model prog w) A (PySem.Builtin.Bytes.exported (.ref a) <||> (do return (← PySem.Builtin.Bytes.exportsOf (.ref a)) > 0)) Q E s :=
  wpC_bind (exportedC hg (.ofAny (wpAny_bind (exportsAny ho (wpAny_pure h)))))
theorem checkResizeC {a : Addr} {b : Array UInt8} {Q : Unit → Shared → Prop} (hg : A.guards = some []) (ho : s.heap.get? a = some (baObj b)) (h : Q () s) :
    wpC (model prog w) A (PySem.Builtin.Bytes.checkResize (.ref a)) Q E s := by
  unfold PySem.Builtin.Bytes.checkResize
  exact wpC_bind (exportedOrC hg ho (wpC_pure h))
theorem writeAny {a : Addr} {b : Array UInt8} {f : Array UInt8 → Array UInt8} {Q : Unit → Shared → Prop} (ho : s.heap.get? a = some (baObj b)) (hz : (f b).size ≤ sizeLine)
    (h : ∀ h', h'.get? a = some (baObj (f b)) → Heap.SameBut a s.heap h' → Q () { s with heap := h' }) : wpAny (model prog w) A (PySem.Builtin.Bytes.write (.ref a) f) Q E s := by
  show wpAny _ _ (updateBytearray a f) _ _ _
  unfold updateBytearray
  refine wpAny_bind (wpAny_load ho ?_)
  show wpAny _ _ (update a (Obj.mapBytearray f) >>= fun _ => lookBehind a) _ _ _
  refine wpAny_bind (wpAny_update ho ?_)
  have hS := Heap.get?_update_self (Obj.mapBytearray f) ho rfl
  refine wpAny_lookBehind hS ?_ (h _ hS (Heap.SameBut.update ..))
  show (if (f b).size > sizeLine then some "bytearray:memory" else none) = none
  rw [if_neg (by lia)]
theorem codeC_call_builtin {id : String} {args : Args} {b : Builtin} {R : Result → Shared → Prop} (hq : plainId id = true) (hn : notDec (.builtin id args) = true) (hb : entryFor table id = some b)
    (h : wpAny (model prog w) A.in1 (checkBuiltinCall id args) (fun _ s₁ => wpC (model prog w) A.in1 (b args)
      (fun fin s' => match fin with | .done f => R (.ok f) s' | .again c' => c'.quiet = true ∧ codeC (model prog w) A c' R s') (fun e s' => R (.error e) s') s₁)
      (fun e s' => R (.error e) s') s) : codeC (model prog w) A (.call (.builtin id) args) R s := by
  refine codeC_of_tree rfl ?_
  show wpC _ A.in1 (do checkBuiltinCall id args; again (.builtin id args)) _ _ s
  refine wpC_anyBind (wpAny_mono h (fun _ s₁ h₁ => wpC_pure ⟨plainId_quiet hq args, codeC_of_tree hn ?_⟩) fun _ _ h' => h')
  rw [Around.under_plainId hq args]
  show wpC _ _ (match entryFor table id with | some b => b args | none => unsupported ((withoutEnding? id "#data").getD id)) _ _ s₁
  rw [hb]; exact h₁
/-- a builtin's body that ends with a value -/
noncomputable def endsV (Q : Value → Shared → Prop) (fin : PySem.Fin) (s' : Shared) : Prop := ∃ v, fin = PySem.Fin.done (Flow.ret v) ∧ Q v s'
theorem methodC {T : String} {name : Str} {id : String} {B : Builtin} {self : Value} {rest : List Value} {Q : Value → Shared → Prop} (slot : Slot T name id) (hT : s.TypeIs self T) (entry : entryFor table id = some B)
    (args : argsOk id ⟨self :: rest, []⟩) (hn : notDec (.builtin id ⟨self :: rest, []⟩) = true) (h : wpC (model prog w) A.in1 (B ⟨self :: rest, []⟩) (endsV Q) E s) : wpC (model prog w) A (call (.builtin id) (self :: rest)) Q E s := by
  refine wpC_call (codeC_call_builtin slot.plain hn entry (slot.check _ _ _ _ _ _ _ _ hT args ?_))
  refine wpC_mono h (fun fin s' hf => ?_) fun _ _ x => x
  obtain ⟨v, rfl, hv⟩ := hf
  exact hv
theorem appendC {a : Addr} {b : Array UInt8} {c : Int} {t : Tok} {Q : Value → Shared → Prop} (hg : A.guards = some []) (ho : s.heap.get? a = some (baObj b)) (h0 : 0 ≤ c) (h1 : c < 256) (hz : b.size + 1 ≤ sizeLine)
    (h : ∀ h', h'.get? a = some (baObj (b.push c.toNat.toUInt8)) → Heap.SameBut a s.heap h' → Q .none { s with heap := h' }) : wpC (model prog w) A (call (.builtin "bytearray.append") [.ref a, .int c t]) Q E s := by
  refine methodC ba_slot_append ⟨_, ho, rfl⟩ ba_entry_append (ba_args_append _ _) (by show (!(PySem.Builtin.Bytes.decodersThatHold.contains "bytearray.append")) = true; decide +kernel) ?_
  unfold Builtin.«bytearray.append»
  refine wpC_anyBind (wpAny_of_eq (a := (Value.ref a, Value.int c t)) rfl ?_)
  refine wpC_anyBind (wpAny_bind (wpAny_of_eq (a := c) rfl ?_))
  show wpAny _ _ (if (decide (c < 0) || decide (c ≥ 256)) = true then _ else _) _ _ _
  rw [if_neg (by simp; lia)]
  refine wpAny_pure ?_
  refine wpC_bind (checkResizeC hg ho ?_)
  refine wpC_anyBind (writeAny ho (by rw [Array.size_push]; exact hz) fun h' q1 q2 => ?_)
  exact wpC_pure ⟨_, rfl, h h' q1 q2⟩
theorem ba_take {b : Array UInt8} {t : Tok} : PySem.Builtin.Bytes.takeBufferQuiet? "bytearray.extend" (.bytes b t) 0 = pure (some (b, none)) := by kernel_rfl
theorem ba_special {b : Array UInt8} {t : Tok} : specialOf (.bytes b t) "__buffer__" = pure (some (.builtin "bytes.__buffer__")) := by kernel_rfl
theorem payloadAny {a : Addr} {b : Array UInt8} {Q : Array UInt8 → Shared → Prop} (ho : s.heap.get? a = some (baObj b)) (h : Q b s) : wpAny (model prog w) A (PySem.Builtin.Bytes.payload (.ref a)) Q E s := by
  unfold PySem.Builtin.Bytes.payload PySem.Builtin.Bytes.payload?
  exact wpAny_bind (wpAny_bind (wpAny_load ho (wpAny_pure (wpAny_pure h))))
theorem extendC {a : Addr} {b c : Array UInt8} {t : Tok} {Q : Value → Shared → Prop} (hg : A.guards = some []) (ho : s.heap.get? a = some (baObj b)) (hz : b.size + c.size ≤ sizeLine)
    (h : ∀ h', h'.get? a = some (baObj (b ++ c)) → Heap.SameBut a s.heap h' → Q .none { s with heap := h' }) : wpC (model prog w) A (call (.builtin "bytearray.extend") [.ref a, .bytes c t]) Q E s := by
  refine methodC ba_slot_extend ⟨_, ho, rfl⟩ ba_entry_extend (ba_args_extend _ _) (by show (!(PySem.Builtin.Bytes.decodersThatHold.contains "bytearray.extend")) = true; decide +kernel) ?_
  unfold Builtin.«bytearray.extend»
  refine wpC_anyBind (wpAny_of_eq (a := (Value.ref a, Value.bytes c t)) rfl ?_)
  refine wpC_anyBind (wpAny_of_eq ba_special ?_)
  show wpC _ _ (PySem.Builtin.Bytes.payload (.ref a) >>= _) _ _ _
  refine wpC_anyBind (payloadAny ho ?_)
  refine wpC_anyBind (wpAny_of_eq ba_take ?_)
  show wpC _ _ (if (!c.isEmpty) = true then PySem.Builtin.Bytes.checkResize (.ref a) >>= fun _ => PySem.Builtin.Bytes.write (.ref a) (· ++ c) >>= fun _ => ret .none else PySem.Builtin.Bytes.write (.ref a) (· ++ c) >>= fun _ => ret .none) _ _ _
  have tail : wpC (model prog w) A.in1 (PySem.Builtin.Bytes.write (.ref a) (· ++ c) >>= fun _ => ret .none) (endsV Q) E s :=
    wpC_anyBind (writeAny ho (by rw [Array.size_append]; exact hz) fun h' q1 q2 => wpC_pure ⟨_, rfl, h h' q1 q2⟩)
  split
  · exact wpC_bind (checkResizeC hg ho tail)
  · exact tail
theorem ba_no_bytes : typeLookup (.type "bytearray") "__bytes__" = pure none := by rw [typeLookup_type, builtinLookup_eq_fast]; kernel_rfl
theorem ba_no_index : typeLookup (.type "bytearray") "__index__" = pure none := by rw [typeLookup_type, builtinLookup_eq_fast]; kernel_rfl
theorem ba_buffer : typeLookup (.type "bytearray") "__buffer__" = pure (some (.builtin "bytearray.__buffer__")) := by rw [typeLookup_type, builtinLookup_eq_fast]; kernel_rfl
theorem ba_release : typeLookup (.type "bytearray") "__release_buffer__" = pure (some (.builtin "bytearray.__release_buffer__")) := by rw [typeLookup_type, builtinLookup_eq_fast]; kernel_rfl
theorem ba_sub_self : isSubtype (.type "bytearray") (.type "bytearray") = pure true := by rw [isSubtype_type]; kernel_rfl
theorem ownBufferAny {a : Addr} {b : Array UInt8} {Q : Bool → Shared → Prop} (ho : s.heap.get? a = some (baObj b)) (h : Q true s) : wpAny (model prog w) A (PySem.Builtin.Bytes.slotIsOwn (.ref a) "__buffer__") Q E s := by
  unfold PySem.Builtin.Bytes.slotIsOwn
  refine wpAny_bind (wpAny_specialOf ⟨_, ho, rfl⟩ ba_buffer ?_)
  show wpAny _ _ (if (!("bytearray.__buffer__".endsWith ("." ++ "__buffer__"))) = true then _ else _) _ _ _
  rw [if_neg (by decide +kernel)]
  rw [show ("bytearray.__buffer__".dropRight ("__buffer__".length + 1)) = "bytearray" from by decide +kernel]
  exact wpAny_isInstance (b := true) ⟨_, ho, rfl⟩ ba_sub_self h
theorem ownReleaseAny {a : Addr} {b : Array UInt8} {Q : Bool → Shared → Prop} (ho : s.heap.get? a = some (baObj b)) (h : Q false s) : wpAny (model prog w) A (PySem.Builtin.Bytes.ownRelease (.ref a)) Q E s := by
  unfold PySem.Builtin.Bytes.ownRelease
  refine wpAny_bind ?_
  unfold PySem.Builtin.Bytes.slotIsOwn
  refine wpAny_bind (wpAny_specialOf ⟨_, ho, rfl⟩ ba_release ?_)
  show wpAny _ _ (if (!("bytearray.__release_buffer__".endsWith ("." ++ "__release_buffer__"))) = true then _ else _) _ _ _
  rw [if_neg (by decide +kernel)]
  rw [show ("bytearray.__release_buffer__".dropRight ("__release_buffer__".length + 1)) = "bytearray" from by decide +kernel]
  exact wpAny_isInstance (b := true) ⟨_, ho, rfl⟩ ba_sub_self (wpAny_pure h)
theorem bufferAny {a : Addr} {b : Array UInt8} {id : String} {full : Bool} {Q : Option (Array UInt8) → Shared → Prop} (ho : s.heap.get? a = some (baObj b)) (h : Q (some b) s) :
    wpAny (model prog w) A (PySem.Builtin.Bytes.buffer? id (.ref a) full) Q E s := by
  unfold PySem.Builtin.Bytes.buffer?
  refine wpAny_bind (wpAny_specialOf ⟨_, ho, rfl⟩ ba_buffer ?_)
  show wpAny _ _ (PySem.Builtin.Bytes.slotIsOwn (.ref a) "__buffer__" >>= _) _ _ _
  refine wpAny_bind (ownBufferAny ho ?_)
  show wpAny _ _ (specialOf (.ref a) "__buffer__" >>= _) _ _ _
  refine wpAny_bind (wpAny_specialOf ⟨_, ho, rfl⟩ ba_buffer ?_)
  show wpAny _ _ (PySem.Builtin.Bytes.ownRelease (.ref a) >>= _) _ _ _
  refine wpAny_bind (ownReleaseAny ho ?_)
  show wpAny _ _ (PySem.Builtin.Bytes.payload (.ref a) >>= _) _ _ _
  exact wpAny_bind (payloadAny ho (wpAny_pure h))
theorem bytes_new_ba {a : Addr} {b : Array UInt8} {Q : Value → Shared → Prop} (ho : s.heap.get? a = some (baObj b)) (hz : b.size ≤ sizeLine) (hQ : ∀ t k, Q (.bytes b t) { s with toks := k }) :
    codeAny (model prog w) A (.call (.builtin "bytes.__new__") ⟨[.type "bytes", .ref a], []⟩) (wants Q E) s := by
  refine codeAny_of_tree ?_
  show wpAny _ A.in1 (do checkBuiltinCall "bytes.__new__" ⟨[.type "bytes", .ref a], []⟩; again (.builtin "bytes.__new__" ⟨[.type "bytes", .ref a], []⟩)) _ _ s
  refine wpAny_bind (wpAny_of_eq (F.bm_newCall _) (wpAny_pure ⟨plainId_quiet F.bm_plain _, codeAny_builtin F.bm_entry ?_⟩))
  rw [Around.under_plainId F.bm_plain _]
  have hT : s.TypeIs (.ref a) "bytearray" := ⟨_, ho, rfl⟩
  unfold Builtin.«bytes.__new__»
  refine wpAny_bind (wpAny_of_eq (a := true) rfl ?_)
  refine bm_if_false rfl ?_
  refine wpAny_bind (wpAny_of_eq F.bm_sub ?_)
  refine bm_if_false rfl ?_
  refine wpAny_bind (wpAny_of_eq (F.bm_bind _) ?_)
  refine wpAny_bind (wpAny_of_eq (a := ()) rfl ?_)
  refine wpAny_bind (wpAny_of_eq (a := ()) rfl ?_)
  refine bm_if_false rfl ?_
  refine wpAny_bind (wpAny_specialOf hT ba_no_bytes ?_)
  refine wpAny_bind (wpAny_bind ?_)
  show wpAny _ _ (load a >>= _) _ _ _
  refine wpAny_bind (wpAny_load ho ?_)
  refine wpAny_pure (wpAny_pure ?_)
  refine bm_if_false rfl ?_
  refine wpAny_bind (wpAny_specialOf hT ba_no_index ?_)
  refine bm_if_true rfl ?_
  first
    | show wpAny _ _ (Builtin.Bytes.buffer? "bytes.__new__" (.ref a) true >>= _) _ _ _
    | (refine wpAny_bind ?_; show wpAny _ _ (Builtin.Bytes.buffer? "bytes.__new__" (.ref a) true >>= _) _ _ _)
  refine wpAny_bind (bufferAny ho ?_)
  refine wpAny_bind (wpAny_rule ?_)
  refine wpAny_bind (wpAny_mkBytes ?_ hz)
  show wpAny _ _ (if (Value.type "bytes" == Value.type "bytes") = true then _ else _) _ _ _
  refine bm_if_true (by decide) ?_
  first
    | exact wpAny_pure (hQ _ _)
    | exact wpAny_bind (wpAny_pure (wpAny_pure (hQ _ _)))
theorem call_bytes_ba {a : Addr} {b : Array UInt8} {Q : Value → Shared → Prop} (ho : s.heap.get? a = some (baObj b)) (hz : b.size ≤ sizeLine) (hQ : ∀ t k, Q (.bytes b t) { s with toks := k }) : wpAny (model prog w) A (call (.type "bytes") [.ref a]) Q E s := by
  refine callType_codes (Q₁ := fun obj s₁ => s₁.TypeIs obj "bytes" ∧ Q obj s₁) F.bm_called (F.bm_typeCall _) F.entry_object_init
    (bytes_new_ba ho hz fun t k => ⟨PySem.W.typeIs_bytes _ _ _, hQ t k⟩) fun obj s₁ h₁ => ?_
  exact ⟨h₁.1, F.args_object_init_2 obj _, object_init_meets F.bm_called.init.lookup F.bm_called.made (by decide) prog w A.in1 _ s₁ ⟨h₁.1, rfl, h₁.2⟩⟩
set_option maxRecDepth 1000000 in
theorem ba_owner : ("bytearray.__new__".splitOn ".__new__").headD "" = "bytearray" := by simp +decide [String.splitOn, String.splitOnAux]
theorem ba_plain_new : plainId "bytearray.__new__" = true := by decide +kernel
theorem ba_new {Q₁ : Value → Shared → Prop} (h : Q₁ (.ref s.heap.objs.size) { s with heap := s.heap.push (baObj #[]) }) :
    codeAny (model prog w) A (.call (.builtin "bytearray.__new__") ⟨[.type "bytearray"], []⟩) (wants Q₁ E) s := by
  refine codeAny_of_tree ?_
  show wpAny _ A.in1 (do checkBuiltinCall "bytearray.__new__" ⟨[.type "bytearray"], []⟩; again (.builtin "bytearray.__new__" ⟨[.type "bytearray"], []⟩)) _ _ s
  refine wpAny_bind (wpAny_of_eq ba_newCall (wpAny_pure ⟨plainId_quiet ba_plain_new _, codeAny_builtin_stack ba_entry_new rfl fun p st => ?_⟩))
  rw [Around.under_plainId ba_plain_new _]
  have hsub := ba_sub_self
  have hown := ba_owner
  obtain ⟨hp, g, d, tk, os⟩ := s
  simp only [hown]
  wp_walk
  exact h
theorem ba_initC {a : Addr} {b : Array UInt8} {Q : Value → Shared → Prop} (hg : A.guards = some []) (ho : s.heap.get? a = some (baObj b)) (h : ∀ h', h'.get? a = some (baObj #[]) → Heap.SameBut a s.heap h' → Q .none { s with heap := h' }) :
    wpC (model prog w) A (Builtin.«bytearray.__init__» ⟨[.ref a], []⟩) (endsV Q) E s := by
  unfold Builtin.«bytearray.__init__»
  refine wpC_anyBind (ownReleaseAny ho ?_)
  show wpC _ _ (Builtin.Bytes.bindOptional "bytearray.__init__" "bytearray" ["source", "encoding", "errors"] [] [] >>= _) _ _ _
  refine wpC_anyBind (wpAny_of_eq ba_bind ?_)
  refine wpC_anyBind (wpAny_of_eq (a := ()) rfl ?_)
  refine wpC_anyBind (wpAny_of_eq (a := ()) rfl ?_)
  refine wpC_bind (exportedOrC hg ho ?_)
  show wpC _ _ (PySem.Builtin.Bytes.write (.ref a) (fun _ => #[]) >>= _) _ _ _
  refine wpC_anyBind (writeAny ho (Nat.zero_le _) fun h' q1 q2 => ?_)
  show wpC _ _ ((pure () : Sem Unit) >>= fun _ => ret .none) _ _ _
  exact wpC_anyBind (wpAny_pure (wpC_pure ⟨_, rfl, h h' q1 q2⟩))
theorem callSpecialC {self f g : Value} {first args : List Value} {name : Str} {Q : Option Value → Shared → Prop} {T : String} (hT : s.TypeIs self T) (hl : typeLookup (.type T) name = pure (some f)) (hb : bindSpecial f self = pure (g, first))
    (h : wpC (model prog w) A (call g (first ++ args) []) (fun v => Q (some v)) E s) : wpC (model prog w) A (callSpecial? self name args []) Q E s := by
  unfold callSpecial?
  refine wpC_anyBind (wpAny_specialOf hT hl ?_)
  refine wpC_holding (wpC_anyBind (wpAny_of_eq hb ?_))
  exact wpC_bind (wpC_mono h (fun v s' q => wpC_pure q) fun _ _ x => x)
theorem codeC_builtin {id : String} {args : Args} {b : Builtin} {R : Result → Shared → Prop} (hn : notDec (.builtin id args) = true) (hb : entryFor table id = some b)
    (h : wpC (model prog w) (A.under (.builtin id args)) (b args) (fun fin s' => match fin with | .done f => R (.ok f) s' | .again c' => c'.quiet = true ∧ codeC (model prog w) A c' R s') (fun e s' => R (.error e) s') s) :
    codeC (model prog w) A (.builtin id args) R s := by
  refine codeC_of_tree hn ?_
  show wpC _ _ (match entryFor table id with | some b => b args | none => unsupported ((withoutEnding? id "#data").getD id)) _ _ s
  rw [hb]; exact h
theorem iteC_false {α : Type} {c : Bool} {a b : Sem α} {Q : α → Shared → Prop} (hc : c = false) (h : wpC (model prog w) A b Q E s) : wpC (model prog w) A (if c = true then a else b) Q E s := by subst hc; exact h
theorem call_bytearrayC {Q : Value → Shared → Prop} (hg : A.guards = some []) (h : ∀ h', h'.get? s.heap.objs.size = some (baObj #[]) → (∀ b o, s.heap.get? b = some o → h'.get? b = some o) → Q (.ref s.heap.objs.size) { s with heap := h' }) :
    wpC (model prog w) A (call (.type "bytearray") []) Q E s := by
  refine wpC_call (codeC_of_tree rfl ?_)
  show wpC _ _ (again (.builtin "type.__call__" ⟨.type "bytearray" :: [], []⟩)) _ _ _
  refine wpC_pure ⟨Code.quiet_builtin _ (by decide +kernel), codeC_builtin (by show (!(PySem.Builtin.Bytes.decodersThatHold.contains "type.__call__")) = true; decide +kernel) F.entry_type_call ?_⟩
  rw [Around.under_plain (weight_type_call_type "bytearray" [] []) rfl]
  unfold Builtin.«type.__call__»
  refine iteC_false (by decide +kernel) ?_
  refine iteC_false ba_called.canCreate ?_
  refine wpC_anyBind (wpAny_of_eq ba_typeCall ?_)
  refine wpC_anyBind (wpAny_of_eq ba_mro ?_)
  refine iteC_false rfl ?_
  refine wpC_anyBind (wpAny_of_eq ba_made ?_)
  refine wpC_anyBind (wpAny_pure ?_)
  refine wpC_bind (wpC_holding (.ofAny (wpAny_call (codeAny_mono (ba_new (prog := prog) (w := w) (E := E) (Q₁ := fun v s' => v = .ref s.heap.objs.size ∧ s' = { s with heap := s.heap.push (baObj #[]) }) ⟨rfl, rfl⟩) fun r s' hr => ?_))))
  cases r with
  | error e => exact hr
  | ok fl =>
    cases fl with
    | ret obj =>
      obtain ⟨rfl, rfl⟩ := hr
      have hnew : (s.heap.push (baObj #[])).get? s.heap.objs.size = some (baObj #[]) := Heap.get?_push_size _ rfl
      refine wpC_anyBind (wpAny_isInstance (b := true) ⟨_, hnew, rfl⟩ ba_sub_self ?_)
      refine iteC_false rfl ?_
      refine wpC_bind (wpC_holding (callSpecialC (T := "bytearray") ⟨_, hnew, rfl⟩ ba_slot_init.lookup (ba_slot_init.bind _) ?_))
      refine wpC_mono (methodC (Q := fun v s' => v = .none ∧ ∃ h', s' = { s with heap := h' } ∧ h'.get? s.heap.objs.size = some (baObj #[]) ∧ Heap.SameBut s.heap.objs.size (s.heap.push (baObj #[])) h') ba_slot_init ⟨_, hnew, rfl⟩ ba_entry_init (ba_args_init _) (by show (!(PySem.Builtin.Bytes.decodersThatHold.contains "bytearray.__init__")) = true; decide +kernel)
        (ba_initC (by exact hg) hnew fun h' q1 q2 => ⟨rfl, h', rfl, q1, q2⟩)) (fun v s' hv => ?_) (fun _ _ x => x)
      obtain ⟨rfl, h', rfl, q1, q2⟩ := hv
      refine iteC_false rfl ?_
      exact wpC_pure (h h' q1 fun b o e => (q2.2 b (Nat.ne_of_lt (Heap.lt_size e))).trans (Heap.get?_push_of_some _ e))
    | _ => exact hr.elim

noncomputable abbrev baL (x : List UInt8) : Obj := baObj x.toArray
section
variable {h₀ : Heap} {L : Addr} {m : Str → Option Value} {rest : List (Addr × Obj)}
theorem ba_turn {a : Addr} {o o' : Obj} {h' : Heap} (F : Fr h₀ L s.heap m) (N : News h₀ L s.heap ((a, o) :: rest)) (hne : ∀ p ∈ rest, p.1 ≠ a) (q1 : h'.get? a = some o') (q2 : Heap.SameBut a s.heap h') :
    Fr h₀ L h' m ∧ News h₀ L h' ((a, o') :: rest) := by
  have z := N (a, o) (.head _)
  refine ⟨F.change q2 z.2.1 z.2.2, fun p hp => ?_⟩
  rcases List.mem_cons.mp hp with rfl | hp
  · exact ⟨q1, z.2⟩
  · have y := N p (.tail _ hp)
    exact ⟨(q2.2 p.1 (hne p hp)).trans y.1, y.2⟩
theorem baNewK {Q : Value → Shared → Prop} (hg : A.guards = some []) (F : Fr h₀ L s.heap m) (N : News h₀ L s.heap rest)
    (h : ∀ a h', Fr h₀ L h' m → News h₀ L h' ((a, baL []) :: rest) → (∀ p ∈ rest, p.1 ≠ a) → L ≠ a → Q (.ref a) { s with heap := h' }) : wpC (model prog w) A (call (.type "bytearray") []) Q E s := by
  refine call_bytearrayC hg fun h' q1 q2 => ?_
  obtain ⟨oL, es, ep, hL, hLd⟩ := F.ns
  have hlt : L < s.heap.objs.size := Heap.lt_size hL
  have hnew : ∀ b : Addr, (s.heap.get? b).isSome → b ≠ s.heap.objs.size := fun b hb e => by
    obtain ⟨o, ho⟩ := Option.isSome_iff_exists.mp hb
    exact absurd (Heap.lt_size ho) (by rw [e]; exact Nat.lt_irrefl _)
  refine h _ h' ⟨⟨oL, es, ep, q2 L oL hL, hLd⟩, fun b o e => q2 b o (F.keep b o e), F.above⟩ (fun p hp => ?_) (fun p hp => hnew _ (by rw [(N p hp).1]; rfl)) (Nat.ne_of_lt hlt)
  rcases List.mem_cons.mp hp with rfl | hp
  · refine ⟨q1, (Nat.ne_of_lt hlt).symm, ?_⟩
    cases e : h₀.get? s.heap.objs.size with
    | none => rfl
    | some o => exact absurd (hnew _ (by rw [F.keep _ _ e]; rfl)) (fun x => x rfl)
  · exact ⟨q2 _ _ (N p hp).1, (N p hp).2⟩
theorem baAppendK {a : Addr} {x : List UInt8} {c : Int} {t : Tok} {Q : Value → Shared → Prop} (hg : A.guards = some []) (F : Fr h₀ L s.heap m) (N : News h₀ L s.heap ((a, baL x) :: rest)) (hne : ∀ p ∈ rest, p.1 ≠ a)
    (h0 : 0 ≤ c) (h1 : c < 256) (hz : x.length + 1 ≤ sizeLine) (h : ∀ h', Fr h₀ L h' m → News h₀ L h' ((a, baL (x ++ [c.toNat.toUInt8])) :: rest) → Q .none { s with heap := h' }) :
    wpC (model prog w) A (call (.builtin "bytearray.append") [.ref a, .int c t]) Q E s :=
  appendC hg (N _ (.head _)).1 h0 h1 (by simpa using hz) fun h' q1 q2 => by
    obtain ⟨F', N'⟩ := ba_turn F N hne q1 q2
    exact h h' F' (by simpa [baL] using N')
theorem baExtendK {a : Addr} {x y : List UInt8} {t : Tok} {Q : Value → Shared → Prop} (hg : A.guards = some []) (F : Fr h₀ L s.heap m) (N : News h₀ L s.heap ((a, baL x) :: rest)) (hne : ∀ p ∈ rest, p.1 ≠ a)
    (hz : x.length + y.length ≤ sizeLine) (h : ∀ h', Fr h₀ L h' m → News h₀ L h' ((a, baL (x ++ y)) :: rest) → Q .none { s with heap := h' }) :
    wpC (model prog w) A (call (.builtin "bytearray.extend") [.ref a, .bytes y.toArray t]) Q E s :=
  extendC hg (N _ (.head _)).1 (by simpa using hz) fun h' q1 q2 => by
    obtain ⟨F', N'⟩ := ba_turn F N hne q1 q2
    exact h h' F' (by simpa [baL] using N')
end
end
/-! the head: the heap behind the program's top, as the program's text has it -/
noncomputable def stAt : List Stmt → Nat → Stmt
  | [], _ => .Pass ⟨0, 0, 0, 0⟩
  | s :: _, 0 => s
  | _ :: r, n + 1 => stAt r n
noncomputable def bodyOf : Stmt → List Stmt
  | .FunctionDef _ _ b _ _ _ _ _ _ _ => b
  | _ => []
noncomputable def parOf : Stmt → Arguments
  | .FunctionDef _ a _ _ _ _ _ _ _ _ => a
  | _ => { posonlyargs := [], args := [], vararg := none, kwonlyargs := [], kw_defaults := [], kwarg := none, defaults := [] }
noncomputable def scoOf : Stmt → Scope
  | .FunctionDef _ _ _ _ _ _ s _ _ _ => s
  | _ => { kind := .function, names := [], isGenerator := false, isCoroutine := false }
noncomputable def posOf : Stmt → Pos
  | .FunctionDef _ _ _ _ _ _ _ _ _ p => p
  | _ => ⟨0, 0, 0, 0⟩
noncomputable def hpT (n : Nat) : Stmt := stAt PySem.Challenge.rw_nt0643_01.prog.main.body n
noncomputable def hpB : Stmt → List Stmt
  | .ClassDef _ _ _ b _ _ _ _ _ _ _ => b
  | _ => []
noncomputable def hpM (c n : Nat) : Stmt := stAt (hpB (hpT c)) n
noncomputable def hpF (name qual : Str) (d : Stmt) (dV : Value) (pm : Str) (t : Tok) (c : Addr) : Obj := { cls := .type "function", data := .func { name, qualname := qual, params := parOf d, body := .stmts (bodyOf d), scope := scoOf d, globals := 3, closure := [], defaults := dV, kwdefaults := .none, pyModule := .str pm t, code := .ref c } }
noncomputable def hpE (P : Params) (k : Str) (t : Tok) (v : Value) : DictEntry := { hash := PyData.keyHash P k, key := .str k t, val := v }
noncomputable def hpS (l : List Value) : Obj := { cls := .type "tuple", data := .seq l.toArray }
noncomputable def hpC (l : List Value) : Obj := { cls := .type "code", data := .fields l.toArray }
noncomputable def hd.heap_39 : Params → Frag := fun P => (nat_lit 2, { cls := .none, data := .dict #[hpE P "type.__subclasses__.Exception.0" 263 (.int 59 0), hpE P "type.__subclasses__.Exception.n" 264 (.int 1 0)] 2 }) :: (nat_lit 3, { cls := .type "dict", data := .dict #[hpE P "__name__" 165 (.str "law_nt0643_01" 609), hpE P "__doc__" 166 (.none), hpE P "__package__" 167 (.none), hpE P "__loader__" 168 (.builtin "__main__.__loader__#opaque"), hpE P "__spec__" 169 (.none), hpE P "__annotations__" 170 (.ref 6), hpE P "__builtins__" 171 (.ref 4), hpE P "__file__" 173 (.str "/claim/cut.py" 172), hpE P "__cached__" 174 (.none), hpE P "_wall" 193 (.ref 21), hpE P "ESCAPE_SIGN" 197 (.int 37 196), hpE P "ZERO_SIGN" 199 (.int 48 198), hpE P "NINE_SIGN" 201 (.int 57 200), hpE P "capture_text" 208 (.ref 28), hpE P "expanded" 219 (.ref 35), hpE P "replaced" 234 (.ref 42), hpE P "LuaError" 266 (.ref 59), hpE P "MOST_CAPTURES" 270 (.int 32 269), hpE P "UNFINISHED" 273 (.int (-1) 272), hpE P "POSITION" 276 (.int (-2) 275), hpE P "ESCAPE" 278 (.int 37 277), hpE P "CARET" 280 (.int 94 279), hpE P "DOLLAR" 282 (.int 36 281), hpE P "DOT" 284 (.int 46 283), hpE P "OPEN" 286 (.int 40 285), hpE P "CLOSE" 288 (.int 41 287), hpE P "SET_OPEN" 290 (.int 91 289), hpE P "SET_CLOSE" 292 (.int 93 291), hpE P "STAR" 294 (.int 42 293), hpE P "PLUS" 296 (.int 43 295), hpE P "MINUS" 298 (.int 45 297), hpE P "MARK" 300 (.int 63 299), hpE P "is_lower" 307 (.ref 69), hpE P "is_upper" 314 (.ref 76), hpE P "is_alpha" 321 (.ref 83), hpE P "is_digit" 328 (.ref 90), hpE P "is_space" 335 (.ref 97), hpE P "is_control" 342 (.ref 104), hpE P "is_punctuation" 349 (.ref 111), hpE P "is_hex" 356 (.ref 118), hpE P "in_class" 366 (.ref 125), hpE P "Matcher" 608 (.ref 274), hpE P "_law_draw" 618 (.ref 285), hpE P "_law_is_letter" 626 (.ref 292), hpE P "_law_is_figure" 634 (.ref 299), hpE P "_law_run" 643 (.ref 306), hpE P "_law_balanced" 653 (.ref 313), hpE P "_law_match" 666 (.ref 320), hpE P "_law_pieces" 677 (.ref 327), hpE P "_law_stands" 687 (.ref 334), hpE P "_law_spans" 700 (.ref 341), hpE P "_law_due" 715 (.ref 348), hpE P "_law_told" 732 (.ref 355), hpE P "_law_is_refused" 742 (.ref 362), hpE P "law" 748 (.ref 367)] 55 }) :: (nat_lit 15, hpS []) :: (nat_lit 17, hpS [.str "k" 190]) :: (nat_lit 18, hpS []) :: (nat_lit 20, hpC [.str "_wall" 187, .str "_wall" 188, .str "/claim/cut.py" 189, .int 1 0, .int 1 0, .int 0 0, .int 0 0, .int 3 0, .ref 15, .bool true, .int 181 0, .ref 16, .none, .ref 17, .ref 18, .ref 19, .int 191 0, .int 1 0, .str "/claim/cut.py" 192]) :: (nat_lit 21, hpF "_wall" "_wall" (hpT 0) .none "__main__" 164 20) :: (nat_lit 22, hpS []) :: (nat_lit 24, hpS [.str "value" 205]) :: (nat_lit 25, hpS []) :: (nat_lit 27, hpC [.str "capture_text" 202, .str "capture_text" 203, .str "/claim/cut.py" 204, .int 8 0, .int 1 0, .int 0 0, .int 0 0, .int 3 0, .ref 22, .bool true, .int 181 0, .ref 23, .none, .ref 24, .ref 25, .ref 26, .int 206 0, .int 8 0, .str "/claim/cut.py" 207]) :: (nat_lit 28, hpF "capture_text" "capture_text" (hpT 5) .none "lua.replace" 194 27) :: (nat_lit 29, hpS []) :: (nat_lit 31, hpS [.str "news" 212, .str "held" 213, .str "found" 214, .str "at" 215, .str "octet" 216]) :: (nat_lit 32, hpS []) :: (nat_lit 34, hpC [.str "expanded" 209, .str "expanded" 210, .str "/claim/cut.py" 211, .int 10 0, .int 2 0, .int 0 0, .int 0 0, .int 3 0, .ref 29, .bool true, .int 181 0, .ref 30, .none, .ref 31, .ref 32, .ref 33, .int 217 0, .int 10 0, .str "/claim/cut.py" 218]) :: (nat_lit 35, hpF "expanded" "expanded" (hpT 6) .none "lua.replace" 194 34) :: (nat_lit 36, hpS []) :: (nat_lit 38, hpS [.str "text" 223, .str "most" 224, .str "is_bound" 225, .str "ends_at" 226, .str "give" 227, .str "found" 228, .str "at" 229, .str "many" 230, .str "end" 231]) :: (nat_lit 39, hpS []) :: (nat_lit 41, hpC [.str "replaced" 220, .str "replaced" 221, .str "/claim/cut.py" 222, .int 25 0, .int 5 0, .int 0 0, .int 0 0, .int 3 0, .ref 36, .bool true, .int 181 0, .ref 37, .none, .ref 38, .ref 39, .ref 40, .int 232 0, .int 25 0, .str "/claim/cut.py" 233]) :: (nat_lit 42, hpF "replaced" "replaced" (hpT 7) .none "lua.replace" 194 41) :: (nat_lit 43, hpS [.type "Exception"]) :: (nat_lit 50, hpS []) :: (nat_lit 52, hpS [.str "self" 252, .str "value" 253]) :: (nat_lit 53, hpS []) :: (nat_lit 55, hpC [.str "__init__" 249, .str "LuaError.__init__" 250, .str "/claim/cut.py" 251, .int 46 0, .int 2 0, .int 0 0, .int 0 0, .int 3 0, .ref 50, .bool true, .int 181 0, .ref 51, .none, .ref 52, .ref 53, .ref 54, .int 254 0, .int 46 0, .str "/claim/cut.py" 255]) :: (nat_lit 56, hpF "__init__" "LuaError.__init__" (hpM 9 0) .none "lua.values" 235 55) :: (nat_lit 57, hpS [.str "trace" 257, .str "value" 258]) :: (nat_lit 58, { cls := .type "dict", data := .dict #[hpE P "__module__" 244 (.str "lua.values" 235), hpE P "__firstlineno__" 248 (.int 44 247), hpE P "__init__" 256 (.ref 56), hpE P "__static_attributes__" 259 (.ref 57), hpE P "__weakref__" 261 (.ref 60), hpE P "__doc__" 262 (.none)] 3 }) :: (nat_lit 59, { cls := .type "type", data := .cls { name := "LuaError", bases := [.type "Exception"], mro := [.ref 59, .type "Exception", .type "BaseException", .type "object"], ns := 58, qualname := "LuaError" }, slots := #[some (.ref 43), none, some (.str "LuaError" 237), some (.str "LuaError" 245), some (.builtin "Exception.__new__"), some (.bool true)] }) :: (nat_lit 60, { cls := .type "getset_descriptor", data := .fields #[.str "__weakref__" 260, .ref 59, .builtin "ExceptionGroup.__weakref__", .none] }) :: (nat_lit 63, hpS []) :: (nat_lit 65, hpS [.str "c" 304]) :: (nat_lit 66, hpS []) :: (nat_lit 68, hpC [.str "is_lower" 301, .str "is_lower" 302, .str "/claim/cut.py" 303, .int 65 0, .int 1 0, .int 0 0, .int 0 0, .int 3 0, .ref 63, .bool true, .int 181 0, .ref 64, .none, .ref 65, .ref 66, .ref 67, .int 305 0, .int 65 0, .str "/claim/cut.py" 306]) :: (nat_lit 69, hpF "is_lower" "is_lower" (hpT 26) .none "lua.patterns" 267 68) :: (nat_lit 70, hpS []) :: (nat_lit 72, hpS [.str "c" 311]) :: (nat_lit 73, hpS []) :: (nat_lit 75, hpC [.str "is_upper" 308, .str "is_upper" 309, .str "/claim/cut.py" 310, .int 67 0, .int 1 0, .int 0 0, .int 0 0, .int 3 0, .ref 70, .bool true, .int 181 0, .ref 71, .none, .ref 72, .ref 73, .ref 74, .int 312 0, .int 67 0, .str "/claim/cut.py" 313]) :: (nat_lit 76, hpF "is_upper" "is_upper" (hpT 27) .none "lua.patterns" 267 75) :: (nat_lit 77, hpS []) :: (nat_lit 79, hpS [.str "c" 318]) :: (nat_lit 80, hpS []) :: (nat_lit 82, hpC [.str "is_alpha" 315, .str "is_alpha" 316, .str "/claim/cut.py" 317, .int 69 0, .int 1 0, .int 0 0, .int 0 0, .int 3 0, .ref 77, .bool true, .int 181 0, .ref 78, .none, .ref 79, .ref 80, .ref 81, .int 319 0, .int 69 0, .str "/claim/cut.py" 320]) :: (nat_lit 83, hpF "is_alpha" "is_alpha" (hpT 28) .none "lua.patterns" 267 82) :: (nat_lit 84, hpS []) :: (nat_lit 86, hpS [.str "c" 325]) :: (nat_lit 87, hpS []) :: (nat_lit 89, hpC [.str "is_digit" 322, .str "is_digit" 323, .str "/claim/cut.py" 324, .int 71 0, .int 1 0, .int 0 0, .int 0 0, .int 3 0, .ref 84, .bool true, .int 181 0, .ref 85, .none, .ref 86, .ref 87, .ref 88, .int 326 0, .int 71 0, .str "/claim/cut.py" 327]) :: (nat_lit 90, hpF "is_digit" "is_digit" (hpT 29) .none "lua.patterns" 267 89) :: (nat_lit 91, hpS []) :: (nat_lit 93, hpS [.str "c" 332]) :: (nat_lit 94, hpS []) :: (nat_lit 96, hpC [.str "is_space" 329, .str "is_space" 330, .str "/claim/cut.py" 331, .int 73 0, .int 1 0, .int 0 0, .int 0 0, .int 3 0, .ref 91, .bool true, .int 181 0, .ref 92, .none, .ref 93, .ref 94, .ref 95, .int 333 0, .int 73 0, .str "/claim/cut.py" 334]) :: (nat_lit 97, hpF "is_space" "is_space" (hpT 30) .none "lua.patterns" 267 96) :: (nat_lit 98, hpS []) :: (nat_lit 100, hpS [.str "c" 339]) :: (nat_lit 101, hpS []) :: (nat_lit 103, hpC [.str "is_control" 336, .str "is_control" 337, .str "/claim/cut.py" 338, .int 75 0, .int 1 0, .int 0 0, .int 0 0, .int 3 0, .ref 98, .bool true, .int 181 0, .ref 99, .none, .ref 100, .ref 101, .ref 102, .int 340 0, .int 75 0, .str "/claim/cut.py" 341]) :: (nat_lit 104, hpF "is_control" "is_control" (hpT 31) .none "lua.patterns" 267 103) :: (nat_lit 105, hpS []) :: (nat_lit 107, hpS [.str "c" 346]) :: (nat_lit 108, hpS []) :: (nat_lit 110, hpC [.str "is_punctuation" 343, .str "is_punctuation" 344, .str "/claim/cut.py" 345, .int 77 0, .int 1 0, .int 0 0, .int 0 0, .int 3 0, .ref 105, .bool true, .int 181 0, .ref 106, .none, .ref 107, .ref 108, .ref 109, .int 347 0, .int 77 0, .str "/claim/cut.py" 348]) :: (nat_lit 111, hpF "is_punctuation" "is_punctuation" (hpT 32) .none "lua.patterns" 267 110) :: (nat_lit 112, hpS []) :: (nat_lit 114, hpS [.str "c" 353]) :: (nat_lit 115, hpS []) :: (nat_lit 117, hpC [.str "is_hex" 350, .str "is_hex" 351, .str "/claim/cut.py" 352, .int 79 0, .int 1 0, .int 0 0, .int 0 0, .int 3 0, .ref 112, .bool true, .int 181 0, .ref 113, .none, .ref 114, .ref 115, .ref 116, .int 354 0, .int 79 0, .str "/claim/cut.py" 355]) :: (nat_lit 118, hpF "is_hex" "is_hex" (hpT 33) .none "lua.patterns" 267 117) :: (nat_lit 119, hpS []) :: (nat_lit 121, hpS [.str "c" 360, .str "letter" 361, .str "low" 362, .str "found" 363]) :: (nat_lit 122, hpS []) :: (nat_lit 124, hpC [.str "in_class" 357, .str "in_class" 358, .str "/claim/cut.py" 359, .int 81 0, .int 2 0, .int 0 0, .int 0 0, .int 3 0, .ref 119, .bool true, .int 181 0, .ref 120, .none, .ref 121, .ref 122, .ref 123, .int 364 0, .int 81 0, .str "/claim/cut.py" 365]) :: (nat_lit 125, hpF "in_class" "in_class" (hpT 34) .none "lua.patterns" 267 124) :: (nat_lit 133, hpS [.int 60 379]) :: (nat_lit 134, hpS []) :: (nat_lit 136, hpS [.str "self" 383, .str "text" 384, .str "pattern" 385, .str "depth" 386, .str "zero" 387]) :: (nat_lit 137, hpS []) :: (nat_lit 139, hpC [.str "__init__" 380, .str "Matcher.__init__" 381, .str "/claim/cut.py" 382, .int 108 0, .int 4 0, .int 0 0, .int 0 0, .int 3 0, .ref 134, .bool true, .int 181 0, .ref 135, .none, .ref 136, .ref 137, .ref 138, .int 388 0, .int 108 0, .str "/claim/cut.py" 389]) :: (nat_lit 140, hpF "__init__" "Matcher.__init__" (hpM 35 0) (.ref 133) "lua.patterns" 267 139) :: (nat_lit 141, hpS []) :: (nat_lit 143, hpS [.str "self" 394]) :: (nat_lit 144, hpS []) :: (nat_lit 146, hpC [.str "reset" 391, .str "Matcher.reset" 392, .str "/claim/cut.py" 393, .int 118 0, .int 1 0, .int 0 0, .int 0 0, .int 3 0, .ref 141, .bool true, .int 181 0, .ref 142, .none, .ref 143, .ref 144, .ref 145, .int 395 0, .int 118 0, .str "/claim/cut.py" 396]) :: (nat_lit 147, hpF "reset" "Matcher.reset" (hpM 35 1) .none "lua.patterns" 267 146) :: (nat_lit 148, hpS []) :: (nat_lit 150, hpS [.str "self" 401, .str "p" 402]) :: (nat_lit 151, hpS []) :: (nat_lit 153, hpC [.str "at" 398, .str "Matcher.at" 399, .str "/claim/cut.py" 400, .int 124 0, .int 2 0, .int 0 0, .int 0 0, .int 3 0, .ref 148, .bool true, .int 181 0, .ref 149, .none, .ref 150, .ref 151, .ref 152, .int 403 0, .int 124 0, .str "/claim/cut.py" 404]) :: (nat_lit 154, hpF "at" "Matcher.at" (hpM 35 2) .none "lua.patterns" 267 153) :: (nat_lit 155, hpS []) :: (nat_lit 157, hpS [.str "self" 409, .str "p" 410, .str "first" 411, .str "is_first" 412, .str "is_escaped" 413]) :: (nat_lit 158, hpS []) :: (nat_lit 160, hpC [.str "class_end" 406, .str "Matcher.class_end" 407, .str "/claim/cut.py" 408, .int 127 0, .int 2 0, .int 0 0, .int 0 0, .int 3 0, .ref 155, .bool true, .int 181 0, .ref 156, .none, .ref 157, .ref 158, .ref 159, .int 414 0, .int 127 0, .str "/claim/cut.py" 415]) :: (nat_lit 161, hpF "class_end" "Matcher.class_end" (hpM 35 3) .none "lua.patterns" 267 160) :: (nat_lit 162, hpS []) :: (nat_lit 164, hpS [.str "self" 420, .str "c" 421, .str "p" 422, .str "last" 423, .str "is_wanted" 424, .str "here" 425]) :: (nat_lit 165, hpS []) :: (nat_lit 167, hpC [.str "in_set" 417, .str "Matcher.in_set" 418, .str "/claim/cut.py" 419, .int 149 0, .int 4 0, .int 0 0, .int 0 0, .int 3 0, .ref 162, .bool true, .int 181 0, .ref 163, .none, .ref 164, .ref 165, .ref 166, .int 426 0, .int 149 0, .str "/claim/cut.py" 427]) :: (nat_lit 168, hpF "in_set" "Matcher.in_set" (hpM 35 4) .none "lua.patterns" 267 167) :: (nat_lit 169, hpS []) :: (nat_lit 171, hpS [.str "self" 432, .str "s" 433, .str "p" 434, .str "end" 435, .str "c" 436, .str "first" 437]) :: (nat_lit 172, hpS []) :: (nat_lit 174, hpC [.str "is_single" 429, .str "Matcher.is_single" 430, .str "/claim/cut.py" 431, .int 170 0, .int 4 0, .int 0 0, .int 0 0, .int 3 0, .ref 169, .bool true, .int 181 0, .ref 170, .none, .ref 171, .ref 172, .ref 173, .int 438 0, .int 170 0, .str "/claim/cut.py" 439]) :: (nat_lit 175, hpF "is_single" "Matcher.is_single" (hpM 35 5) .none "lua.patterns" 267 174) :: (nat_lit 176, hpS []) :: (nat_lit 178, hpS [.str "self" 444, .str "s" 445, .str "p" 446, .str "found" 447]) :: (nat_lit 179, hpS []) :: (nat_lit 181, hpC [.str "match" 441, .str "Matcher.match" 442, .str "/claim/cut.py" 443, .int 182 0, .int 3 0, .int 0 0, .int 0 0, .int 3 0, .ref 176, .bool true, .int 181 0, .ref 177, .none, .ref 178, .ref 179, .ref 180, .int 448 0, .int 182 0, .str "/claim/cut.py" 449]) :: (nat_lit 182, hpF "match" "Matcher.match" (hpM 35 6) .none "lua.patterns" 267 181) :: (nat_lit 183, hpS []) :: (nat_lit 185, hpS [.str "self" 454, .str "s" 455, .str "p" 456, .str "first" 457, .str "second" 458, .str "end" 459, .str "after" 460, .str "is_here" 461, .str "found" 462]) :: (nat_lit 186, hpS []) :: (nat_lit 188, hpC [.str "match_here" 451, .str "Matcher.match_here" 452, .str "/claim/cut.py" 453, .int 190 0, .int 3 0, .int 0 0, .int 0 0, .int 3 0, .ref 183, .bool true, .int 181 0, .ref 184, .none, .ref 185, .ref 186, .ref 187, .int 463 0, .int 190 0, .str "/claim/cut.py" 464]) :: (nat_lit 189, hpF "match_here" "Matcher.match_here" (hpM 35 7) .none "lua.patterns" 267 188) :: (nat_lit 190, hpS []) :: (nat_lit 192, hpS [.str "self" 469, .str "s" 470, .str "p" 471, .str "letter" 472]) :: (nat_lit 193, hpS []) :: (nat_lit 195, hpC [.str "match_special" 466, .str "Matcher.match_special" 467, .str "/claim/cut.py" 468, .int 227 0, .int 4 0, .int 0 0, .int 0 0, .int 3 0, .ref 190, .bool true, .int 181 0, .ref 191, .none, .ref 192, .ref 193, .ref 194, .int 473 0, .int 227 0, .str "/claim/cut.py" 474]) :: (nat_lit 196, hpF "match_special" "Matcher.match_special" (hpM 35 8) .none "lua.patterns" 267 195) :: (nat_lit 197, hpS []) :: (nat_lit 199, hpS [.str "self" 479, .str "s" 480, .str "p" 481, .str "begin" 482, .str "end" 483, .str "open_ones" 484, .str "c" 485]) :: (nat_lit 200, hpS []) :: (nat_lit 202, hpC [.str "match_balance" 476, .str "Matcher.match_balance" 477, .str "/claim/cut.py" 478, .int 234 0, .int 3 0, .int 0 0, .int 0 0, .int 3 0, .ref 197, .bool true, .int 181 0, .ref 198, .none, .ref 199, .ref 200, .ref 201, .int 486 0, .int 234 0, .str "/claim/cut.py" 487]) :: (nat_lit 203, hpF "match_balance" "Matcher.match_balance" (hpM 35 9) .none "lua.patterns" 267 202) :: (nat_lit 204, hpS []) :: (nat_lit 206, hpS [.str "self" 492, .str "s" 493, .str "p" 494, .str "end" 495, .str "ahead" 496, .str "here" 497]) :: (nat_lit 207, hpS []) :: (nat_lit 209, hpC [.str "match_frontier" 489, .str "Matcher.match_frontier" 490, .str "/claim/cut.py" 491, .int 253 0, .int 3 0, .int 0 0, .int 0 0, .int 3 0, .ref 204, .bool true, .int 181 0, .ref 205, .none, .ref 206, .ref 207, .ref 208, .int 498 0, .int 253 0, .str "/claim/cut.py" 499]) :: (nat_lit 210, hpF "match_frontier" "Matcher.match_frontier" (hpM 35 10) .none "lua.patterns" 267 209) :: (nat_lit 211, hpS []) :: (nat_lit 213, hpS [.str "self" 504, .str "s" 505, .str "p" 506, .str "end" 507, .str "many" 508, .str "found" 509]) :: (nat_lit 214, hpS []) :: (nat_lit 216, hpC [.str "expand_most" 501, .str "Matcher.expand_most" 502, .str "/claim/cut.py" 503, .int 263 0, .int 4 0, .int 0 0, .int 0 0, .int 3 0, .ref 211, .bool true, .int 181 0, .ref 212, .none, .ref 213, .ref 214, .ref 215, .int 510 0, .int 263 0, .str "/claim/cut.py" 511]) :: (nat_lit 217, hpF "expand_most" "Matcher.expand_most" (hpM 35 11) .none "lua.patterns" 267 216) :: (nat_lit 218, hpS []) :: (nat_lit 220, hpS [.str "self" 516, .str "s" 517, .str "p" 518, .str "end" 519, .str "found" 520]) :: (nat_lit 221, hpS []) :: (nat_lit 223, hpC [.str "expand_least" 513, .str "Matcher.expand_least" 514, .str "/claim/cut.py" 515, .int 274 0, .int 4 0, .int 0 0, .int 0 0, .int 3 0, .ref 218, .bool true, .int 181 0, .ref 219, .none, .ref 220, .ref 221, .ref 222, .int 521 0, .int 274 0, .str "/claim/cut.py" 522]) :: (nat_lit 224, hpF "expand_least" "Matcher.expand_least" (hpM 35 12) .none "lua.patterns" 267 223) :: (nat_lit 225, hpS []) :: (nat_lit 227, hpS [.str "self" 527, .str "s" 528, .str "p" 529, .str "kind" 530, .str "found" 531]) :: (nat_lit 228, hpS []) :: (nat_lit 230, hpC [.str "start_capture" 524, .str "Matcher.start_capture" 525, .str "/claim/cut.py" 526, .int 283 0, .int 4 0, .int 0 0, .int 0 0, .int 3 0, .ref 225, .bool true, .int 181 0, .ref 226, .none, .ref 227, .ref 228, .ref 229, .int 532 0, .int 283 0, .str "/claim/cut.py" 533]) :: (nat_lit 231, hpF "start_capture" "Matcher.start_capture" (hpM 35 13) .none "lua.patterns" 267 230) :: (nat_lit 232, hpS []) :: (nat_lit 234, hpS [.str "self" 538, .str "s" 539, .str "p" 540, .str "number" 541, .str "found" 542]) :: (nat_lit 235, hpS []) :: (nat_lit 237, hpC [.str "end_capture" 535, .str "Matcher.end_capture" 536, .str "/claim/cut.py" 537, .int 294 0, .int 3 0, .int 0 0, .int 0 0, .int 3 0, .ref 232, .bool true, .int 181 0, .ref 233, .none, .ref 234, .ref 235, .ref 236, .int 543 0, .int 294 0, .str "/claim/cut.py" 544]) :: (nat_lit 238, hpF "end_capture" "Matcher.end_capture" (hpM 35 14) .none "lua.patterns" 267 237) :: (nat_lit 239, hpS []) :: (nat_lit 241, hpS [.str "self" 549, .str "number" 550]) :: (nat_lit 242, hpS []) :: (nat_lit 244, hpC [.str "to_close" 546, .str "Matcher.to_close" 547, .str "/claim/cut.py" 548, .int 302 0, .int 1 0, .int 0 0, .int 0 0, .int 3 0, .ref 239, .bool true, .int 181 0, .ref 240, .none, .ref 241, .ref 242, .ref 243, .int 551 0, .int 302 0, .str "/claim/cut.py" 552]) :: (nat_lit 245, hpF "to_close" "Matcher.to_close" (hpM 35 15) .none "lua.patterns" 267 244) :: (nat_lit 246, hpS []) :: (nat_lit 248, hpS [.str "self" 557, .str "s" 558, .str "digit" 559, .str "number" 560, .str "size" 561, .str "start" 562]) :: (nat_lit 249, hpS []) :: (nat_lit 251, hpC [.str "match_capture" 554, .str "Matcher.match_capture" 555, .str "/claim/cut.py" 556, .int 310 0, .int 3 0, .int 0 0, .int 0 0, .int 3 0, .ref 246, .bool true, .int 181 0, .ref 247, .none, .ref 248, .ref 249, .ref 250, .int 563 0, .int 310 0, .str "/claim/cut.py" 564]) :: (nat_lit 252, hpF "match_capture" "Matcher.match_capture" (hpM 35 16) .none "lua.patterns" 267 251) :: (nat_lit 253, hpS []) :: (nat_lit 255, hpS [.str "self" 569, .str "number" 570, .str "s" 571, .str "end" 572, .str "size" 573, .str "start" 574]) :: (nat_lit 256, hpS []) :: (nat_lit 258, hpC [.str "capture" 566, .str "Matcher.capture" 567, .str "/claim/cut.py" 568, .int 320 0, .int 4 0, .int 0 0, .int 0 0, .int 3 0, .ref 253, .bool true, .int 181 0, .ref 254, .none, .ref 255, .ref 256, .ref 257, .int 575 0, .int 320 0, .str "/claim/cut.py" 576]) :: (nat_lit 259, hpF "capture" "Matcher.capture" (hpM 35 17) .none "lua.patterns" 267 258) :: (nat_lit 260, hpS []) :: (nat_lit 263, hpC [.str "captures" 578, .str "Matcher.captures" 579, .str "/claim/cut.py" 580, .int 330 0, .int 4 0, .int 0 0, .int 0 0, .int 3 0, .ref 260, .bool true, .int 181 0, .ref 261, .none, .none, .none, .ref 262, .int 581 0, .int 330 0, .str "/claim/cut.py" 582]) :: (nat_lit 264, hpF "captures" "Matcher.captures" (hpM 35 18) .none "lua.patterns" 267 263) :: (nat_lit 265, hpS []) :: (nat_lit 267, hpS [.str "self" 587, .str "init" 588, .str "p" 589, .str "is_anchored" 590]) :: (nat_lit 268, hpS []) :: (nat_lit 270, hpC [.str "search" 584, .str "Matcher.search" 585, .str "/claim/cut.py" 586, .int 334 0, .int 4 0, .int 0 0, .int 0 0, .int 3 0, .ref 265, .bool true, .int 181 0, .ref 266, .none, .ref 267, .ref 268, .ref 269, .int 591 0, .int 334 0, .str "/claim/cut.py" 592]) :: (nat_lit 271, hpF "search" "Matcher.search" (hpM 35 19) .none "lua.patterns" 267 270) :: (nat_lit 272, hpS [.str "depth" 594, .str "lengths" 595, .str "level" 596, .str "most_depth" 597, .str "pattern" 598, .str "starts" 599, .str "text" 600]) :: (nat_lit 273, { cls := .type "dict", data := .dict #[hpE P "__module__" 374 (.str "lua.patterns" 267), hpE P "__firstlineno__" 378 (.int 106 377), hpE P "__init__" 390 (.ref 140), hpE P "reset" 397 (.ref 147), hpE P "at" 405 (.ref 154), hpE P "class_end" 416 (.ref 161), hpE P "in_set" 428 (.ref 168), hpE P "is_single" 440 (.ref 175), hpE P "match" 450 (.ref 182), hpE P "match_here" 465 (.ref 189), hpE P "match_special" 475 (.ref 196), hpE P "match_balance" 488 (.ref 203), hpE P "match_frontier" 500 (.ref 210), hpE P "expand_most" 512 (.ref 217), hpE P "expand_least" 523 (.ref 224), hpE P "start_capture" 534 (.ref 231), hpE P "end_capture" 545 (.ref 238), hpE P "to_close" 553 (.ref 245), hpE P "match_capture" 565 (.ref 252), hpE P "capture" 577 (.ref 259), hpE P "captures" 583 (.ref 264), hpE P "search" 593 (.ref 271), hpE P "__static_attributes__" 601 (.ref 272), hpE P "__dict__" 603 (.ref 275), hpE P "__weakref__" 605 (.ref 276), hpE P "__doc__" 606 (.none)] 4 }) :: (nat_lit 274, { cls := .type "type", data := .cls { name := "Matcher", bases := [.type "object"], mro := [.ref 274, .type "object"], ns := 273, qualname := "Matcher" }, slots := #[none, none, some (.str "Matcher" 367), some (.str "Matcher" 375), some (.builtin "object.__new__"), some (.bool true)] }) :: (nat_lit 275, { cls := .type "getset_descriptor", data := .fields #[.str "__dict__" 602, .ref 274, .builtin "function.__dict__", .builtin "function.__dict__#set"] }) :: (nat_lit 276, { cls := .type "getset_descriptor", data := .fields #[.str "__weakref__" 604, .ref 274, .builtin "ExceptionGroup.__weakref__", .none] }) :: (nat_lit 279, hpS []) :: (nat_lit 281, hpS [.str "feed" 614, .str "many" 615]) :: (nat_lit 282, hpS []) :: (nat_lit 284, hpC [.str "_law_draw" 611, .str "_law_draw" 612, .str "/claim/cut.py" 613, .int 337 0, .int 2 0, .int 0 0, .int 0 0, .int 3 0, .ref 279, .bool true, .int 181 0, .ref 280, .none, .ref 281, .ref 282, .ref 283, .int 616 0, .int 337 0, .str "/claim/cut.py" 617]) :: (nat_lit 285, hpF "_law_draw" "_law_draw" (hpT 37) .none "law_nt0643_01" 609 284) :: (nat_lit 286, hpS []) :: (nat_lit 288, hpS [.str "text" 622, .str "s" 623]) :: (nat_lit 289, hpS []) :: (nat_lit 291, hpC [.str "_law_is_letter" 619, .str "_law_is_letter" 620, .str "/claim/cut.py" 621, .int 342 0, .int 2 0, .int 0 0, .int 0 0, .int 3 0, .ref 286, .bool true, .int 181 0, .ref 287, .none, .ref 288, .ref 289, .ref 290, .int 624 0, .int 342 0, .str "/claim/cut.py" 625]) :: (nat_lit 292, hpF "_law_is_letter" "_law_is_letter" (hpT 38) .none "law_nt0643_01" 609 291) :: (nat_lit 293, hpS []) :: (nat_lit 295, hpS [.str "text" 630, .str "s" 631]) :: (nat_lit 296, hpS []) :: (nat_lit 298, hpC [.str "_law_is_figure" 627, .str "_law_is_figure" 628, .str "/claim/cut.py" 629, .int 344 0, .int 2 0, .int 0 0, .int 0 0, .int 3 0, .ref 293, .bool true, .int 181 0, .ref 294, .none, .ref 295, .ref 296, .ref 297, .int 632 0, .int 344 0, .str "/claim/cut.py" 633]) :: (nat_lit 299, hpF "_law_is_figure" "_law_is_figure" (hpT 39) .none "law_nt0643_01" 609 298) :: (nat_lit 300, hpS []) :: (nat_lit 302, hpS [.str "text" 638, .str "s" 639, .str "is_it" 640]) :: (nat_lit 303, hpS []) :: (nat_lit 305, hpC [.str "_law_run" 635, .str "_law_run" 636, .str "/claim/cut.py" 637, .int 346 0, .int 3 0, .int 0 0, .int 0 0, .int 3 0, .ref 300, .bool true, .int 181 0, .ref 301, .none, .ref 302, .ref 303, .ref 304, .int 641 0, .int 346 0, .str "/claim/cut.py" 642]) :: (nat_lit 306, hpF "_law_run" "_law_run" (hpT 40) .none "law_nt0643_01" 609 305) :: (nat_lit 307, hpS []) :: (nat_lit 309, hpS [.str "text" 647, .str "s" 648, .str "deep" 649, .str "place" 650]) :: (nat_lit 310, hpS []) :: (nat_lit 312, hpC [.str "_law_balanced" 644, .str "_law_balanced" 645, .str "/claim/cut.py" 646, .int 350 0, .int 2 0, .int 0 0, .int 0 0, .int 3 0, .ref 307, .bool true, .int 181 0, .ref 308, .none, .ref 309, .ref 310, .ref 311, .int 651 0, .int 350 0, .str "/claim/cut.py" 652]) :: (nat_lit 313, hpF "_law_balanced" "_law_balanced" (hpT 41) .none "law_nt0643_01" 609 312) :: (nat_lit 314, hpS []) :: (nat_lit 316, hpS [.str "kind" 657, .str "text" 658, .str "s" 659, .str "end" 660, .str "begins" 661, .str "is_sign" 662, .str "is_pair" 663]) :: (nat_lit 317, hpS []) :: (nat_lit 319, hpC [.str "_law_match" 654, .str "_law_match" 655, .str "/claim/cut.py" 656, .int 357 0, .int 3 0, .int 0 0, .int 0 0, .int 3 0, .ref 314, .bool true, .int 181 0, .ref 315, .none, .ref 316, .ref 317, .ref 318, .int 664 0, .int 357 0, .str "/claim/cut.py" 665]) :: (nat_lit 320, hpF "_law_match" "_law_match" (hpT 42) .none "law_nt0643_01" 609 319) :: (nat_lit 321, hpS []) :: (nat_lit 323, hpS [.str "feed" 670, .str "kind" 671, .str "found" 672, .str "turn" 673, .str "form" 674]) :: (nat_lit 324, hpS []) :: (nat_lit 326, hpC [.str "_law_pieces" 667, .str "_law_pieces" 668, .str "/claim/cut.py" 669, .int 385 0, .int 2 0, .int 0 0, .int 0 0, .int 3 0, .ref 321, .bool true, .int 181 0, .ref 322, .none, .ref 323, .ref 324, .ref 325, .int 675 0, .int 385 0, .str "/claim/cut.py" 676]) :: (nat_lit 327, hpF "_law_pieces" "_law_pieces" (hpT 43) .none "law_nt0643_01" 609 326) :: (nat_lit 328, hpS []) :: (nat_lit 330, hpS [.str "piece" 681, .str "whole" 682, .str "held" 683, .str "told" 684]) :: (nat_lit 331, hpS []) :: (nat_lit 333, hpC [.str "_law_stands" 678, .str "_law_stands" 679, .str "/claim/cut.py" 680, .int 393 0, .int 3 0, .int 0 0, .int 0 0, .int 3 0, .ref 328, .bool true, .int 181 0, .ref 329, .none, .ref 330, .ref 331, .ref 332, .int 685 0, .int 393 0, .str "/claim/cut.py" 686]) :: (nat_lit 334, hpF "_law_stands" "_law_stands" (hpT 44) .none "law_nt0643_01" 609 333) :: (nat_lit 335, hpS []) :: (nat_lit 337, hpS [.str "kind" 691, .str "text" 692, .str "most" 693, .str "is_bound" 694, .str "found" 695, .str "s" 696, .str "told" 697]) :: (nat_lit 338, hpS []) :: (nat_lit 340, hpC [.str "_law_spans" 688, .str "_law_spans" 689, .str "/claim/cut.py" 690, .int 404 0, .int 4 0, .int 0 0, .int 0 0, .int 3 0, .ref 335, .bool true, .int 181 0, .ref 336, .none, .ref 337, .ref 338, .ref 339, .int 698 0, .int 404 0, .str "/claim/cut.py" 699]) :: (nat_lit 341, hpF "_law_spans" "_law_spans" (hpT 45) .none "law_nt0643_01" 609 340) :: (nat_lit 342, hpS []) :: (nat_lit 344, hpS [.str "text" 704, .str "spans" 705, .str "pieces" 706, .str "found" 707, .str "at" 708, .str "begin" 709, .str "end" 710, .str "held" 711, .str "piece" 712]) :: (nat_lit 345, hpS []) :: (nat_lit 347, hpC [.str "_law_due" 701, .str "_law_due" 702, .str "/claim/cut.py" 703, .int 414 0, .int 3 0, .int 0 0, .int 0 0, .int 3 0, .ref 342, .bool true, .int 181 0, .ref 343, .none, .ref 344, .ref 345, .ref 346, .int 713 0, .int 414 0, .str "/claim/cut.py" 714]) :: (nat_lit 348, hpF "_law_due" "_law_due" (hpT 46) .none "law_nt0643_01" 609 347) :: (nat_lit 349, hpS []) :: (nat_lit 351, hpS [.str "text" 719, .str "pattern" 720, .str "news" 721, .str "most" 722, .str "is_bound" 723, .str "ends_at" 724, .str "give" 725]) :: (nat_lit 352, hpS [.str "text" 726, .str "news" 727, .str "is_bound" 728, .str "matcher" 729]) :: (nat_lit 354, hpC [.str "_law_told" 716, .str "_law_told" 717, .str "/claim/cut.py" 718, .int 422 0, .int 5 0, .int 0 0, .int 0 0, .int 3 0, .ref 349, .bool true, .int 181 0, .ref 350, .none, .ref 351, .ref 352, .ref 353, .int 730 0, .int 422 0, .str "/claim/cut.py" 731]) :: (nat_lit 355, hpF "_law_told" "_law_told" (hpT 47) .none "law_nt0643_01" 609 354) :: (nat_lit 356, hpS []) :: (nat_lit 358, hpS [.str "text" 736, .str "pattern" 737, .str "most" 738, .str "is_bound" 739]) :: (nat_lit 359, hpS []) :: (nat_lit 361, hpC [.str "_law_is_refused" 733, .str "_law_is_refused" 734, .str "/claim/cut.py" 735, .int 435 0, .int 4 0, .int 0 0, .int 0 0, .int 3 0, .ref 356, .bool true, .int 181 0, .ref 357, .none, .ref 358, .ref 359, .ref 360, .int 740 0, .int 435 0, .str "/claim/cut.py" 741]) :: (nat_lit 362, hpF "_law_is_refused" "_law_is_refused" (hpT 48) .none "law_nt0643_01" 609 361) :: (nat_lit 363, hpS []) :: (nat_lit 366, hpC [.str "law" 743, .str "law" 744, .str "/claim/cut.py" 745, .int 441 0, .int 1 0, .int 0 0, .int 0 0, .int 3 0, .ref 363, .bool true, .int 181 0, .ref 364, .none, .none, .none, .ref 365, .int 746 0, .int 441 0, .str "/claim/cut.py" 747]) :: (nat_lit 367, hpF "law" "law" (hpT 49) .none "law_nt0643_01" 609 366) :: []
noncomputable def vw : Program := view PySem.Challenge.rw_nt0643_01.prog [0, 2, 3, 4, 5, 6, 7, 9, 11, 12, 13, 14, 15, 16, 17, 18, 19, 20, 21, 22, 23, 24, 25, 26, 27, 28, 29, 30, 31, 32, 33, 34, 35, 37, 38, 39, 40, 41, 42, 43, 44, 45, 46, 47, 48, 49]
noncomputable def asL : List Addr := [2, 3, 15, 17, 18, 20, 21, 22, 24, 25, 27, 28, 29, 31, 32, 34, 35, 36, 38, 39, 41, 42, 43, 50, 52, 53, 55, 56, 57, 58, 59, 60, 63, 65, 66, 68, 69, 70, 72, 73, 75, 76, 77, 79, 80, 82, 83, 84, 86, 87, 89, 90, 91, 93, 94, 96, 97, 98, 100, 101, 103, 104, 105, 107, 108, 110, 111, 112, 114, 115, 117, 118, 119, 121, 122, 124, 125, 133, 134, 136, 137, 139, 140, 141, 143, 144, 146, 147, 148, 150, 151, 153, 154, 155, 157, 158, 160, 161, 162, 164, 165, 167, 168, 169, 171, 172, 174, 175, 176, 178, 179, 181, 182, 183, 185, 186, 188, 189, 190, 192, 193, 195, 196, 197, 199, 200, 202, 203, 204, 206, 207, 209, 210, 211, 213, 214, 216, 217, 218, 220, 221, 223, 224, 225, 227, 228, 230, 231, 232, 234, 235, 237, 238, 239, 241, 242, 244, 245, 246, 248, 249, 251, 252, 253, 255, 256, 258, 259, 260, 263, 264, 265, 267, 268, 270, 271, 272, 273, 274, 275, 276, 279, 281, 282, 284, 285, 286, 288, 289, 291, 292, 293, 295, 296, 298, 299, 300, 302, 303, 305, 306, 307, 309, 310, 312, 313, 314, 316, 317, 319, 320, 321, 323, 324, 326, 327, 328, 330, 331, 333, 334, 335, 337, 338, 340, 341, 342, 344, 345, 347, 348, 349, 351, 352, 354, 355, 356, 358, 359, 361, 362, 363, 366, 367]
theorem asK (P : Params) : asL = (hd.heap_39 P).map (·.1) := by kernel_rfl
noncomputable abbrev hk : Hook := kmHook hd.heap_39 asL asK [350]
/-! the run of the top in pieces: every object at its end, and those that differ where it is cut -/
noncomputable def hpG (name qual : Str) (d : Stmt) : Obj := { cls := .none, data := .func { name, qualname := qual, params := parOf d, body := .stmts (bodyOf d), scope := scoOf d, globals := 0, closure := [], defaults := .none, kwdefaults := .none } }
noncomputable def hdRest (P : Params) : List (Addr × Obj) := (nat_lit 0, boot_o_0 P) :: (nat_lit 1, boot_o_1 P) :: (nat_lit 4, boot_o_4 P) :: (nat_lit 5, boot_o_5 P) :: (nat_lit 6, boot_o_6 P) :: (nat_lit 7, boot_o_7 P) :: (nat_lit 8, boot_o_8 P) :: (nat_lit 9, boot_o_9 P) :: (nat_lit 10, boot_o_10 P) :: (nat_lit 11, hpS []) :: (nat_lit 12, { cls := .none, data := .fields #[.int 1 0, .int 0 0, .ref 20, .int 8 0, .int 0 0, .ref 27, .int 10 0, .int 0 0, .ref 34, .int 25 0, .int 0 0, .ref 41, .int 44 0, .int 0 0, .ref 48, .int 65 0, .int 0 0, .ref 68, .int 67 0, .int 0 0, .ref 75, .int 69 0, .int 0 0, .ref 82, .int 71 0, .int 0 0, .ref 89, .int 73 0, .int 0 0, .ref 96, .int 75 0, .int 0 0, .ref 103, .int 77 0, .int 0 0, .ref 110, .int 79 0, .int 0 0, .ref 117, .int 81 0, .int 0 0, .ref 124, .int 106 0, .int 0 0, .ref 131, .int 337 0, .int 0 0, .ref 284, .int 342 0, .int 0 0, .ref 291, .int 344 0, .int 0 0, .ref 298, .int 346 0, .int 0 0, .ref 305, .int 350 0, .int 0 0, .ref 312, .int 357 0, .int 0 0, .ref 319, .int 385 0, .int 0 0, .ref 326, .int 393 0, .int 0 0, .ref 333, .int 404 0, .int 0 0, .ref 340, .int 414 0, .int 0 0, .ref 347, .int 422 0, .int 0 0, .ref 354, .int 435 0, .int 0 0, .ref 361, .int 441 0, .int 0 0, .ref 366] }) :: (nat_lit 13, hpC [.str "<module>" 182, .str "<module>" 183, .str "/claim/cut.py" 184, .int 1 0, .int 0 0, .int 0 0, .int 0 0, .int 0 0, .ref 11, .bool false, .int 181 0, .ref 12, .none, .none, .none, .none, .int 185 0, .int 1 0, .str "/claim/cut.py" 186]) :: (nat_lit 14, { cls := .type "frame", slots := #[some (.ref 13), some (.ref 3), some (.ref 3), none, some (.str "__main__" 164), none, some (.ref 0)] }) :: (nat_lit 16, { cls := .none, data := .fields #[] }) :: (nat_lit 19, hpG "_wall" "_wall" (hpT 0)) :: (nat_lit 23, { cls := .none, data := .fields #[] }) :: (nat_lit 26, hpG "capture_text" "capture_text" (hpT 5)) :: (nat_lit 30, { cls := .none, data := .fields #[] }) :: (nat_lit 33, hpG "expanded" "expanded" (hpT 6)) :: (nat_lit 37, { cls := .none, data := .fields #[] }) :: (nat_lit 40, hpG "replaced" "replaced" (hpT 7)) :: (nat_lit 44, { cls := .type "builtin_function_or_method", data := .fields #[.builtin "type.__prepare__", .type "type"] }) :: (nat_lit 45, { cls := .type "dict", data := .dict #[hpE P "__module__" 244 (.str "lua.values" 235), hpE P "__qualname__" 246 (.str "LuaError" 245), hpE P "__firstlineno__" 248 (.int 44 247), hpE P "__init__" 256 (.ref 56), hpE P "__static_attributes__" 259 (.ref 57)] 5 }) :: (nat_lit 46, hpS []) :: (nat_lit 47, { cls := .none, data := .fields #[.int 46 0, .int 4 0, .ref 55] }) :: (nat_lit 48, hpC [.str "LuaError" 239, .str "LuaError" 240, .str "/claim/cut.py" 241, .int 44 0, .int 0 0, .int 0 0, .int 0 0, .int 0 0, .ref 46, .bool false, .int 181 0, .ref 47, .none, .none, .none, .none, .int 242 0, .int 44 0, .str "/claim/cut.py" 243]) :: (nat_lit 49, { cls := .type "frame", slots := #[some (.ref 48), some (.ref 3), some (.ref 45), none, some (.str "lua.values" 235), none, some (.ref 0)] }) :: (nat_lit 51, { cls := .none, data := .fields #[] }) :: (nat_lit 54, hpG "__init__" "LuaError.__init__" (hpM 9 0)) :: (nat_lit 61, { cls := .type "super", data := .fields #[.ref 59, .ref 59, .ref 59] }) :: (nat_lit 62, { cls := .type "builtin_function_or_method", data := .fields #[.builtin "object.__init_subclass__", .ref 59] }) :: (nat_lit 64, { cls := .none, data := .fields #[] }) :: (nat_lit 67, hpG "is_lower" "is_lower" (hpT 26)) :: (nat_lit 71, { cls := .none, data := .fields #[] }) :: (nat_lit 74, hpG "is_upper" "is_upper" (hpT 27)) :: (nat_lit 78, { cls := .none, data := .fields #[] }) :: (nat_lit 81, hpG "is_alpha" "is_alpha" (hpT 28)) :: (nat_lit 85, { cls := .none, data := .fields #[] }) :: (nat_lit 88, hpG "is_digit" "is_digit" (hpT 29)) :: (nat_lit 92, { cls := .none, data := .fields #[] }) :: (nat_lit 95, hpG "is_space" "is_space" (hpT 30)) :: (nat_lit 99, { cls := .none, data := .fields #[] }) :: (nat_lit 102, hpG "is_control" "is_control" (hpT 31)) :: (nat_lit 106, { cls := .none, data := .fields #[] }) :: (nat_lit 109, hpG "is_punctuation" "is_punctuation" (hpT 32)) :: (nat_lit 113, { cls := .none, data := .fields #[] }) :: (nat_lit 116, hpG "is_hex" "is_hex" (hpT 33)) :: (nat_lit 120, { cls := .none, data := .fields #[] }) :: (nat_lit 123, hpG "in_class" "in_class" (hpT 34)) :: (nat_lit 126, hpS []) :: (nat_lit 127, { cls := .type "builtin_function_or_method", data := .fields #[.builtin "type.__prepare__", .type "type"] }) :: (nat_lit 128, { cls := .type "dict", data := .dict #[hpE P "__module__" 374 (.str "lua.patterns" 267), hpE P "__qualname__" 376 (.str "Matcher" 375), hpE P "__firstlineno__" 378 (.int 106 377), hpE P "__init__" 390 (.ref 140), hpE P "reset" 397 (.ref 147), hpE P "at" 405 (.ref 154), hpE P "class_end" 416 (.ref 161), hpE P "in_set" 428 (.ref 168), hpE P "is_single" 440 (.ref 175), hpE P "match" 450 (.ref 182), hpE P "match_here" 465 (.ref 189), hpE P "match_special" 475 (.ref 196), hpE P "match_balance" 488 (.ref 203), hpE P "match_frontier" 500 (.ref 210), hpE P "expand_most" 512 (.ref 217), hpE P "expand_least" 523 (.ref 224), hpE P "start_capture" 534 (.ref 231), hpE P "end_capture" 545 (.ref 238), hpE P "to_close" 553 (.ref 245), hpE P "match_capture" 565 (.ref 252), hpE P "capture" 577 (.ref 259), hpE P "captures" 583 (.ref 264), hpE P "search" 593 (.ref 271), hpE P "__static_attributes__" 601 (.ref 272)] 24 }) :: (nat_lit 129, hpS []) :: (nat_lit 130, { cls := .none, data := .fields #[.int 108 0, .int 4 0, .ref 139, .int 118 0, .int 4 0, .ref 146, .int 124 0, .int 4 0, .ref 153, .int 127 0, .int 4 0, .ref 160, .int 149 0, .int 4 0, .ref 167, .int 170 0, .int 4 0, .ref 174, .int 182 0, .int 4 0, .ref 181, .int 190 0, .int 4 0, .ref 188, .int 227 0, .int 4 0, .ref 195, .int 234 0, .int 4 0, .ref 202, .int 253 0, .int 4 0, .ref 209, .int 263 0, .int 4 0, .ref 216, .int 274 0, .int 4 0, .ref 223, .int 283 0, .int 4 0, .ref 230, .int 294 0, .int 4 0, .ref 237, .int 302 0, .int 4 0, .ref 244, .int 310 0, .int 4 0, .ref 251, .int 320 0, .int 4 0, .ref 258, .int 330 0, .int 4 0, .ref 263, .int 334 0, .int 4 0, .ref 270] }) :: (nat_lit 131, hpC [.str "Matcher" 369, .str "Matcher" 370, .str "/claim/cut.py" 371, .int 106 0, .int 0 0, .int 0 0, .int 0 0, .int 0 0, .ref 129, .bool false, .int 181 0, .ref 130, .none, .none, .none, .none, .int 372 0, .int 106 0, .str "/claim/cut.py" 373]) :: (nat_lit 132, { cls := .type "frame", slots := #[some (.ref 131), some (.ref 3), some (.ref 128), none, some (.str "lua.patterns" 267), none, some (.ref 0)] }) :: (nat_lit 135, { cls := .none, data := .fields #[] }) :: (nat_lit 138, hpG "__init__" "Matcher.__init__" (hpM 35 0)) :: (nat_lit 142, { cls := .none, data := .fields #[] }) :: (nat_lit 145, hpG "reset" "Matcher.reset" (hpM 35 1)) :: (nat_lit 149, { cls := .none, data := .fields #[] }) :: (nat_lit 152, hpG "at" "Matcher.at" (hpM 35 2)) :: (nat_lit 156, { cls := .none, data := .fields #[] }) :: (nat_lit 159, hpG "class_end" "Matcher.class_end" (hpM 35 3)) :: (nat_lit 163, { cls := .none, data := .fields #[] }) :: (nat_lit 166, hpG "in_set" "Matcher.in_set" (hpM 35 4)) :: (nat_lit 170, { cls := .none, data := .fields #[] }) :: (nat_lit 173, hpG "is_single" "Matcher.is_single" (hpM 35 5)) :: (nat_lit 177, { cls := .none, data := .fields #[] }) :: (nat_lit 180, hpG "match" "Matcher.match" (hpM 35 6)) :: (nat_lit 184, { cls := .none, data := .fields #[] }) :: (nat_lit 187, hpG "match_here" "Matcher.match_here" (hpM 35 7)) :: (nat_lit 191, { cls := .none, data := .fields #[] }) :: (nat_lit 194, hpG "match_special" "Matcher.match_special" (hpM 35 8)) :: (nat_lit 198, { cls := .none, data := .fields #[] }) :: (nat_lit 201, hpG "match_balance" "Matcher.match_balance" (hpM 35 9)) :: (nat_lit 205, { cls := .none, data := .fields #[] }) :: (nat_lit 208, hpG "match_frontier" "Matcher.match_frontier" (hpM 35 10)) :: (nat_lit 212, { cls := .none, data := .fields #[] }) :: (nat_lit 215, hpG "expand_most" "Matcher.expand_most" (hpM 35 11)) :: (nat_lit 219, { cls := .none, data := .fields #[] }) :: (nat_lit 222, hpG "expand_least" "Matcher.expand_least" (hpM 35 12)) :: (nat_lit 226, { cls := .none, data := .fields #[] }) :: (nat_lit 229, hpG "start_capture" "Matcher.start_capture" (hpM 35 13)) :: (nat_lit 233, { cls := .none, data := .fields #[] }) :: (nat_lit 236, hpG "end_capture" "Matcher.end_capture" (hpM 35 14)) :: (nat_lit 240, { cls := .none, data := .fields #[] }) :: (nat_lit 243, hpG "to_close" "Matcher.to_close" (hpM 35 15)) :: (nat_lit 247, { cls := .none, data := .fields #[] }) :: (nat_lit 250, hpG "match_capture" "Matcher.match_capture" (hpM 35 16)) :: (nat_lit 254, { cls := .none, data := .fields #[] }) :: (nat_lit 257, hpG "capture" "Matcher.capture" (hpM 35 17)) :: (nat_lit 261, { cls := .none, data := .fields #[] }) :: (nat_lit 262, hpG "captures" "Matcher.captures" (hpM 35 18)) :: (nat_lit 266, { cls := .none, data := .fields #[] }) :: (nat_lit 269, hpG "search" "Matcher.search" (hpM 35 19)) :: (nat_lit 277, { cls := .type "super", data := .fields #[.ref 274, .ref 274, .ref 274] }) :: (nat_lit 278, { cls := .type "builtin_function_or_method", data := .fields #[.builtin "object.__init_subclass__", .ref 274] }) :: (nat_lit 280, { cls := .none, data := .fields #[] }) :: (nat_lit 283, hpG "_law_draw" "_law_draw" (hpT 37)) :: (nat_lit 287, { cls := .none, data := .fields #[] }) :: (nat_lit 290, hpG "_law_is_letter" "_law_is_letter" (hpT 38)) :: (nat_lit 294, { cls := .none, data := .fields #[] }) :: (nat_lit 297, hpG "_law_is_figure" "_law_is_figure" (hpT 39)) :: (nat_lit 301, { cls := .none, data := .fields #[] }) :: (nat_lit 304, hpG "_law_run" "_law_run" (hpT 40)) :: (nat_lit 308, { cls := .none, data := .fields #[] }) :: (nat_lit 311, hpG "_law_balanced" "_law_balanced" (hpT 41)) :: (nat_lit 315, { cls := .none, data := .fields #[] }) :: (nat_lit 318, hpG "_law_match" "_law_match" (hpT 42)) :: (nat_lit 322, { cls := .none, data := .fields #[] }) :: (nat_lit 325, hpG "_law_pieces" "_law_pieces" (hpT 43)) :: (nat_lit 329, { cls := .none, data := .fields #[] }) :: (nat_lit 332, hpG "_law_stands" "_law_stands" (hpT 44)) :: (nat_lit 336, { cls := .none, data := .fields #[] }) :: (nat_lit 339, hpG "_law_spans" "_law_spans" (hpT 45)) :: (nat_lit 343, { cls := .none, data := .fields #[] }) :: (nat_lit 346, hpG "_law_due" "_law_due" (hpT 46)) :: (nat_lit 350, { cls := .none, data := .fields #[] }) :: (nat_lit 353, hpG "_law_told" "_law_told" (hpT 47)) :: (nat_lit 357, { cls := .none, data := .fields #[] }) :: (nat_lit 360, hpG "_law_is_refused" "_law_is_refused" (hpT 48)) :: (nat_lit 364, { cls := .none, data := .fields #[] }) :: (nat_lit 365, hpG "law" "law" (hpT 49)) :: []
noncomputable def hdDs (P : Params) : List DictEntry := [hpE P "__name__" 165 (.str "lua.patterns" 267), hpE P "__doc__" 166 (.none), hpE P "__package__" 167 (.none), hpE P "__loader__" 168 (.builtin "__main__.__loader__#opaque"), hpE P "__spec__" 169 (.none), hpE P "__annotations__" 170 (.ref 6), hpE P "__builtins__" 171 (.ref 4), hpE P "__file__" 173 (.str "/claim/cut.py" 172), hpE P "__cached__" 174 (.none), hpE P "_wall" 193 (.ref 21), hpE P "ESCAPE_SIGN" 197 (.int 37 196), hpE P "ZERO_SIGN" 199 (.int 48 198), hpE P "NINE_SIGN" 201 (.int 57 200), hpE P "capture_text" 208 (.ref 28), hpE P "expanded" 219 (.ref 35), hpE P "replaced" 234 (.ref 42), hpE P "LuaError" 266 (.ref 59), hpE P "MOST_CAPTURES" 270 (.int 32 269), hpE P "UNFINISHED" 273 (.int (-1) 272), hpE P "POSITION" 276 (.int (-2) 275), hpE P "ESCAPE" 278 (.int 37 277), hpE P "CARET" 280 (.int 94 279), hpE P "DOLLAR" 282 (.int 36 281), hpE P "DOT" 284 (.int 46 283), hpE P "OPEN" 286 (.int 40 285), hpE P "CLOSE" 288 (.int 41 287), hpE P "SET_OPEN" 290 (.int 91 289), hpE P "SET_CLOSE" 292 (.int 93 291), hpE P "STAR" 294 (.int 42 293), hpE P "PLUS" 296 (.int 43 295), hpE P "MINUS" 298 (.int 45 297), hpE P "MARK" 300 (.int 63 299), hpE P "is_lower" 307 (.ref 69), hpE P "is_upper" 314 (.ref 76), hpE P "is_alpha" 321 (.ref 83), hpE P "is_digit" 328 (.ref 90), hpE P "is_space" 335 (.ref 97), hpE P "is_control" 342 (.ref 104), hpE P "is_punctuation" 349 (.ref 111), hpE P "is_hex" 356 (.ref 118), hpE P "in_class" 366 (.ref 125)]
noncomputable def hdA3 (P : Params) : Obj := { cls := .type "dict", data := .dict (hdDs P).toArray 41 }
noncomputable def hdB3 (P : Params) : Obj := { cls := .type "dict", data := .dict (hdDs P ++ [hpE P "Matcher" 608 (.ref 274)]).toArray 42 }
noncomputable def hdFs : List Value := [.int 1 0, .int 0 0, .ref 20, .int 8 0, .int 0 0, .ref 27, .int 10 0, .int 0 0, .ref 34, .int 25 0, .int 0 0, .ref 41, .int 44 0, .int 0 0, .ref 48, .int 65 0, .int 0 0, .ref 68, .int 67 0, .int 0 0, .ref 75, .int 69 0, .int 0 0, .ref 82, .int 71 0, .int 0 0, .ref 89, .int 73 0, .int 0 0, .ref 96, .int 75 0, .int 0 0, .ref 103, .int 77 0, .int 0 0, .ref 110, .int 79 0, .int 0 0, .ref 117, .int 81 0, .int 0 0, .ref 124]
noncomputable def hdA12 : Obj := { cls := .none, data := .fields hdFs.toArray }
noncomputable def hdB12 : Obj := { cls := .none, data := .fields (hdFs ++ ([.int 106 0, .int 0 0, .ref 131] : List Value)).toArray }
noncomputable def hda2 (P : Params) : Obj := { cls := .none, data := .dict #[] }
noncomputable def hda3 (P : Params) : Obj := { cls := .type "dict", data := .dict #[hpE P "__name__" 165 (.str "__main__" 164), hpE P "__doc__" 166 (.none), hpE P "__package__" 167 (.none), hpE P "__loader__" 168 (.builtin "__main__.__loader__#opaque"), hpE P "__spec__" 169 (.none), hpE P "__annotations__" 170 (.ref 6), hpE P "__builtins__" 171 (.ref 4), hpE P "__file__" 173 (.str "/claim/cut.py" 172), hpE P "__cached__" 174 (.none)] 9 }
noncomputable def hda12 (P : Params) : Obj := { cls := .none, data := .fields #[] }
/-- two lists in the order of their addresses, as one -/
noncomputable def mrg : Nat → Nat → List (Addr × Obj) → List (Addr × Obj) → List Obj
  | 0, _, _, _ => []
  | f + 1, i, p :: a, b => match Nat.beq p.1 i with
    | true => p.2 :: mrg f (i + 1) a b
    | false => match b with
      | [] => []
      | q :: b => q.2 :: mrg f (i + 1) (p :: a) b
  | f + 1, i, [], q :: b => q.2 :: mrg f (i + 1) [] b
  | _, _, [], [] => []
noncomputable def hdAll (P : Params) : List Obj := mrg 400 0 (hd.heap_39 P) (hdRest P)
noncomputable def trG (l : List Obj) : Nat → Nat → Nat → BT
  | 0, _, _ => .nil
  | f + 1, a, b => match l[b]? with
    | some o => .node o (trG l f (a + a) (a + b)) (trG l f (a + a) (a + a + b))
    | none => .nil
noncomputable def hdTa (P : Params) : BT := trG (((((hdAll P).take 15).set 2 (hda2 P)).set 3 (hda3 P)).set 12 (hda12 P)) 10 1 0
noncomputable def hdTA (P : Params) : BT := trG ((((hdAll P).take 126).set 3 (hdA3 P)).set 12 hdA12) 10 1 0
noncomputable def hdTB (P : Params) : BT := trG ((((hdAll P).take 279).set 3 (hdB3 P)).set 12 hdB12) 10 1 0
noncomputable def hdTF (P : Params) : BT := trG (hdAll P) 10 1 0
noncomputable abbrev hdP : Program := PySem.Challenge.rw_nt0643_01.row.toRowW.prog
noncomputable abbrev hdX (s : Shared) : Bool := xlAt vw [] s && recOk PySem.Challenge.rw_nt0643_01.row.records s
noncomputable def hdB1 : List Stmt := (behindTheImports hdP).take 35
noncomputable def hdB2 : List Stmt := ((behindTheImports hdP).drop 35).take 1
noncomputable def hdB3l : List Stmt := (behindTheImports hdP).drop 36
noncomputable abbrev hdE : Env := { scope := hdP.main.scope, locals := mainNs, globals := mainNs, cells := [], code := .ref 13, frame := some 14 }
noncomputable abbrev hdBd : List Stmt := hdB1 ++ (hdB2 ++ (hdB3l ++ []))
noncomputable abbrev hdC : Code := .body hdBd hdE
noncomputable abbrev hdq : Pos := ⟨0, 0, 0, 0⟩
noncomputable abbrev hdqA : Pos := ⟨81, 0, 105, 51⟩
noncomputable abbrev hdqB : Pos := ⟨106, 0, 335, 16⟩
noncomputable abbrev hdqC : Pos := ⟨441, 0, 457, 74⟩
noncomputable abbrev hdAn : Option Value := some (.ref 6)
noncomputable abbrev hdS (t : BT) (n k : Nat) (os : OsState) : SharedT := ⟨t, n, {}, #[], {}, k, os⟩
theorem run_pre (w : World) : (fun os => topGo treeTable hdP w 11 hdAn 12 ⟨boot_heap w.params, #[], boot_drawn, boot_toks, os⟩ (topStub hdP)) = fun os => some ((hdS (hdTa w.params) 15 187 os).abs, ⟨denote treeTable hdC, hdC, hdq, [topFrame hdq]⟩) := by kernel_rfl
theorem run_block (w : World) : (fun os => segRun treeTable hdP w 11 hdAn 1 1 (hdS (hdTa w.params) 15 187 os).abs (blockOf hdBd hdE hdC hdq [topFrame hdq])) = fun os => some (.next, (hdS (hdTa w.params) 15 187 os).abs, hdC, hdq) := by kernel_rfl
theorem run_A (w : World) : (fun os => segRunT treeTable hdP w 11 hdAn 1 1000 (hdS (hdTa w.params) 15 187 os) (piecesOf hdB1 hdE hdC hdq [topFrame hdq])) = fun os => some (.next, hdS (hdTA w.params) 126 367 os, hdC, hdqA) := by kernel_rfl
theorem run_B (w : World) : (fun os => segRunT treeTable hdP w 11 hdAn 1 1000 (hdS (hdTA w.params) 126 367 os) (piecesOf hdB2 hdE hdC hdqA [topFrame hdq])) = fun os => some (.next, hdS (hdTB w.params) 279 609 os, hdC, hdqB) := by kernel_rfl
theorem run_C (w : World) : (fun os => segRunT treeTable hdP w 11 hdAn 1 600 (hdS (hdTB w.params) 279 609 os) (piecesOf hdB3l hdE hdC hdqB [topFrame hdq])) = fun os => some (.next, hdS (hdTF w.params) 368 749 os, hdC, hdqC) := by kernel_rfl
theorem run_fin (w : World) : (fun os => topRun treeTable hdP w 11 hdAn 2 (hdS (hdTF w.params) 368 749 os).abs ⟨doneF .next, hdC, hdqC, [topFrame hdq]⟩) = fun os => some (hdS (hdTF w.params) 368 749 os).abs := by kernel_rfl
theorem run_all (w : World) (os : OsState) : topRun treeTable hdP w 11 hdAn (12 + (1 + (1000 + (1000 + (600 + 2))))) ⟨boot_heap w.params, #[], boot_drawn, boot_toks, os⟩ (topStub hdP) = some ⟨absHeap (hdTF w.params) 368 {}, #[], {}, 749, os⟩ :=
  go_top (congrFun (run_pre w) os) (piece_block (congrFun (run_block w) os) (piece_app (segRun_of (congrFun (run_A w) os)) (piece_app (segRun_of (congrFun (run_B w) os)) (piece_app (segRun_of (congrFun (run_C w) os)) (piece_nil (congrFun (run_fin w) os))))))
theorem run_open : ∀ w : World, (fencedOpening treeTable hdP w 4408).map (fun s => (s.heap, s.gens, s.drawn, s.toks)) = some (boot_heap w.params, #[], boot_drawn, boot_toks) := boot_open (by kernel_rfl) (by decide) fun s => by kernel_rfl
/-! the looks at the top's end, one by one -/
noncomputable abbrev hdHF (w : World) : Heap := absHeap (hdTF w.params) 368 {}
noncomputable abbrev hdZ (w : World) (os : OsState) : Shared := ⟨hdHF w, #[], {}, 749, os⟩
theorem lk1 (w : World) : staticsOk (importedModules hdP.main.body) (boot_heap w.params) (hdHF w) = true := by kernel_rfl
theorem lk2 (w : World) : namesBound hdP (hdHF w) = true := by kernel_rfl
theorem lk3 (w : World) (os : OsState) : gensDone (hdZ w os) = true := by kernel_rfl
theorem lk4 (w : World) : laidKept (boot_heap w.params) (hdHF w) = true := by kernel_rfl
theorem lks1 (w : World) (os : OsState) : seen ((recsOf vw).map (·.name)) (ownsOf vw) [] { hdZ w os with gens := #[] } = expectedOf vw := by kernel_rfl
theorem lks2 (w : World) : (hdHF w).bltView = bltViewBooted := by kernel_rfl
theorem lks3 (w : World) : (hdHF w).keysOk (looseW vw []) ((recsOf vw).map (·.name)) ((litsOf vw).map (·.1)) ((clssOf vw (looseW vw [])).map (·.name)) = true := by kernel_rfl
theorem lks4 (w : World) : (hdHF w).accountedOkI (importedModules hdP.main.body) = true := by kernel_rfl
theorem lks5 (w : World) : ((hdHF w).isNs mainGlobals = true) ∧ ((hdHF w).isNs builtinsNs = true) := ⟨by kernel_rfl, by kernel_rfl⟩
theorem lks6 (w : World) : tablesOk vw (hdHF w) = true := by kernel_rfl
theorem lks7 (w : World) (os : OsState) : hdX (hdZ w os) = true := by kernel_rfl
theorem lks8 (w : World) (os : OsState) : tabsOk vw (hdZ w os) = true := by kernel_rfl
theorem lks9 (w : World) (os : OsState) : pinSeenD vw (drecsOf vw) (hdZ w os) = pinGoodD (drecsOf vw) := by kernel_rfl
theorem lks10 (w : World) (os : OsState) : plainSeenE vw (looseW vw []) (hdZ w os) = plainGoodE vw (looseW vw []) := by kernel_rfl
theorem lks11 (w : World) (os : OsState) : plainSeenD vw [] (hdZ w os) = plainGoodD vw [] := by kernel_rfl
theorem lks12 (w : World) (os : OsState) : wideSeen vw (hdZ w os) = wideGood vw := by kernel_rfl
theorem lks13 (w : World) (os : OsState) : clsSeenW vw [] (hdZ w os) = clsGoodW vw [] := by kernel_rfl
theorem lk5 (w : World) (os : OsState) : openSeen vw [] (importedModules hdP.main.body) hdX true (hdZ w os) = openGood vw [] := by
  delta openSeen openGood
  exact congr (congrArg Prod.mk (lks1 w os)) (congr (congrArg Prod.mk (lks2 w)) (congr (congrArg Prod.mk (look_both (look_both (look_both (look_both (look_both (look_both (lks3 w) (lks4 w)) (lks5 w).1) (lks5 w).2) (lks6 w)) (lks7 w os)) rfl)) (congr (congrArg Prod.mk (lks8 w os)) (congr (congrArg Prod.mk (lks9 w os)) (congr (congrArg Prod.mk (lks10 w os)) (congr (congrArg Prod.mk (lks11 w os)) (congr (congrArg Prod.mk (lks12 w os)) (lks13 w os))))))))
theorem lk6 (w : World) (os : OsState) : hk.obs (hdZ w os) = hk.val w := by kernel_rfl
theorem run_looks (w : World) : (fun os => ((staticsOk (importedModules hdP.main.body) (boot_heap w.params) (absHeap (hdTF w.params) 368 {}) && namesBound hdP (absHeap (hdTF w.params) 368 {}) && gensDone ⟨absHeap (hdTF w.params) 368 {}, #[], {}, 749, os⟩ && laidKept (boot_heap w.params) (absHeap (hdTF w.params) 368 {})),
    openSeen vw [] (importedModules hdP.main.body) hdX true ⟨absHeap (hdTF w.params) 368 {}, #[], {}, 749, os⟩, hk.obs ⟨absHeap (hdTF w.params) 368 {}, #[], {}, 749, os⟩)) = fun _ => (true, openGood vw [], hk.val w) :=
  funext fun os => congr (congrArg Prod.mk (look_both (look_both (look_both (lk1 w) (lk2 w)) (lk3 w os)) (lk4 w))) (congr (congrArg Prod.mk (lk5 w os)) (lk6 w os))
theorem left : LeftO PySem.Challenge.rw_nt0643_01.row.toRowW.prog vw [] (fun s => xlAt vw [] s && recOk PySem.Challenge.rw_nt0643_01.row.records s) hk.obs hk.val 4408 :=
  LeftO.of_pieces (H₀ := boot_heap) (H₁ := fun P => absHeap (hdTF P) 368 {}) (gs₀ := #[]) (gs₁ := #[]) (d₀ := boot_drawn) (d₁ := {}) (k₀ := boot_toks) (k₁ := 749) (m₀ := 11) (ann := hdAn) (M := 12 + (1 + (1000 + (1000 + (600 + 2))))) run_open (fun w => by kernel_rfl) run_all (by decide) run_looks
theorem defSome : (defOf vw (Str.ofString "law")).isSome = true := by kernel_rfl
noncomputable def lawD : DefRec × List (Str × PySem.Expr) := (defOf vw (Str.ofString "law")).get defSome
/-! what the row asks of the text, part by part -/
theorem hdK : PySem.Challenge.rw_nt0643_01.wellSaid = true := by
  delta OpenLaw.wellSaid
  repeat' (first | (with_reducible refine look_both ?_ ?_) | (with_reducible show OpenRow.wellSaid _ = true; delta OpenRow.wellSaid) | (with_reducible show OpenRow.partSaid _ = true; delta OpenRow.partSaid) | (with_reducible show looksOpen _ = true; delta looksOpen))
  all_goals decide +kernel
theorem hd1 : defOf vw PySem.Challenge.rw_nt0643_01.row.name = some (lawD.1, lawD.2) := by kernel_rfl
theorem hd2 : PySem.Challenge.rw_nt0643_01.row.prog.theDef PySem.Challenge.rw_nt0643_01.row.name = some (lawD.1.params, lawD.1.body, lawD.1.scope) := by kernel_rfl
theorem hd3 : kwWritten? lawD.1.params.kwonlyargs lawD.1.params.kw_defaults = some lawD.2 := by kernel_rfl
theorem hd4 : (!PySem.Challenge.rw_nt0643_01.row.writes || List.isEmpty PySem.Challenge.rw_nt0643_01.row.records) = true := by kernel_rfl
theorem hd5a : chainsOk vw = true := by decide +kernel
theorem hd5b : opensWell PySem.Challenge.rw_nt0643_01.row.prog = true := by decide +kernel
theorem hd5c : (frees PySem.Challenge.rw_nt0643_01.row.toRowW && PySem.Challenge.rw_nt0643_01.row.within.isEmpty) = true := by decide +kernel
theorem hd6 : PySem.Challenge.rw_nt0643_01.row.prog.bare := ⟨rfl, rfl, rfl, rfl, rfl, by decide +kernel⟩
theorem hdW : PySem.Challenge.rw_nt0643_01.row.promised := by w_witness2
theorem hd (walk : WalkC vw [] (XL vw []) hk.says PySem.Challenge.rw_nt0643_01.row.toRowW lawD.1 lawD.2) : PySem.Challenge.rw_nt0643_01.Holds :=
  holds_law hdK fun said =>
  PySem.W.holds_open (q := vw) (loose := []) (Xt := fun s => xlAt vw [] s && recOk (RowW.records PySem.Challenge.rw_nt0643_01.row.toRowW) s) (XP := XL vw []) (Yf := Hook.obs hk) (Ya := Hook.val hk) (YP := Hook.says hk) (d := lawD.1) (kwd := lawD.2) (N := 4408) left (Hook.of hk) (Hook.keeps hk) (fun s e => xl_of s (Bool.and_eq_true_iff.mp e).1) XL.keeps hd1 hd2 hd3 (fun s e => recFacts_of (Bool.and_eq_true_iff.mp e).2) hd4 said (look_both (look_both hd5a hd5b) hd5c) hd6 hdW walk
theorem filled : PySem.Challenge.rw_nt0643_01 = PySem.Challenge.rw_nt0643_01 ∧ Mine.hd.heap_39 = Mine.hd.heap_39 := by k_fill; exact ⟨rfl, rfl⟩
/-- the names that the ghost heap (all but the code tables that the call turns) says nothing of -/
noncomputable abbrev gl : List Str := [Str.ofString "Matcher", Str.ofString "_wall", Str.ofString "capture_text", Str.ofString "expanded", Str.ofString "replaced", Str.ofString "is_lower", Str.ofString "is_upper", Str.ofString "is_alpha", Str.ofString "is_digit", Str.ofString "is_space", Str.ofString "is_control", Str.ofString "is_punctuation", Str.ofString "is_hex", Str.ofString "in_class", Str.ofString "_law_draw", Str.ofString "_law_is_letter", Str.ofString "_law_is_figure", Str.ofString "_law_run", Str.ofString "_law_balanced", Str.ofString "_law_match", Str.ofString "_law_pieces", Str.ofString "_law_stands", Str.ofString "_law_spans", Str.ofString "_law_due", Str.ofString "_law_told", Str.ofString "_law_is_refused", Str.ofString "law", Str.ofString "ESCAPE_SIGN", Str.ofString "ZERO_SIGN", Str.ofString "NINE_SIGN", Str.ofString "MOST_CAPTURES", Str.ofString "UNFINISHED", Str.ofString "POSITION", Str.ofString "ESCAPE", Str.ofString "CARET", Str.ofString "DOLLAR", Str.ofString "DOT", Str.ofString "OPEN", Str.ofString "CLOSE", Str.ofString "SET_OPEN", Str.ofString "SET_CLOSE", Str.ofString "STAR", Str.ofString "PLUS", Str.ofString "MINUS", Str.ofString "MARK", Str.ofString "LuaError"]
noncomputable abbrev cA (dp un : Nat) (gd : Option (List Code)) (outer : List Env) : Around := { handled := none, depth := dp, frames := some outer, guards := gd, units := un }

/-- what stands in a heap for the whole of the law's call -/
structure Wd (w : World) (mean : ExcName → Option Value) (mg mb : Str → Option Value) (outer : List Env) (g : Heap) : Prop where
  K : (hd.heap_39 w.params).In g
  T : Top topProg gl mean mg mb g
  B : ∃ base : Heap, base.StaysIn g ∧ g.FunFrames base outer

/-- `h` keeps `g`, and bears the objects `own`, none of them `g`'s -/
structure Own (g h : Heap) (own : List (Addr × Obj)) : Prop where
  keep : ∀ b o, g.get? b = some o → h.get? b = some o
  size : g.objs.size ≤ h.objs.size
  at_ : ∀ p ∈ own, h.get? p.1 = some p.2 ∧ g.get? p.1 = none

/-- a contract: the call hands back `r` and turns the objects `own` to `own'`, `R r own'` -/
noncomputable def Con (w : World) (mean : ExcName → Option Value) (mg mb : Str → Option Value) (f : Value) (vs : List Value) (own : List (Addr × Obj)) (cost ucost : Nat) (R : Value → List (Addr × Obj) → Prop) : Prop :=
  ∀ (dp un : Nat) (gd : Option (List Code)) (outer : List Env) (g : Heap) (s : Shared) (Q E : Value → Shared → Prop),
    Wd w mean mg mb outer g → Own g s.heap own → dp + cost < recursionLimit → un + ucost < cLine →
    (∀ r own' h' tk', R r own' → Own g h' own' → Q r { s with heap := h', toks := tk' }) →
    wpAny (model PySem.Challenge.rw_nt0643_01.row.prog w) (cA dp un gd outer) (call f vs) Q E s

section
variable {w : World} {mean : ExcName → Option Value} {mg mb : Str → Option Value}

theorem con_enter {f : Addr} {name qual : Str} {params : Arguments} {body : List Stmt} {scope : Scope} {dV kV doc pm cdv ct oc : Value} {an od : Option Addr} {osl : Array (Option Value)}
    {vs : List Value} {binds : List (Str × Value)} {own : List (Addr × Obj)} {cost ucost : Nat} {R : Value → List (Addr × Obj) → Prop}
    (ho : (hd.heap_39 w.params).lookup f = some ⟨oc, od, .func (fnOf name qual params body scope dV kV doc pm an cdv ct), osl⟩)
    (hcd : codeIn (hd.heap_39 w.params) cdv qual = true)
    (hbind : ∀ s : Shared, (hd.heap_39 w.params).In s.heap → BindsTo s (fnOf name qual params body scope dV kV doc pm an cdv ct) ⟨vs, []⟩ binds)
    (hloc : ∀ y ∈ binds, scope.names.lookup y.1 = some .local)
    (h : ∀ (dp un : Nat) (gd : Option (List Code)) (outer : List Env) (base g : Heap) (s : Shared) (L' : Addr) (h₁ : Heap) (Q : Value → Shared → Prop),
      Below (cA dp un gd outer) base outer g → (hd.heap_39 w.params).In g → Top topProg gl mean mg mb g →
      Fr g L' h₁ (fun y => binds.reverse.lookup y) → News g L' h₁ own → (∀ p ∈ own, p.1 < L') → dp + cost < recursionLimit → un + ucost < cLine →
      (∀ r own' h' tk' m', Fr g L' h' m' → News g L' h' own' → R r own' → Q r { s with heap := h', toks := tk' }) →
      wpAny (model PySem.Challenge.rw_nt0643_01.row.prog w) ((cA dp un gd outer).deeper (envOf qual scope L' f cdv)) (execs body (envOf qual scope L' f cdv))
        (fun fl s' => Q (match fl with | .ret v => v | _ => .none) s') (fun _ _ => False) { s with heap := h₁, toks := s.toks + binds.length })
    (hc : 0 < cost) (hco : scope.isCoroutine = false) (hgen : scope.isGenerator = false) (hk : scope.kind = .function) (hcell : ∀ x ∈ scope.names, x.2 ≠ .cell) :
    Con w mean mg mb (.ref f) vs own cost ucost R := by
  intro dp un gd outer g s Q E W O hdp hu hQ
  obtain ⟨base, hst, hff⟩ := W.B
  have X := W.K
  have X' : (hd.heap_39 w.params).In s.heap := X.keeps O.keep
  refine wpAny_call (codeAny_call_def (fd := fnOf name qual params body scope dV kV doc pm an cdv ct) (body := body) (binds := binds) (by show dp < _; lia) (X' _ _ ho) rfl (W.T.nolimit.keeps O.keep) (codeRec_of X' hcd) rfl (hbind s X') hcell hloc (fun h₁ hns hk₁ => ?_) hco hgen hk)
  refine wpAny_mono (h dp un gd outer base g s s.heap.objs.size h₁ Q ⟨rfl, hst, hff⟩ X W.T ⟨hns, fun b o e => hk₁ b o (O.keep b o e), O.size⟩
    (fun p hp => ⟨hk₁ _ _ (O.at_ p hp).1, Nat.ne_of_lt (Heap.lt_size (O.at_ p hp).1), (O.at_ p hp).2⟩) (fun p hp => Heap.lt_size (O.at_ p hp).1) hdp hu ?_) (fun fl s' x => x) (fun _ _ x => x.elim)
  intro r own' h' tk' m' F' N' hR
  refine hQ r own' h' tk' hR ⟨F'.keep, ?_, fun p hp => ⟨(N' p hp).1, (N' p hp).2.2⟩⟩
  obtain ⟨o, _, _, ho', _⟩ := F'.ns
  exact Nat.le_of_lt (Nat.lt_of_le_of_lt F'.above (Heap.lt_size ho'))

/-- a contract used where a def's body stands -/
theorem con_use {f : Value} {vs : List Value} {own : List (Addr × Obj)} {cost ucost : Nat} {R : Value → List (Addr × Obj) → Prop} (C : Con w mean mg mb f vs own cost ucost R)
    {dp un : Nat} {gd : Option (List Code)} {env : Env} {outer : List Env} {A₀ : Around} {base h₀ : Heap} {L : Addr} {m : Str → Option Value} {news rest : List (Addr × Obj)} {s : Shared} {Q E : Value → Shared → Prop}
    (B : Below A₀ base outer h₀) (F : Fr h₀ L s.heap m) (X : (hd.heap_39 w.params).In h₀) (N : News h₀ L s.heap news) (T : Top topProg gl mean mg mb h₀)
    (hf : env.frame = some L) (hk : env.scope.kind = .function)
    (hown : ∀ p ∈ own, p ∈ news) (hrest : ∀ p ∈ rest, p ∈ news) (hne : ∀ p ∈ rest, p.1 ∉ own.map (·.1))
    (hdp : dp + cost < recursionLimit) (hu : un + ucost < cLine)
    (h : ∀ r own' h' tk', R r own' → Fr h₀ L h' m → News h₀ L h' (own' ++ rest) → (∀ p ∈ own', ∀ q ∈ rest, q.1 ≠ p.1) → Q r { s with heap := h', toks := tk' }) :
    wpAny (model PySem.Challenge.rw_nt0643_01.row.prog w) (cA dp un gd (env :: outer)) (call f vs) Q E s := by
  have N' : News h₀ L s.heap own := fun p hp => N p (hown p hp)
  obtain ⟨FG, BG, st, -⟩ := groundX (A := cA dp un gd (env :: outer)) (R := fun _ _ => True) B F N' rfl hf hk
  refine C dp un gd (env :: outer) _ s Q E ⟨X.keeps st, T.keeps st, base, BG.stays, BG.frames⟩ ⟨fun b o e => of_hideAll _ e, Nat.le_of_eq (hideAll_size _ _), fun p hp => ⟨(N' p hp).1, hideAll_none _ (List.mem_map_of_mem hp)⟩⟩ hdp hu ?_
  intro r own' h' tk' hR O
  obtain ⟨oL, es, ep, hL, hLd, hLk, hLf⟩ := FG.ns
  have st' : ∀ b o, h₀.get? b = some o → h'.get? b = some o := fun b o e => O.keep b o (st b o e)
  have hr : ∀ q ∈ rest, (hideAll s.heap (own.map (·.1))).get? q.1 = some q.2 := fun q hq => hideAll_get _ (N q (hrest q hq)).1 (hne q hq)
  refine h r own' h' tk' hR ⟨⟨oL, es, ep, O.keep L oL hL, hLd, hLk, hLf⟩, st', F.above⟩ (fun p hp => ?_) (fun p hp q hq e => ?_)
  · rcases List.mem_append.mp hp with hp | hp
    · refine ⟨(O.at_ p hp).1, fun e => ?_, ?_⟩
      · have := (O.at_ p hp).2; rw [e, hL] at this; cases this
      · cases e : h₀.get? p.1 with
        | none => rfl
        | some o => have := (O.at_ p hp).2; rw [st _ _ e] at this; cases this
    · exact ⟨O.keep _ _ (hr p hp), (N p (hrest p hp)).2⟩
  · have := (O.at_ p hp).2; rw [← e, hr q hq] at this; cases this

/-- a contract's premise may be met by a weaker answer -/
theorem Con.mono {f : Value} {vs : List Value} {own : List (Addr × Obj)} {cost cost' ucost ucost' : Nat} {R R' : Value → List (Addr × Obj) → Prop} (C : Con w mean mg mb f vs own cost ucost R)
    (hR : ∀ r o, R r o → R' r o) (hc : cost ≤ cost') (hu : ucost ≤ ucost') : Con w mean mg mb f vs own cost' ucost' R' := by
  intro dp un gd outer g s Q E W O hdp hun hQ
  exact C dp un gd outer g s Q E W O (by lia) (by lia) fun r own' h' tk' r0 => hQ r own' h' tk' (hR _ _ r0)

end
theorem m_ieq_pos {x y : Int} {a b : Prop} (hc : x = y) (h : a) : if (x == y) = true then a else b := by rw [if_pos (by simpa using hc)]; exact h
theorem m_ieq_neg {x y : Int} {a b : Prop} (hc : ¬ x = y) (h : b) : if (x == y) = true then a else b := by rw [if_neg (by simpa using hc)]; exact h
/-- a mark: the frame at hand has plain locals alone -/
structure MeFast : Prop where
theorem m_beq (x y : Int) : (x == y) = decide (x = y) := by by_cases h : x = y <;> simp [h]
theorem m_bne (x y : Int) : (x != y) = decide (¬ x = y) := by by_cases h : x = y <;> simp [h]
theorem m_eq {prog : Program} {w : World} {A : Around} {E : Value → Shared → Prop} {s : Shared} {x y : Int} {t u : Tok} {Q : Value → Shared → Prop} (h : Q (.bool (decide (x = y))) s) : wpAny (model prog w) A (compareOp .Eq (.int x t) (.int y u)) Q E s := eq_int (by rw [m_beq]; exact h)
theorem m_ne {prog : Program} {w : World} {A : Around} {E : Value → Shared → Prop} {s : Shared} {x y : Int} {t u : Tok} {Q : Value → Shared → Prop} (h : Q (.bool (decide (¬ x = y))) s) : wpAny (model prog w) A (compareOp .NotEq (.int x t) (.int y u)) Q E s := ne_int (by rw [m_bne]; exact h)
/-- a place in the midst of a walk -/
theorem m_mid {α : Type} {M : Model} {A : Around} {E : Value → Shared → Prop} {s : Shared} {t : Sem α} {Q : α → Shared → Prop} (Mid : α → Shared → Prop) (h : wpAny M A t Mid E s) (k : ∀ a s', Mid a s' → Q a s') : wpAny M A t Q E s :=
  wpAny_mono h k fun _ _ x => x
/-- a lid over a proposition, that the walk does not lift -/
noncomputable def MeEnd (p : Prop) : Prop := p
local macro_rules | `(tactic| walk_at "eval Name") => `(tactic| ((rename MeFast => hFast'); k_dflt (first
  | (refine' nameX_K ?F ?X ?T ?e ?_ ?b ?a ?c; (case X => k_asm); (case e => k_is); (case F => k_asm); (case T => k_asm); (case a => kernel_rfl); (case b => kernel_rfl); (case c => kernel_rfl); k_whole)
  | (refine' nameX_L ?F ?v ?_ ?b ?a ?c; (case F => k_asm); (case v => first | rfl | assumption); (case a => kernel_rfl); (case b => kernel_rfl); (case c => kernel_rfl); k_whole))))
/-- a slice of a list, as Python clips it -/
noncomputable def sl (x : List UInt8) (lo hi : Option Int) : List UInt8 := (x.drop (lo.elim 0 (clipAt x.length))).take (hi.elim x.length (clipAt x.length) - lo.elim 0 (clipAt x.length))
/-- an octet as Python's int -/
noncomputable def bi (x : List UInt8) (i : Int) : Int := ((x.getD i.toNat 0).toNat : Int)
theorem sl_len (x : List UInt8) (lo hi : Option Int) : (sl x lo hi).length ≤ x.length := by
  unfold sl; rw [List.length_take, List.length_drop]; omega
theorem bi_lo (x : List UInt8) (i : Int) : 0 ≤ bi x i := Int.natCast_nonneg _
theorem bi_hi (x : List UInt8) (i : Int) : bi x i < 256 := by
  have := (x.getD i.toNat 0).toNat_lt; unfold bi; omega

section
variable {prog : Program} {w : World} {A : Around} {E : Value → Shared → Prop} {s : Shared} {value slice : PySem.Expr} {x y : List UInt8} {t u : Tok} {h₀ : Heap} {L : Addr} {m : Str → Option Value} {news : List (Addr × Obj)} {l r : Value} {lo hi : Option Int} {i : Int}
theorem b_len {Q : Value → Shared → Prop} (hfit : x.length ≤ 1048576) (h : ∀ t' k, Q (.int (x.length : Int) t') { s with toks := k }) : wpAny (model prog w) A (call (.builtin "len") [.bytes x.toArray t]) Q E s :=
  len_bytes (by simp only [List.size_toArray]; omega) (by simpa using h _ _)
theorem b_item {ui : Tok} {Q : Value → Shared → Prop} (hfit : x.length ≤ 1048576) (h0 : 0 ≤ i) (h1 : i < (x.length : Int)) (h : ∀ t' k, Q (.int (bi x i) t') { s with toks := k })
    (hs : subscripted slice false (.bytes x.toArray t) (.int i ui) = operate [.bytes x.toArray t, .int i ui] (getItem (.bytes x.toArray t) (.int i ui)) := by with_unfolding_all rfl)
    (ht : ∀ r, letTemporaryGo value (.bytes x.toArray t) r = pure () := by intro _; with_unfolding_all rfl) :
    wpAny (model prog w) A (subscriptTail value slice (.bytes x.toArray t) (.int i ui)) Q E s := KBy.item_N (by omega) h0 h1 (h _ _) hs ht
theorem b_slice {Q : Value → Shared → Prop} (hF : Fr h₀ L s.heap m) (hN : News h₀ L s.heap news) (hl : IsPart l lo) (hu : IsPart r hi) (hz : x.length ≤ 1048576)
    (h : ∀ h' t' k, Fr h₀ L h' m → News h₀ L h' news → Q (.bytes (sl x lo hi).toArray t') { s with heap := h', toks := k })
    (hs : subscripted slice false (.bytes x.toArray t) (.ref s.heap.objs.size) = operate [.ref s.heap.objs.size, .bytes x.toArray t] (getItem (.bytes x.toArray t) (.ref s.heap.objs.size)) := by with_unfolding_all rfl)
    (ht : ∀ r, letTemporaryGo value (.bytes x.toArray t) r = pure () := by intro _; with_unfolding_all rfl) :
    wpAny (model prog w) A (subscriptTail value slice (.bytes x.toArray t) (.ref s.heap.objs.size)) Q E { s with heap := s.heap.push { cls := .type "slice", data := .fields #[l, r, .none] } } :=
  KBc.slice_K hF hN rfl hl hu (by rw [KBw.ints_length, List.size_toArray]; omega) (fun h' t' k F N _ => by
    have e := KBc.picked_eq x.toArray lo hi
    rw [e]
    simpa [sl] using h h' t' k F N) hs ht
theorem b_add {Q : Value → Shared → Prop} (hsz : x.length + y.length ≤ 1048576) (h : ∀ t' k, Q (.bytes (x ++ y).toArray t') { s with toks := k }) : wpAny (model prog w) A (binaryOp .Add (.bytes x.toArray t) (.bytes y.toArray u)) Q E s :=
  KBy.add_bytes (by simp only [List.size_toArray]; omega) fun t' k => by simpa using h t' k
theorem b_eq {Q : Value → Shared → Prop} (h : Q (.bool (decide (x = y))) s) : wpAny (model prog w) A (compareOp .Eq (.bytes x.toArray t) (.bytes y.toArray u)) Q E s :=
  eq_bytes (by
    have e : (x.toArray.toList == y.toArray.toList) = decide (x = y) := by by_cases hxy : x = y <;> simp [hxy]
    rw [e]; exact h)
theorem b_ne {Q : Value → Shared → Prop} (h : Q (.bool (decide (x ≠ y))) s) : wpAny (model prog w) A (compareOp .NotEq (.bytes x.toArray t) (.bytes y.toArray u)) Q E s :=
  ne_bytes (by
    have e : (x.toArray.toList != y.toArray.toList) = decide (x ≠ y) := by by_cases hxy : x = y <;> simp [hxy]
    rw [e]; exact h)
end
/-! short judgements of a def's body: the locals as a list, the ledger; no heap, no stack in sight -/
noncomputable abbrev Led := List (Addr × Obj)
noncomputable abbrev Lm := List (Str × Option Value)
/-- what of a def its walk asks -/
structure FD where
  qual : Str
  scope : Scope
  f : Addr
  cdv : Value
  cl : List (Str × Addr)
  names : List Str
  gl : List (Str × Value)
  bl : List (Str × Value)
structure Cx where
  w : World
  mean : ExcName → Option Value
  mg : Str → Option Value
  mb : Str → Option Value
  K : Nat
  U : Nat
  dp : Nat
  un : Nat
  gd : Option (List Code)
  outer : List Env
  base : Heap
  g : Heap
  L : Addr
noncomputable abbrev FD.env (F : FD) (L : Addr) : Env := envX F.qual F.scope L F.f F.cdv F.cl
noncomputable abbrev Cx.A (c : Cx) (F : FD) : Around := cA (c.dp + 1) (c.un + 3) c.gd (F.env c.L :: c.outer)
noncomputable abbrev PR := PySem.Challenge.rw_nt0643_01.row.prog
structure FOk (w : World) (F : FD) : Prop where
  kind : F.scope.kind = .function
  nodup : F.names.Nodup
  loc : ∀ x ∈ F.names, F.scope.names.lookup x = some .local ∧ (x == ("__debug__" : Str)) = false
  glb : ∀ p ∈ F.gl, F.scope.names.lookup p.1 = some .globalImplicit ∧ (p.1 == ("__debug__" : Str)) = false ∧ nsIn (hd.heap_39 w.params) mainGlobals p.1 = some (some p.2)
  bi : ∀ p ∈ F.bl, F.scope.names.lookup p.1 = some .globalImplicit ∧ (p.1 == ("__debug__" : Str)) = false ∧ p.1 ≠ "__name__" ∧ nsIn (hd.heap_39 w.params) mainGlobals p.1 = some none ∧ bootBuiltins p.1 = some p.2
structure COk (c : Cx) (F : FD) : Prop where
  fok : FOk c.w F
  B : Below (cA c.dp c.un c.gd c.outer) c.base c.outer c.g
  X : (hd.heap_39 c.w.params).In c.g
  T : Top topProg gl c.mean c.mg c.mb c.g
  room : c.dp + 1 + c.K < recursionLimit
  units : c.un + 3 + c.U < cLine
/-- the tree `t` ends in `R`, the locals as they stood -/
noncomputable def JX {α : Type} (c : Cx) (F : FD) (lm : Lm) (nw : Led) (t : Sem α) (R : α → Led → Prop) : Prop :=
  ∀ (s : Shared) (m : Str → Option Value) (Q : α → Shared → Prop), COk c F → lm.map (·.1) = F.names → Fr c.g c.L s.heap m → (∀ x v, (x, some v) ∈ lm → m x = some v) → News c.g c.L s.heap nw →
    (∀ v h' tk' nw', R v nw' → Fr c.g c.L h' m → News c.g c.L h' nw' → Q v { s with heap := h', toks := tk' }) →
    wpAny (model PR c.w) (c.A F) t Q (fun _ _ => False) s
/-- the same, where nothing but tokens turns -/
noncomputable def JQ {α : Type} (c : Cx) (F : FD) (lm : Lm) (nw : Led) (t : Sem α) (a : Tok → α) : Prop := JX c F lm nw t (fun v nw' => nw' = nw ∧ ∃ t, v = a t)
noncomputable abbrev JE (c : Cx) (F : FD) (lm : Lm) (nw : Led) (e : PySem.Expr) (R : Value → Led → Prop) : Prop := JX c F lm nw (eval e (F.env c.L)) R
/-- an expression's value: `g`, but for its token -/
noncomputable def JA (c : Cx) (F : FD) (lm : Lm) (nw : Led) (e : PySem.Expr) (g : Tok → Value) : Prop := JQ c F lm nw (eval e (F.env c.L)) g
/-- a test's answer -/
noncomputable def JT (c : Cx) (F : FD) (lm : Lm) (nw : Led) (e : PySem.Expr) (b : Bool) : Prop := JQ c F lm nw (isTrue e (F.env c.L) (eval e (F.env c.L))) (fun _ => b)
section
variable {α β : Type} {c : Cx} {F : FD} {lm : Lm} {nw nw' : Led} {t : Sem α} {R R' : α → Led → Prop}
theorem JX.mono (h : JX c F lm nw t R) (k : ∀ v n, R v n → R' v n) : JX c F lm nw t R' :=
  fun s m Q ok hn Fm hm N hQ => h s m Q ok hn Fm hm N fun v h' tk' n r => hQ v h' tk' n (k _ _ r)
/-- a rule of the library that turns tokens alone -/
theorem JQ.rule {a : Tok → α} (h : ∀ (s : Shared) (m : Str → Option Value), COk c F → Fr c.g c.L s.heap m → (∀ x v, (x, some v) ∈ lm → m x = some v) → News c.g c.L s.heap nw → ∀ Q : α → Shared → Prop,
    (∀ t tk', Q (a t) { s with toks := tk' }) → wpAny (model PR c.w) (c.A F) t Q (fun _ _ => False) s) : JQ c F lm nw t a :=
  fun s m Q ok _ Fm hm N hQ => h s m ok Fm hm N Q fun t' tk' => hQ (a t') s.heap tk' nw ⟨rfl, t', rfl⟩ Fm N
theorem JX.bind1 {γ : Type} {t : Sem γ} {t1 : Sem α} {f : α → Sem γ} {R1 : α → Led → Prop} {R2 : γ → Led → Prop} (hr : ∀ (s : Shared) (Q : γ → Shared → Prop), wpAny (model PR c.w) (c.A F) t1 (fun a s₁ => wpAny (model PR c.w) (c.A F) (f a) Q (fun _ _ => False) s₁) (fun _ _ => False) s → wpAny (model PR c.w) (c.A F) t Q (fun _ _ => False) s)
    (h1 : JX c F lm nw t1 R1) (h2 : ∀ a n, R1 a n → JX c F lm n (f a) R2) : JX c F lm nw t R2 :=
  fun s m _ ok hn Fm hm N hQ => hr s _ (h1 s m _ ok hn Fm hm N fun v h' tk' n r Fm' N' => h2 v n r { s with heap := h', toks := tk' } m _ ok hn Fm' hm N' fun v h'' tk'' n' r' F'' N'' => hQ v h'' tk'' n' r' F'' N'')
theorem JX.bind2 {γ : Type} {t : Sem γ} {t1 : Sem α} {t2 : α → Sem β} {f : α → β → Sem γ} {R1 : α → Led → Prop} {R2 : α → β → Led → Prop} {R3 : γ → Led → Prop}
    (hr : ∀ (s : Shared) (Q : γ → Shared → Prop), wpAny (model PR c.w) (c.A F) t1 (fun a s₁ => wpAny (model PR c.w) (c.A F) (t2 a) (fun b s₂ => wpAny (model PR c.w) (c.A F) (f a b) Q (fun _ _ => False) s₂) (fun _ _ => False) s₁) (fun _ _ => False) s → wpAny (model PR c.w) (c.A F) t Q (fun _ _ => False) s)
    (h1 : JX c F lm nw t1 R1) (h2 : ∀ a n, R1 a n → JX c F lm n (t2 a) (R2 a)) (h3 : ∀ a b n, R2 a b n → JX c F lm n (f a b) R3) : JX c F lm nw t R3 :=
  fun s m _ ok hn Fm hm N hQ => hr s _ (h1 s m _ ok hn Fm hm N fun v h' tk' n r Fm' N' => h2 v n r { s with heap := h', toks := tk' } m _ ok hn Fm' hm N' fun b h₂ tk₂ n₂ r₂ F₂ N₂ =>
    h3 v b n₂ r₂ { s with heap := h₂, toks := tk₂ } m _ ok hn F₂ hm N₂ fun v h'' tk'' n' r' F'' N'' => hQ v h'' tk'' n' r' F'' N'')
theorem JQ.bind1 {γ : Type} {t : Sem γ} {t1 : Sem α} {f : α → Sem γ} {g1 : Tok → α} {R2 : γ → Led → Prop} (hr : ∀ (s : Shared) (Q : γ → Shared → Prop), wpAny (model PR c.w) (c.A F) t1 (fun a s₁ => wpAny (model PR c.w) (c.A F) (f a) Q (fun _ _ => False) s₁) (fun _ _ => False) s → wpAny (model PR c.w) (c.A F) t Q (fun _ _ => False) s)
    (h1 : JQ c F lm nw t1 g1) (h2 : ∀ u, JX c F lm nw (f (g1 u)) R2) : JX c F lm nw t R2 :=
  JX.bind1 hr h1 fun a n ⟨e, u, e'⟩ => by rw [e, e']; exact h2 u
theorem JQ.bind2 {γ : Type} {t : Sem γ} {t1 : Sem α} {t2 : Sem β} {f : α → β → Sem γ} {g1 : Tok → α} {g2 : Tok → β} {R3 : γ → Led → Prop}
    (hr : ∀ (s : Shared) (Q : γ → Shared → Prop), wpAny (model PR c.w) (c.A F) t1 (fun a s₁ => wpAny (model PR c.w) (c.A F) t2 (fun b s₂ => wpAny (model PR c.w) (c.A F) (f a b) Q (fun _ _ => False) s₂) (fun _ _ => False) s₁) (fun _ _ => False) s → wpAny (model PR c.w) (c.A F) t Q (fun _ _ => False) s)
    (h1 : JQ c F lm nw t1 g1) (h2 : JQ c F lm nw t2 g2) (h3 : ∀ u v, JX c F lm nw (f (g1 u) (g2 v)) R3) : JX c F lm nw t R3 :=
  JX.bind2 (t2 := fun _ => t2) (R2 := fun a b n => (∃ u, a = g1 u) ∧ n = nw ∧ ∃ v, b = g2 v) hr h1 (fun a n ⟨e, u, e'⟩ => by subst e; exact JX.mono h2 fun b n r => ⟨⟨u, e'⟩, r⟩) fun a b n ⟨⟨u, e⟩, e', v, e''⟩ => by subst e e' e''; exact h3 u v
theorem JX.pure {a : α} (h : R a nw) : JX c F lm nw (Pure.pure a) R := fun s _ _ _ _ Fm _ N hQ => wpAny_pure (hQ a s.heap s.toks nw h Fm N)
theorem JQ.const {a : α} : JQ c F lm nw (Pure.pure a) (fun _ => a) := JX.pure ⟨rfl, 0, rfl⟩
theorem JQ.toX {a : Tok → α} (h : JQ c F lm nw t a) (k : ∀ u, R (a u) nw) : JX c F lm nw t R := JX.mono h fun v n ⟨e, u, e'⟩ => by rw [e, e']; exact k u
theorem JQ.as {a b : Tok → α} (h : JQ c F lm nw t a) (k : ∀ u, ∃ v, a u = b v) : JQ c F lm nw t b := JX.mono h fun v n ⟨e, u, e'⟩ => ⟨e, by rw [e']; exact k u⟩
end
/-! names, constants -/
section
variable {c : Cx} {F : FD} {lm : Lm} {nw : Led} {x : Str} {pos : Pos} {v : Value} {k : Option Str}
theorem lm_name {lm : Lm} {F : FD} {x : Str} {o : Option Value} (hn : lm.map (·.1) = F.names) (h : (x, o) ∈ lm) : x ∈ F.names := hn ▸ List.mem_map_of_mem (f := (·.1)) h
theorem ja_loc (h : (x, some v) ∈ lm) : JA c F lm nw (.Name x pos) (fun _ => v) := fun s m Q ok hn Fm hm N hQ =>
  have l := ok.fok.loc x (lm_name hn h)
  nameX_L Fm (hm x v h) (hQ v s.heap s.toks nw ⟨rfl, 0, rfl⟩ Fm N) ok.fok.kind l.1 l.2
theorem ja_glb (h : (x, v) ∈ F.gl) : JA c F lm nw (.Name x pos) (fun _ => v) := fun s m Q ok hn Fm hm N hQ =>
  have l := ok.fok.glb _ h
  nameX_K Fm ok.X (topRead_of ok.T) l.2.2 (hQ v s.heap s.toks nw ⟨rfl, 0, rfl⟩ Fm N) ok.fok.kind l.1 l.2.1
theorem ja_blt (h : (x, v) ∈ F.bl) : JA c F lm nw (.Name x pos) (fun _ => v) := fun s m Q ok hn Fm hm N hQ =>
  have l := ok.fok.bi _ h
  nameX_B Fm ok.X (topRead_of ok.T) l.2.2.2.1 l.2.2.2.2 l.2.2.1 (hQ v s.heap s.toks nw ⟨rfl, 0, rfl⟩ Fm N) ok.fok.kind l.1 l.2.1
noncomputable abbrev JI (c : Cx) (F : FD) (lm : Lm) (nw : Led) (e : PySem.Expr) (n : Int) : Prop := JA c F lm nw e (Value.int n)
noncomputable abbrev JB (c : Cx) (F : FD) (lm : Lm) (nw : Led) (e : PySem.Expr) (l : List UInt8) : Prop := JA c F lm nw e (Value.bytes l.toArray)
noncomputable abbrev JC (c : Cx) (F : FD) (lm : Lm) (nw : Led) (e : PySem.Expr) (b : Bool) : Prop := JA c F lm nw e (fun _ => .bool b)
noncomputable abbrev JV (c : Cx) (F : FD) (lm : Lm) (nw : Led) (e : PySem.Expr) (v : Value) : Prop := JA c F lm nw e (fun _ => v)
theorem ji_loc {n : Int} {t : Tok} (h : (x, some (.int n t)) ∈ lm) : JI c F lm nw (.Name x pos) n := JQ.as (ja_loc h) fun _ => ⟨t, rfl⟩
theorem jb_loc {l : List UInt8} {t : Tok} (h : (x, some (.bytes l.toArray t)) ∈ lm) : JB c F lm nw (.Name x pos) l := JQ.as (ja_loc h) fun _ => ⟨t, rfl⟩
theorem ji_glb {n : Int} {t : Tok} (h : (x, .int n t) ∈ F.gl) : JI c F lm nw (.Name x pos) n := JQ.as (ja_glb h) fun _ => ⟨t, rfl⟩
theorem ji_lit {n : Int} {k} : JI c F lm nw (.Constant (.int n) k pos) n := JQ.rule fun _ _ _ _ _ _ _ hQ => wpAny_Constant_int (hQ _ _)
theorem jb_lit {l : List UInt8} {k} : JB c F lm nw (.Constant (.bytes l) k pos) l := JQ.rule fun _ _ _ _ _ _ _ hQ => Constant_bytes (hQ _ _)
theorem jc_lit {b : Bool} {k} : JC c F lm nw (.Constant (.bool b) k pos) b := JQ.rule fun s _ _ _ _ _ _ hQ => PyProof.Rows.Constant_bool (hQ 0 s.toks)
theorem jn_lit {k} : JV c F lm nw (.Constant .none k pos) .none := JQ.rule fun s _ _ _ _ _ _ hQ => PyProof.Rows.Constant_none (hQ 0 s.toks)
end
/-! operators -/
section
variable {c : Cx} {F : FD} {lm : Lm} {nw : Led} {pos : Pos} {l r : PySem.Expr} {x y : Int} {a b : List UInt8}
theorem ji_add (h1 : JI c F lm nw l x) (h2 : JI c F lm nw r y) : JI c F lm nw (.BinOp l .Add r pos) (x + y) :=
  JQ.bind2 (fun _ _ => wpAny_BinOp) h1 h2 fun _ _ => JQ.rule fun _ _ _ _ _ _ _ hQ => PyProof.Rows.add_int (hQ _ _)
theorem ji_sub (h1 : JI c F lm nw l x) (h2 : JI c F lm nw r y) : JI c F lm nw (.BinOp l .Sub r pos) (x - y) :=
  JQ.bind2 (fun _ _ => wpAny_BinOp) h1 h2 fun _ _ => JQ.rule fun _ _ _ _ _ _ _ hQ => PyProof.Rows.sub_int (hQ _ _)
theorem ji_mul (h1 : JI c F lm nw l x) (h2 : JI c F lm nw r y) (hm : IntMulOk x y) : JI c F lm nw (.BinOp l .Mult r pos) (x * y) :=
  JQ.bind2 (fun _ _ => wpAny_BinOp) h1 h2 fun _ _ => JQ.rule fun _ _ _ _ _ _ _ hQ => P.mul_int (hQ _ _) hm
theorem ji_mod (h1 : JI c F lm nw l x) (h2 : JI c F lm nw r y) (h : y ≠ 0) : JI c F lm nw (.BinOp l .Mod r pos) (x.fmod y) :=
  JQ.bind2 (fun _ _ => wpAny_BinOp) h1 h2 fun _ _ => JQ.rule fun _ _ _ _ _ _ _ hQ => mod_int' h (hQ _ _)
theorem jb_add (h1 : JB c F lm nw l a) (h2 : JB c F lm nw r b) (h : a.length + b.length ≤ 1048576) : JB c F lm nw (.BinOp l .Add r pos) (a ++ b) :=
  JQ.bind2 (fun _ _ => wpAny_BinOp) h1 h2 fun _ _ => JQ.rule fun _ _ _ _ _ _ _ hQ => b_add h fun _ _ => hQ _ _
theorem bim {op : CmpOp} (h : (op == .In || op == .NotIn) = false) (r : PySem.Expr) : behindInMarks op r = false := by
  cases r with
  | Set e k p => show (k == 0 && (op == .In || op == .NotIn) && e.all (constantsAlone 8)) = false; rw [h, Bool.and_false]; rfl
  | _ => rfl
theorem bim2 {o1 op : CmpOp} (h : (op == .In || op == .NotIn) = false) (m r : PySem.Expr) : lastMarks [o1, op] [m, r] = false := bim h r
/-- two values compared -/
noncomputable def CmpIs (op : CmpOp) (a b : Value) (r : Bool) : Prop := ∀ (w : World) (A : Around) (Q E : Value → Shared → Prop) (s : Shared), Q (.bool r) s → wpAny (model PR w) A (compareOp op a b) Q E s
theorem cmp_lt {x y : Int} {t u : Tok} : CmpIs .Lt (.int x t) (.int y u) (decide (x < y)) := fun _ _ _ _ _ h => PyProof.Rows.lt_int h
theorem cmp_le {x y : Int} {t u : Tok} : CmpIs .LtE (.int x t) (.int y u) (decide (x ≤ y)) := fun _ _ _ _ _ h => PyProof.Rows.le_int h
theorem cmp_gt {x y : Int} {t u : Tok} : CmpIs .Gt (.int x t) (.int y u) (decide (y < x)) := fun _ _ _ _ _ h => PyProof.Rows.gt_int h
theorem cmp_ge {x y : Int} {t u : Tok} : CmpIs .GtE (.int x t) (.int y u) (decide (y ≤ x)) := fun _ _ _ _ _ h => PyProof.Rows.ge_int h
theorem cmp_eq {x y : Int} {t u : Tok} : CmpIs .Eq (.int x t) (.int y u) (decide (x = y)) := fun _ _ _ _ _ h => m_eq h
theorem cmp_ne {x y : Int} {t u : Tok} : CmpIs .NotEq (.int x t) (.int y u) (decide (¬ x = y)) := fun _ _ _ _ _ h => m_ne h
theorem cmp_beq {a b : List UInt8} {t u : Tok} : CmpIs .Eq (.bytes a.toArray t) (.bytes b.toArray u) (decide (a = b)) := fun _ _ _ _ _ h => b_eq h
theorem cmp_bne {a b : List UInt8} {t u : Tok} : CmpIs .NotEq (.bytes a.toArray t) (.bytes b.toArray u) (decide (a ≠ b)) := fun _ _ _ _ _ h => b_ne h
theorem cmp_is {v : Value} : CmpIs .Is v .none (v == .none) := fun _ _ _ _ _ h => is_none h
theorem cmp_isnot {v : Value} : CmpIs .IsNot v .none (!(v == .none)) := fun _ _ _ _ _ h => isNot_none h
variable {op o1 o2 : CmpOp} {g1 g2 g3 : Tok → Value} {p q : Bool} {m : PySem.Expr}
theorem JQ.cmp {v v' : Value} (h : CmpIs op v v' p) : JQ c F lm nw (compareOp op v v') (fun _ => .bool p) := JQ.rule fun s _ _ _ _ _ _ hQ => h _ _ _ _ _ (hQ 0 s.toks)
theorem jc_cmp (h1 : JA c F lm nw l g1) (h2 : JA c F lm nw r g2) (h : ∀ t u, CmpIs op (g1 t) (g2 u) p) (hm : behindInMarks op r = false := by rfl) : JC c F lm nw (.Compare l [op] [r] pos) p :=
  JQ.bind2 (fun _ _ z => wpAny_Compare1 z hm) h1 h2 fun _ _ => JQ.cmp (h _ _)
theorem JQ.bind2w {α β γ : Type} {t : Sem γ} {t1 : Sem α} {t2 : Sem β} {W : α → β → (γ → Shared → Prop) → Shared → Prop} {a1 : Tok → α} {a2 : Tok → β} {z : γ}
    (hr : ∀ (s : Shared) (Q : γ → Shared → Prop), wpAny (model PR c.w) (c.A F) t1 (fun a s₁ => wpAny (model PR c.w) (c.A F) t2 (fun b s₂ => W a b Q s₂) (fun _ _ => False) s₁) (fun _ _ => False) s → wpAny (model PR c.w) (c.A F) t Q (fun _ _ => False) s)
    (h1 : JQ c F lm nw t1 a1) (h2 : JQ c F lm nw t2 a2) (h3 : ∀ u v s Q, Q z s → W (a1 u) (a2 v) Q s) : JQ c F lm nw t (fun _ => z) :=
  fun s m Q ok hn Fm hm N hQ => hr s Q (h1 s m _ ok hn Fm hm N fun v h' tk' n ⟨e, u, e'⟩ F' N' => h2 { s with heap := h', toks := tk' } m _ ok hn F' hm (e ▸ N') fun b h₂ tk₂ n₂ ⟨e₂, u₂, e₂'⟩ F₂ N₂ => by
    subst e' e₂'; exact h3 u u₂ _ _ (hQ z h₂ tk₂ n₂ ⟨e₂, 0, rfl⟩ F₂ N₂))
theorem jt_cmp (h1 : JA c F lm nw l g1) (h2 : JA c F lm nw r g2) (h : ∀ t u, CmpIs op (g1 t) (g2 u) p) (hm : behindInMarks op r = false := by rfl) : JT c F lm nw (.Compare l [op] [r] pos) p :=
  JQ.bind2w (fun _ _ z => wpAny_isTrue_Compare1 z hm) h1 h2 fun u v _ _ hq => h u v _ _ _ _ _ (wpAny_truthy_bool hq)
theorem ji_lt (h1 : JI c F lm nw l x) (h2 : JI c F lm nw r y) : JT c F lm nw (.Compare l [.Lt] [r] pos) (decide (x < y)) := jt_cmp h1 h2 (fun _ _ => cmp_lt) (bim rfl _)
theorem ji_le (h1 : JI c F lm nw l x) (h2 : JI c F lm nw r y) : JT c F lm nw (.Compare l [.LtE] [r] pos) (decide (x ≤ y)) := jt_cmp h1 h2 (fun _ _ => cmp_le) (bim rfl _)
theorem ji_gt (h1 : JI c F lm nw l x) (h2 : JI c F lm nw r y) : JT c F lm nw (.Compare l [.Gt] [r] pos) (decide (y < x)) := jt_cmp h1 h2 (fun _ _ => cmp_gt) (bim rfl _)
theorem ji_ge (h1 : JI c F lm nw l x) (h2 : JI c F lm nw r y) : JT c F lm nw (.Compare l [.GtE] [r] pos) (decide (y ≤ x)) := jt_cmp h1 h2 (fun _ _ => cmp_ge) (bim rfl _)
theorem ji_eq (h1 : JI c F lm nw l x) (h2 : JI c F lm nw r y) : JT c F lm nw (.Compare l [.Eq] [r] pos) (decide (x = y)) := jt_cmp h1 h2 (fun _ _ => cmp_eq) (bim rfl _)
theorem ji_ne (h1 : JI c F lm nw l x) (h2 : JI c F lm nw r y) : JT c F lm nw (.Compare l [.NotEq] [r] pos) (decide (¬ x = y)) := jt_cmp h1 h2 (fun _ _ => cmp_ne) (bim rfl _)
theorem jb_eq (h1 : JB c F lm nw l a) (h2 : JB c F lm nw r b) : JT c F lm nw (.Compare l [.Eq] [r] pos) (decide (a = b)) := jt_cmp h1 h2 (fun _ _ => cmp_beq) (bim rfl _)
theorem jb_ne (h1 : JB c F lm nw l a) (h2 : JB c F lm nw r b) : JT c F lm nw (.Compare l [.NotEq] [r] pos) (decide (a ≠ b)) := jt_cmp h1 h2 (fun _ _ => cmp_bne) (bim rfl _)
theorem jn_is (h1 : JA c F lm nw l g1) {p} (h : ∀ t, (g1 t == .none) = p := by intro _; rfl) {k q} : JT c F lm nw (.Compare l [.Is] [.Constant .none k q] pos) p := jt_cmp h1 jn_lit fun t _ => h t ▸ cmp_is
theorem jn_isnot (h1 : JA c F lm nw l g1) {p} (h : ∀ t, (!(g1 t == .none)) = p := by intro _; rfl) {k q} : JT c F lm nw (.Compare l [.IsNot] [.Constant .none k q] pos) p := jt_cmp h1 jn_lit fun t _ => h t ▸ cmp_isnot
theorem jci_lt (h1 : JI c F lm nw l x) (h2 : JI c F lm nw r y) : JC c F lm nw (.Compare l [.Lt] [r] pos) (decide (x < y)) := jc_cmp h1 h2 (fun _ _ => cmp_lt) (bim rfl _)
theorem jci_eq (h1 : JI c F lm nw l x) (h2 : JI c F lm nw r y) : JC c F lm nw (.Compare l [.Eq] [r] pos) (decide (x = y)) := jc_cmp h1 h2 (fun _ _ => cmp_eq) (bim rfl _)
/-- a chain of two -/
theorem jc_chain (h1 : JA c F lm nw l g1) (h2 : JA c F lm nw m g2) (h3 : JA c F lm nw r g3) (k1 : ∀ t u, CmpIs o1 (g1 t) (g2 u) p) (k2 : ∀ t u, CmpIs o2 (g2 t) (g3 u) q) (hm : lastMarks [o1, o2] [m, r] = false := by rfl) :
    JC c F lm nw (.Compare l [o1, o2] [m, r] pos) (p && q) := fun s m' Q ok hn Fm hm' N hQ =>
  Compare_chain (hm := hm) (h1 s m' _ ok hn Fm hm' N fun v h' tk' n ⟨e, u, e'⟩ F' N' => chain_link (h2 { s with heap := h', toks := tk' } m' _ ok hn F' hm' (e ▸ N') fun v₂ h₂ tk₂ n₂ ⟨e₂, u₂, e₂'⟩ F₂ N₂ => by
    subst e' e₂'
    refine k1 u u₂ _ _ _ _ _ (wpAny_truthy_bool ?_)
    cases p with
    | false => exact hQ _ h₂ tk₂ n₂ ⟨e₂, 0, rfl⟩ F₂ N₂
    | true => exact chain_last (h3 { s with heap := h₂, toks := tk₂ } m' _ ok hn F₂ hm' (e₂ ▸ N₂) fun v₃ h₃ tk₃ n₃ ⟨e₃, u₃, e₃'⟩ F₃ N₃ => by subst e₃'; exact k2 u₂ u₃ _ _ _ _ _ (hQ _ h₃ tk₃ n₃ ⟨e₃, 0, rfl⟩ F₃ N₃))))
theorem jt_chain (h1 : JA c F lm nw l g1) (h2 : JA c F lm nw m g2) (h3 : JA c F lm nw r g3) (k1 : ∀ t u, CmpIs o1 (g1 t) (g2 u) p) (k2 : ∀ t u, CmpIs o2 (g2 t) (g3 u) q) (hm : lastMarks [o1, o2] [m, r] = false := by rfl) :
    JT c F lm nw (.Compare l [o1, o2] [m, r] pos) (p && q) := fun s m' Q ok hn Fm hm' N hQ =>
  isTrue_chain (hm := hm) (h1 s m' _ ok hn Fm hm' N fun v h' tk' n ⟨e, u, e'⟩ F' N' => test_link (h2 { s with heap := h', toks := tk' } m' _ ok hn F' hm' (e ▸ N') fun v₂ h₂ tk₂ n₂ ⟨e₂, u₂, e₂'⟩ F₂ N₂ => by
    subst e' e₂'
    refine k1 u u₂ _ _ _ _ _ (wpAny_truthy_bool ?_)
    cases p with
    | false => exact hQ _ h₂ tk₂ n₂ ⟨e₂, 0, rfl⟩ F₂ N₂
    | true => exact test_last (h3 { s with heap := h₂, toks := tk₂ } m' _ ok hn F₂ hm' (e₂ ▸ N₂) fun v₃ h₃ tk₃ n₃ ⟨e₃, u₃, e₃'⟩ F₃ N₃ => by subst e₃'; exact k2 u₂ u₃ _ _ _ _ _ (wpAny_truthy_bool (hQ _ h₃ tk₃ n₃ ⟨e₃, 0, rfl⟩ F₃ N₃)))))
variable {z : Int}
theorem jc_lele (h1 : JI c F lm nw l x) (h2 : JI c F lm nw m y) (h3 : JI c F lm nw r z) : JC c F lm nw (.Compare l [.LtE, .LtE] [m, r] pos) (decide (x ≤ y) && decide (y ≤ z)) := jc_chain h1 h2 h3 (fun _ _ => cmp_le) (fun _ _ => cmp_le) (bim2 rfl _ _)
theorem jt_lele (h1 : JI c F lm nw l x) (h2 : JI c F lm nw m y) (h3 : JI c F lm nw r z) : JT c F lm nw (.Compare l [.LtE, .LtE] [m, r] pos) (decide (x ≤ y) && decide (y ≤ z)) := jt_chain h1 h2 h3 (fun _ _ => cmp_le) (fun _ _ => cmp_le) (bim2 rfl _ _)
theorem jc_ltlt (h1 : JI c F lm nw l x) (h2 : JI c F lm nw m y) (h3 : JI c F lm nw r z) : JC c F lm nw (.Compare l [.Lt, .Lt] [m, r] pos) (decide (x < y) && decide (y < z)) := jc_chain h1 h2 h3 (fun _ _ => cmp_lt) (fun _ _ => cmp_lt) (bim2 rfl _ _)
theorem jc_lelt (h1 : JI c F lm nw l x) (h2 : JI c F lm nw m y) (h3 : JI c F lm nw r z) : JC c F lm nw (.Compare l [.LtE, .Lt] [m, r] pos) (decide (x ≤ y) && decide (y < z)) := jc_chain h1 h2 h3 (fun _ _ => cmp_le) (fun _ _ => cmp_lt) (bim2 rfl _ _)
end
/-! and, or, not, if -/
section
variable {c : Cx} {F : FD} {lm : Lm} {nw : Led} {pos : Pos} {e e2 : PySem.Expr} {rest : List PySem.Expr} {p q : Bool} {g : Tok → Value}
theorem JQ.then {α γ : Type} {t : Sem γ} {t1 : Sem α} {a1 : Tok → α} {z : Tok → γ} {W : α → (γ → Shared → Prop) → Shared → Prop}
    (hr : ∀ (s : Shared) (Q : γ → Shared → Prop), wpAny (model PR c.w) (c.A F) t1 (fun a s₁ => W a Q s₁) (fun _ _ => False) s → wpAny (model PR c.w) (c.A F) t Q (fun _ _ => False) s)
    (h1 : JQ c F lm nw t1 a1) (h3 : ∀ u s m Q, COk c F → lm.map (·.1) = F.names → Fr c.g c.L s.heap m → (∀ x v, (x, some v) ∈ lm → m x = some v) → News c.g c.L s.heap nw → (∀ v h' tk' nw', nw' = nw ∧ (∃ t, v = z t) → Fr c.g c.L h' m → News c.g c.L h' nw' → Q v { s with heap := h', toks := tk' }) → W (a1 u) Q s) : JQ c F lm nw t z :=
  fun s m Q ok hn Fm hm N hQ => hr s Q (h1 s m _ ok hn Fm hm N fun v h' tk' n ⟨e, u, e'⟩ F' N' => by
    subst e'; exact h3 u { s with heap := h', toks := tk' } m Q ok hn F' hm (e ▸ N') fun v h₂ tk₂ n₂ r F₂ N₂ => hQ v h₂ tk₂ n₂ r F₂ N₂)
theorem jt_not (h : JT c F lm nw e p) : JT c F lm nw (.UnaryOp .Not e pos) (!p) :=
  JQ.then (fun _ _ => isTrue_not) h fun _ s _ _ _ _ Fm _ N hQ => hQ _ s.heap s.toks nw ⟨rfl, 0, rfl⟩ Fm N
theorem jc_not (h : JC c F lm nw e p) : JC c F lm nw (.UnaryOp .Not e pos) (!p) :=
  JQ.then (fun _ _ => UnaryOp_) h fun _ s _ _ _ _ Fm _ N hQ => not_of (wpAny_truthy_bool (hQ _ s.heap s.toks nw ⟨rfl, 0, rfl⟩ Fm N))
theorem jt_and0 : JT c F lm nw (.BoolOp .And [] pos) true := JQ.rule fun s _ _ _ _ _ _ hQ => isTrue_and_nil (hQ 0 s.toks)
theorem jt_or0 : JT c F lm nw (.BoolOp .Or [] pos) false := JQ.rule fun s _ _ _ _ _ _ hQ => isTrue_or_nil (hQ 0 s.toks)
theorem jt_and (h : JT c F lm nw e p) (h2 : p = true → JT c F lm nw (.BoolOp .And rest pos) q) : JT c F lm nw (.BoolOp .And (e :: rest) pos) (p && q) :=
  JQ.then (fun _ _ => isTrue_and) h fun _ s m Q ok hn Fm hm N hQ => by
    cases p with
    | false => exact hQ _ s.heap s.toks nw ⟨rfl, 0, rfl⟩ Fm N
    | true => exact h2 rfl s m Q ok hn Fm hm N hQ
theorem jt_or (h : JT c F lm nw e p) (h2 : p = false → JT c F lm nw (.BoolOp .Or rest pos) q) : JT c F lm nw (.BoolOp .Or (e :: rest) pos) (p || q) :=
  JQ.then (fun _ _ => isTrue_or) h fun _ s m Q ok hn Fm hm N hQ => by
    cases p with
    | true => exact hQ _ s.heap s.toks nw ⟨rfl, 0, rfl⟩ Fm N
    | false => exact h2 rfl s m Q ok hn Fm hm N hQ
theorem jc_one {op} (h : JC c F lm nw e p) : JC c F lm nw (.BoolOp op [e] pos) p := h
theorem jc_and (h : JC c F lm nw e p) (h2 : p = true → JC c F lm nw (.BoolOp .And (e2 :: rest) pos) q) : JC c F lm nw (.BoolOp .And (e :: e2 :: rest) pos) (p && q) :=
  JQ.then (fun _ _ => BoolOp_and) h fun _ s m Q ok hn Fm hm N hQ => wpAny_truthy_bool (by
    cases p with
    | false => exact hQ _ s.heap s.toks nw ⟨rfl, 0, rfl⟩ Fm N
    | true => exact h2 rfl s m Q ok hn Fm hm N hQ)
theorem jc_or (h : JC c F lm nw e p) (h2 : p = false → JC c F lm nw (.BoolOp .Or (e2 :: rest) pos) q) : JC c F lm nw (.BoolOp .Or (e :: e2 :: rest) pos) (p || q) :=
  JQ.then (fun _ _ => BoolOp_or) h fun _ s m Q ok hn Fm hm N hQ => wpAny_truthy_bool (by
    cases p with
    | true => exact hQ _ s.heap s.toks nw ⟨rfl, 0, rfl⟩ Fm N
    | false => exact h2 rfl s m Q ok hn Fm hm N hQ)
/-- a choice: either way its own end -/
theorem jx_ite {t a b : PySem.Expr} {R : Value → Led → Prop} (h : JT c F lm nw t p) (h1 : p = true → JE c F lm nw a R) (h2 : p = false → JE c F lm nw b R) : JE c F lm nw (.IfExp t a b pos) R :=
  JX.mono (JX.bind1 (f := fun c' => if c' = true then eval a (F.env c.L) else eval b (F.env c.L)) (R2 := R) (fun s Q z => IfExp_ (wpAny_mono z (fun c' s₁ h₁ => by cases c' <;> exact h₁) fun _ _ x => x)) h fun v n ⟨e, u, e'⟩ => by
    subst e e'
    cases v with
    | true => exact h1 rfl
    | false => exact h2 rfl) fun _ _ r => r
theorem ja_ite {t a b : PySem.Expr} (h : JT c F lm nw t p) (h1 : p = true → JA c F lm nw a g) (h2 : p = false → JA c F lm nw b g) : JA c F lm nw (.IfExp t a b pos) g := jx_ite h h1 h2
theorem ji_ite {t a b : PySem.Expr} {x y : Int} (h : JT c F lm nw t p) (h1 : p = true → JI c F lm nw a x) (h2 : p = false → JI c F lm nw b y) : JI c F lm nw (.IfExp t a b pos) (if p = true then x else y) :=
  ja_ite h (fun z => by rw [if_pos z]; exact h1 z) fun z => by rw [if_neg (by rw [z]; exact Bool.false_ne_true)]; exact h2 z
theorem jc_ite {t a b : PySem.Expr} {x y : Bool} (h : JT c F lm nw t p) (h1 : p = true → JC c F lm nw a x) (h2 : p = false → JC c F lm nw b y) : JC c F lm nw (.IfExp t a b pos) (if p = true then x else y) :=
  ja_ite h (fun z => by rw [if_pos z]; exact h1 z) fun z => by rw [if_neg (by rw [z]; exact Bool.false_ne_true)]; exact h2 z
/-- syntax that is its own value alone: tests read it through `truthy` -/
noncomputable def plainT : PySem.Expr → Bool
  | .Name .. | .Call .. | .Attribute .. | .Subscript .. | .Constant .. => true
  | _ => false
theorem isTrue_of_plainT {e : PySem.Expr} (h : plainT e = true) (env : Env) (t : Sem Value) : isTrue e env t = (do let v ← t; standAt e.pos; holding [v] (truthy v)) := by
  cases e <;> first | rfl | cases h
theorem jt_c (h : JC c F lm nw e p) (ht : plainT e = true := by rfl) : JT c F lm nw e p :=
  JQ.then (fun _ _ z => isTrue_plain z (isTrue_of_plainT ht _ _)) h fun _ s _ _ _ _ Fm _ N hQ => wpAny_truthy_bool (hQ _ s.heap s.toks nw ⟨rfl, 0, rfl⟩ Fm N)
end
/-! calls -/
noncomputable def simpE : PySem.Expr → Bool
  | .Name .. | .Constant .. | .BinOp .. | .UnaryOp .. | .Compare .. | .BoolOp .. | .IfExp .. | .Call .. | .Attribute .. | .Subscript .. | .Tuple .. | .List .. => true
  | _ => false
theorem star_simp {e : PySem.Expr} (h : simpE e = true) (rest : List PySem.Expr) (env : Env) : starEach (e :: rest) env = (false, eval e env) :: starEach rest env := by
  cases e <;> first | rfl | cases h
theorem star_all {env : Env} {pos : Pos} : ∀ {es : List PySem.Expr}, es.all simpE = true → (backTo pos (starEach es env)).any (·.1) = false
  | [], _ => rfl
  | e :: es, h => by
    rw [List.all_cons, Bool.and_eq_true] at h
    rw [star_simp h.1]
    show (false || (backTo pos (starEach es env)).any (·.1)) = false
    rw [star_all h.2]; rfl
section
variable {c : Cx} {F : FD} {lm : Lm} {nw : Led} {pos apos : Pos} {e e1 e2 e3 fe o : PySem.Expr} {es : List PySem.Expr} {f x : Addr} {R : Value → Led → Prop} {Rs : List Value → Prop} {g g1 g2 g3 : Tok → Value}
/-- the arguments of a call, each its own value alone -/
noncomputable abbrev JArgs (c : Cx) (F : FD) (lm : Lm) (nw : Led) (pos : Pos) (es : List PySem.Expr) (Rs : List Value → Prop) : Prop := JX c F lm nw (spliced (backTo pos (starEach es (F.env c.L)))) (fun vs n => n = nw ∧ Rs vs)
theorem jargs0 : JArgs c F lm nw pos [] (· = []) := fun s _ _ _ _ Fm _ N hQ => args_nil (hQ [] s.heap s.toks nw ⟨rfl, rfl⟩ Fm N)
theorem jargs_cons (h : JA c F lm nw e g) (hs : simpE e = true) (h2 : JArgs c F lm nw pos es Rs) : JArgs c F lm nw pos (e :: es) (fun vs => E2 fun t vs' => vs = g t :: vs' ∧ Rs vs') := fun s m Q ok hn Fm hm N hQ =>
  args_cons (h s m _ ok hn Fm hm N fun v h' tk' n ⟨e, u, e'⟩ F' N' => h2 { s with heap := h', toks := tk' } m _ ok hn F' hm (e ▸ N') fun vs h₂ tk₂ n₂ ⟨e₂, r⟩ F₂ N₂ => hQ _ h₂ tk₂ n₂ ⟨e₂, u, vs, by rw [e'], r⟩ F₂ N₂) (star_simp hs _ _)
theorem jargs_consR {T : Value → Prop} (h : JE c F lm nw e (fun v n => n = nw ∧ T v)) (hs : simpE e = true) (h2 : JArgs c F lm nw pos es Rs) : JArgs c F lm nw pos (e :: es) (fun vs => E2 fun a vs' => A3 (vs = a :: vs') (T a) (Rs vs')) := fun s m Q ok hn Fm hm N hQ =>
  args_cons (h s m _ ok hn Fm hm N fun v h' tk' n ⟨e, r1⟩ F' N' => h2 { s with heap := h', toks := tk' } m _ ok hn F' hm (e ▸ N') fun vs h₂ tk₂ n₂ ⟨e₂, r⟩ F₂ N₂ => hQ _ h₂ tk₂ n₂ ⟨e₂, v, vs, rfl, r1, r⟩ F₂ N₂) (star_simp hs _ _)
/-- one who may be called so that the frame keeps the arguments -/
noncomputable def Kept (w : World) (f : Value) : Prop := ∀ (h : Heap), (hd.heap_39 w.params).In h → ∃ k, (k = Keeper.frame ∨ k = Keeper.machine ∨ k = Keeper.boundFrame) ∧ Looks (model PR w) h (keeperOf f) k
theorem kept_K {w : World} {f : Value} (h : keepIn (hd.heap_39 w.params) f = true) : Kept w f := keeps_K h
theorem kept_builtin {w : World} {id : String} : Kept w (.builtin id) := fun _ _ => ⟨.machine, .inr (.inl rfl), .of_pure rfl⟩
theorem kept_type {w : World} {id : String} : Kept w (.type id) := fun _ _ => ⟨.machine, .inr (.inl rfl), .of_pure rfl⟩
theorem jx_callWith0 {f : Value} {first : List Value} (hk : Kept c.w f) (hc : JX c F lm nw (call f (first ++ [])) R) :
    JX c F lm nw (callWith pos f first (backTo pos (starEach [] (F.env c.L))) []) R := fun s m Q ok hn Fm hm N hQ =>
  callWith_of (P := (hd.heap_39 c.w.params).In) rfl hk (evalArgs_nil3 ⟨ok.X.keeps Fm.keep, hc s m Q ok hn Fm hm N hQ⟩)
theorem jx_callWith {f : Value} {first : List Value} (hk : Kept c.w f) (hs : (e :: es).all simpE = true) (ha : JArgs c F lm nw pos (e :: es) Rs) (hc : ∀ vs, Rs vs → JX c F lm nw (call f (first ++ vs)) R) :
    JX c F lm nw (callWith pos f first (backTo pos (starEach (e :: es) (F.env c.L))) []) R := fun s m Q ok hn Fm hm N hQ => by
  rw [List.all_cons, Bool.and_eq_true] at hs
  have he := star_simp hs.1 es (F.env c.L)
  have h2 : (backTo pos (starEach es (F.env c.L))).any (·.1) = false := star_all hs.2
  have key := ha s m (fun vs s₁ => (hd.heap_39 c.w.params).In s₁.heap ∧ wpAny (model PR c.w) (c.A F) (call f (first ++ vs)) Q (fun _ _ => False) s₁) ok hn Fm hm N fun vs h' tk' n ⟨e, r⟩ F' N' =>
    ⟨ok.X.keeps F'.keep, hc vs r { s with heap := h', toks := tk' } m Q ok hn F' hm (e ▸ N') fun v h₂ tk₂ n₂ r₂ F₂ N₂ => hQ v h₂ tk₂ n₂ r₂ F₂ N₂⟩
  rw [he] at key ⊢
  exact callWith_of (P := (hd.heap_39 c.w.params).In) (by show ((false || (backTo pos (starEach es (F.env c.L))).any (·.1)) || false) = false; rw [h2]; rfl) hk (evalArgs_plain key)
/-- a name that is called -/
theorem eval_CallName (env : Env) (x : Str) (xp pos : Pos) (es : List PySem.Expr) : eval (.Call (.Name x xp) es [] pos) env = (do callWith pos (← eval (.Name x xp) env) [] (backTo pos (starEach es env)) (backToKw pos (keywordEach [] env))) := rfl
theorem jx_name {x : Str} {xp : Pos} {f : Value} (hf : JV c F lm nw (.Name x xp) f) (hk : Kept c.w f) (hs : (e :: es).all simpE = true) (ha : JArgs c F lm nw pos (e :: es) Rs) (hc : ∀ vs, Rs vs → JX c F lm nw (call f vs) R) : JE c F lm nw (.Call (.Name x xp) (e :: es) [] pos) R :=
  JQ.bind1 (fun _ _ z => Call_ z (eval_CallName _ _ _ _ _)) hf fun _ => jx_callWith (first := []) hk hs ha hc
theorem jx_name1 {x : Str} {xp : Pos} {f : Value} (hf : JV c F lm nw (.Name x xp) f) (hk : Kept c.w f) (h1 : JA c F lm nw e1 g1) (hc : ∀ t, JX c F lm nw (call f [g1 t]) R) (hs : simpE e1 = true := by rfl) : JE c F lm nw (.Call (.Name x xp) [e1] [] pos) R :=
  jx_name hf hk (by simp [hs]) (jargs_cons h1 hs jargs0) fun vs ⟨t, _, e, e'⟩ => by subst e e'; exact hc t
theorem jx_name2 {x : Str} {xp : Pos} {f : Value} (hf : JV c F lm nw (.Name x xp) f) (hk : Kept c.w f) (h1 : JA c F lm nw e1 g1) (h2 : JA c F lm nw e2 g2) (hc : ∀ t u, JX c F lm nw (call f [g1 t, g2 u]) R) (hs : simpE e1 = true := by rfl) (hs2 : simpE e2 = true := by rfl) : JE c F lm nw (.Call (.Name x xp) [e1, e2] [] pos) R :=
  jx_name hf hk (by simp [hs, hs2]) (jargs_cons h1 hs (jargs_cons h2 hs2 jargs0)) fun vs ⟨t, _, e, u, _, e', e''⟩ => by subst e e' e''; exact hc t u
theorem jx_name3 {x : Str} {xp : Pos} {f : Value} (hf : JV c F lm nw (.Name x xp) f) (hk : Kept c.w f) (h1 : JA c F lm nw e1 g1) (h2 : JA c F lm nw e2 g2) (h3 : JA c F lm nw e3 g3) (hc : ∀ t u v, JX c F lm nw (call f [g1 t, g2 u, g3 v]) R)
    (hs : simpE e1 = true := by rfl) (hs2 : simpE e2 = true := by rfl) (hs3 : simpE e3 = true := by rfl) : JE c F lm nw (.Call (.Name x xp) [e1, e2, e3] [] pos) R :=
  jx_name hf hk (by simp [hs, hs2, hs3]) (jargs_cons h1 hs (jargs_cons h2 hs2 (jargs_cons h3 hs3 jargs0))) fun vs ⟨t, _, e, u, _, e', v, _, e'', e3⟩ => by subst e e' e'' e3; exact hc t u v
/-- a method of the object `o` -/
noncomputable def HasM (c : Cx) (F : FD) (lm : Lm) (nw : Led) (o : Value) (name : Str) (f : Value) : Prop := ∀ pl : Sem Bool, JX c F lm nw (getMethod o name pl) (fun r n => n = nw ∧ r = (f, [o]))
theorem eval_Method {o : PySem.Expr} {x : Str} {xp : Pos} (ho : o = .Name x xp) {name : Str} {apos pos : Pos} (hl : (apos.endLine == pos.line) = true) {es : List PySem.Expr} (hs : es.all simpE = true) (hlen : es.length < 30) (env : Env) : eval (.Call (.Attribute o name apos) es [] pos) env = (do
    let ov ← eval o env
    standAt apos.atName
    let (f, first) ← holding [ov] (getMethod ov name (do return (← importBound o env).getD true))
    callWith pos f first (backTo pos (starEach es env)) []) := by
  subst ho
  have hform : methodCallForm (es.length + 0) (backTo pos (starEach es env)) [] = true := by
    unfold methodCallForm
    have : (backTo pos (starEach es env)).all (!·.1) = true := by
      have h := star_all (env := env) (pos := pos) hs
      rw [List.any_eq_false] at h
      rw [List.all_eq_true]
      intro x hx; have := h x hx; simpa using this
    rw [this]; simp; lia
  show (do
    let ov ← attributeBase (.Name x xp) name env (eval (.Name x xp) env)
    standAt apos.atName
    methodCall (.Name x xp) name apos pos env ov (es.length + 0) (backTo pos (starEach es env)) (backToKw pos (keywordEach [] env))) = _
  unfold methodCall
  show (do
    let ov ← eval (.Name x xp) env
    standAt apos.atName
    let (f, first) ← holding [ov] (calleeOf (methodCallForm (es.length + 0) (backTo pos (starEach es env)) []) (.Name x xp) env ov name)
    let callPos ← methodCallPos (methodCallForm (es.length + 0) (backTo pos (starEach es env)) []) (.Name x xp) env apos pos
    callWith callPos f first (backTo pos (starEach es env)) []) = _
  rw [hform]
  unfold calleeOf methodCallPos
  rw [hl]
  rfl
theorem jx_meth {x : Str} {xp : Pos} {name : Str} {ov f : Value} (hl : (apos.endLine == pos.line) = true) (hs : (e :: es).all simpE = true) (hlen : (e :: es).length < 30) (ho : JV c F lm nw (.Name x xp) ov) (hm : HasM c F lm nw ov name f) (hk : Kept c.w f) (ha : JArgs c F lm nw pos (e :: es) Rs)
    (hc : ∀ vs, Rs vs → JX c F lm nw (call f (ov :: vs)) R) : JE c F lm nw (.Call (.Attribute (.Name x xp) name apos) (e :: es) [] pos) R :=
  JX.bind2 (t2 := fun v => getMethod v name _) (f := fun _ fx => callWith pos fx.1 fx.2 (backTo pos (starEach (e :: es) (F.env c.L))) []) (R2 := fun _ r n => n = nw ∧ r = (f, [ov])) (fun _ _ z => MethodCall_ z (eval_Method rfl hl hs hlen _)) ho (fun a n ⟨e, _, e'⟩ => by subst e e'; exact hm _)
    fun a b n ⟨e, e'⟩ => by subst e e'; exact jx_callWith (first := [ov]) hk hs ha hc
theorem jx_meth0 {x : Str} {xp : Pos} {name : Str} {ov f : Value} (hl : (apos.endLine == pos.line) = true) (ho : JV c F lm nw (.Name x xp) ov) (hm : HasM c F lm nw ov name f) (hk : Kept c.w f)
    (hc : JX c F lm nw (call f [ov]) R) : JE c F lm nw (.Call (.Attribute (.Name x xp) name apos) [] [] pos) R :=
  JX.bind2 (t2 := fun v => getMethod v name _) (f := fun _ fx => callWith pos fx.1 fx.2 (backTo pos (starEach [] (F.env c.L))) []) (R2 := fun _ r n => n = nw ∧ r = (f, [ov])) (fun _ _ z => MethodCall_ z (eval_Method rfl hl rfl (by decide) _)) ho (fun a n ⟨e, _, e'⟩ => by subst e e'; exact hm _)
    fun a b n ⟨e, e'⟩ => by subst e e'; exact jx_callWith0 (first := [ov]) hk hc
theorem jx_meth1 {x : Str} {xp : Pos} {name : Str} {ov f : Value} (ho : JV c F lm nw (.Name x xp) ov) (hm : HasM c F lm nw ov name f) (hk : Kept c.w f) (h1 : JA c F lm nw e1 g1) (hc : ∀ t, JX c F lm nw (call f [ov, g1 t]) R)
    (hl : (apos.endLine == pos.line) = true := by rfl) (hs : simpE e1 = true := by rfl) : JE c F lm nw (.Call (.Attribute (.Name x xp) name apos) [e1] [] pos) R :=
  jx_meth hl (by simp [hs]) (by simp) ho hm hk (jargs_cons h1 hs jargs0) fun vs ⟨t, _, e, e'⟩ => by subst e e'; exact hc t
theorem jx_meth2 {x : Str} {xp : Pos} {name : Str} {ov f : Value} (ho : JV c F lm nw (.Name x xp) ov) (hm : HasM c F lm nw ov name f) (hk : Kept c.w f) (h1 : JA c F lm nw e1 g1) (h2 : JA c F lm nw e2 g2) (hc : ∀ t u, JX c F lm nw (call f [ov, g1 t, g2 u]) R)
    (hl : (apos.endLine == pos.line) = true := by rfl) (hs : simpE e1 = true := by rfl) (hs2 : simpE e2 = true := by rfl) : JE c F lm nw (.Call (.Attribute (.Name x xp) name apos) [e1, e2] [] pos) R :=
  jx_meth hl (by simp [hs, hs2]) (by simp) ho hm hk (jargs_cons h1 hs (jargs_cons h2 hs2 jargs0)) fun vs ⟨t, _, e, u, _, e', e''⟩ => by subst e e' e''; exact hc t u
theorem jx_meth3 {x : Str} {xp : Pos} {name : Str} {ov f : Value} (ho : JV c F lm nw (.Name x xp) ov) (hm : HasM c F lm nw ov name f) (hk : Kept c.w f) (h1 : JA c F lm nw e1 g1) (h2 : JA c F lm nw e2 g2) (h3 : JA c F lm nw e3 g3) (hc : ∀ t u v, JX c F lm nw (call f [ov, g1 t, g2 u, g3 v]) R)
    (hl : (apos.endLine == pos.line) = true := by rfl) (hs : simpE e1 = true := by rfl) (hs2 : simpE e2 = true := by rfl) (hs3 : simpE e3 = true := by rfl) : JE c F lm nw (.Call (.Attribute (.Name x xp) name apos) [e1, e2, e3] [] pos) R :=
  jx_meth hl (by simp [hs, hs2, hs3]) (by simp) ho hm hk (jargs_cons h1 hs (jargs_cons h2 hs2 (jargs_cons h3 hs3 jargs0))) fun vs ⟨t, _, e, u, _, e', v, _, e'', e3⟩ => by subst e e' e'' e3; exact hc t u v
/-- a contract, used -/
theorem jx_con {f : Value} {vs : List Value} {own rest : Led} {k u : Nat} {S : Value → Led → Prop} (C : Con c.w c.mean c.mg c.mb f vs own k u S) (hk : k ≤ c.K) (hu : u ≤ c.U)
    (hown : ∀ p ∈ own, p ∈ nw) (hrest : ∀ p ∈ rest, p ∈ nw) (hne : ∀ p ∈ rest, p.1 ∉ own.map (·.1)) :
    JX c F lm nw (call f vs) (fun v n => ∃ own', S v own' ∧ n = own' ++ rest ∧ ∀ p ∈ own', ∀ q ∈ rest, q.1 ≠ p.1) := fun s m Q ok hn Fm hm N hQ =>
  con_use (outer := c.outer) (env := F.env c.L) (gd := c.gd) C ok.B Fm ok.X N ok.T rfl ok.fok.kind hown hrest hne (by have := ok.room; lia) (by have := ok.units; lia)
    fun r own' h' tk' hr F' N' ap => hQ r h' tk' _ ⟨own', hr, rfl, ap⟩ F' N'
/-- of a def that keeps the ledger -/
theorem jx_con0 {f : Value} {vs : List Value} {k u : Nat} {S : Value → Prop} (C : Con c.w c.mean c.mg c.mb f vs [] k u (fun r o => o = [] ∧ S r)) (hk : k ≤ c.K) (hu : u ≤ c.U) : JX c F lm nw (call f vs) (fun v n => n = nw ∧ S v) :=
  JX.mono (jx_con (rest := nw) C hk hu (fun _ h => nomatch h) (fun _ h => h) (fun _ _ h => nomatch h)) fun v n ⟨own', ⟨e, r⟩, e', _⟩ => by subst e e'; exact ⟨rfl, r⟩
/-- of a def that asks for the whole ledger -/
theorem jx_con1 {f : Value} {vs : List Value} {k u : Nat} {S : Value → Led → Prop} (C : Con c.w c.mean c.mg c.mb f vs nw k u S) (hk : k ≤ c.K) (hu : u ≤ c.U) : JX c F lm nw (call f vs) S :=
  JX.mono (jx_con (rest := []) C hk hu (fun _ h => h) (fun _ h => nomatch h) (fun _ h => nomatch h)) fun v n ⟨own', r, e', _⟩ => by subst e'; rw [List.append_nil]; exact r
end
/-! lists of ints in the ledger -/
theorem intsAre_get {vs : List Value} {ns : List Int} (h : IntsAre vs ns) : ∀ i, i < ns.length → ∃ t, vs[i]? = some (.int (ns.getD i 0) t) := by
  induction h with
  | nil => intro i hi; exact absurd hi (Nat.not_lt_zero _)
  | cons n t _ ih =>
    intro i hi
    cases i with
    | zero => exact ⟨t, rfl⟩
    | succ i => obtain ⟨t', e⟩ := ih i (by simpa using hi); exact ⟨t', by simpa using e⟩
/-- an item of a list of ints -/
noncomputable def gi (l : List Int) (i : Int) : Int := l.getD i.toNat 0
section
variable {prog : Program} {w : World} {A : Around} {E : Value → Shared → Prop} {s : Shared} {value slice : PySem.Expr} {u : Tok} {h₀ : Heap} {L l : Addr} {news : List (Addr × Obj)} {vs : List Value} {ns : List Int} {i : Int} {n : Nat}
theorem l_item {Q : Value → Shared → Prop} (N : News h₀ L s.heap news) (hm : (l, listOf vs.toArray n) ∈ news) (hi : IntsAre vs ns) (h0 : 0 ≤ i) (h1 : i < (ns.length : Int)) (hz : ns.length ≤ 1048576) (h : ∀ t, Q (.int (gi ns i) t) s)
    (hs : subscripted slice false (.ref l) (.int i u) = operate [.ref l, .int i u] (getItem (.ref l) (.int i u)) := by with_unfolding_all rfl) :
    wpAny (model prog w) A (subscriptTail value slice (.ref l) (.int i u)) Q E s := by
  obtain ⟨t, e⟩ := intsAre_get hi i.toNat (by omega)
  have hl : s.heap.IsList l vs.toArray := ⟨_, (N _ hm).1, rfl, n, rfl⟩
  exact tail_any hl.typeIs slot_list_getitem.lookup (wpAny_getItem_list hl h0 (by omega) (by simpa [gi] using e) (h t)) hs
end
/-! attributes, items, slices -/
section
variable {c : Cx} {F : FD} {lm : Lm} {nw : Led} {pos apos xp : Pos} {e e1 i : PySem.Expr} {x name : Str} {R : Value → Led → Prop} {g g1 : Tok → Value} {l : List UInt8}
noncomputable def HasA (c : Cx) (F : FD) (lm : Lm) (nw : Led) (o : Value) (name : Str) (v : Value) : Prop := JX c F lm nw (getAttr o name true) (fun r n => n = nw ∧ r = v)
theorem ja_attr {ov v : Value} (ho : JV c F lm nw (.Name x xp) ov) (h : HasA c F lm nw ov name v) : JV c F lm nw (.Attribute (.Name x xp) name apos) v :=
  JX.bind1 (fun _ _ z => PyProof.Rows.Attribute_name z) ho fun a n ⟨e, _, e'⟩ => by subst e e'; exact JX.mono h fun _ _ ⟨e, e'⟩ => ⟨e, 0, e'⟩
theorem jb_attr {ov : Value} {t : Tok} (ho : JV c F lm nw (.Name x xp) ov) (h : HasA c F lm nw ov name (.bytes l.toArray t)) : JB c F lm nw (.Attribute (.Name x xp) name apos) l := JQ.as (ja_attr ho h) fun _ => ⟨t, rfl⟩
theorem ji_attr {ov : Value} {t : Tok} {n : Int} (ho : JV c F lm nw (.Name x xp) ov) (h : HasA c F lm nw ov name (.int n t)) : JI c F lm nw (.Attribute (.Name x xp) name apos) n := JQ.as (ja_attr ho h) fun _ => ⟨t, rfl⟩
theorem ja_x (h : JA c F lm nw e g) (k : ∀ u, R (g u) nw) : JE c F lm nw e R := JQ.toX h k
noncomputable def noSl : PySem.Expr → Bool
  | .Slice .. => false
  | _ => true
theorem subscripted_noSl {i : PySem.Expr} (h : noSl i = true) (o v : Value) : subscripted i false o v = operate [o, v] (getItem o v) := by
  cases i <;> first | rfl | cases h
theorem letTemp_bytes (e : PySem.Expr) (b : Array UInt8) (t : Tok) (r : Value) : letTemporaryGo e (.bytes b t) r = pure () := by cases e <;> rfl
theorem ji_item {n : Int} (h : JB c F lm nw e l) (hi : JI c F lm nw i n) (hfit : l.length ≤ 1048576) (h0 : 0 ≤ n) (h1 : n < (l.length : Int)) (hs : noSl i = true := by rfl) : JI c F lm nw (.Subscript e i pos) (bi l n) :=
  JQ.bind2 (fun _ _ => Subscript_) h hi fun _ _ => JQ.rule fun _ _ _ _ _ _ _ hQ => b_item hfit h0 h1 (fun _ _ => hQ _ _) (subscripted_noSl hs _ _) (letTemp_bytes _ _ _)
/-- a slice's end, if any -/
noncomputable def partV : Option Int → Tok → Value
  | none, _ => .none
  | some i, t => .int i t
theorem partV_is (r : Option Int) (t : Tok) : IsPart (partV r t) r := by cases r <;> constructor
noncomputable abbrev JP (c : Cx) (F : FD) (lm : Lm) (nw : Led) (e : Option PySem.Expr) (r : Option Int) : Prop := JQ c F lm nw (evalPart e (F.env c.L)) (partV r)
theorem jp_none : JP c F lm nw none none := JQ.as (JQ.const (a := Value.none)) fun _ => ⟨0, rfl⟩
theorem jp_some {n : Int} (h : JI c F lm nw e n) : JP c F lm nw (some e) (some n) := h
theorem jb_slice {lo hi : Option PySem.Expr} {a b : Option Int} (h : JB c F lm nw e l) (h1 : JP c F lm nw lo a) (h2 : JP c F lm nw hi b) (hz : l.length ≤ 1048576) : JB c F lm nw (.Subscript e (.Slice lo hi none apos) pos) (sl l a b) := fun s m Q ok hn Fm hm N hQ =>
  Subscript_ (h s m _ ok hn Fm hm N fun v h' tk' n ⟨e, u, e'⟩ F' N' => wpAny_Slice (h1 { s with heap := h', toks := tk' } m _ ok hn F' hm (e ▸ N') fun v₂ h₂ tk₂ n₂ ⟨e₂, u₂, e₂'⟩ F₂ N₂ => h2 { s with heap := h₂, toks := tk₂ } m _ ok hn F₂ hm (e₂ ▸ N₂) fun v₃ h₃ tk₃ n₃ ⟨e₃, u₃, e₃'⟩ F₃ N₃ =>
    evalPart_none_step (by
      subst e' e₂' e₃'
      exact b_slice (s := { s with heap := h₃, toks := tk₃ }) F₃ (e₃ ▸ N₃) (partV_is _ _) (partV_is _ _) hz (fun h₄ t' k F₄ N₄ => hQ _ h₄ k nw ⟨rfl, t', rfl⟩ F₄ N₄) rfl (letTemp_bytes _ _ _))))
/-- an item of a list of ints of the ledger -/
theorem ji_litem {n : Int} {vs : List Value} {ns : List Int} {a : Addr} {k : Nat} (h : JV c F lm nw e (.ref a)) (hi : JI c F lm nw i n) (hm : (a, listOf vs.toArray k) ∈ nw) (hv : IntsAre vs ns) (h0 : 0 ≤ n) (h1 : n < (ns.length : Int)) (hz : ns.length ≤ 1048576) (hs : noSl i = true := by rfl) : JI c F lm nw (.Subscript e i pos) (gi ns n) :=
  JQ.bind2 (fun _ _ => Subscript_) h hi fun _ _ => fun s m Q ok hn Fm hm' N hQ => l_item N hm hv h0 h1 hz (fun t => hQ _ s.heap s.toks nw ⟨rfl, t, rfl⟩ Fm N) (subscripted_noSl hs _ _)
theorem ji_len (hf : JV c F lm nw (.Name x xp) (.builtin "len")) (h : JB c F lm nw e l) (hz : l.length ≤ 1048576) (hs : simpE e = true := by rfl) : JI c F lm nw (.Call (.Name x xp) [e] [] pos) (l.length : Int) :=
  jx_name1 hf kept_builtin h (fun _ => JQ.rule fun _ _ _ _ _ _ _ hQ => b_len hz fun _ _ => hQ _ _) hs
end
/-! statements -/
inductive SetK (x : Str) : Lm → (Value → Lm) → Prop
  | here {o : Option Value} {r : Lm} : SetK x ((x, o) :: r) (fun v => (x, some v) :: r)
  | there {p : Str × Option Value} {r : Lm} {k : Value → Lm} : SetK x r k → SetK x (p :: r) (fun v => p :: k v)
theorem SetK.names {x : Str} {lm : Lm} {k : Value → Lm} (h : SetK x lm k) (v : Value) : (k v).map (·.1) = lm.map (·.1) ∧ x ∈ lm.map (·.1) := by
  induction h with
  | here => exact ⟨rfl, .head _⟩
  | there _ ih => exact ⟨by rw [List.map_cons, ih.1, List.map_cons], .tail _ ih.2⟩
theorem SetK.mem {x : Str} {lm : Lm} {k : Value → Lm} (h : SetK x lm k) (hnd : (lm.map (·.1)).Nodup) (v : Value) : ∀ y w, (y, some w) ∈ k v → (y = x ∧ w = v) ∨ (y ≠ x ∧ (y, some w) ∈ lm) := by
  induction h with
  | here =>
    intro y w hm
    rw [List.map_cons, List.nodup_cons] at hnd
    rcases List.mem_cons.mp hm with e | hm
    · cases e; exact .inl ⟨rfl, rfl⟩
    · exact .inr ⟨fun e => hnd.1 (e ▸ List.mem_map_of_mem (f := (·.1)) hm), .tail _ hm⟩
  | there h ih =>
    intro y w hm
    rw [List.map_cons, List.nodup_cons] at hnd
    rcases List.mem_cons.mp hm with e | hm
    · subst e; exact .inr ⟨fun e => hnd.1 (by dsimp only at e ⊢; rw [e]; exact (h.names v).2), .head _⟩
    · rcases ih hnd.2 y w hm with r | ⟨r, r'⟩
      · exact .inl r
      · exact .inr ⟨r, .tail _ r'⟩
/-- a tree that may turn locals and ledger -/
noncomputable def JG {α : Type} (c : Cx) (F : FD) (lm : Lm) (nw : Led) (t : Sem α) (P : α → Lm → Led → Prop) : Prop :=
  ∀ (s : Shared) (m : Str → Option Value) (Q : α → Shared → Prop), COk c F → lm.map (·.1) = F.names → Fr c.g c.L s.heap m → (∀ x v, (x, some v) ∈ lm → m x = some v) → News c.g c.L s.heap nw →
    (∀ fl h' tk' m' lm' nw', P fl lm' nw' → lm'.map (·.1) = F.names → Fr c.g c.L h' m' → (∀ x v, (x, some v) ∈ lm' → m' x = some v) → News c.g c.L h' nw' → Q fl { s with heap := h', toks := tk' }) →
    wpAny (model PR c.w) (c.A F) t Q (fun _ _ => False) s
noncomputable abbrev JS (c : Cx) (F : FD) (lm : Lm) (nw : Led) (ss : List Stmt) (P : Flow → Lm → Led → Prop) : Prop := JG c F lm nw (execs ss (F.env c.L)) P
noncomputable abbrev J1 (c : Cx) (F : FD) (lm : Lm) (nw : Led) (st : Stmt) (P : Flow → Lm → Led → Prop) : Prop := JG c F lm nw (exec st (F.env c.L)) P
/-- behind a statement -/
noncomputable def Then (c : Cx) (F : FD) (rest : List Stmt) (P : Flow → Lm → Led → Prop) : Flow → Lm → Led → Prop
  | .next, lm, nw => JS c F lm nw rest P
  | fl, lm, nw => P fl lm nw
/-- where the ways of an if meet -/
noncomputable def Meet (P : Flow → Lm → Led → Prop) (I : Lm → Led → Prop) : Flow → Lm → Led → Prop
  | .next, lm, nw => I lm nw
  | fl, lm, nw => P fl lm nw
section
variable {c : Cx} {F : FD} {lm : Lm} {nw : Led} {pos apos xp : Pos} {e e1 e2 : PySem.Expr} {x name : Str} {R : Value → Led → Prop} {g g1 g2 : Tok → Value} {st : Stmt} {rest body orelse : List Stmt} {P P' : Flow → Lm → Led → Prop} {k : Value → Lm}
theorem JG.mono {α : Type} {t : Sem α} {P P' : α → Lm → Led → Prop} (h : JG c F lm nw t P) (z : ∀ a l n, P a l n → P' a l n) : JG c F lm nw t P' :=
  fun s m Q ok hn Fm hm N hQ => h s m Q ok hn Fm hm N fun fl h' tk' m' lm' nw' r => hQ fl h' tk' m' lm' nw' (z _ _ _ r)
theorem js_nil (h : P .next lm nw) : JS c F lm nw [] P := fun s m _ _ hn Fm hm N hQ => wpAny_execs_nil (hQ _ s.heap s.toks m lm nw h hn Fm hm N)
theorem js_cons (h : J1 c F lm nw st (Then c F rest P)) : JS c F lm nw (st :: rest) P := fun s m _ ok hn Fm hm N hQ =>
  wpAny_execs_cons (h s m _ ok hn Fm hm N fun fl h' tk' m' lm' nw' r hn' F' hm' N' => by
    cases fl with
    | next => exact r { s with heap := h', toks := tk' } m' _ ok hn' F' hm' N' fun fl h₂ tk₂ m₂ l₂ n₂ r₂ => hQ fl h₂ tk₂ m₂ l₂ n₂ r₂
    | brk => exact hQ _ h' tk' m' lm' nw' r hn' F' hm' N'
    | cont => exact hQ _ h' tk' m' lm' nw' r hn' F' hm' N'
    | ret v => exact hQ _ h' tk' m' lm' nw' r hn' F' hm' N')
theorem js_retX (h : JE c F lm nw e R) (hp : ∀ v n, R v n → P (.ret v) lm n) : JS c F lm nw (.Return (some e) pos :: rest) P :=
  js_cons fun s m _ ok hn Fm hm N hQ => wpAny_Return_some (h s m _ ok hn Fm hm N fun v h' tk' n r F' N' => hQ (.ret v) h' tk' m lm n (hp v n r) hn F' hm N')
theorem js_ret (h : JA c F lm nw e g) (hp : ∀ t, P (.ret (g t)) lm nw) : JS c F lm nw (.Return (some e) pos :: rest) P :=
  js_retX h fun v n ⟨e, t, e'⟩ => by subst e e'; exact hp t
theorem js_cont (h : P .cont lm nw) : JS c F lm nw (.Continue pos :: rest) P := js_cons fun s m _ _ hn Fm hm N hQ => wpAny_Continue (hQ _ s.heap s.toks m lm nw h hn Fm hm N)
theorem js_brk (h : P .brk lm nw) : JS c F lm nw (.Break pos :: rest) P := js_cons fun s m _ _ hn Fm hm N hQ => wpAny_Break (hQ _ s.heap s.toks m lm nw h hn Fm hm N)
theorem js_if (h : JT c F lm nw e b) (h1 : b = true → JS c F lm nw body (Then c F rest P)) (h2 : b = false → JS c F lm nw orelse (Then c F rest P)) : JS c F lm nw (.If e body orelse pos :: rest) P :=
  js_cons fun s m _ ok hn Fm hm N hQ => wpAny_If (h s m _ ok hn Fm hm N fun v h' tk' n ⟨e, _, e'⟩ F' N' => by
    subst e e'
    cases v with
    | true => exact h1 rfl { s with heap := h', toks := tk' } m _ ok hn F' hm N' fun fl h₂ tk₂ m₂ l₂ n₂ r₂ => hQ fl h₂ tk₂ m₂ l₂ n₂ r₂
    | false => exact h2 rfl { s with heap := h', toks := tk' } m _ ok hn F' hm N' fun fl h₂ tk₂ m₂ l₂ n₂ r₂ => hQ fl h₂ tk₂ m₂ l₂ n₂ r₂)
theorem Then.last {fl : Flow} (h : P fl lm nw) : Then c F [] P fl lm nw := by cases fl <;> first | exact js_nil h | exact h
/-- the last statement of a block -/
theorem js_ifL (h : JT c F lm nw e b) (h1 : b = true → JS c F lm nw body P) (h2 : b = false → JS c F lm nw orelse P) : JS c F lm nw [.If e body orelse pos] P :=
  js_if h (fun z => JG.mono (h1 z) fun _ _ _ => Then.last) fun z => JG.mono (h2 z) fun _ _ _ => Then.last
/-- an if without else -/
theorem js_when (h : JT c F lm nw e b) (h1 : b = true → JS c F lm nw body (Then c F rest P)) (h2 : b = false → JS c F lm nw rest P) : JS c F lm nw (.If e body [] pos :: rest) P := js_if h h1 fun z => js_nil (h2 z)
/-- an if whose ways meet behind it -/
theorem js_ifJ (I : Lm → Led → Prop) (h : JT c F lm nw e b) (h1 : b = true → JS c F lm nw body (Meet P I)) (h2 : b = false → JS c F lm nw orelse (Meet P I)) (k : ∀ l n, I l n → JS c F l n rest P) : JS c F lm nw (.If e body orelse pos :: rest) P :=
  js_if h (fun z => JG.mono (h1 z) fun fl _ _ r => by cases fl <;> first | exact k _ _ r | exact r) fun z => JG.mono (h2 z) fun fl _ _ r => by cases fl <;> first | exact k _ _ r | exact r
theorem js_whenJ (I : Lm → Led → Prop) (h : JT c F lm nw e b) (h1 : b = true → JS c F lm nw body (Meet P I)) (h2 : b = false → I lm nw) (k : ∀ l n, I l n → JS c F l n rest P) : JS c F lm nw (.If e body [] pos :: rest) P :=
  js_ifJ I h h1 (fun z => js_nil (h2 z)) k
theorem store_loc (hk : SetK x lm k) {v : Value} {s : Shared} {m : Str → Option Value} {Q : Unit → Shared → Prop} (ok : COk c F) (hn : lm.map (·.1) = F.names) (Fm : Fr c.g c.L s.heap m) (hm : ∀ x v, (x, some v) ∈ lm → m x = some v) (N : News c.g c.L s.heap nw)
    (hQ : ∀ h' tk' m', (k v).map (·.1) = F.names → Fr c.g c.L h' m' → (∀ x w, (x, some w) ∈ k v → m' x = some w) → News c.g c.L h' nw → Q () { s with heap := h', toks := tk' }) :
    wpAny (model PR c.w) (c.A F) (storeName (F.env c.L) x v) Q (fun _ _ => False) s := by
  have l := ok.fok.loc x (hn ▸ (hk.names v).2)
  refine storeX_L Fm N (fun h' F' N' => hQ h' _ _ ((hk.names v).1.trans hn) F' (fun y w hy => ?_) N') ok.fok.kind l.1
  rcases hk.mem (hn ▸ ok.fok.nodup) v y w hy with ⟨rfl, rfl⟩ | ⟨h1, h2⟩
  · exact if_pos rfl
  · rw [if_neg h1]; exact hm y w h2
theorem swaps_simp {e : PySem.Expr} (h : simpE e = true) (t : Option PySem.Expr) (n : Nat) (env : Env) : swapsWith e t n env = pure false := by
  cases e <;> first | rfl | cases h
theorem js_asgX (h : JE c F lm nw e R) (hk : SetK x lm k) (hr : ∀ v n, R v n → JS c F (k v) n rest P) (hs : simpE e = true := by rfl) : JS c F lm nw (.Assign [.Name x xp] e pos :: rest) P :=
  js_cons fun s m _ ok hn Fm hm N hQ => wpAny_Assign_Name (h s m _ ok hn Fm hm N fun v h' tk' n r F' N' => store_loc hk ok hn F' hm N' fun h₂ tk₂ m₂ hn₂ F₂ hm₂ N₂ => hQ .next h₂ tk₂ m₂ _ n (hr v n r) hn₂ F₂ hm₂ N₂) (swaps_simp hs _ _ _)
theorem js_asg (h : JA c F lm nw e g) (hk : SetK x lm k) (hr : ∀ t, JS c F (k (g t)) nw rest P) (hs : simpE e = true := by rfl) : JS c F lm nw (.Assign [.Name x xp] e pos :: rest) P :=
  js_asgX h hk (fun v n ⟨e, t, e'⟩ => by subst e e'; exact hr t) hs
/-- `x += e` -/
noncomputable def InplIs (op : Operator) (a b : Value) (g : Tok → Value) : Prop := ∀ (w : World) (A : Around) (Q E : Value → Shared → Prop) (s : Shared), (∀ t tk', Q (g t) { s with toks := tk' }) → wpAny (model PR w) A (inplaceOp op a b) Q E s
theorem inpl_add {a b : Int} {t u : Tok} : InplIs .Add (.int a t) (.int b u) (Value.int (a + b)) := fun _ _ _ _ _ h => P.iadd_int (h _ _)
theorem inpl_sub {a b : Int} {t u : Tok} : InplIs .Sub (.int a t) (.int b u) (Value.int (a - b)) := fun _ _ _ _ _ h => P.isub_int (h _ _)
theorem js_aug {old : Value} {op : Operator} (hx : (x, some old) ∈ lm) (h : JA c F lm nw e g) (ho : ∀ t, InplIs op old (g t) g2) (hk : SetK x lm k) (hr : ∀ t, JS c F (k (g2 t)) nw rest P) : JS c F lm nw (.AugAssign (.Name x xp) op e pos :: rest) P :=
  js_cons fun s m _ ok hn Fm hm N hQ => by
    have l := ok.fok.loc x (lm_name hn hx)
    refine wpAny_AugAssign_Name (wpAny_loadName_local ok.fok.kind l.1 Fm.ns (hm x old hx) (h s m _ ok hn Fm hm N fun v h' tk' n ⟨e, u, e'⟩ F' N' => ?_))
    subst e e'
    exact ho u _ _ _ _ _ fun t tk₂ => store_loc hk ok hn F' hm N' fun h₂ tk₂ m₂ hn₂ F₂ hm₂ N₂ => hQ .next h₂ tk₂ m₂ _ n (hr t) hn₂ F₂ hm₂ N₂
theorem js_incr {a b : Int} {t : Tok} (hx : (x, some (.int a t)) ∈ lm) (h : JI c F lm nw e b) (hk : SetK x lm k) (hr : ∀ t, JS c F (k (.int (a + b) t)) nw rest P) : JS c F lm nw (.AugAssign (.Name x xp) .Add e pos :: rest) P := js_aug hx h (fun _ => inpl_add) hk hr
theorem js_decr {a b : Int} {t : Tok} (hx : (x, some (.int a t)) ∈ lm) (h : JI c F lm nw e b) (hk : SetK x lm k) (hr : ∀ t, JS c F (k (.int (a - b) t)) nw rest P) : JS c F lm nw (.AugAssign (.Name x xp) .Sub e pos :: rest) P := js_aug hx h (fun _ => inpl_sub) hk hr
/-- an expression that stands alone -/
theorem js_expr (h : JE c F lm nw e R) (hr : ∀ v n, R v n → (∀ a, v ≠ .ref a) ∧ JS c F lm n rest P) (hs : simpE e = true := by rfl) : JS c F lm nw (.Expr e pos :: rest) P :=
  js_cons fun s m _ ok hn Fm hm N hQ => wpAny_Expr (h s m _ ok hn Fm hm N fun v h' tk' n r F' N' => by
    obtain ⟨h1, h2⟩ := hr v n r
    cases v <;> first | exact hQ .next h' tk' m lm n h2 hn F' hm N' | exact (h1 _ rfl).elim) (by show (F.scope.kind == .module && _) = false; rw [ok.fok.kind]; rfl) (swaps_simp hs _ _ _)
/-- a turn's end -/
noncomputable def Turn (c : Cx) (F : FD) (rest : List Stmt) (P : Flow → Lm → Led → Prop) (I : Nat → Lm → Led → Prop) (n : Nat) : Flow → Lm → Led → Prop
  | .next, lm, nw => ∃ j, j < n ∧ I j lm nw
  | .cont, lm, nw => ∃ j, j < n ∧ I j lm nw
  | .brk, lm, nw => JS c F lm nw rest P
  | .ret v, lm, nw => P (.ret v) lm nw
theorem js_while (I : Nat → Lm → Led → Prop) (n₀ : Nat) (h0 : I n₀ lm nw)
    (ht : ∀ n lm nw, I n lm nw → ∃ b, JT c F lm nw e b ∧ (b = true → JS c F lm nw body (Turn c F rest P I n)) ∧ (b = false → JS c F lm nw rest P)) : JS c F lm nw (.While e body [] pos :: rest) P :=
  js_cons fun s m Q ok hn Fm hm N hQ => While_inv2 (fun n m nw => ∃ lm, lm.map (·.1) = F.names ∧ (∀ x v, (x, some v) ∈ lm → m x = some v) ∧ I n lm nw) Fm N ⟨lm, hn, hm, h0⟩ (fun n m₁ nw₁ h₁ tk₁ F₁ N₁ ⟨lm₁, hn₁, hm₁, I₁⟩ => by
    obtain ⟨b, t1, t2, t3⟩ := ht n lm₁ nw₁ I₁
    refine t1 { s with heap := h₁, toks := tk₁ } m₁ _ ok hn₁ F₁ hm₁ N₁ fun v h' tk' n' ⟨e, _, e'⟩ F' N' => ?_
    subst e e'
    cases v with
    | false =>
      exact (hQ .next h' tk' m₁ lm₁ n' (t3 rfl) hn₁ F' hm₁ N')
    | true =>
      refine t2 rfl { s with heap := h', toks := tk' } m₁ _ ok hn₁ F' hm₁ N' fun fl h₂ tk₂ m₂ l₂ n₂ r₂ hn₂ F₂ hm₂ N₂ => ?_
      cases fl with
      | next => obtain ⟨j, hj, r⟩ := r₂; exact ⟨h₂, tk₂, m₂, n₂, j, rfl, F₂, N₂, hj, l₂, hn₂, hm₂, r⟩
      | cont => obtain ⟨j, hj, r⟩ := r₂; exact ⟨h₂, tk₂, m₂, n₂, j, rfl, F₂, N₂, hj, l₂, hn₂, hm₂, r⟩
      | brk => exact hQ .next h₂ tk₂ m₂ l₂ n₂ r₂ hn₂ F₂ hm₂ N₂
      | ret v => exact hQ (.ret v) h₂ tk₂ m₂ l₂ n₂ r₂ hn₂ F₂ hm₂ N₂) PassesOwn.never
end
/-- a def's contract from its body's judgement -/
noncomputable def retOf : Flow → Value
  | .ret v => v
  | _ => .none
/-- what of a def's scope is asked, as one test -/
noncomputable def fokB (scope : Scope) (names gl : List Str) : Bool :=
  names.all (fun x => decide (scope.names.lookup x = some .local) && !(x == ("__debug__" : Str))) && gl.all (fun x => decide (scope.names.lookup x = some .globalImplicit) && !(x == ("__debug__" : Str)) && decide (x ≠ "__name__")) && decide names.Nodup && decide (scope.kind = .function) &&
    decide (scope.isCoroutine = false) && decide (scope.isGenerator = false) && scope.names.all fun x => decide (x.2 ≠ .cell)
theorem lookup_nodup {x : Str} {v : Value} : ∀ {l : List (Str × Value)}, (l.map (·.1)).Nodup → (x, v) ∈ l → l.lookup x = some v
  | (y, u) :: l, hn, hm => by
    rw [List.map_cons, List.nodup_cons] at hn
    rw [List.lookup_cons]
    rcases List.mem_cons.mp hm with e | hm
    · cases e; simp
    · have : (x == y) = false := beq_eq_false_iff_ne.mpr fun e => hn.1 (e ▸ List.mem_map_of_mem (f := (·.1)) hm)
      rw [this]; exact lookup_nodup hn.2 hm
theorem con_js {w : World} {mean : ExcName → Option Value} {mg mb : Str → Option Value} {f : Addr} {name qual : Str} {params : Arguments} {body : List Stmt} {scope : Scope} {dV kV doc pm cdv ct oc : Value} {an od : Option Addr} {osl : Array (Option Value)}
    {vs : List Value} {own : Led} {K U : Nat} {R : Value → Led → Prop} (binds : List (Str × Value)) (more : List Str) (gl bl : List (Str × Value))
    (ho : (hd.heap_39 w.params).lookup f = some ⟨oc, od, .func (fnOf name qual params body scope dV kV doc pm an cdv ct), osl⟩)
    (hcd : codeIn (hd.heap_39 w.params) cdv qual = true)
    (hsc : fokB scope (binds.map (·.1) ++ more) (gl.map (·.1) ++ bl.map (·.1)) = true)
    (hgl : ∀ p ∈ gl, nsIn (hd.heap_39 w.params) mainGlobals p.1 = some (some p.2))
    (hbl : ∀ p ∈ bl, nsIn (hd.heap_39 w.params) mainGlobals p.1 = some none ∧ bootBuiltins p.1 = some p.2)
    (hbind : ∀ s : Shared, (hd.heap_39 w.params).In s.heap → BindsTo s (fnOf name qual params body scope dV kV doc pm an cdv ct) ⟨vs, []⟩ binds)
    (h : ∀ (dp un : Nat) (gd : Option (List Code)) (outer : List Env) (base g : Heap) (L : Addr), JS ⟨w, mean, mg, mb, K, U, dp, un, gd, outer, base, g, L⟩ ⟨qual, scope, f, cdv, [], binds.map (·.1) ++ more, gl, bl⟩ (binds.map (fun p => (p.1, some p.2)) ++ more.map fun x => (x, none)) own body (fun fl _ nw' => R (retOf fl) nw')) :
    Con w mean mg mb (.ref f) vs own (K + 1) (U + 3) R := by
  simp only [fokB, Bool.and_eq_true, List.all_eq_true, decide_eq_true_eq, Bool.not_eq_true'] at hsc
  obtain ⟨⟨⟨⟨⟨⟨h1, h2⟩, h3⟩, h4⟩, h5⟩, h6⟩, h7⟩ := hsc
  have fok : FOk w ⟨qual, scope, f, cdv, [], binds.map (·.1) ++ more, gl, bl⟩ := ⟨h4, h3, h1, fun p hp => ⟨(h2 _ (List.mem_append_left _ (List.mem_map_of_mem hp))).1.1, (h2 _ (List.mem_append_left _ (List.mem_map_of_mem hp))).1.2, hgl p hp⟩,
    fun p hp => ⟨(h2 _ (List.mem_append_right _ (List.mem_map_of_mem hp))).1.1, (h2 _ (List.mem_append_right _ (List.mem_map_of_mem hp))).1.2, (h2 _ (List.mem_append_right _ (List.mem_map_of_mem hp))).2, hbl p hp⟩⟩
  refine con_enter ho hcd hbind (fun y hy => (h1 _ (List.mem_append_left _ (List.mem_map_of_mem hy))).1) ?_ (Nat.succ_pos _) h5 h6 h4 h7
  intro dp un gd outer base g s L' h₁ Q B X T F' N' hlt hdp hun hret
  refine wpAny_mono (h dp un gd outer base g L' { s with heap := h₁, toks := s.toks + binds.length } _ (fun fl s' => Q (retOf fl) s') ⟨fok, B, X, T, by dsimp only; lia, by dsimp only; lia⟩ (by simp [Function.comp_def]) F' (fun x v hx => ?_) N' fun fl h' tk' m' lm' nw' r _ F₂ _ N₂ => hret _ nw' h' tk' m' F₂ N₂ r) (fun fl s' q => ?_) fun _ _ x => x
  · rcases List.mem_append.mp hx with hx | hx
    · obtain ⟨p, hp, e⟩ := List.mem_map.mp hx
      obtain ⟨rfl, e2⟩ := Prod.mk.inj e
      refine lookup_nodup ?_ (List.mem_reverse.mpr ?_)
      · rw [List.map_reverse]; exact List.pairwise_reverse.mpr ((List.nodup_append.mp h3).1.imp fun h => h.symm)
      · rw [← Option.some.inj e2]; exact hp
    · obtain ⟨_, _, e⟩ := List.mem_map.mp hx
      exact nomatch (Prod.mk.inj e).2
  cases fl <;> exact q
local macro_rules | `(tactic| end_is "j gl") => `(tactic| first | exact List.forall_mem_nil _ | (refine List.forall_mem_cons.mpr ⟨by k_dflt k_is, ?_⟩; end_is "j gl"))
local macro_rules | `(tactic| end_is "j bl") => `(tactic| first | exact List.forall_mem_nil _ | (refine List.forall_mem_cons.mpr ⟨⟨by k_dflt k_is, by (dsimp only; first | boot_fast | boot_by_name)⟩, ?_⟩; end_is "j bl"))
local macro_rules | `(tactic| end_is "j in") => `(tactic| (with_reducible first | exact List.mem_cons_self | (refine List.mem_cons_of_mem _ ?_; end_is "j in")))
local macro_rules | `(tactic| end_is "j set") => `(tactic| (with_reducible first | exact SetK.here | (apply SetK.there; end_is "j set")))
local macro_rules | `(tactic| end_is "j") => `(tactic| first
  | with_reducible exact ji_lit | with_reducible exact jb_lit | with_reducible exact jc_lit | with_reducible exact jn_lit
  | with_reducible exact ji_loc (by end_is "j in") | with_reducible exact jb_loc (by end_is "j in") | with_reducible exact ja_loc (by end_is "j in") | with_reducible exact ji_glb (by end_is "j in") | with_reducible exact ja_glb (by end_is "j in")
  | ((with_reducible apply ji_add) <;> end_is "j") | ((with_reducible apply ji_sub) <;> end_is "j")
  | ((with_reducible apply ji_lt) <;> end_is "j") | ((with_reducible apply ji_le) <;> end_is "j") | ((with_reducible apply ji_gt) <;> end_is "j") | ((with_reducible apply ji_ge) <;> end_is "j") | ((with_reducible apply ji_eq) <;> end_is "j") | ((with_reducible apply ji_ne) <;> end_is "j")
  | ((with_reducible apply jn_is); (end_is "j"); (try (intro _; exact rfl))) | ((with_reducible apply jn_isnot); (end_is "j"); (try (intro _; exact rfl)))
  | ((with_reducible apply jt_not); end_is "j") | ((with_reducible apply jt_lele) <;> end_is "j")
  | ((with_reducible apply jt_c); (end_is "j"); (try exact rfl)))
/-! tuples -/
noncomputable abbrev tupO (vs : List Value) : Obj := { cls := .type "tuple", data := .seq vs.toArray }
section
variable {c : Cx} {F : FD} {lm : Lm} {nw : Led} {pos apos xp yp tp vp : Pos} {e e1 e2 i : PySem.Expr} {x y name : Str} {R : Value → Led → Prop} {g g1 g2 : Tok → Value} {rest : List Stmt} {P : Flow → Lm → Led → Prop} {k1 k2 : Nat}
theorem JG.sub {α : Type} {t : Sem α} {P : α → Lm → Led → Prop} {nw' : Led} (h : JG c F lm nw' t P) (hs : ∀ p ∈ nw', p ∈ nw) : JG c F lm nw t P := fun s m Q ok hn Fm hm N hQ => h s m Q ok hn Fm hm (fun p hp => N p (hs p hp)) hQ
theorem jx_tup {es : List PySem.Expr} {Rs : List Value → Prop} (ha : JArgs c F lm nw pos es Rs) (hz : ∀ vs, Rs vs → vs.length ≤ 1000) : JE c F lm nw (.Tuple es k1 pos) (fun v n => E2 fun T vs => A4 (Rs vs) (v = .ref T) (n = (T, tupO vs) :: nw) (∀ p ∈ nw, p.1 ≠ T)) := fun s m Q ok hn Fm hm N hQ =>
  Tuple_ (ha s m _ ok hn Fm hm N fun vs h' tk' n ⟨e, r⟩ F' N' => newTuple_N F' N' (fun h₂ F₂ N₂ => hQ _ h₂ tk' _ ⟨_, vs, r, rfl, by rw [e], fun p hp => Nat.ne_of_lt (Heap.lt_size (N' p (e ▸ hp)).1)⟩ F₂ N₂) (by rw [sizeLine_eq]; have := hz vs r; omega))
theorem jx_tup2 (h1 : JA c F lm nw e1 g1) (h2 : JA c F lm nw e2 g2) (hs : simpE e1 = true := by rfl) (hs2 : simpE e2 = true := by rfl) : JE c F lm nw (.Tuple [e1, e2] k1 pos) (fun v n => E3 fun T t u => A3 (v = .ref T) (n = (T, tupO [g1 t, g2 u]) :: nw) (∀ p ∈ nw, p.1 ≠ T)) :=
  JX.mono (jx_tup (jargs_cons h1 hs (jargs_cons h2 hs2 jargs0)) fun vs ⟨_, _, e, _, _, e', e''⟩ => by subst e e' e''; simp) fun v n ⟨T, vs, ⟨t, _, e, u, _, e', e''⟩, e1, e2, ap⟩ => by subst e e' e''; exact ⟨T, t, u, e1, e2, ap⟩
theorem jx_tup2R {T : Value → Prop} (h1 : JE c F lm nw e1 (fun v n => n = nw ∧ T v)) (h2 : JA c F lm nw e2 g2) (hs : simpE e1 = true := by rfl) (hs2 : simpE e2 = true := by rfl) : JE c F lm nw (.Tuple [e1, e2] k1 pos) (fun v n => E3 fun A a u => A3 (v = .ref A) (n = (A, tupO [a, g2 u]) :: nw) (T a)) :=
  JX.mono (jx_tup (jargs_consR h1 hs (jargs_cons h2 hs2 jargs0)) fun vs ⟨_, _, e, _, _, _, e', e''⟩ => by subst e e' e''; simp) fun v n ⟨A, vs, ⟨a, _, e, r, u, _, e', e''⟩, e1, e2, _⟩ => by subst e e' e''; exact ⟨A, a, u, e1, e2, r⟩
/-- stores, in order -/
theorem store2 {k : Value → Lm} {k' : Value → Value → Lm} (hy : SetK y lm k) (hx : ∀ v, SetK x (k v) (k' v)) {v w : Value} {s : Shared} {m : Str → Option Value} {Q : Unit → Shared → Prop} (ok : COk c F) (hn : lm.map (·.1) = F.names) (Fm : Fr c.g c.L s.heap m) (hm : ∀ x v, (x, some v) ∈ lm → m x = some v) (N : News c.g c.L s.heap nw)
    (hQ : ∀ h' tk' m', (k' v w).map (·.1) = F.names → Fr c.g c.L h' m' → (∀ x u, (x, some u) ∈ k' v w → m' x = some u) → News c.g c.L h' nw → Q () { s with heap := h', toks := tk' }) :
    wpAny (model PR c.w) (c.A F) (assignInOrder [fun u => bindName (F.env c.L) y u, fun u => bindName (F.env c.L) x u] [v, w]) Q (fun _ _ => False) s :=
  assignInOrder_cons (bindName_ (store_loc hy ok hn Fm hm N fun h₁ tk₁ m₁ hn₁ F₁ hm₁ N₁ => assignInOrder_cons (bindName_ (store_loc (s := { s with heap := h₁, toks := tk₁ }) (hx v) ok hn₁ F₁ hm₁ N₁ fun h₂ tk₂ m₂ hn₂ F₂ hm₂ N₂ => assignInOrder_nil (hQ h₂ tk₂ m₂ hn₂ F₂ hm₂ N₂)))))
/-- `a, b = (x, y)`, plain names -/
theorem js_asg2 {k : Value → Lm} {k' : Value → Value → Lm} (h1 : JA c F lm nw e1 g1) (h2 : JA c F lm nw e2 g2) (hy : SetK y lm k) (hx : ∀ v, SetK x (k v) (k' v)) (hr : ∀ t u, JS c F (k' (g2 u) (g1 t)) nw rest P)
    (hw : swappedStores [.Tuple [.Name x xp, .Name y yp] k1 tp] (.Tuple [e1, e2] k2 vp) (F.env c.L) = pure (some [x, y]) := by rfl) (hs : simpE e1 = true := by rfl) (hs2 : simpE e2 = true := by rfl) :
    JS c F lm nw (.Assign [.Tuple [.Name x xp, .Name y yp] k1 tp] (.Tuple [e1, e2] k2 vp) pos :: rest) P :=
  js_cons fun s m Q ok hn Fm hm N hQ => Assign_Tuple_swapped (names := [x, y]) (jx_tup2 h1 h2 hs hs2 s m _ ok hn Fm hm N fun v h' tk' n ⟨T, t, u, ev, en, _⟩ F' N' => by
    subst ev en
    refine unpackItemsN_ (s := { s with heap := h', toks := tk' }) (items := #[g1 t, g2 u]) F' N' (News.isTup N' (.head _)) rfl rfl fun h₂ F₂ N₂ => ?_
    exact store2 (s := { s with heap := h₂, toks := tk' }) hy hx ok hn F₂ hm (fun p hp => N₂ p (.tail _ hp)) fun h₃ tk₃ m₃ hn₃ F₃ hm₃ N₃ => hQ .next h₃ tk₃ m₃ _ nw (hr t u) hn₃ F₃ hm₃ N₃) rfl hw
/-- `a, b = e`, a tuple of the ledger's -/
theorem js_unpack2 {k : Value → Lm} {k' : Value → Value → Lm} {S : Value → Value → Led → Prop} (h : JE c F lm nw e (fun v n => E4 fun T a b n' => A3 (v = .ref T) (n = (T, tupO [a, b]) :: n') (S a b n'))) (hx : SetK x lm k) (hy : ∀ v, SetK y (k v) (k' v)) (hr : ∀ a b n', S a b n' → JS c F (k' a b) n' rest P)
    (hs : swapsWithSole [.Tuple [.Name x xp, .Name y yp] k1 tp] e pos.line (F.env c.L) = pure false := by rfl) (hw : swappedStores [.Tuple [.Name x xp, .Name y yp] k1 tp] e (F.env c.L) = pure none := by rfl) :
    JS c F lm nw (.Assign [.Tuple [.Name x xp, .Name y yp] k1 tp] e pos :: rest) P :=
  js_cons fun s m Q ok hn Fm hm N hQ => Assign_Tuple (h s m _ ok hn Fm hm N fun v h' tk' n ⟨T, a, b, n', ev, en, r⟩ F' N' => by
    subst ev en
    refine unpackN_ (s := { s with heap := h', toks := tk' }) (items := #[a, b]) F' N' (News.isTup N' (.head _)) rfl rfl rfl fun h₂ F₂ N₂ => ?_
    exact assignInOrder_cons (assign_Name (store_loc (s := { s with heap := h₂, toks := tk' }) hx ok hn F₂ hm (fun p hp => N₂ p (.tail _ hp)) fun h₁ tk₁ _ hn₁ F₁ hm₁ N₁ => assignInOrder_cons (assign_Name (store_loc (s := { s with heap := h₁, toks := tk₁ }) (hy a) ok hn₁ F₁ hm₁ N₁ fun h₃ tk₃ m₃ hn₃ F₃ hm₃ N₃ =>
      assignInOrder_nil (hQ .next h₃ tk₃ m₃ _ n' (hr a b n' r) hn₃ F₃ hm₃ N₃)))))) hs hw
end
/-! lists of ints -/
section
variable {c : Cx} {F : FD} {lm : Lm} {nw nw' : Led} {pos apos xp lp : Pos} {e e1 e2 i hi : PySem.Expr} {x name : Str} {R : Value → Led → Prop} {g g1 g2 : Tok → Value} {rest : List Stmt} {P : Flow → Lm → Led → Prop} {vs : List Value} {ns : List Int} {a : Addr} {k : Nat} {n y : Int}
theorem jx_sub {α : Type} {t : Sem α} {R : α → Led → Prop} (h : JX c F lm nw' t R) (hs : ∀ p ∈ nw', p ∈ nw) : JX c F lm nw t R := fun s m Q ok hn Fm hm N hQ => h s m Q ok hn Fm hm (fun p hp => N p (hs p hp)) hQ
/-- `e[:hi]` -/
theorem jx_lslice (h : JV c F lm nw e (.ref a)) (hu : JI c F lm nw hi n) (hm : (a, listOf vs.toArray k) ∈ nw) (hv : IntsAre vs ns) (h0 : 0 ≤ n) (hz : ns.length ≤ 1000) : JE c F lm nw (.Subscript e (.Slice none (some hi) none apos) pos)
    (fun v n' => E2 fun D ws => A4 (v = .ref D) (n' = (D, listOf (List.toArray ws) 0) :: nw) (IntsAre ws (ns.take n.toNat)) (∀ p ∈ nw, p.1 ≠ D)) := fun s m Q ok hn Fm hm' N hQ =>
  Subscript_ (h s m _ ok hn Fm hm' N fun v h' tk' n₁ ⟨e, u, e'⟩ F' N' => wpAny_Slice (evalPart_none_step (hu { s with heap := h', toks := tk' } m _ ok hn F' hm' (e ▸ N') fun v₂ h₂ tk₂ n₂ ⟨e₂, u₂, e₂'⟩ F₂ N₂ => evalPart_none_step (by
    subst e e' e₂ e₂'
    have hl : h₂.IsList a vs.toArray := News.isList N₂ hm
    have hz' : vs.toArray.size ≤ sizeLine := by rw [List.size_toArray, hv.length, sizeLine_eq]; lia
    refine tail_any (Heap.IsList.typeIs (s := { s with heap := h₂.push { cls := .type "slice", data := .fields #[.none, .int n u₂, .none] }, toks := tk₂ }) (hl.push _)) list_getitem_lookup
      (wpAny_getItem_list_slice (hl.push _) (Heap.IsSliceOf.new ..) .none (.int n u₂) .none (by simp) ?_ hz') rfl
    have N1 := News.push (F₂.push { cls := .type "slice", data := .fields #[.none, .int n u₂, .none] }) (N₂.grown fun _ _ e => Heap.get?_push_of_some _ e) { cls := .type "list", data := .seq (slicePick vs.toArray none (some n) none) }
    refine hQ _ _ tk₂ _ ⟨_, (slicePick vs.toArray none (some n) none).toList, rfl, ?_, kmk_upto hv h0, fun p hp => ?_⟩ ((F₂.push _).push _) N1
    · rw [Array.toArray_toList]
    · have h1 : p.1 < h₂.objs.size := Heap.lt_size (N₂ p hp).1
      show p.1 ≠ (h₂.push _).objs.size
      rw [Heap.size_push]
      exact Nat.ne_of_lt (Nat.lt_succ_of_lt h1)))))
/-- `[e]` -/
theorem jx_list1 (h : JA c F lm nw e g) (hs : simpE e = true := by rfl) : JE c F lm nw (.List [e] pos) (fun v n' => E2 fun D t => A3 (v = .ref D) (n' = (D, listOf (List.toArray [g t]) 0) :: nw) (∀ p ∈ nw, p.1 ≠ D)) := fun s m Q ok hn Fm hm N hQ =>
  List_ (jargs_cons h hs jargs0 s m _ ok hn Fm hm N fun vs h' tk' n ⟨e, t, vs', e1, e2⟩ F' N' => by
    subst e e1 e2
    exact newList_K (s := { s with heap := h', toks := tk' }) F' N' (fun l h₂ F₂ N₂ ap => hQ _ h₂ tk' _ ⟨l, t, rfl, rfl, fun p hp => Nat.ne_of_lt (ap p hp)⟩ F₂ N₂) (by rw [sizeLine_eq]; simp))
theorem jx_list0 : JE c F lm nw (.List [] pos) (fun v n' => ∃ D, v = .ref D ∧ n' = (D, listOf (List.toArray []) 0) :: nw ∧ ∀ p ∈ nw, p.1 ≠ D) := fun s m Q ok hn Fm hm N hQ =>
  List_ (args_nil (newList_K (s := s) Fm N (fun l h₂ F₂ N₂ ap => hQ _ h₂ s.toks _ ⟨l, rfl, rfl, fun p hp => Nat.ne_of_lt (ap p hp)⟩ F₂ N₂) (by rw [sizeLine_eq]; simp)))
/-- `e[:hi] + [x]` -/
theorem jx_lpush (h : JV c F lm nw e (.ref a)) (hu : JI c F lm nw hi n) (hm : (a, listOf vs.toArray k) ∈ nw) (hv : IntsAre vs ns) (h0 : 0 ≤ n) (hz : ns.length ≤ 100) (h2 : ∀ D o, JI c F lm ((D, o) :: nw) e1 y) (hs : simpE e1 = true := by rfl) :
    JE c F lm nw (.BinOp (.Subscript e (.Slice none (some hi) none apos) pos) .Add (.List [e1] lp) xp) (fun v n' => E2 fun D ws => A4 (v = .ref D) (n' = (D, listOf (List.toArray ws) 0) :: nw) (IntsAre ws (ns.take n.toNat ++ [y])) (∀ p ∈ nw, p.1 ≠ D)) :=
  JX.bind2 (f := fun a b => binaryOp .Add a b) (t2 := fun _ => eval (.List [e1] lp) (F.env c.L))
    (R2 := fun v b n' => E2 fun D ws => A3 (v = .ref D) (IntsAre ws (ns.take n.toNat)) (E2 fun D2 t => b = .ref D2 ∧ n' = (D2, listOf (List.toArray [Value.int y t]) 0) :: (D, listOf (List.toArray ws) 0) :: nw))
    (fun _ _ z => wpAny_BinOp z) (jx_lslice h hu hm hv h0 (by lia))
    (fun v n' ⟨D, ws, e1, e2, hi, _⟩ => by subst e1 e2; exact JX.mono (jx_list1 (h2 D _) hs) fun b n'' ⟨D2, t, e3, e4, _⟩ => ⟨D, ws, rfl, hi, D2, t, e3, e4⟩)
    fun v b n' ⟨D, ws, e1, hi, D2, t, e2, e3⟩ => by
      subst e1 e2 e3
      intro s m Q ok hn Fm hm' N hQ
      refine add_lists_ints Fm N (News.isList N (.tail _ (.head _))) (News.isList N (.head _)) hi (.cons y t .nil) (fun h' F' N' hI => hQ _ h' s.toks _ ⟨_, _, rfl, rfl, hI, fun p hp => Nat.ne_of_lt (Heap.lt_size (N p (.tail _ (.tail _ hp))).1)⟩ F' fun p hp => N' p ?_) ?_
      · rcases List.mem_cons.mp hp with rfl | hp
        · exact .head _
        · exact .tail _ (.tail _ (.tail _ hp))
      · rw [sizeLine_eq, List.length_take]; simp only [List.length_cons, List.length_nil]; lia
/-- `x.name = v` -/
noncomputable def SetsA (c : Cx) (F : FD) (lm : Lm) (nw : Led) (o : Value) (name : Str) (v : Value) (nw' : Led) : Prop := JX c F lm nw (setAttr o name v) (fun _ n => n = nw')
theorem sa_of {x D C : Addr} {es es' : List DictEntry} {k : Nat} {v : Value} (h1 : (x, instObj C D) ∈ nw) (h2 : (D, dictOf es k) ∈ nw) (hs : findIn (hd.heap_39 c.w.params) (.ref C) "__setattr__" = some (some (.builtin "object.__setattr__"))) (hp : plainOver (hd.heap_39 c.w.params) C = true) (ht : takerIn (hd.heap_39 c.w.params) C name = some none)
    (hh : hasDictIn (hd.heap_39 c.w.params) C = true) (hl : (getL name es).isSome = true) (he : ∀ t, (putL name (PyData.keyHash c.w.params name) (.str name t) v es, putN name es k) = (es', k)) (U : Upd D (dictOf es k) (dictOf es' k) nw nw') (hz : es'.length ≤ 1000) : SetsA c F lm nw (.ref x) name v nw' :=
  fun s m Q ok _ Fm hm N hQ => set_dict Fm ok.X N (InstAt.of_news N h1 h2) rfl hs hp ht hh hl (he _) U hz fun h' F' N' => hQ _ h' _ _ rfl F' N'
theorem js_setattr {ov : Value} (ho : ∀ n, JV c F lm n (.Name x xp) ov) (h : JE c F lm nw e R) (hr : ∀ v n, R v n → ∃ n', SetsA c F lm n ov name v n' ∧ JS c F lm n' rest P) (hs : simpE e = true := by rfl) : JS c F lm nw (.Assign [.Attribute (.Name x xp) name apos] e pos :: rest) P :=
  js_cons fun s m Q ok hn Fm hm N hQ => plainObj_wpAny_Assign_Attribute (h s m _ ok hn Fm hm N fun v h' tk' n r F' N' => ho n { s with heap := h', toks := tk' } m _ ok hn F' hm N' fun v₂ h₂ tk₂ n₂ ⟨e₂, _, e₂'⟩ F₂ N₂ => by
    subst e₂ e₂'
    obtain ⟨n', hset, hj⟩ := hr v n₂ r
    exact hset { s with heap := h₂, toks := tk₂ } m _ ok hn F₂ hm N₂ fun _ h₃ tk₃ n₃ e₃ F₃ N₃ => hQ .next h₃ tk₃ m lm n' hj hn F₃ hm (e₃ ▸ N₃)) (swaps_simp hs _ _ _)
/-- `x.name += e` -/
theorem js_augattr {ov old : Value} {op : Operator} {nf : Tok → Led} (ho : JV c F lm nw (.Name x xp) ov) (hg : HasA c F lm nw ov name old) (h : JA c F lm nw e g) (hi : ∀ t, InplIs op old (g t) g2) (hset : ∀ t, SetsA c F lm nw ov name (g2 t) (nf t)) (hr : ∀ t, JS c F lm (nf t) rest P) : JS c F lm nw (.AugAssign (.Attribute (.Name x xp) name apos) op e pos :: rest) P :=
  js_cons fun s m Q ok hn Fm hm N hQ => wpAny_AugAssign_AttributeAny (ho s m _ ok hn Fm hm N fun v h' tk' n ⟨e, _, e'⟩ F' N' => by
    subst e e'
    refine hg { s with heap := h', toks := tk' } m _ ok hn F' hm N' fun v₁ h₁ tk₁ n₁ ⟨e₁, e₁'⟩ F₁ N₁ => ?_
    subst e₁ e₁'
    refine h { s with heap := h₁, toks := tk₁ } m _ ok hn F₁ hm N₁ fun v₂ h₂ tk₂ n₂ ⟨e₂, t, e₂'⟩ F₂ N₂ => ?_
    subst e₂ e₂'
    exact hi t _ _ _ _ { s with heap := h₂, toks := tk₂ } fun u tk₃ => hset u { s with heap := h₂, toks := tk₃ } m _ ok hn F₂ hm N₂ fun _ h₄ tk₄ n₄ e₄ F₄ N₄ => hQ .next h₄ tk₄ m lm _ (hr u) hn F₄ hm (e₄ ▸ N₄))
/-- `l[i] = e`, a list of ints of the ledger's -/
theorem js_setitem {nf : Value → Led} (h : JA c F lm nw e1 (Value.int y)) (ho : JV c F lm nw e (.ref a)) (hi : JI c F lm nw i n) (hU : ∀ t, Upd a (listOf vs.toArray k) (listOf (vs.set n.toNat (.int y t)).toArray k) nw (nf (.int y t))) (hv : IntsAre vs ns) (h0 : 0 ≤ n) (h1 : n < ns.length) (hz : n ≤ 1000)
    (hr : ∀ t, IntsAre (vs.set n.toNat (.int y t)) (ns.set n.toNat y) → JS c F lm (nf (.int y t)) rest P) (hs : simpE e1 = true := by rfl) : JS c F lm nw (.Assign [.Subscript e i apos] e1 pos :: rest) P :=
  js_cons fun s m Q ok hn Fm hm N hQ => wpAny_Assign_Subscript (h s m _ ok hn Fm hm N fun v h' tk' n' ⟨e, t, e'⟩ F' N' => by
    subst e e'
    refine ho { s with heap := h', toks := tk' } m _ ok hn F' hm N' fun v₁ h₁ tk₁ n₁ ⟨e₁, _, e₁'⟩ F₁ N₁ => ?_
    subst e₁ e₁'
    refine hi { s with heap := h₁, toks := tk₁ } m _ ok hn F₁ hm N₁ fun v₂ h₂ tk₂ n₂ ⟨e₂, _, e₂'⟩ F₂ N₂ => ?_
    subst e₂ e₂'
    exact ksa_set (s := { s with heap := h₂, toks := tk₂ }) F₂ N₂ (hU t) hv h0 h1 (by lia) fun h₃ F₃ N₃ hI _ _ => hQ .next h₃ tk₂ m lm _ (hr t hI) hn F₃ hm N₃) (swaps_simp hs _ _ _)
end
/-! a loop over a range with an invariant of the turn's number -/
section
variable {prog : Program} {w : World} {A : Around} {E : Value → Shared → Prop} {s : Shared} {env : Env} {h₀ : Heap} {x : Str} {body : List Stmt} {Q : Flow → Shared → Prop}
theorem iter_rangeJ {r : Addr} {a₀ b₀ : Int} {t₀ u₀ v₀ : Tok} {n : Nat} {m₀ : Str → Option Value} {news : Led}
    (J : Nat → (Str → Option Value) → Led → Prop)
    (hh : A.handled = none) (hr : IsRange s.heap r a₀ b₀ 1 t₀ u₀ v₀) (hsmall : Builtin.Range.small a₀ b₀ 1 = true) (hn : Builtin.Range.rangeSize a₀ b₀ 1 = (n : Int)) (F : Fr h₀ env.locals s.heap m₀) (N : News h₀ env.locals s.heap news) (hj : J 0 m₀ news)
    (turn : ∀ (i : Nat) t m₁ nx h tk own, i < n → nx.map (·.1) = news.map (·.1) → OwnOff own (news.map (·.1)) → J i m₁ nx → Fr h₀ env.locals h (fun y => if y = x then some (.int (a₀ + (i : Int)) t) else m₁ y) → News h₀ env.locals h (nx ++ own) →
      wpAny (model prog w) A (execs body env) (InvPostN h₀ env.locals (J (i + 1)) own (news.map (·.1)) { s with heap := h, toks := tk } Q) E { s with heap := h, toks := tk })
    (done : ∀ m₁ nx h tk, J n m₁ nx → Fr h₀ env.locals h m₁ → News h₀ env.locals h nx → Q .next { s with heap := h, toks := tk }) :
    wpAny (model prog w) A (pyIter (.ref r)) (fun it s₂ => LoopAtV prog w A h₀ env x body Q E it s₂) E s := by
  refine wpAny_pyIter_range hr hsmall ?_
  have W : Walks prog w A s.heap.objs.size [s.heap.objs.size] [s.heap.objs.size] n (fun i v => i < n ∧ ∃ t, v = .int (a₀ + i * 1) t)
      (fun i h => IsRangeIter h s.heap.objs.size (a₀ + (i : Nat) * 1) ((n : Int) - (i : Nat)) 1) := (Walks.range hh _ a₀ 1 n).bound
  refine loop_invN J W ?_ ?_ ?_ ?_ (by show IsRangeIter _ _ _ _ _; rw [hn]; simpa using Heap.get?_push_size _ rfl) (F.push _) (fun p hp => ⟨Heap.get?_push_of_some _ (N p hp).1, (N p hp).2⟩) hj ?_ done
  · intro hm
    exact absurd F.ns.lt ((List.mem_singleton.mp hm) ▸ Nat.lt_irrefl _)
  · intro b hb
    rw [List.mem_singleton.mp hb]
    exact next_is_new F
  · intro p hp hI
    exact absurd (Heap.lt_size (N p hp).1) ((List.mem_singleton.mp hI) ▸ Nat.lt_irrefl _)
  · intro p hp hI
    exact absurd (Heap.lt_size (N p hp).1) ((List.mem_singleton.mp hI) ▸ Nat.lt_irrefl _)
  · rintro i v m₁ nx h tk own hi ⟨_, t, rfl⟩ ha ho hJ F' N'
    exact turn i t m₁ nx h tk own hi ha ho hJ (by simpa using F') N'
end
/-! the same in short judgements -/
section
variable {prog : Program} {w : World} {A : Around} {E : Value → Shared → Prop} {s : Shared} {env : Env} {h₀ : Heap} {body : List Stmt} {Q : Flow → Shared → Prop}
theorem iter_led {target : PySem.Expr} {R : Addr} {items : Array Value} {cr : Nat} {m₀ : Str → Option Value} {news₀ : Led} (J : Nat → (Str → Option Value) → Led → Prop)
    (hh : A.handled = none) (F : Fr h₀ env.locals s.heap m₀) (N : News h₀ env.locals s.heap news₀) (hR : (R, listOf items cr) ∈ news₀) (hj : J 0 m₀ news₀)
    (hkeep : ∀ i m nx, J i m nx → (R, listOf items cr) ∈ nx)
    (hgo : ∀ (i : Nat) v, items[i]? = some v → ∀ I (s : Shared) j (Q : Unit → Shared → Prop) (E : Value → Shared → Prop), s.heap.IsListIter I R j → Q () s → wpAny (model prog w) A (letOwnedTupleGo target (.ref I) v) Q E s)
    (turn : ∀ i v m₁ nx h tk own, items[i]? = some v → nx.map (·.1) = news₀.map (·.1) → OwnOff own (news₀.map (·.1)) → J i m₁ nx → Fr h₀ env.locals h m₁ → News h₀ env.locals h (nx ++ own) →
      wpAny (model prog w) A (assign target env v) (fun _ s₂ => wpAny (model prog w) A (execs body env) (InvPostN h₀ env.locals (J (i + 1)) own (news₀.map (·.1)) { s with heap := h, toks := tk } Q) E s₂) E { s with heap := h, toks := tk })
    (done : ∀ m₁ nx h tk, J items.size m₁ nx → Fr h₀ env.locals h m₁ → News h₀ env.locals h nx → Q .next { s with heap := h, toks := tk })
    (hE : PassesOwn (model prog w) A env E) :
    wpAny (model prog w) A (pyIter (.ref R)) (fun it s₂ => codeAny (model prog w) A (.forLoop target it body [] env) (fun r s' => match r with | .ok f => Q f s' | .error e => cameBackBy (model prog w) A env E e s') s₂) E s := by
  have hl : s.heap.IsList R items := ⟨_, (N _ hR).1, rfl, cr, rfl⟩
  refine wpAny_pyIter_list hl ?_
  have hI0 : ∀ p ∈ news₀, p.1 ≠ s.heap.objs.size := fun p hp => Nat.ne_of_lt (Heap.lt_size (N p hp).1)
  have hIL : s.heap.objs.size ≠ env.locals := fun e => absurd F.ns.lt (by rw [← e]; exact Nat.lt_irrefl _)
  have hIn : h₀.get? s.heap.objs.size = none := by
    cases e : h₀.get? s.heap.objs.size with
    | none => rfl
    | some o => exact absurd (Heap.lt_size (F.keep _ o e)) (Nat.lt_irrefl _)
  have hRI : R ≠ s.heap.objs.size := hI0 (R, _) hR
  have hpush : (s.heap.push { cls := .type "list_iterator", data := .fields #[.ref R, .int 0 0] }).IsListIter s.heap.objs.size R 0 := ⟨_, Heap.get?_push_size _ rfl, rfl, rfl⟩
  generalize s.heap.objs.size = I at hI0 hIL hIn hRI hpush ⊢
  refine codeAny_forLoop_any (fun k s' => E5 fun h' tk m' nx i => A8 (s' = { s with heap := h', toks := tk }) (h'.IsListIter I R i) (Fr h₀ env.locals h' m') (News h₀ env.locals h' nx) (nx.map (·.1) = news₀.map (·.1)) (J i m' nx) (i ≤ items.size) (k = items.size + 1 - i)) ?_ (items.size + 1) ?_
  · rintro k s' ⟨h', tk, m', nx, i, rfl, hit, F', N', ha, hJ, hi, rfl⟩
    have hl' : h'.IsList R items := ⟨_, (N' _ (hkeep _ _ _ hJ)).1, rfl, cr, rfl⟩
    have hnI : ∀ p ∈ nx, p.1 ≠ I := by
      intro p hp
      have : p.1 ∈ nx.map (·.1) := List.mem_map_of_mem hp
      rw [ha] at this
      obtain ⟨q, hq, e⟩ := List.mem_map.mp this
      exact e ▸ hI0 q hq
    by_cases hlt : i < items.size
    · have hv : items[i]? = some items[i] := by simp [hlt]
      refine wpAny_pyNext_list_item hit hl' hv fun h₁ hit₁ hs₁ => ?_
      have F₁ : Fr h₀ env.locals h₁ m' := F'.change hs₁ hIL hIn
      have N₁ : News h₀ env.locals h₁ nx := fun p hp => ⟨(hs₁.2 p.1 (hnI p hp)).trans (N' p hp).1, (N' p hp).2⟩
      refine hgo i _ hv I _ (i + 1) _ _ hit₁ ?_
      obtain ⟨oI, hoI, hoI'⟩ := id hit₁
      have own : News h₀ env.locals h₁ [(I, oI)] := fun p hp => by rw [List.mem_singleton.mp hp]; exact ⟨hoI, hIL, hIn⟩
      refine wpAny_mono (turn i _ m' nx h₁ tk [(I, oI)] hv ha (fun p hp b hb e => ?_) hJ F₁ (N₁.append own)) (fun _ s₂ h₂ => wpAny_mono h₂ (fun f s₃ h₃ => ?_) hE) hE
      · rw [List.mem_singleton.mp hp] at e
        obtain ⟨q, hq, rfl⟩ := List.mem_map.mp hb
        exact hI0 q hq e.symm
      · have fin : InvEndN h₀ env.locals (J (i + 1)) [(I, oI)] (news₀.map (·.1)) { s with heap := h₁, toks := tk } s₃ → ∃ m, m < items.size + 1 - i ∧ E5 fun h' tk m' nx i => A8 (s₃ = { s with heap := h', toks := tk }) (h'.IsListIter I R i) (Fr h₀ env.locals h' m') (News h₀ env.locals h' nx) (nx.map (·.1) = news₀.map (·.1)) (J i m' nx) (i ≤ items.size) (m = items.size + 1 - i) := by
          rintro ⟨h₂, tk₂, m₂, news₂, nx₂, rfl, F₂, N₂, hn₂, ho₂, ha₂, hJ₂⟩
          exact ⟨items.size + 1 - (i + 1), by lia, h₂, tk₂, m₂, nx₂, i + 1, rfl, ⟨oI, (N₂ _ (ho₂ _ (.head _))).1, hoI'⟩, F₂, fun p hp => N₂ p (hn₂ p hp), ha₂, hJ₂, hlt, rfl⟩
        cases f with
        | ret v => exact h₃
        | brk => exact h₃
        | next => exact fin h₃
        | cont => exact fin h₃
    · obtain rfl : i = items.size := by lia
      refine wpAny_pyNext_list_end hh hit hl' (by simp) fun h₁ hs₁ => wpAny_execs_nil ?_
      have hk : ∀ b o, b ≠ I → h'.get? b = some o → h₁.get? b = some o := fun b o hb e => hs₁ b o hb e
      refine done m' nx h₁ tk hJ ⟨F'.ns.at' fun o e => hk _ o (Ne.symm hIL) e, fun b o e => hk b o (fun q => by rw [q, hIn] at e; cases e) (F'.keep b o e), F'.above⟩ fun p hp => ⟨hk _ _ (hnI p hp) (N' p hp).1, (N' p hp).2⟩
  · exact ⟨_, _, m₀, news₀, 0, rfl, hpush, F.push _, fun p hp => ⟨Heap.get?_push_of_some _ (N p hp).1, (N p hp).2⟩, rfl, hj, Nat.zero_le _, rfl⟩
theorem go_name {x : Str} {px : Pos} {I : Addr} {v : Value} {A : Around} {s : Shared} {Q : Unit → Shared → Prop} {E : Value → Shared → Prop} (h : Q () s) : wpAny (model prog w) A (letOwnedTupleGo (.Name x px) (.ref I) v) Q E s := wpAny_pure h
end
noncomputable abbrev rangeO (a b : Int) (t u v : Tok) : Obj := { cls := .type "range", dict := none, data := .fields #[.int a t, .int b u, .int 1 v], slots := #[] }
/-- a turn's end: `own` is what the loop itself holds -/
noncomputable def TurnF (c : Cx) (F : FD) (rest : List Stmt) (P : Flow → Lm → Led → Prop) (J : Lm → Led → Prop) (own : Led) (adr : List Addr) : Flow → Lm → Led → Prop
  | .brk, lm, nw => JS c F lm nw rest P
  | .ret v, lm, nw => P (.ret v) lm nw
  | _, lm, nw => ∃ nx, J lm nx ∧ nx.map (·.1) = adr ∧ (∀ p ∈ nx, p ∈ nw) ∧ ∀ p ∈ own, p ∈ nw
section
variable {c : Cx} {F : FD} {lm : Lm} {nw : Led} {pos xp yp : Pos} {e e1 e2 it target : PySem.Expr} {x y : Str} {rest body : List Stmt} {P : Flow → Lm → Led → Prop} {a b : Int} {R : Addr} {k : Nat}
/-- arguments that turn the ledger -/
theorem jx_callWithX {f : Value} {first : List Value} {es : List PySem.Expr} {R : Value → Led → Prop} {Rv : List Value → Led → Prop} (hk : Kept c.w f) (hs : (e :: es).all simpE = true) (ha : JX c F lm nw (spliced (backTo pos (starEach (e :: es) (F.env c.L)))) Rv) (hc : ∀ vs n, Rv vs n → JX c F lm n (call f (first ++ vs)) R) :
    JX c F lm nw (callWith pos f first (backTo pos (starEach (e :: es) (F.env c.L))) []) R := fun s m Q ok hn Fm hm N hQ => by
  rw [List.all_cons, Bool.and_eq_true] at hs
  have he := star_simp hs.1 es (F.env c.L)
  have h2 : (backTo pos (starEach es (F.env c.L))).any (·.1) = false := star_all hs.2
  have key := ha s m (fun vs s₁ => (hd.heap_39 c.w.params).In s₁.heap ∧ wpAny (model PR c.w) (c.A F) (call f (first ++ vs)) Q (fun _ _ => False) s₁) ok hn Fm hm N fun vs h' tk' n r F' N' =>
    ⟨ok.X.keeps F'.keep, hc vs n r { s with heap := h', toks := tk' } m Q ok hn F' hm N' fun v h₂ tk₂ n₂ r₂ F₂ N₂ => hQ v h₂ tk₂ n₂ r₂ F₂ N₂⟩
  rw [he] at key ⊢
  exact callWith_of (P := (hd.heap_39 c.w.params).In) (by show ((false || (backTo pos (starEach es (F.env c.L))).any (·.1)) || false) = false; rw [h2]; rfl) hk (evalArgs_plain key)
theorem jx_name1X {f : Value} {R R1 : Value → Led → Prop} (hf : JV c F lm nw (.Name x xp) f) (hk : Kept c.w f) (h1 : JE c F lm nw e1 R1) (hc : ∀ v n, R1 v n → JX c F lm n (call f [v]) R) (hs : simpE e1 = true := by rfl) : JE c F lm nw (.Call (.Name x xp) [e1] [] pos) R :=
  JQ.bind1 (fun _ _ z => Call_ z (eval_CallName _ _ _ _ _)) hf fun _ => jx_callWithX (first := []) (Rv := fun vs n => ∃ v, vs = [v] ∧ R1 v n) hk (by simp [hs]) (fun s m Q ok hn Fm hm N hQ => args_cons (h1 s m _ ok hn Fm hm N fun v h' tk' n r F' N' => args_nil (hQ [v] h' tk' n ⟨v, rfl, r⟩ F' N')) (star_simp hs _ _)) fun vs n ⟨v, e, r⟩ => by subst e; exact hc v n r
variable {S : Led → Prop}
theorem jx_range1 (hf : (x, .type "range") ∈ F.bl) (h : JE c F lm nw e (fun v n => (∃ t, v = .int b t) ∧ S n)) (hs : simpE e = true := by rfl) : JE c F lm nw (.Call (.Name x xp) [e] [] pos) (fun v n => E5 fun T t u z n' => A3 (v = .ref T) (n = (T, rangeO 0 b t u z) :: n') (S n')) :=
  jx_name1X (ja_blt hf) kept_type h (fun v n ⟨⟨t, e⟩, r⟩ => by subst e; exact fun s m Q ok hn Fm hm N hQ => call_range_1 (hQ _ _ _ _ ⟨_, _, _, _, _, rfl, rfl, r⟩ (Fm.push _) (News.push Fm N _))) hs
theorem jx_range2 (hf : (x, .type "range") ∈ F.bl) (h1 : JI c F lm nw e1 a) (h2 : JI c F lm nw e2 b) (hs : simpE e1 = true := by rfl) (hs2 : simpE e2 = true := by rfl) : JE c F lm nw (.Call (.Name x xp) [e1, e2] [] pos) (fun v n => E5 fun T t u z n' => A3 (v = .ref T) (n = (T, rangeO a b t u z) :: n') (n' = nw)) :=
  jx_name2 (ja_blt hf) kept_type h1 h2 (fun t u s m Q ok hn Fm hm N hQ => call_range_2 (hQ _ _ _ _ ⟨_, _, _, _, _, rfl, rfl, rfl⟩ (Fm.push _) (News.push Fm N _))) hs hs2
/-- `for x in range(..)` -/
theorem js_range {n : Nat} {adr : List Addr} (J : Nat → Lm → Led → Prop) (h : JE c F lm nw it (fun v n => E5 fun T t u z n' => A3 (v = .ref T) (n = (T, rangeO a b t u z) :: n') (S n'))) (hsmall : Builtin.Range.small a b 1 = true) (hn : Builtin.Range.rangeSize a b 1 = (n : Int)) (h0 : ∀ n', S n' → J 0 lm n' ∧ n'.map (·.1) = adr) (hx : x ∈ F.names)
    (ht : ∀ i t lm₁ nx own, i < n → nx.map (·.1) = adr → OwnOff own adr → J i lm₁ nx → ∃ kx, SetK x lm₁ kx ∧ JS c F (kx (.int (a + (i : Int)) t)) (nx ++ own) body (TurnF c F rest P (J (i + 1)) own adr))
    (hd : ∀ lm₁ nx, J n lm₁ nx → JS c F lm₁ nx rest P) (hs : ∀ env x, foldedSetIterable it env x = pure x := by intro _ _; rfl) : JS c F lm nw (.For (.Name x xp) it body [] pos :: rest) P :=
  js_cons fun s m Q ok hnm Fm hm N hQ => For_invV c.g (by show F.scope.names.lookup x = some .local; exact (ok.fok.loc x hx).1) (by show (F.scope.kind == .class || (F.scope.kind == .module && _)) = false; rw [ok.fok.kind]; rfl)
    (h s m _ ok hnm Fm hm N fun v h' tk' n' ⟨T, t, u, z, n₁, e, e', hS⟩ F' N' => by
      subst e e'
      obtain ⟨hj0, rfl⟩ := h0 _ hS
      refine iter_rangeJ (s := { s with heap := h', toks := tk' }) (fun i m nx => ∃ lm, lm.map (·.1) = F.names ∧ (∀ x v, (x, some v) ∈ lm → m x = some v) ∧ J i lm nx) rfl (N' _ (.head _)).1 hsmall hn F' (fun p hp => N' p (.tail _ hp)) ⟨lm, hnm, hm, hj0⟩ ?_ ?_
      · rintro i t' m₁ nx h₁ tk own hi ha ho ⟨lm₁, hn₁, hm₁, hJ⟩ F₁ N₁
        obtain ⟨kx, hk, hj⟩ := ht i t' lm₁ nx own hi ha ho hJ
        refine hj { s with heap := h₁, toks := tk } _ _ ok ((hk.names _).1.trans hn₁) F₁ (fun y w hy => ?_) N₁ fun fl h₂ tk₂ m₂ lm₂ nw₂ r hn₂ F₂ hm₂ N₂ => ?_
        · rcases hk.mem (hn₁ ▸ ok.fok.nodup) _ y w hy with ⟨rfl, rfl⟩ | ⟨h1, h2⟩
          · exact if_pos rfl
          · rw [if_neg h1]; exact hm₁ y w h2
        · cases fl with
          | next => obtain ⟨nx₂, r1, r2, r3, r4⟩ := r; exact ⟨h₂, tk₂, m₂, nw₂, nx₂, rfl, F₂, N₂, r3, r4, r2, lm₂, hn₂, hm₂, r1⟩
          | cont => obtain ⟨nx₂, r1, r2, r3, r4⟩ := r; exact ⟨h₂, tk₂, m₂, nw₂, nx₂, rfl, F₂, N₂, r3, r4, r2, lm₂, hn₂, hm₂, r1⟩
          | brk => exact hQ .next h₂ tk₂ m₂ lm₂ nw₂ r hn₂ F₂ hm₂ N₂
          | ret v => exact hQ (.ret v) h₂ tk₂ m₂ lm₂ nw₂ r hn₂ F₂ hm₂ N₂
      · rintro m₁ nx h₁ tk ⟨lm₁, hn₁, hm₁, hJ⟩ F₁ N₁
        exact hQ .next h₁ tk m₁ lm₁ nx (hd lm₁ nx hJ) hn₁ F₁ hm₁ N₁) (hs _) PassesOwn.never
/-- `for target in e`, a list of the ledger's -/
theorem js_forG {vs : List Value} (J : Nat → Lm → Led → Prop) (h : JV c F lm nw it (.ref R)) (hR : (R, listOf vs.toArray k) ∈ nw) (h0 : J 0 lm nw) (hkeep : ∀ i lm₁ nx, J i lm₁ nx → (R, listOf vs.toArray k) ∈ nx)
    (hgo : ∀ (i : Nat) v, vs[i]? = some v → ∀ (w : World) (A : Around) I (s : Shared) j (Q : Unit → Shared → Prop) (E : Value → Shared → Prop), s.heap.IsListIter I R j → Q () s → wpAny (model PR w) A (letOwnedTupleGo target (.ref I) v) Q E s)
    (ht : ∀ i v lm₁ nx own, vs[i]? = some v → nx.map (·.1) = nw.map (·.1) → OwnOff own (nw.map (·.1)) → J i lm₁ nx → JG c F lm₁ (nx ++ own) (assign target (F.env c.L) v) (fun _ lm₂ nw₂ => JS c F lm₂ nw₂ body (TurnF c F rest P (J (i + 1)) own (nw.map (·.1)))))
    (hd : ∀ lm₁ nx, J vs.length lm₁ nx → JS c F lm₁ nx rest P) (hs : ∀ env x, foldedSetIterable it env x = pure x := by intro _ _; rfl) : JS c F lm nw (.For target it body [] pos :: rest) P :=
  js_cons fun s m Q ok hnm Fm hm N hQ => wpAny_For (h s m _ ok hnm Fm hm N fun v h' tk' n' ⟨e, u, e'⟩ F' N' => by
      subst e e'
      refine iter_led (s := { s with heap := h', toks := tk' }) (R := R) (items := vs.toArray) (cr := k) (fun i m nx => ∃ lm, lm.map (·.1) = F.names ∧ (∀ x v, (x, some v) ∈ lm → m x = some v) ∧ J i lm nx) rfl F' N' hR ⟨lm, hnm, hm, h0⟩ ?_ ?_ ?_ ?_ PassesOwn.never
      · rintro i m nx ⟨lm₁, _, _, hJ⟩; exact hkeep i lm₁ nx hJ
      · exact fun i v hv I s j Q E hI hq => hgo i v (by simpa using hv) _ _ I s j Q E hI hq
      · rintro i v m₁ nx h₁ tk own hv ha ho ⟨lm₁, hn₁, hm₁, hJ⟩ F₁ N₁
        refine ht i v lm₁ nx own (by simpa using hv) ha ho hJ { s with heap := h₁, toks := tk } m₁ _ ok hn₁ F₁ hm₁ N₁ fun _ h₂ tk₂ m₂ lm₂ nw₂ r hn₂ F₂ hm₂ N₂ => ?_
        refine r { s with heap := h₂, toks := tk₂ } m₂ _ ok hn₂ F₂ hm₂ N₂ fun fl h₃ tk₃ m₃ lm₃ nw₃ r hn₃ F₃ hm₃ N₃ => ?_
        cases fl with
        | next => obtain ⟨nx₂, r1, r2, r3, r4⟩ := r; exact ⟨h₃, tk₃, m₃, nw₃, nx₂, rfl, F₃, N₃, r3, r4, r2, lm₃, hn₃, hm₃, r1⟩
        | cont => obtain ⟨nx₂, r1, r2, r3, r4⟩ := r; exact ⟨h₃, tk₃, m₃, nw₃, nx₂, rfl, F₃, N₃, r3, r4, r2, lm₃, hn₃, hm₃, r1⟩
        | brk => exact hQ .next h₃ tk₃ m₃ lm₃ nw₃ r hn₃ F₃ hm₃ N₃
        | ret v => exact hQ (.ret v) h₃ tk₃ m₃ lm₃ nw₃ r hn₃ F₃ hm₃ N₃
      · rintro m₁ nx h₁ tk ⟨lm₁, hn₁, hm₁, hJ⟩ F₁ N₁
        exact hQ .next h₁ tk m₁ lm₁ nx (hd lm₁ nx (by simpa using hJ)) hn₁ F₁ hm₁ N₁) (hs _)
/-- `for x in e` -/
theorem jg_name {kx : Value → Lm} {P : Unit → Lm → Led → Prop} {v : Value} (hk : SetK x lm kx) (h : P () (kx v) nw) : JG c F lm nw (assign (.Name x xp) (F.env c.L) v) P := fun s m Q ok hn Fm hm N hQ =>
  assign_Name (store_loc hk ok hn Fm hm N fun h' tk' m' hn' F' hm' N' => hQ () h' tk' m' _ nw h hn' F' hm' N')
end
/-! the same, the frame's facts and the ends out of sight: names stand for them -/
theorem con_jo {w : World} {mean : ExcName → Option Value} {mg mb : Str → Option Value} {f : Addr} {name qual : Str} {params : Arguments} {body : List Stmt} {scope : Scope} {dV kV doc pm cdv ct oc : Value} {an od : Option Addr} {osl : Array (Option Value)}
    {vs : List Value} {own : Led} {K U : Nat} {R : Value → Led → Prop} (binds : List (Str × Value)) (more : List Str) (gl bl : List (Str × Value))
    (ho : (hd.heap_39 w.params).lookup f = some ⟨oc, od, .func (fnOf name qual params body scope dV kV doc pm an cdv ct), osl⟩)
    (hcd : codeIn (hd.heap_39 w.params) cdv qual = true)
    (hsc : fokB scope (binds.map (·.1) ++ more) (gl.map (·.1) ++ bl.map (·.1)) = true)
    (hgl : ∀ p ∈ gl, nsIn (hd.heap_39 w.params) mainGlobals p.1 = some (some p.2))
    (hbl : ∀ p ∈ bl, nsIn (hd.heap_39 w.params) mainGlobals p.1 = some none ∧ bootBuiltins p.1 = some p.2)
    (hbind : ∀ s : Shared, (hd.heap_39 w.params).In s.heap → BindsTo s (fnOf name qual params body scope dV kV doc pm an cdv ct) ⟨vs, []⟩ binds)
    (h : ∀ (c : Cx) (P : Flow → Lm → Led → Prop), c.w = w → c.mean = mean → c.mg = mg → c.mb = mb → (∀ n, n ≤ K → n ≤ c.K) → (∀ n, n ≤ U → n ≤ c.U) → (∀ v l n, R v n → P (.ret v) l n) → (∀ l n, R .none n → P .next l n) →
      JS c ⟨qual, scope, f, cdv, [], binds.map (·.1) ++ more, gl, bl⟩ (binds.map (fun p => (p.1, some p.2)) ++ more.map fun x => (x, none)) own body P) :
    Con w mean mg mb (.ref f) vs own (K + 1) (U + 3) R :=
  con_js binds more gl bl ho hcd hsc hgl hbl hbind fun dp un gd outer base g L => h _ _ rfl rfl rfl rfl (fun _ h => h) (fun _ h => h) (fun _ _ _ r => r) fun _ _ r => r
section
variable {c : Cx} {F : FD} {lm : Lm} {nw : Led} {pos xp : Pos} {e it target : PySem.Expr} {x : Str} {rest body : List Stmt} {P : Flow → Lm → Led → Prop} {a b : Int} {R : Addr} {k : Nat} {S : Led → Prop}
/-- a while loop's turn: the test, and the two ways -/
inductive Wh (c : Cx) (F : FD) (lm : Lm) (nw : Led) (e : PySem.Expr) (body : List Stmt) (T : Flow → Lm → Led → Prop) (rest : List Stmt) (P : Flow → Lm → Led → Prop) : Prop
  | mk (b : Bool) (t : JT c F lm nw e b) (h1 : b = true → JS c F lm nw body T) (h2 : b = false → JS c F lm nw rest P) : Wh c F lm nw e body T rest P
theorem js_wh (I : Nat → Lm → Led → Prop) (n₀ : Nat) (h0 : I n₀ lm nw)
    (ht : ∀ n (T : Flow → Lm → Led → Prop), (∀ j l m, j < n → I j l m → T .next l m) → (∀ j l m, j < n → I j l m → T .cont l m) → (∀ l m, JS c F l m rest P → T .brk l m) → (∀ v l m, P (.ret v) l m → T (.ret v) l m) → ∀ lm nw, I n lm nw → Wh c F lm nw e body T rest P) :
    JS c F lm nw (.While e body [] pos :: rest) P :=
  js_while I n₀ h0 fun n lm nw hI => by
    obtain ⟨b, t, h1, h2⟩ := ht n (Turn c F rest P I n) (fun j _ _ hj r => ⟨j, hj, r⟩) (fun j _ _ hj r => ⟨j, hj, r⟩) (fun _ _ r => r) (fun _ _ _ r => r) lm nw hI
    exact ⟨b, t, h1, h2⟩
/-- a for loop's turn -/
inductive Fo (c : Cx) (F : FD) (lm : Lm) (nw : Led) (x : Str) (v : Value) (body : List Stmt) (T : Flow → Lm → Led → Prop) : Prop
  | mk (kx : Value → Lm) (hk : SetK x lm kx) (h : JS c F (kx v) nw body T) : Fo c F lm nw x v body T
theorem js_rng {n : Nat} {adr : List Addr} (J : Nat → Lm → Led → Prop) (h : JE c F lm nw it (fun v n => E5 fun T t u z n' => A3 (v = .ref T) (n = (T, rangeO a b t u z) :: n') (S n'))) (hsmall : Builtin.Range.small a b 1 = true) (hn : Builtin.Range.rangeSize a b 1 = (n : Int)) (h0 : ∀ n', S n' → J 0 lm n' ∧ n'.map (·.1) = adr) (hx : x ∈ F.names)
    (ht : ∀ i t own (T : Flow → Lm → Led → Prop), i < n → OwnOff own adr → (∀ l nx m, J (i + 1) l nx → nx.map (·.1) = adr → (∀ p ∈ nx, p ∈ m) → (∀ p ∈ own, p ∈ m) → T .next l m) → (∀ l nx m, J (i + 1) l nx → nx.map (·.1) = adr → (∀ p ∈ nx, p ∈ m) → (∀ p ∈ own, p ∈ m) → T .cont l m) →
      (∀ l m, JS c F l m rest P → T .brk l m) → (∀ v l m, P (.ret v) l m → T (.ret v) l m) → ∀ lm₁ nx, nx.map (·.1) = adr → J i lm₁ nx → Fo c F lm₁ (nx ++ own) x (.int (a + (i : Int)) t) body T)
    (hd : ∀ lm₁ nx, J n lm₁ nx → JS c F lm₁ nx rest P) (hs : ∀ env x, foldedSetIterable it env x = pure x := by intro _ _; rfl) : JS c F lm nw (.For (.Name x xp) it body [] pos :: rest) P :=
  js_range J h hsmall hn h0 hx (fun i t lm₁ nx own hi ha ho hJ => by
    obtain ⟨kx, hk, hj⟩ := ht i t own (TurnF c F rest P (J (i + 1)) own adr) hi ho (fun _ nx _ a b c d => ⟨nx, a, b, c, d⟩) (fun _ nx _ a b c d => ⟨nx, a, b, c, d⟩) (fun _ _ r => r) (fun _ _ _ r => r) lm₁ nx ha hJ
    exact ⟨kx, hk, hj⟩) hd hs
theorem js_frG {vs : List Value} (J : Nat → Lm → Led → Prop) (h : JV c F lm nw it (.ref R)) (hR : (R, listOf vs.toArray k) ∈ nw) (h0 : J 0 lm nw) (hkeep : ∀ i lm₁ nx, J i lm₁ nx → (R, listOf vs.toArray k) ∈ nx)
    (hgo : ∀ (i : Nat) v, vs[i]? = some v → ∀ (w : World) (A : Around) I (s : Shared) j (Q : Unit → Shared → Prop) (E : Value → Shared → Prop), s.heap.IsListIter I R j → Q () s → wpAny (model PR w) A (letOwnedTupleGo target (.ref I) v) Q E s)
    (ht : ∀ i v own (T : Flow → Lm → Led → Prop), vs[i]? = some v → OwnOff own (nw.map (·.1)) → (∀ l nx m, J (i + 1) l nx → nx.map (·.1) = nw.map (·.1) → (∀ p ∈ nx, p ∈ m) → (∀ p ∈ own, p ∈ m) → T .next l m) → (∀ l nx m, J (i + 1) l nx → nx.map (·.1) = nw.map (·.1) → (∀ p ∈ nx, p ∈ m) → (∀ p ∈ own, p ∈ m) → T .cont l m) →
      (∀ l m, JS c F l m rest P → T .brk l m) → (∀ v l m, P (.ret v) l m → T (.ret v) l m) → ∀ lm₁ nx, nx.map (·.1) = nw.map (·.1) → J i lm₁ nx → JG c F lm₁ (nx ++ own) (assign target (F.env c.L) v) (fun _ lm₂ nw₂ => JS c F lm₂ nw₂ body T))
    (hd : ∀ lm₁ nx, J vs.length lm₁ nx → JS c F lm₁ nx rest P) (hs : ∀ env x, foldedSetIterable it env x = pure x := by intro _ _; rfl) : JS c F lm nw (.For target it body [] pos :: rest) P :=
  js_forG J h hR h0 hkeep hgo (fun i v lm₁ nx own hv ha ho hJ => ht i v own (TurnF c F rest P (J (i + 1)) own (nw.map (·.1))) hv ho (fun _ nx _ a b c d => ⟨nx, a, b, c, d⟩) (fun _ nx _ a b c d => ⟨nx, a, b, c, d⟩) (fun _ _ r => r) (fun _ _ _ r => r) lm₁ nx ha hJ) hd hs
theorem js_fr {vs : List Value} (J : Nat → Lm → Led → Prop) (h : JV c F lm nw it (.ref R)) (hR : (R, listOf vs.toArray k) ∈ nw) (h0 : J 0 lm nw) (hkeep : ∀ i lm₁ nx, J i lm₁ nx → (R, listOf vs.toArray k) ∈ nx)
    (ht : ∀ i v own (T : Flow → Lm → Led → Prop), vs[i]? = some v → OwnOff own (nw.map (·.1)) → (∀ l nx m, J (i + 1) l nx → nx.map (·.1) = nw.map (·.1) → (∀ p ∈ nx, p ∈ m) → (∀ p ∈ own, p ∈ m) → T .next l m) → (∀ l nx m, J (i + 1) l nx → nx.map (·.1) = nw.map (·.1) → (∀ p ∈ nx, p ∈ m) → (∀ p ∈ own, p ∈ m) → T .cont l m) →
      (∀ l m, JS c F l m rest P → T .brk l m) → (∀ v l m, P (.ret v) l m → T (.ret v) l m) → ∀ lm₁ nx, nx.map (·.1) = nw.map (·.1) → J i lm₁ nx → Fo c F lm₁ (nx ++ own) x v body T)
    (hd : ∀ lm₁ nx, J vs.length lm₁ nx → JS c F lm₁ nx rest P) (hs : ∀ env x, foldedSetIterable it env x = pure x := by intro _ _; rfl) : JS c F lm nw (.For (.Name x xp) it body [] pos :: rest) P :=
  js_frG J h hR h0 hkeep (fun _ _ _ _ _ _ _ _ _ _ _ hq => go_name hq) (fun i v own T hv ho h1 h2 h3 h4 lm₁ nx ha hJ => by
    obtain ⟨kx, hk, hj⟩ := ht i v own T hv ho h1 h2 h3 h4 lm₁ nx ha hJ
    exact jg_name hk hj) hd hs
end
local macro_rules | `(tactic| end_is "j room") => `(tactic| first | exact Nat.le_of_ble_eq_true rfl | (refine ‹∀ n, n ≤ _ → n ≤ Cx.K _› _ ?_; first | exact Nat.le_of_ble_eq_true rfl | omega) | (refine ‹∀ n, n ≤ _ → n ≤ Cx.U _› _ ?_; first | exact Nat.le_of_ble_eq_true rfl | omega) | (dsimp only; omega))
/-! the classes of signs -/
noncomputable def isLower (c : Int) : Bool := decide (97 ≤ c ∧ c ≤ 122)
noncomputable def isUpper (c : Int) : Bool := decide (65 ≤ c ∧ c ≤ 90)
noncomputable def isAlpha (c : Int) : Bool := isLower c || isUpper c
noncomputable def isDigit (c : Int) : Bool := decide (48 ≤ c ∧ c ≤ 57)
noncomputable def isSpace (c : Int) : Bool := decide (c = 32) || decide (9 ≤ c ∧ c ≤ 13)
noncomputable def isControl (c : Int) : Bool := decide (c < 32) || decide (c = 127)
noncomputable def isPunct (c : Int) : Bool := decide (32 < c ∧ c < 127) && !isAlpha c && !isDigit c
noncomputable def isHex (c : Int) : Bool := isDigit c || decide (65 ≤ c ∧ c ≤ 70) || decide (97 ≤ c ∧ c ≤ 102)
noncomputable def inClass0 (c low : Int) : Bool :=
  if low = 97 then isAlpha c else if low = 99 then isControl c else if low = 100 then isDigit c else if low = 108 then isLower c else if low = 112 then isPunct c
  else if low = 115 then isSpace c else if low = 117 then isUpper c else if low = 119 then isAlpha c || isDigit c else if low = 120 then isHex c else decide (c = 0)
noncomputable def known (low : Int) : Bool := decide (low = 97 ∨ low = 99 ∨ low = 100 ∨ low = 108 ∨ low = 112 ∨ low = 115 ∨ low = 117 ∨ low = 119 ∨ low = 120 ∨ low = 122)
noncomputable def inClass (c letter : Int) : Bool :=
  let low := if isUpper letter then letter + 32 else letter
  if known low then (if isUpper letter then !inClass0 c low else inClass0 c low) else decide (letter = c)
/-- a def of one int that answers a bool, called -/
theorem jc_fn {c : Cx} {F : FD} {lm : Lm} {nw : Led} {pos xp : Pos} {e : PySem.Expr} {x : Str} {f : Addr} {n : Int} {b : Bool} {k u : Nat} (h : JI c F lm nw e n) (hf : (x, .ref f) ∈ F.gl) (hk : Kept c.w (.ref f))
    (C : ∀ t, Con c.w c.mean c.mg c.mb (.ref f) [.int n t] [] k u (fun r own' => own' = [] ∧ r = .bool b)) (h1 : k ≤ c.K := by end_is "j room") (h2 : u ≤ c.U := by end_is "j room") (hs : simpE e = true := by rfl) : JC c F lm nw (.Call (.Name x xp) [e] [] pos) b :=
  jx_name1 (ja_glb hf) hk h (fun t => JX.mono (jx_con0 (C t) h1 h2) fun _ _ ⟨e, e'⟩ => ⟨e, 0, e'⟩) hs
section
variable {w : World} {mean : ExcName → Option Value} {mg mb : Str → Option Value}
theorem kp_69 (w : World) : Kept w (.ref 69) := kept_K (by k_dflt k_is)
theorem kp_76 (w : World) : Kept w (.ref 76) := kept_K (by k_dflt k_is)
theorem kp_83 (w : World) : Kept w (.ref 83) := kept_K (by k_dflt k_is)
theorem kp_90 (w : World) : Kept w (.ref 90) := kept_K (by k_dflt k_is)
theorem kp_97 (w : World) : Kept w (.ref 97) := kept_K (by k_dflt k_is)
theorem kp_104 (w : World) : Kept w (.ref 104) := kept_K (by k_dflt k_is)
theorem kp_111 (w : World) : Kept w (.ref 111) := kept_K (by k_dflt k_is)
theorem kp_118 (w : World) : Kept w (.ref 118) := kept_K (by k_dflt k_is)
theorem kp_125 (w : World) : Kept w (.ref 125) := kept_K (by k_dflt k_is)
theorem c_is_lower {c : Int} {t : Tok} : Con w mean mg mb (.ref 69) [.int c t] [] 4 20 (fun r own' => own' = [] ∧ r = .bool (isLower c)) := by
  refine con_js ([("c", .int c t)]) ([]) ([]) ([]) (by k_dflt k_is) (by k_dflt k_is) (by kernel_rfl) (by end_is "j gl") (by end_is "j bl") (by exact fun _ _ => BindsTo.of_eq rfl) ?_
  intro dp un gd outer base g L
  simp only [List.map, List.cons_append, List.nil_append]
  exact js_ret (jc_lele ji_lit (ji_loc (by end_is "j in")) ji_lit) fun _ => ⟨rfl, congrArg Value.bool (Bool.decide_and _ _).symm⟩
theorem c_is_upper {c : Int} {t : Tok} : Con w mean mg mb (.ref 76) [.int c t] [] 4 20 (fun r own' => own' = [] ∧ r = .bool (isUpper c)) := by
  refine con_js ([("c", .int c t)]) ([]) ([]) ([]) (by k_dflt k_is) (by k_dflt k_is) (by kernel_rfl) (by end_is "j gl") (by end_is "j bl") (by exact fun _ _ => BindsTo.of_eq rfl) ?_
  intro dp un gd outer base g L
  simp only [List.map, List.cons_append, List.nil_append]
  exact js_ret (jc_lele ji_lit (ji_loc (by end_is "j in")) ji_lit) fun _ => ⟨rfl, congrArg Value.bool (Bool.decide_and _ _).symm⟩
theorem c_is_alpha {c : Int} {t : Tok} : Con w mean mg mb (.ref 83) [.int c t] [] 8 40 (fun r own' => own' = [] ∧ r = .bool (isAlpha c)) := by
  refine con_js ([("c", .int c t)]) ([]) ([("is_lower", .ref 69), ("is_upper", .ref 76)]) ([]) (by k_dflt k_is) (by k_dflt k_is) (by kernel_rfl) (by end_is "j gl") (by end_is "j bl") (by exact fun _ _ => BindsTo.of_eq rfl) ?_
  intro dp un gd outer base g L
  simp only [List.map, List.cons_append, List.nil_append]
  exact js_ret (jc_or (jc_fn (ji_loc (by end_is "j in")) (by end_is "j in") (kp_69 _) fun _ => c_is_lower) fun _ => jc_one (jc_fn (ji_loc (by end_is "j in")) (by end_is "j in") (kp_76 _) fun _ => c_is_upper)) fun _ => ⟨rfl, rfl⟩
theorem c_is_digit {c : Int} {t : Tok} : Con w mean mg mb (.ref 90) [.int c t] [] 4 20 (fun r own' => own' = [] ∧ r = .bool (isDigit c)) := by
  refine con_js ([("c", .int c t)]) ([]) ([]) ([]) (by k_dflt k_is) (by k_dflt k_is) (by kernel_rfl) (by end_is "j gl") (by end_is "j bl") (by exact fun _ _ => BindsTo.of_eq rfl) ?_
  intro dp un gd outer base g L
  simp only [List.map, List.cons_append, List.nil_append]
  exact js_ret (jc_lele ji_lit (ji_loc (by end_is "j in")) ji_lit) fun _ => ⟨rfl, congrArg Value.bool (Bool.decide_and _ _).symm⟩
theorem c_is_space {c : Int} {t : Tok} : Con w mean mg mb (.ref 97) [.int c t] [] 4 20 (fun r own' => own' = [] ∧ r = .bool (isSpace c)) := by
  refine con_js ([("c", .int c t)]) ([]) ([]) ([]) (by k_dflt k_is) (by k_dflt k_is) (by kernel_rfl) (by end_is "j gl") (by end_is "j bl") (by exact fun _ _ => BindsTo.of_eq rfl) ?_
  intro dp un gd outer base g L
  simp only [List.map, List.cons_append, List.nil_append]
  exact js_ret (jc_or (jci_eq (ji_loc (by end_is "j in")) ji_lit) fun _ => jc_one (jc_lele ji_lit (ji_loc (by end_is "j in")) ji_lit)) fun _ => ⟨rfl, congrArg Value.bool (congrArg _ (Bool.decide_and _ _).symm)⟩
theorem c_is_control {c : Int} {t : Tok} : Con w mean mg mb (.ref 104) [.int c t] [] 4 20 (fun r own' => own' = [] ∧ r = .bool (isControl c)) := by
  refine con_js ([("c", .int c t)]) ([]) ([]) ([]) (by k_dflt k_is) (by k_dflt k_is) (by kernel_rfl) (by end_is "j gl") (by end_is "j bl") (by exact fun _ _ => BindsTo.of_eq rfl) ?_
  intro dp un gd outer base g L
  simp only [List.map, List.cons_append, List.nil_append]
  exact js_ret (jc_or (jci_lt (ji_loc (by end_is "j in")) ji_lit) fun _ => jc_one (jci_eq (ji_loc (by end_is "j in")) ji_lit)) fun _ => ⟨rfl, rfl⟩
theorem c_is_punctuation {c : Int} {t : Tok} : Con w mean mg mb (.ref 111) [.int c t] [] 12 60 (fun r own' => own' = [] ∧ r = .bool (isPunct c)) := by
  refine con_js ([("c", .int c t)]) ([]) ([("is_alpha", .ref 83), ("is_digit", .ref 90)]) ([]) (by k_dflt k_is) (by k_dflt k_is) (by kernel_rfl) (by end_is "j gl") (by end_is "j bl") (by exact fun _ _ => BindsTo.of_eq rfl) ?_
  intro dp un gd outer base g L
  simp only [List.map, List.cons_append, List.nil_append]
  exact js_ret (jc_and (jc_ltlt ji_lit (ji_loc (by end_is "j in")) ji_lit) fun _ => jc_and (jc_not (jc_fn (ji_loc (by end_is "j in")) (by end_is "j in") (kp_83 _) fun _ => c_is_alpha)) fun _ => jc_one (jc_not (jc_fn (ji_loc (by end_is "j in")) (by end_is "j in") (kp_90 _) fun _ => c_is_digit)))
    fun _ => ⟨rfl, congrArg Value.bool (by rw [isPunct, Bool.decide_and, Bool.and_assoc, Bool.and_assoc, Bool.and_assoc])⟩
theorem c_is_hex {c : Int} {t : Tok} : Con w mean mg mb (.ref 118) [.int c t] [] 8 40 (fun r own' => own' = [] ∧ r = .bool (isHex c)) := by
  refine con_js ([("c", .int c t)]) ([]) ([("is_digit", .ref 90)]) ([]) (by k_dflt k_is) (by k_dflt k_is) (by kernel_rfl) (by end_is "j gl") (by end_is "j bl") (by exact fun _ _ => BindsTo.of_eq rfl) ?_
  intro dp un gd outer base g L
  simp only [List.map, List.cons_append, List.nil_append]
  exact js_ret (jc_or (jc_fn (ji_loc (by end_is "j in")) (by end_is "j in") (kp_90 _) fun _ => c_is_digit) fun _ => jc_or (jc_lele ji_lit (ji_loc (by end_is "j in")) ji_lit) fun _ => jc_one (jc_lele ji_lit (ji_loc (by end_is "j in")) ji_lit))
    fun _ => ⟨rfl, congrArg Value.bool (by rw [isHex, Bool.decide_and, Bool.decide_and, Bool.or_assoc])⟩
theorem inClass_known {c letter low k : Int} {b : Bool} (h : low = if isUpper letter = true then letter + 32 else letter) (hl : low = k) (hk : known k = true) (hb : inClass0 c k = b) : (if isUpper letter = true then !b else b) = inClass c letter := by
  subst hb hl
  unfold inClass
  rw [← h]
  simp only [hk, if_true]
theorem inClass_other {c letter low : Int} (h : low = if isUpper letter = true then letter + 32 else letter) (hk : known low = false) : decide (letter = c) = inClass c letter := by
  unfold inClass
  rw [← h]
  simp only [hk, Bool.false_eq_true, if_false]
theorem c_in_class {c letter : Int} {t u : Tok} : Con w mean mg mb (.ref 125) [.int c t, .int letter u] [] 16 80 (fun r own' => own' = [] ∧ r = .bool (inClass c letter)) := by
  refine con_js ([("c", .int c t), ("letter", .int letter u)]) (["low", "found"]) ([("is_upper", .ref 76), ("is_alpha", .ref 83), ("is_control", .ref 104), ("is_digit", .ref 90), ("is_lower", .ref 69), ("is_punctuation", .ref 111), ("is_space", .ref 97), ("is_hex", .ref 118)]) ([]) (by k_dflt k_is) (by k_dflt k_is) (by kernel_rfl) (by end_is "j gl") (by end_is "j bl") (by exact fun _ _ => BindsTo.of_eq rfl) ?_
  intro dp un gd outer base g L
  simp only [List.map, List.cons_append, List.nil_append]
  refine js_asg (ji_ite (jt_c (jc_fn (ji_loc (by end_is "j in")) (by end_is "j in") (kp_76 _) fun _ => c_is_upper)) (fun _ => ji_add (ji_loc (by end_is "j in")) ji_lit) fun _ => ji_loc (by end_is "j in")) (by end_is "j set") fun tl => ?_
  generalize hlow : (if isUpper letter = true then letter + 32 else letter) = low
  replace hlow := hlow.symm
  have fin : ∀ {k : Int} {b : Bool} {nw : Led}, low = k → known k = true → inClass0 c k = b → nw = ([] : Led) → nw = [] ∧ Value.bool (if isUpper letter = true then !b else b) = .bool (inClass c letter) :=
    fun h1 h2 h3 h4 => ⟨h4, congrArg Value.bool (inClass_known hlow h1 h2 h3)⟩
  refine js_if (by end_is "j") (fun h => js_asg (jc_fn (by end_is "j") (by end_is "j in") (kp_83 _) fun _ => c_is_alpha) (by end_is "j set") fun _ => js_nil (js_ret (jc_ite (jt_c (jc_fn (by end_is "j") (by end_is "j in") (kp_76 _) fun _ => c_is_upper)) (fun _ => jc_not (by end_is "j")) fun _ => (by end_is "j")) fun _ => fin (b := isAlpha c) (of_decide_eq_true h) rfl rfl rfl)) fun h97 => ?_
  refine js_ifL (by end_is "j") (fun h => js_asg (jc_fn (by end_is "j") (by end_is "j in") (kp_104 _) fun _ => c_is_control) (by end_is "j set") fun _ => js_nil (js_ret (jc_ite (jt_c (jc_fn (by end_is "j") (by end_is "j in") (kp_76 _) fun _ => c_is_upper)) (fun _ => jc_not (by end_is "j")) fun _ => (by end_is "j")) fun _ => fin (b := isControl c) (of_decide_eq_true h) rfl rfl rfl)) fun h99 => ?_
  refine js_ifL (by end_is "j") (fun h => js_asg (jc_fn (by end_is "j") (by end_is "j in") (kp_90 _) fun _ => c_is_digit) (by end_is "j set") fun _ => js_nil (js_ret (jc_ite (jt_c (jc_fn (by end_is "j") (by end_is "j in") (kp_76 _) fun _ => c_is_upper)) (fun _ => jc_not (by end_is "j")) fun _ => (by end_is "j")) fun _ => fin (b := isDigit c) (of_decide_eq_true h) rfl rfl rfl)) fun h100 => ?_
  refine js_ifL (by end_is "j") (fun h => js_asg (jc_fn (by end_is "j") (by end_is "j in") (kp_69 _) fun _ => c_is_lower) (by end_is "j set") fun _ => js_nil (js_ret (jc_ite (jt_c (jc_fn (by end_is "j") (by end_is "j in") (kp_76 _) fun _ => c_is_upper)) (fun _ => jc_not (by end_is "j")) fun _ => (by end_is "j")) fun _ => fin (b := isLower c) (of_decide_eq_true h) rfl rfl rfl)) fun h108 => ?_
  refine js_ifL (by end_is "j") (fun h => js_asg (jc_fn (by end_is "j") (by end_is "j in") (kp_111 _) fun _ => c_is_punctuation) (by end_is "j set") fun _ => js_nil (js_ret (jc_ite (jt_c (jc_fn (by end_is "j") (by end_is "j in") (kp_76 _) fun _ => c_is_upper)) (fun _ => jc_not (by end_is "j")) fun _ => (by end_is "j")) fun _ => fin (b := isPunct c) (of_decide_eq_true h) rfl rfl rfl)) fun h112 => ?_
  refine js_ifL (by end_is "j") (fun h => js_asg (jc_fn (by end_is "j") (by end_is "j in") (kp_97 _) fun _ => c_is_space) (by end_is "j set") fun _ => js_nil (js_ret (jc_ite (jt_c (jc_fn (by end_is "j") (by end_is "j in") (kp_76 _) fun _ => c_is_upper)) (fun _ => jc_not (by end_is "j")) fun _ => (by end_is "j")) fun _ => fin (b := isSpace c) (of_decide_eq_true h) rfl rfl rfl)) fun h115 => ?_
  refine js_ifL (by end_is "j") (fun h => js_asg (jc_fn (by end_is "j") (by end_is "j in") (kp_76 _) fun _ => c_is_upper) (by end_is "j set") fun _ => js_nil (js_ret (jc_ite (jt_c (jc_fn (by end_is "j") (by end_is "j in") (kp_76 _) fun _ => c_is_upper)) (fun _ => jc_not (by end_is "j")) fun _ => (by end_is "j")) fun _ => fin (b := isUpper c) (of_decide_eq_true h) rfl rfl rfl)) fun h117 => ?_
  refine js_ifL (by end_is "j") (fun h => js_asg (jc_or (jc_fn (by end_is "j") (by end_is "j in") (kp_83 _) fun _ => c_is_alpha) fun _ => jc_one (jc_fn (by end_is "j") (by end_is "j in") (kp_90 _) fun _ => c_is_digit)) (by end_is "j set") fun _ => js_nil (js_ret (jc_ite (jt_c (jc_fn (by end_is "j") (by end_is "j in") (kp_76 _) fun _ => c_is_upper)) (fun _ => jc_not (by end_is "j")) fun _ => (by end_is "j")) fun _ => fin (b := isAlpha c || isDigit c) (of_decide_eq_true h) rfl rfl rfl)) fun h119 => ?_
  refine js_ifL (by end_is "j") (fun h => js_asg (jc_fn (by end_is "j") (by end_is "j in") (kp_118 _) fun _ => c_is_hex) (by end_is "j set") fun _ => js_nil (js_ret (jc_ite (jt_c (jc_fn (by end_is "j") (by end_is "j in") (kp_76 _) fun _ => c_is_upper)) (fun _ => jc_not (by end_is "j")) fun _ => (by end_is "j")) fun _ => fin (b := isHex c) (of_decide_eq_true h) rfl rfl rfl)) fun h120 => ?_
  refine js_ifL (by end_is "j") (fun h => js_asg (jci_eq (by end_is "j") (by end_is "j")) (by end_is "j set") fun _ => js_nil (js_ret (jc_ite (jt_c (jc_fn (by end_is "j") (by end_is "j in") (kp_76 _) fun _ => c_is_upper)) (fun _ => jc_not (by end_is "j")) fun _ => (by end_is "j")) fun _ => fin (b := decide (c = 0)) (of_decide_eq_true h) rfl rfl rfl)) fun h122 => ?_
  have hk : known low = false := by
    simp only [decide_eq_false_iff_not] at h97 h99 h100 h108 h112 h115 h117 h119 h120 h122
    simp [known, h97, h99, h100, h108, h112, h115, h117, h119, h120, h122]
  exact js_ret (jci_eq (by end_is "j") (by end_is "j")) fun _ => ⟨rfl, congrArg Value.bool (inClass_other hlow hk)⟩
end
/-! the matcher's object -/
/-- what of a matcher no method turns -/
structure MP where
  M : Addr
  D : Addr
  text : List UInt8
  pat : List UInt8
  k1 : Tok
  k2 : Tok
  k3 : Tok
  k4 : Tok
  k5 : Tok
  k6 : Tok
  k7 : Tok
  t1 : Tok
  t2 : Tok
  t3 : Tok
noncomputable abbrev MP.own (P : MP) (w : World) (dep lev : Int) (t4 t5 : Tok) (S Ln : Addr) (vs ls : List Value) (n1 n2 : Nat) : List (Addr × Obj) :=
  [(P.M, instObj 274 P.D),
   (P.D, dictOf [⟨PyData.keyHash w.params "text", .str "text" P.k1, .bytes P.text.toArray P.t1⟩, ⟨PyData.keyHash w.params "pattern", .str "pattern" P.k2, .bytes P.pat.toArray P.t2⟩,
     ⟨PyData.keyHash w.params "most_depth", .str "most_depth" P.k3, .int 60 P.t3⟩, ⟨PyData.keyHash w.params "depth", .str "depth" P.k4, .int dep t4⟩, ⟨PyData.keyHash w.params "level", .str "level" P.k5, .int lev t5⟩,
     ⟨PyData.keyHash w.params "starts", .str "starts" P.k6, .ref S⟩, ⟨PyData.keyHash w.params "lengths", .str "lengths" P.k7, .ref Ln⟩] 7),
   (S, listOf vs.toArray n1), (Ln, listOf ls.toArray n2)]
structure MP.Ok (P : MP) : Prop where
  text : P.text.length ≤ 64
  pat : P.pat.length ≤ 64
noncomputable def patAt (pat : List UInt8) (p : Int) : Int := if p < (pat.length : Int) then bi pat p else 0
theorem ha_of {c : Cx} {F : FD} {lm : Lm} {nw : Led} {x D C : Addr} {es : List DictEntry} {n : Nat} {name : Str} {v : Value} {attr : Option Value} (h1 : (x, instObj C D) ∈ nw) (h2 : (D, dictOf es n) ∈ nw) (hg : plainGet (hd.heap_39 c.w.params) C name = true) (hh : hasDictIn (hd.heap_39 c.w.params) C = true)
    (ha : findIn (hd.heap_39 c.w.params) (.ref C) name = some attr) (hn : noGet (hd.heap_39 c.w.params) attr = true) (hl : getL name es = some (some v)) (hv : handedIn v = true) : HasA c F lm nw (.ref x) name v := fun s m Q ok _ Fm hm N hQ =>
  get_own Fm ok.X (InstAt.of_news N h1 h2) hg hh ha hn hl hv (hQ _ _ _ _ ⟨rfl, rfl⟩ Fm N)
theorem hm_of {c : Cx} {F : FD} {lm : Lm} {nw : Led} {x D C f : Addr} {es : List DictEntry} {n : Nat} {name : Str} (h1 : (x, instObj C D) ∈ nw) (h2 : (D, dictOf es n) ∈ nw) (hg : plainGet (hd.heap_39 c.w.params) C name = true)
    (hf : findIn (hd.heap_39 c.w.params) (.ref C) name = some (some (.ref f))) (ht : isFn (hd.heap_39 c.w.params) (.ref f) = true) (hl : getL name es = some none) : HasM c F lm nw (.ref x) name (.ref f) := fun pl s m Q ok _ Fm hm N hQ =>
  method_inst Fm ok.X (InstAt.of_news N h1 h2) hg hf ht hl (hQ _ s.heap s.toks _ ⟨rfl, rfl⟩ Fm N)
section
variable {c : Cx} {F : FD} {lm : Lm} {P : MP} {dep lev : Int} {t4 t5 : Tok} {S Ln : Addr} {vs ls : List Value} {n1 n2 : Nat}
theorem ha_text : HasA c F lm (P.own c.w dep lev t4 t5 S Ln vs ls n1 n2) (.ref P.M) "text" (.bytes P.text.toArray P.t1) := ha_of (.head _) (.tail _ (.head _)) (by k_dflt k_is) (by k_dflt k_is) (by k_dflt k_is) (by k_dflt k_is) rfl rfl
theorem ha_pattern : HasA c F lm (P.own c.w dep lev t4 t5 S Ln vs ls n1 n2) (.ref P.M) "pattern" (.bytes P.pat.toArray P.t2) := ha_of (.head _) (.tail _ (.head _)) (by k_dflt k_is) (by k_dflt k_is) (by k_dflt k_is) (by k_dflt k_is) rfl rfl
theorem ha_most : HasA c F lm (P.own c.w dep lev t4 t5 S Ln vs ls n1 n2) (.ref P.M) "most_depth" (.int 60 P.t3) := ha_of (.head _) (.tail _ (.head _)) (by k_dflt k_is) (by k_dflt k_is) (by k_dflt k_is) (by k_dflt k_is) rfl rfl
theorem ha_depth : HasA c F lm (P.own c.w dep lev t4 t5 S Ln vs ls n1 n2) (.ref P.M) "depth" (.int dep t4) := ha_of (.head _) (.tail _ (.head _)) (by k_dflt k_is) (by k_dflt k_is) (by k_dflt k_is) (by k_dflt k_is) rfl rfl
theorem ha_level : HasA c F lm (P.own c.w dep lev t4 t5 S Ln vs ls n1 n2) (.ref P.M) "level" (.int lev t5) := ha_of (.head _) (.tail _ (.head _)) (by k_dflt k_is) (by k_dflt k_is) (by k_dflt k_is) (by k_dflt k_is) rfl rfl
theorem ha_starts : HasA c F lm (P.own c.w dep lev t4 t5 S Ln vs ls n1 n2) (.ref P.M) "starts" (.ref S) := ha_of (.head _) (.tail _ (.head _)) (by k_dflt k_is) (by k_dflt k_is) (by k_dflt k_is) (by k_dflt k_is) rfl rfl
theorem ha_lengths : HasA c F lm (P.own c.w dep lev t4 t5 S Ln vs ls n1 n2) (.ref P.M) "lengths" (.ref Ln) := ha_of (.head _) (.tail _ (.head _)) (by k_dflt k_is) (by k_dflt k_is) (by k_dflt k_is) (by k_dflt k_is) rfl rfl
local macro_rules | `(tactic| end_is "j h") => `(tactic| exact hm_of (List.Mem.head _) (List.Mem.tail _ (List.Mem.head _)) (by k_dflt k_is) (by k_dflt k_is) (by k_dflt k_is) rfl)
theorem hm_at : HasM c F lm (P.own c.w dep lev t4 t5 S Ln vs ls n1 n2) (.ref P.M) "at" (.ref 154) := by end_is "j h"
theorem hm_class_end : HasM c F lm (P.own c.w dep lev t4 t5 S Ln vs ls n1 n2) (.ref P.M) "class_end" (.ref 161) := by end_is "j h"
theorem hm_in_set : HasM c F lm (P.own c.w dep lev t4 t5 S Ln vs ls n1 n2) (.ref P.M) "in_set" (.ref 168) := by end_is "j h"
theorem hm_is_single : HasM c F lm (P.own c.w dep lev t4 t5 S Ln vs ls n1 n2) (.ref P.M) "is_single" (.ref 175) := by end_is "j h"
theorem hm_match : HasM c F lm (P.own c.w dep lev t4 t5 S Ln vs ls n1 n2) (.ref P.M) "match" (.ref 182) := by end_is "j h"
theorem hm_match_here : HasM c F lm (P.own c.w dep lev t4 t5 S Ln vs ls n1 n2) (.ref P.M) "match_here" (.ref 189) := by end_is "j h"
theorem hm_match_special : HasM c F lm (P.own c.w dep lev t4 t5 S Ln vs ls n1 n2) (.ref P.M) "match_special" (.ref 196) := by end_is "j h"
theorem hm_match_balance : HasM c F lm (P.own c.w dep lev t4 t5 S Ln vs ls n1 n2) (.ref P.M) "match_balance" (.ref 203) := by end_is "j h"
theorem hm_match_frontier : HasM c F lm (P.own c.w dep lev t4 t5 S Ln vs ls n1 n2) (.ref P.M) "match_frontier" (.ref 210) := by end_is "j h"
theorem hm_expand_most : HasM c F lm (P.own c.w dep lev t4 t5 S Ln vs ls n1 n2) (.ref P.M) "expand_most" (.ref 217) := by end_is "j h"
theorem hm_expand_least : HasM c F lm (P.own c.w dep lev t4 t5 S Ln vs ls n1 n2) (.ref P.M) "expand_least" (.ref 224) := by end_is "j h"
theorem hm_start_capture : HasM c F lm (P.own c.w dep lev t4 t5 S Ln vs ls n1 n2) (.ref P.M) "start_capture" (.ref 231) := by end_is "j h"
theorem hm_end_capture : HasM c F lm (P.own c.w dep lev t4 t5 S Ln vs ls n1 n2) (.ref P.M) "end_capture" (.ref 238) := by end_is "j h"
theorem hm_to_close : HasM c F lm (P.own c.w dep lev t4 t5 S Ln vs ls n1 n2) (.ref P.M) "to_close" (.ref 245) := by end_is "j h"
theorem hm_match_capture : HasM c F lm (P.own c.w dep lev t4 t5 S Ln vs ls n1 n2) (.ref P.M) "match_capture" (.ref 252) := by end_is "j h"
theorem kp_154 (w : World) : Kept w (.ref 154) := kept_K (by k_dflt k_is)
theorem kp_161 (w : World) : Kept w (.ref 161) := kept_K (by k_dflt k_is)
theorem kp_168 (w : World) : Kept w (.ref 168) := kept_K (by k_dflt k_is)
theorem kp_175 (w : World) : Kept w (.ref 175) := kept_K (by k_dflt k_is)
theorem kp_182 (w : World) : Kept w (.ref 182) := kept_K (by k_dflt k_is)
theorem kp_189 (w : World) : Kept w (.ref 189) := kept_K (by k_dflt k_is)
theorem kp_196 (w : World) : Kept w (.ref 196) := kept_K (by k_dflt k_is)
theorem kp_203 (w : World) : Kept w (.ref 203) := kept_K (by k_dflt k_is)
theorem kp_210 (w : World) : Kept w (.ref 210) := kept_K (by k_dflt k_is)
theorem kp_217 (w : World) : Kept w (.ref 217) := kept_K (by k_dflt k_is)
theorem kp_224 (w : World) : Kept w (.ref 224) := kept_K (by k_dflt k_is)
theorem kp_231 (w : World) : Kept w (.ref 231) := kept_K (by k_dflt k_is)
theorem kp_238 (w : World) : Kept w (.ref 238) := kept_K (by k_dflt k_is)
theorem kp_245 (w : World) : Kept w (.ref 245) := kept_K (by k_dflt k_is)
theorem kp_252 (w : World) : Kept w (.ref 252) := kept_K (by k_dflt k_is)
end
/-- a contract's answer that keeps the matcher as it stood -/
theorem jq_own {c : Cx} {F : FD} {lm : Lm} {nw : Led} {f : Value} {vs : List Value} {k u : Nat} {g : Tok → Value} (C : Con c.w c.mean c.mg c.mb f vs nw k u (fun r own' => own' = nw ∧ ∃ t, r = g t)) (h1 : k ≤ c.K) (h2 : u ≤ c.U) : JQ c F lm nw (call f vs) g := jx_con1 C h1 h2
theorem jq_own0 {c : Cx} {F : FD} {lm : Lm} {nw : Led} {f : Value} {vs : List Value} {k u : Nat} {v : Value} (C : Con c.w c.mean c.mg c.mb f vs nw k u (fun r own' => own' = nw ∧ r = v)) (h1 : k ≤ c.K) (h2 : u ≤ c.U) : JQ c F lm nw (call f vs) (fun _ => v) :=
  JX.mono (jx_con1 C h1 h2) fun _ _ ⟨e, e'⟩ => ⟨e, 0, e'⟩
theorem if_dec {p : Prop} [Decidable p] {α : Type} (a b : α) : (if decide p = true then a else b) = if p then a else b := by by_cases h : p <;> simp [h]
local macro_rules | `(tactic| end_is "j") => `(tactic| first
  | ((with_reducible apply ji_len); (with_reducible exact ja_blt (by end_is "j in")); (end_is "j"); omega; (try exact rfl))
  | ((with_reducible apply jb_attr); (with_reducible exact ja_loc (by end_is "j in")); (with_reducible first | exact ha_text | exact ha_pattern))
  | ((with_reducible apply ji_attr); (with_reducible exact ja_loc (by end_is "j in")); (with_reducible exact ha_level))
  | ((with_reducible apply ji_item); (end_is "j"); (end_is "j"); omega; omega; omega; (try exact rfl)))

section
variable {w : World} {mean : ExcName → Option Value} {mg mb : Str → Option Value} {P : MP} {dep lev : Int} {t4 t5 : Tok} {S Ln : Addr} {vs ls : List Value} {n1 n2 : Nat}
theorem c_at {p : Int} {t : Tok} (ok : P.Ok) (h0 : 0 ≤ p) : Con w mean mg mb (.ref 154) [.ref P.M, .int p t] (P.own w dep lev t4 t5 S Ln vs ls n1 n2) 4 20
    (fun r own' => own' = P.own w dep lev t4 t5 S Ln vs ls n1 n2 ∧ ∃ u, r = .int (patAt P.pat p) u) := by
  have hp := ok.pat
  refine con_js ([("self", .ref P.M), ("p", .int p t)]) ([]) ([]) ([("len", .builtin "len")]) (by k_dflt k_is) (by k_dflt k_is) (by kernel_rfl) (by end_is "j gl") (by end_is "j bl") (by exact fun _ _ => BindsTo.of_eq rfl) ?_
  intro dp un gd outer base g L
  simp only [List.map, List.cons_append, List.nil_append]
  refine js_ret (ji_ite (ji_lt (by end_is "j") (by end_is "j")) (fun h => ?_) fun _ => ji_lit) fun t => ⟨rfl, t, congrArg (fun x => Value.int x t) (if_dec _ _)⟩
  have h := of_decide_eq_true h
  end_is "j"
end
/-! an octet in a bytes -/
section
open PySem.Builtin
theorem gives_bytes_in (b : Array UInt8) (t u : Tok) (i : Int) (h0 : 0 ≤ i) (h1 : i < 256) : Gives («bytes.__contains__» ⟨[.bytes b t, .int i u], []⟩) (.val (.bool (b.contains i.toNat.toUInt8))) := by
  refine .of_wp fun M A E s Q hq => ?_
  show wpAny M A (Bytes.containsIn "bytes.__contains__" (.bytes b t) (.int i u) >>= fun r => _) _ E s
  refine wpAny_bind ?_
  unfold Bytes.containsIn
  refine wpAny_bind (wpAny_of_eq (a := Except.ok i) rfl ?_)
  refine wpAny_bind (wpAny_of_eq KBy.buffer_eq ?_)
  show wpAny M A (if (decide (i < 0) || decide (i ≥ 256)) = true then _ else _) _ E s
  rw [if_neg (by simp; omega)]
  exact wpAny_pure (wpAny_pure ⟨_, rfl, hq⟩)
theorem b_in_two {prog : Program} {w : World} {A : Around} {E : Value → Shared → Prop} {s : Shared} {t u : Tok} {i : Int} {Q : Value → Shared → Prop} (h0 : 0 ≤ i) (h1 : i < 256) (h : Q (.bool (decide (i = 98 ∨ i = 102))) s) :
    wpAny (model prog w) A (compareOp .In (.int i t) (.bytes [98, 102].toArray u)) Q E s :=
  in_gives (typeIs_bytes s _ u) FB.slot_bytes_contains FB.entry_bytes_contains (FB.args_bytes_contains_2 _ _) (gives_bytes_in _ u t i h0 h1) (by
    have e : ([98, 102].toArray : Array UInt8).contains i.toNat.toUInt8 = decide (i = 98 ∨ i = 102) := by
      obtain ⟨n, rfl⟩ : ∃ n : Nat, i = n := ⟨i.toNat, by omega⟩
      have hn : n < 256 := by omega
      have : ∀ m : Fin 256, ([98, 102].toArray : Array UInt8).contains (m.val.toUInt8) = decide (((m.val : Nat) : Int) = 98 ∨ ((m.val : Nat) : Int) = 102) := by decide +kernel
      exact this ⟨n, hn⟩
    rw [e]; exact h)
end
theorem patAt_lo (pat : List UInt8) (p : Int) : 0 ≤ patAt pat p := by unfold patAt; split; exact bi_lo _ _; exact Int.le_refl _
theorem patAt_hi (pat : List UInt8) (p : Int) : patAt pat p < 256 := by unfold patAt; split; exact bi_hi _ _; decide
section
variable {c : Cx} {F : FD} {lm : Lm} {P : MP} {dep lev : Int} {t4 t5 : Tok} {S Ln : Addr} {vs ls : List Value} {n1 n2 : Nat} {x : Str} {xp apos pos : Pos} {e : PySem.Expr} {p : Int}
theorem ji_at (ok : P.Ok) (h0 : 0 ≤ p) (ho : JV c F lm (P.own c.w dep lev t4 t5 S Ln vs ls n1 n2) (.Name x xp) (.ref P.M)) (h : JI c F lm (P.own c.w dep lev t4 t5 S Ln vs ls n1 n2) e p) (hk : 4 ≤ c.K := by end_is "j room") (hu : 20 ≤ c.U := by end_is "j room")
    (hl : (apos.endLine == pos.line) = true := by rfl) (hs : simpE e = true := by rfl) : JI c F lm (P.own c.w dep lev t4 t5 S Ln vs ls n1 n2) (.Call (.Attribute (.Name x xp) "at" apos) [e] [] pos) (patAt P.pat p) :=
  jx_meth1 ho hm_at (kp_154 _) h (fun _ => jq_own (c_at ok h0) hk hu) hl hs
end
local macro_rules | `(tactic| end_is "j") => `(tactic| ((with_reducible apply ji_at); (case ho => end_is "j"); (case h => end_is "j"); (case ok => assumption); (case h0 => omega); (case hk => end_is "j room"); (case hu => end_is "j room"); (case hl => exact rfl); (case hs => exact rfl)))
noncomputable def setEnd (pat : List UInt8) : Nat → Int → Bool → Option Int
  | 0, _, _ => none
  | n + 1, p, first =>
    if first = true ∨ ¬ patAt pat p = 93 then
      if (pat.length : Int) ≤ p then none
      else if bi pat p = 37 ∧ p + 1 < (pat.length : Int) then setEnd pat n (p + 1 + 1) false else setEnd pat n (p + 1) false
    else some (p + 1)
noncomputable def classEnd (pat : List UInt8) (p : Int) : Option Int :=
  if patAt pat p = 37 then (if (pat.length : Int) ≤ p + 1 then none else some (p + 2))
  else if ¬ patAt pat p = 91 then some (p + 1)
  else if patAt pat (p + 1) = 94 then setEnd pat 64 (p + 1 + 1) true else setEnd pat 64 (p + 1) true
section
variable {w : World} {mean : ExcName → Option Value} {mg mb : Str → Option Value} {P : MP} {dep lev : Int} {t4 t5 : Tok} {S Ln : Addr} {vs ls : List Value} {n1 n2 : Nat}
theorem c_class_end {p r : Int} {t : Tok} (ok : P.Ok) (h0 : 0 ≤ p) (hr : classEnd P.pat p = some r) : Con w mean mg mb (.ref 161) [.ref P.M, .int p t] (P.own w dep lev t4 t5 S Ln vs ls n1 n2) 12 60
    (fun r' own' => own' = P.own w dep lev t4 t5 S Ln vs ls n1 n2 ∧ ∃ u, r' = .int r u) := by
  have hp := ok.pat
  refine con_jo ([("self", .ref P.M), ("p", .int p t)]) (["first", "is_first", "is_escaped"]) ([("ESCAPE", .int 37 _), ("SET_OPEN", .int 91 _), ("CARET", .int 94 _), ("SET_CLOSE", .int 93 _)]) ([("len", .builtin "len")]) (by k_dflt k_is) (by k_dflt k_is) (by kernel_rfl) (by end_is "j gl") (by end_is "j bl") (by exact fun _ _ => BindsTo.of_eq rfl) ?_
  intro cx Pq e1 e2 e3 e4 hK hU hP hN
  subst e1 e2 e3 e4
  dsimp only [List.map, List.cons_append, List.nil_append]
  refine js_asg (by end_is "j") (by end_is "j set") fun t1 => ?_
  unfold classEnd at hr
  refine js_when (by end_is "j") (fun h => ?_) fun h => ?_
  · replace hr := ite_td h hr
    refine js_when (by end_is "j") (fun h => ?_) fun h => ?_
    · replace hr := ite_td h hr; cases hr
    · replace hr := ite_fd h hr
      refine js_ret (by end_is "j") ?_
      exact fun t => hP _ _ _ ⟨rfl, t, congrArg (fun x => Value.int x t) (Option.some.inj hr)⟩
  replace hr := ite_fd h hr
  refine js_when (by end_is "j") (fun h => ?_) fun h => ?_
  · replace hr := ite_td h hr
    refine js_ret (by end_is "j") ?_
    exact fun t => hP _ _ _ ⟨rfl, t, congrArg (fun x => Value.int x t) (Option.some.inj hr)⟩
  replace hr := ite_fd h hr
  refine js_incr (by end_is "j in") (by end_is "j") (by end_is "j set") fun t2 => ?_
  refine js_whenJ (fun lm nw => nw = P.own cx.w dep lev t4 t5 S Ln vs ls n1 n2 ∧ E2 fun q u => A3 (lm = ([("self", some (.ref P.M)), ("p", some (.int q u)), ("first", some (.int (patAt P.pat p) t1)), ("is_first", none), ("is_escaped", none)] : Lm)) (0 ≤ q) (setEnd P.pat 64 q true = some r)) (by end_is "j") (fun h => ?_) (fun h => ?_) ?_
  · replace hr := ite_td h hr
    refine js_incr (by end_is "j in") (by end_is "j") (by end_is "j set") fun _ => ?_
    exact js_nil ⟨rfl, _, _, rfl, by omega, hr⟩
  · replace hr := ite_fd h hr
    exact ⟨rfl, _, _, rfl, by omega, hr⟩
  clear hr
  rintro _ _ ⟨rfl, q, u, rfl, hq, hr⟩
  refine js_asg (by end_is "j") (by end_is "j set") fun _ => ?_
  refine js_wh (fun n lm nw => nw = P.own cx.w dep lev t4 t5 S Ln vs ls n1 n2 ∧ E4 fun q u fb x => A3 (lm = ([("self", some (.ref P.M)), ("p", some (.int q u)), ("first", some (.int (patAt P.pat p) t1)), ("is_first", some (.bool fb)), ("is_escaped", x)] : Lm)) (0 ≤ q) (setEnd P.pat n q fb = some r)) 64 ⟨rfl, _, _, _, _, rfl, hq, hr⟩ ?_
  clear hr
  rintro n T hT _ _ _ _ _ ⟨rfl, q, u, fb, x, rfl, hq, hr⟩
  cases n with
  | zero => simp [setEnd] at hr
  | succ n =>
    refine ⟨_, jt_or (jt_c (ja_loc (by end_is "j in"))) (fun _ => jt_or (by end_is "j") fun _ => jt_or0), fun h => ?_, fun h => ?_⟩
    · rw [setEnd, if_pos (by simpa using h)] at hr
      refine js_asg (by end_is "j") (by end_is "j set") fun _ => ?_
      refine js_when (by end_is "j") (fun h => ?_) fun h => ?_
      · replace hr := ite_td h hr; cases hr
      replace hr := ite_fd h hr
      have h := of_decide_eq_false h
      refine js_asg (jci_eq (by end_is "j") (by end_is "j")) (by end_is "j set") fun _ => ?_
      refine js_incr (by end_is "j in") (by end_is "j") (by end_is "j set") fun _ => ?_
      refine js_when (jt_and (jt_c (ja_loc (by end_is "j in"))) fun _ => jt_and (by end_is "j") fun _ => jt_and0) (fun h => ?_) fun h => ?_
      · replace hr := ite_t (by simpa using h) hr
        refine js_incr (by end_is "j in") (by end_is "j") (by end_is "j set") fun _ => ?_
        exact js_nil (js_nil (hT n _ _ (Nat.lt_succ_self n) ⟨rfl, _, _, _, _, rfl, by omega, hr⟩))
      · replace hr := ite_f (by simpa using h) hr
        exact js_nil (hT n _ _ (Nat.lt_succ_self n) ⟨rfl, _, _, _, _, rfl, by omega, hr⟩)
    · rw [setEnd, if_neg (by simpa using h)] at hr
      refine js_ret (by end_is "j") ?_
      exact fun t => hP _ _ _ ⟨rfl, t, congrArg (fun x => Value.int x t) (Option.some.inj hr)⟩
end
noncomputable def setHas (pat : List UInt8) (c last : Int) : Nat → Int → Bool
  | 0, _ => false
  | n + 1, p =>
    if p < last then
      if bi pat p = 37 then (if inClass c (patAt pat (p + 1)) = true then true else setHas pat c last n (p + 1 + 1))
      else if patAt pat (p + 1) = 45 ∧ p + 2 < last then (if bi pat p ≤ c ∧ c ≤ bi pat (p + 2) then true else setHas pat c last n (p + 2 + 1))
      else if bi pat p = c then true else setHas pat c last n (p + 1)
    else false
noncomputable def inSet (pat : List UInt8) (c p last : Int) : Bool :=
  if patAt pat (p + 1) = 94 then ! setHas pat c last 80 (p + 1 + 1) else setHas pat c last 80 (p + 1)
theorem jc_in_class {c : Cx} {F : FD} {lm : Lm} {nw : Led} {e1 e2 : PySem.Expr} {xp pos : Pos} {a b : Int} (h1 : JI c F lm nw e1 a) (h2 : JI c F lm nw e2 b) (hf : (Str.ofString "in_class", .ref 125) ∈ F.gl) (hk : 16 ≤ c.K := by end_is "j room") (hu : 80 ≤ c.U := by end_is "j room")
    (hs : simpE e1 = true := by rfl) (hs2 : simpE e2 = true := by rfl) : JC c F lm nw (.Call (.Name "in_class" xp) [e1, e2] [] pos) (inClass a b) :=
  jx_name2 (ja_glb hf) (kp_125 _) h1 h2 (fun _ _ => JX.mono (jx_con0 c_in_class hk hu) fun _ _ ⟨e, e'⟩ => ⟨e, 0, e'⟩) hs hs2
section
variable {w : World} {mean : ExcName → Option Value} {mg mb : Str → Option Value} {P : MP} {dep lev : Int} {t4 t5 : Tok} {S Ln : Addr} {vs ls : List Value} {n1 n2 : Nat}
theorem c_in_set {c p last : Int} {tc t u : Tok} (ok : P.Ok) (h0 : 0 ≤ p) (hl : last ≤ (P.pat.length : Int)) :
    Con w mean mg mb (.ref 168) [.ref P.M, .int c tc, .int p t, .int last u] (P.own w dep lev t4 t5 S Ln vs ls n1 n2) 24 120
    (fun r' own' => own' = P.own w dep lev t4 t5 S Ln vs ls n1 n2 ∧ r' = .bool (inSet P.pat c p last)) := by
  have hp := ok.pat
  refine con_jo ([("self", .ref P.M), ("c", .int c tc), ("p", .int p t), ("last", .int last u)]) (["is_wanted", "here"]) ([("CARET", .int 94 _), ("ESCAPE", .int 37 _), ("in_class", .ref 125), ("MINUS", .int 45 _)]) ([]) (by k_dflt k_is) (by k_dflt k_is) (by kernel_rfl) (by end_is "j gl") (by end_is "j bl") (by exact fun _ _ => BindsTo.of_eq rfl) ?_
  intro cx Pq e1 e2 e3 e4 hK hU hP hN
  subst e1 e2 e3 e4
  dsimp only [List.map, List.cons_append, List.nil_append]
  refine js_asg (by end_is "j") (by end_is "j set") fun _ => ?_
  refine js_incr (by end_is "j in") (by end_is "j") (by end_is "j set") fun _ => ?_
  refine js_whenJ (fun lm nw => nw = P.own cx.w dep lev t4 t5 S Ln vs ls n1 n2 ∧ E3 fun q v wb => A3 (lm = ([("self", some (.ref P.M)), ("c", some (.int c tc)), ("p", some (.int q v)), ("last", some (.int last u)), ("is_wanted", some (.bool wb)), ("here", none)] : Lm)) (0 ≤ q) ((setHas P.pat c last 80 q == wb) = inSet P.pat c p last)) (by end_is "j") (fun h => ?_) (fun h => ?_) ?_
  · refine js_asg (by end_is "j") (by end_is "j set") fun _ => ?_
    refine js_incr (by end_is "j in") (by end_is "j") (by end_is "j set") fun _ => ?_
    refine js_nil ⟨rfl, _, _, _, rfl, by lia, ?_⟩
    rw [inSet, if_pos (of_decide_eq_true h)]; cases setHas P.pat c last 80 (p + 1 + 1) <;> rfl
  · refine ⟨rfl, _, _, _, rfl, by lia, ?_⟩
    rw [inSet, if_neg (of_decide_eq_false h)]; cases setHas P.pat c last 80 (p + 1) <;> rfl
  rintro _ _ ⟨rfl, q, v, wb, rfl, hq0, hres⟩
  generalize hhb : setHas P.pat c last 80 q = hb at hres
  by_cases hn0 : last - q < 80
  case neg => exfalso; lia
  refine js_wh (fun n lm nw => nw = P.own cx.w dep lev t4 t5 S Ln vs ls n1 n2 ∧ E3 fun q v x => A4 (lm = ([("self", some (.ref P.M)), ("c", some (.int c tc)), ("p", some (.int q v)), ("last", some (.int last u)), ("is_wanted", some (.bool wb)), ("here", x)] : Lm)) (0 ≤ q) (last - q < n) (setHas P.pat c last n q = hb)) 80 ⟨rfl, _, _, _, rfl, hq0, by lia, hhb⟩ ?_
  clear hhb hn0 hq0
  rintro n T hT hTc hTb hTr _ _ ⟨rfl, q, v, x, rfl, hq, hn, hr⟩
  refine ⟨_, (by end_is "j"), fun h => ?_, fun h => ?_⟩
  · have hlt := of_decide_eq_true h
    cases n with
    | zero => exfalso; lia
    | succ n =>
    rw [setHas, if_pos hlt] at hr
    refine js_asg (by end_is "j") (by end_is "j set") fun _ => ?_
    refine js_ifJ (fun lm nw => nw = P.own cx.w dep lev t4 t5 S Ln vs ls n1 n2 ∧ E3 fun q v x => A4 (lm = ([("self", some (.ref P.M)), ("c", some (.int c tc)), ("p", some (.int q v)), ("last", some (.int last u)), ("is_wanted", some (.bool wb)), ("here", x)] : Lm)) (0 ≤ q) (last - q < n + 1) (setHas P.pat c last n (q + 1) = hb)) (by end_is "j") (fun h => ?_) (fun h => ?_) ?_
    · replace hr := ite_td h hr
      refine js_incr (by end_is "j in") (by end_is "j") (by end_is "j set") fun _ => ?_
      refine js_when (jt_c (jc_in_class (by end_is "j") (by end_is "j") (by end_is "j in"))) (fun h => ?_) fun h => ?_
      · replace hr := ite_t h hr
        refine js_ret (by end_is "j") ?_
        exact fun _ => hTr _ _ _ (hP _ _ _ ⟨rfl, congrArg Value.bool (by rw [← hres, ← hr]; cases wb <;> rfl)⟩)
      · replace hr := ite_b h hr
        exact js_nil ⟨rfl, _, _, _, rfl, by lia, by lia, hr⟩
    · replace hr := ite_fd h hr
      refine js_ifL (jt_and (by end_is "j") fun _ => jt_and (by end_is "j") fun _ => jt_and0) (fun h => ?_) fun h => ?_
      · have h := (by simpa using h : patAt P.pat (q + 1) = 45 ∧ q + 2 < last)
        replace hr := ite_t h hr
        refine js_when (jt_lele (by end_is "j") (by end_is "j") (by end_is "j")) (fun h => ?_) fun h => ?_
        · replace hr := ite_t (by simpa using h) hr
          refine js_ret (by end_is "j") ?_
          exact fun _ => hTr _ _ _ (hP _ _ _ ⟨rfl, congrArg Value.bool (by rw [← hres, ← hr]; cases wb <;> rfl)⟩)
        · replace hr := ite_f (by simpa using h) hr
          refine js_incr (by end_is "j in") (by end_is "j") (by end_is "j set") fun _ => ?_
          exact js_nil ⟨rfl, _, _, _, rfl, by lia, by lia, hr⟩
      · replace hr := ite_f (by simpa using h) hr
        refine js_when (by end_is "j") (fun h => ?_) fun h => ?_
        · replace hr := ite_td h hr
          refine js_ret (by end_is "j") ?_
          exact fun _ => hTr _ _ _ (hP _ _ _ ⟨rfl, congrArg Value.bool (by rw [← hres, ← hr]; cases wb <;> rfl)⟩)
        · replace hr := ite_fd h hr
          exact js_nil ⟨rfl, _, _, _, rfl, by lia, by lia, hr⟩
    · rintro _ _ ⟨rfl, q, v, x, rfl, hq, hn, hr⟩
      refine js_incr (by end_is "j in") (by end_is "j") (by end_is "j set") fun _ => ?_
      exact js_nil (hT n _ _ (Nat.lt_succ_self n) ⟨rfl, _, _, _, rfl, by lia, by lia, hr⟩)
  · refine js_ret (jc_not (by end_is "j")) ?_
    intro t
    refine hP _ _ _ ⟨rfl, congrArg Value.bool ?_⟩
    have : setHas P.pat c last n q = false := by cases n <;> simp [setHas, of_decide_eq_false h]
    rw [← hres, ← hr, this]; cases wb <;> rfl
end
section
variable {c : Cx} {F : FD} {lm : Lm} {P : MP} {dep lev : Int} {t4 t5 : Tok} {S Ln : Addr} {vs ls : List Value} {n1 n2 : Nat} {x : Str} {xp apos pos : Pos} {e e1 e2 e3 : PySem.Expr} {p q s last : Int}
theorem jc_in_set (ok : P.Ok) (ho : JV c F lm (P.own c.w dep lev t4 t5 S Ln vs ls n1 n2) (.Name x xp) (.ref P.M)) (h1 : JI c F lm (P.own c.w dep lev t4 t5 S Ln vs ls n1 n2) e1 q) (h2 : JI c F lm (P.own c.w dep lev t4 t5 S Ln vs ls n1 n2) e2 p) (h3 : JI c F lm (P.own c.w dep lev t4 t5 S Ln vs ls n1 n2) e3 last) (h0 : 0 ≤ p) (hz : last ≤ (P.pat.length : Int))
    (hk : 24 ≤ c.K := by end_is "j room") (hu : 120 ≤ c.U := by end_is "j room") (hl : (apos.endLine == pos.line) = true := by rfl) (hs : simpE e1 = true := by rfl) (hs2 : simpE e2 = true := by rfl) (hs3 : simpE e3 = true := by rfl) :
    JC c F lm (P.own c.w dep lev t4 t5 S Ln vs ls n1 n2) (.Call (.Attribute (.Name x xp) "in_set" apos) [e1, e2, e3] [] pos) (inSet P.pat q p last) :=
  jx_meth3 ho hm_in_set (kp_168 _) h1 h2 h3 (fun _ _ _ => jq_own0 (c_in_set ok h0 hz) hk hu) hl hs hs2 hs3
end
noncomputable def isSingle (text pat : List UInt8) (s p e : Int) : Bool :=
  if (text.length : Int) ≤ s then false
  else if bi pat p = 46 then true
  else if bi pat p = 37 then inClass (bi text s) (bi pat (p + 1))
  else if bi pat p = 91 then inSet pat (bi text s) p (e - 1)
  else decide (bi pat p = bi text s)
section
variable {w : World} {mean : ExcName → Option Value} {mg mb : Str → Option Value} {P : MP} {dep lev : Int} {t4 t5 : Tok} {S Ln : Addr} {vs ls : List Value} {n1 n2 : Nat}
theorem c_is_single {s p e : Int} {ts tp te : Tok} (ok : P.Ok) (h0 : 0 ≤ s) (h1 : 0 ≤ p) (h2 : p < (P.pat.length : Int)) (he : e ≤ (P.pat.length : Int) + 1) (h3 : bi P.pat p = 37 → p + 1 < (P.pat.length : Int)) :
    Con w mean mg mb (.ref 175) [.ref P.M, .int s ts, .int p tp, .int e te] (P.own w dep lev t4 t5 S Ln vs ls n1 n2) 28 140
    (fun r' own' => own' = P.own w dep lev t4 t5 S Ln vs ls n1 n2 ∧ r' = .bool (isSingle P.text P.pat s p e)) := by
  have hp := ok.pat
  have ht := ok.text
  refine con_js ([("self", .ref P.M), ("s", .int s ts), ("p", .int p tp), ("end", .int e te)]) (["c", "first"]) ([("DOT", .int 46 _), ("ESCAPE", .int 37 _), ("in_class", .ref 125), ("SET_OPEN", .int 91 _)]) ([("len", .builtin "len")]) (by k_dflt k_is) (by k_dflt k_is) (by kernel_rfl) (by end_is "j gl") (by end_is "j bl") (by exact fun _ _ => BindsTo.of_eq rfl) ?_
  intro dp un gd outer base g L
  simp only [List.map, List.cons_append, List.nil_append]
  unfold isSingle
  refine js_when (by end_is "j") (fun h => ?_) fun h => ?_
  · rw [if_pos (of_decide_eq_true h)]
    refine js_ret jc_lit ?_
    exact fun _ => ⟨rfl, rfl⟩
  rw [if_neg (of_decide_eq_false h)]
  have h := of_decide_eq_false h
  refine js_asg2 (by end_is "j") (by end_is "j") (by end_is "j set") (fun _ => (by end_is "j set")) (fun _ _ => ?_)
  refine js_when (by end_is "j") (fun h => ?_) fun h => ?_
  · rw [if_pos (of_decide_eq_true h)]
    refine js_ret jc_lit ?_
    exact fun _ => ⟨rfl, rfl⟩
  rw [if_neg (of_decide_eq_false h)]
  refine js_when (by end_is "j") (fun h => ?_) fun h => ?_
  · rw [if_pos (of_decide_eq_true h)]
    have h3 := h3 (of_decide_eq_true h)
    refine js_ret (jc_in_class (by end_is "j") (by end_is "j") (by end_is "j in")) ?_
    exact fun _ => ⟨rfl, rfl⟩
  rw [if_neg (of_decide_eq_false h)]
  refine js_when (by end_is "j") (fun h => ?_) fun h => ?_
  · rw [if_pos (of_decide_eq_true h)]
    refine js_ret (jc_in_set ok (by end_is "j") (by end_is "j") (by end_is "j") (by end_is "j") h1 (by lia)) ?_
    exact fun _ => ⟨rfl, rfl⟩
  rw [if_neg (of_decide_eq_false h)]
  refine js_ret (jci_eq (by end_is "j") (by end_is "j")) ?_
  exact fun _ => ⟨rfl, rfl⟩
end
section
variable {c : Cx} {F : FD} {lm : Lm} {P : MP} {dep lev : Int} {t4 t5 : Tok} {S Ln : Addr} {vs ls : List Value} {n1 n2 : Nat} {x : Str} {xp apos pos : Pos} {e e1 e2 e3 i : PySem.Expr} {p q s n : Int} {ns : List Int}
theorem jc_single (ok : P.Ok) (ho : JV c F lm (P.own c.w dep lev t4 t5 S Ln vs ls n1 n2) (.Name x xp) (.ref P.M)) (h1 : JI c F lm (P.own c.w dep lev t4 t5 S Ln vs ls n1 n2) e1 s) (h2 : JI c F lm (P.own c.w dep lev t4 t5 S Ln vs ls n1 n2) e2 p) (h3 : JI c F lm (P.own c.w dep lev t4 t5 S Ln vs ls n1 n2) e3 q) (a0 : 0 ≤ s) (a1 : 0 ≤ p) (a2 : p < (P.pat.length : Int)) (a3 : q ≤ (P.pat.length : Int) + 1) (a4 : bi P.pat p = 37 → p + 1 < (P.pat.length : Int))
    (hk : 28 ≤ c.K := by end_is "j room") (hu : 140 ≤ c.U := by end_is "j room") (hl : (apos.endLine == pos.line) = true := by rfl) (hs : simpE e1 = true := by rfl) (hs2 : simpE e2 = true := by rfl) (hs3 : simpE e3 = true := by rfl) :
    JC c F lm (P.own c.w dep lev t4 t5 S Ln vs ls n1 n2) (.Call (.Attribute (.Name x xp) "is_single" apos) [e1, e2, e3] [] pos) (isSingle P.text P.pat s p q) :=
  jx_meth3 ho hm_is_single (kp_175 _) h1 h2 h3 (fun _ _ _ => jq_own0 (c_is_single ok a0 a1 a2 a3 a4) hk hu) hl hs hs2 hs3
theorem ji_starts (ho : JV c F lm (P.own c.w dep lev t4 t5 S Ln vs ls n1 n2) (.Name x xp) (.ref P.M)) (hi : JI c F lm (P.own c.w dep lev t4 t5 S Ln vs ls n1 n2) i n) (hv : IntsAre vs ns) (h0 : 0 ≤ n) (h1 : n < (ns.length : Int)) (hz : ns.length ≤ 100) (hs : noSl i = true := by rfl) : JI c F lm (P.own c.w dep lev t4 t5 S Ln vs ls n1 n2) (.Subscript (.Attribute (.Name x xp) "starts" apos) i pos) (gi ns n) :=
  ji_litem (ja_attr ho ha_starts) hi (.tail _ (.tail _ (.head _))) hv h0 h1 (by omega) hs
theorem ji_lengths (ho : JV c F lm (P.own c.w dep lev t4 t5 S Ln vs ls n1 n2) (.Name x xp) (.ref P.M)) (hi : JI c F lm (P.own c.w dep lev t4 t5 S Ln vs ls n1 n2) i n) (hv : IntsAre ls ns) (h0 : 0 ≤ n) (h1 : n < (ns.length : Int)) (hz : ns.length ≤ 100) (hs : noSl i = true := by rfl) : JI c F lm (P.own c.w dep lev t4 t5 S Ln vs ls n1 n2) (.Subscript (.Attribute (.Name x xp) "lengths" apos) i pos) (gi ns n) :=
  ji_litem (ja_attr ho ha_lengths) hi (.tail _ (.tail _ (.tail _ (.head _)))) hv h0 h1 (by omega) hs
end
structure MX where
  lev : Int
  st : List Int
  ln : List Int
noncomputable def Dist (a b c d : Nat) : Prop := a ≠ b ∧ a ≠ c ∧ a ≠ d ∧ b ≠ c ∧ b ≠ d ∧ c ≠ d
noncomputable def closeAt (ln : List Int) : Nat → Option Int
  | 0 => none
  | n + 1 => if gi ln n = -1 then some n else closeAt ln n
section
variable {w : World} {mean : ExcName → Option Value} {mg mb : Str → Option Value} {P : MP} {dep lev : Int} {t4 t5 : Tok} {S Ln : Addr} {vs ls : List Value} {n1 n2 : Nat}
theorem c_to_close {ln : List Int} {r : Int} (hls : IntsAre ls ln) (h0 : 0 ≤ lev) (h1 : lev ≤ (ln.length : Int)) (h2 : ln.length ≤ 100) (hr : closeAt ln lev.toNat = some r) :
    Con w mean mg mb (.ref 245) [.ref P.M] (P.own w dep lev t4 t5 S Ln vs ls n1 n2) 12 60
    (fun v own' => own' = P.own w dep lev t4 t5 S Ln vs ls n1 n2 ∧ ∃ t, v = .int r t) := by
  refine con_js ([("self", .ref P.M)]) (["number"]) ([("UNFINISHED", .int (-1) _)]) ([]) (by k_dflt k_is) (by k_dflt k_is) (by kernel_rfl) (by end_is "j gl") (by end_is "j bl") (by exact fun _ _ => BindsTo.of_eq rfl) ?_
  intro dp un gd outer base g L
  simp only [List.map, List.cons_append, List.nil_append]
  refine js_asg (by end_is "j") (by end_is "j set") fun tn => ?_
  refine js_while (fun n lm nw => nw = P.own w dep lev t4 t5 S Ln vs ls n1 n2 ∧ ∃ u, lm = ([("self", some (.ref P.M)), ("number", some (.int ((n : Int) - 1) u))] : Lm) ∧ (n : Int) ≤ lev ∧ closeAt ln n = some r) lev.toNat ⟨rfl, tn, ?_, by omega, hr⟩ ?_
  · rw [show ((lev.toNat : Nat) : Int) = lev by omega]
  clear hr
  rintro n _ _ ⟨rfl, u, rfl, hn, hr⟩
  cases n with
  | zero => simp [closeAt] at hr
  | succ n =>
    rw [show (((n + 1 : Nat) : Int) - 1) = n by omega]
    refine ⟨_, (by end_is "j"), fun h => ?_, fun h => ?_⟩
    · refine js_when (ji_eq (ji_lengths (by end_is "j") (by end_is "j") hls (by omega) (by omega) h2) (by end_is "j")) (fun h => ?_) fun h => ?_
      · rw [closeAt, if_pos (of_decide_eq_true h)] at hr
        cases hr
        refine js_ret (by end_is "j") ?_
        exact fun t => ⟨rfl, t, rfl⟩
      · rw [closeAt, if_neg (of_decide_eq_false h)] at hr
        refine js_decr (by end_is "j in") (by end_is "j") (by end_is "j set") fun _ => ?_
        exact js_nil ⟨n, Nat.lt_succ_self n, rfl, _, rfl, by omega, hr⟩
    · exfalso
      have := of_decide_eq_false h
      omega
/-- the sought text's part -/
noncomputable def matchCapture (text : List UInt8) (x : MX) (s digit : Int) : Option (Option Int) :=
  if digit - 49 < 0 ∨ x.lev ≤ digit - 49 ∨ gi x.ln (digit - 49) = -1 then none
  else if gi x.ln (digit - 49) = -2 ∨ (text.length : Int) - s < gi x.ln (digit - 49) then some none
  else if sl text (some (gi x.st (digit - 49))) (some (gi x.st (digit - 49) + gi x.ln (digit - 49))) = sl text (some s) (some (s + gi x.ln (digit - 49))) then some (some (s + gi x.ln (digit - 49))) else some none
noncomputable def OptV (r : Option Int) (v : Value) : Prop := match r with
  | none => v = .none
  | some i => ∃ t, v = .int i t
theorem c_match_capture {st ln : List Int} {s digit : Int} {r : Option Int} {ts td : Tok} (ok : P.Ok) (hvs : IntsAre vs st) (hls : IntsAre ls ln) (h1 : lev ≤ (ln.length : Int)) (h2 : ln.length ≤ 100) (h3 : lev ≤ (st.length : Int)) (h4 : st.length ≤ 100) (hr : matchCapture P.text ⟨lev, st, ln⟩ s digit = some r) :
    Con w mean mg mb (.ref 252) [.ref P.M, .int s ts, .int digit td] (P.own w dep lev t4 t5 S Ln vs ls n1 n2) 12 60
    (fun v own' => own' = P.own w dep lev t4 t5 S Ln vs ls n1 n2 ∧ OptV r v) := by
  have ht := ok.text
  unfold matchCapture at hr
  dsimp only at hr
  by_cases hA : digit - 49 < 0 ∨ lev ≤ digit - 49 ∨ gi ln (digit - 49) = -1
  · replace hr := ite_t hA hr; cases hr
  replace hr := ite_f hA hr
  refine con_js ([("self", .ref P.M), ("s", .int s ts), ("digit", .int digit td)]) (["number", "size", "start"]) ([("UNFINISHED", .int (-1) _), ("POSITION", .int (-2) _)]) ([("len", .builtin "len")]) (by k_dflt k_is) (by k_dflt k_is) (by kernel_rfl) (by end_is "j gl") (by end_is "j bl") (by exact fun _ _ => BindsTo.of_eq rfl) ?_
  intro dp un gd outer base g L
  simp only [List.map, List.cons_append, List.nil_append]
  refine js_asg (by end_is "j") (by end_is "j set") fun tn => ?_
  have a0 : 0 ≤ digit - 49 := by omega
  have a1 : digit - 49 < lev := by omega
  refine js_when (jt_or (by end_is "j") fun _ => jt_or (by end_is "j") fun _ => jt_or (ji_eq (ji_lengths (by end_is "j") (by end_is "j") hls (by omega) (by omega) h2) (by end_is "j")) fun _ => jt_or0) (fun h => ?_) fun _ => ?_
  · exact absurd (by simpa using h) hA
  refine js_asg (ji_lengths (by end_is "j") (by end_is "j") hls (by omega) (by omega) h2) (by end_is "j set") fun _ => ?_
  refine js_when (jt_or (by end_is "j") fun _ => jt_or (by end_is "j") fun _ => jt_or0) (fun h => ?_) fun h => ?_
  · replace hr := ite_t (by simpa using h) hr
    cases hr
    refine js_ret jn_lit ?_
    exact fun _ => ⟨rfl, rfl⟩
  replace hr := ite_f (by simpa using h) hr
  refine js_asg (ji_starts (by end_is "j") (by end_is "j") hvs (by omega) (by omega) h4) (by end_is "j set") fun _ => ?_
  refine js_retX (jx_ite (jb_eq (jb_slice (by end_is "j") (jp_some (by end_is "j")) (jp_some (by end_is "j")) (by omega)) (jb_slice (by end_is "j") (jp_some (by end_is "j")) (jp_some (by end_is "j")) (by omega))) (R := fun v n => n = P.own w dep lev t4 t5 S Ln vs ls n1 n2 ∧ OptV r v) (fun h => ?_) fun h => ?_) fun v n h => h
  · replace hr := ite_td h hr
    cases hr
    refine ja_x (by end_is "j") ?_
    exact fun u => ⟨rfl, u, rfl⟩
  · replace hr := ite_fd h hr
    cases hr
    exact ja_x jn_lit fun u => ⟨rfl, rfl⟩
end
theorem nlt {a b : Int} (h : decide (a ≤ b) = false) : b < a := by simpa using h
noncomputable def balLoop (text : List UInt8) (b e : Int) : Nat → Int → Int → Option Int
  | 0, _, _ => none
  | n + 1, s, o =>
    if s < (text.length : Int) then
      if bi text s = e then (if o - 1 = 0 then some (s + 1) else balLoop text b e n (s + 1) (o - 1))
      else if bi text s = b then balLoop text b e n (s + 1) (o + 1) else balLoop text b e n (s + 1) o
    else none
noncomputable def matchBalance (text pat : List UInt8) (s p : Int) : Option (Option Int) :=
  if (pat.length : Int) ≤ p + 1 then none
  else if (text.length : Int) ≤ s then some none
  else if ¬ bi text s = bi pat p then some none
  else some (balLoop text (bi pat p) (bi pat (p + 1)) 80 (s + 1) 1)
section
variable {w : World} {mean : ExcName → Option Value} {mg mb : Str → Option Value} {P : MP} {dep lev : Int} {t4 t5 : Tok} {S Ln : Addr} {vs ls : List Value} {n1 n2 : Nat}
theorem c_match_balance {s p : Int} {r : Option Int} {ts tp : Tok} (ok : P.Ok) (h0 : 0 ≤ s) (h1 : 0 ≤ p) (hr : matchBalance P.text P.pat s p = some r) :
    Con w mean mg mb (.ref 203) [.ref P.M, .int s ts, .int p tp] (P.own w dep lev t4 t5 S Ln vs ls n1 n2) 12 60
    (fun v own' => own' = P.own w dep lev t4 t5 S Ln vs ls n1 n2 ∧ OptV r v) := by
  have ht := ok.text
  have hp := ok.pat
  unfold matchBalance at hr
  refine con_jo ([("self", .ref P.M), ("s", .int s ts), ("p", .int p tp)]) (["begin", "end", "open_ones", "c"]) ([]) ([("len", .builtin "len")]) (by k_dflt k_is) (by k_dflt k_is) (by kernel_rfl) (by end_is "j gl") (by end_is "j bl") (by exact fun _ _ => BindsTo.of_eq rfl) ?_
  intro cx Pq e1 e2 e3 e4 hK hU hP hN
  subst e1 e2 e3 e4
  dsimp only [List.map, List.cons_append, List.nil_append]
  refine js_when (by end_is "j") (fun h => ?_) fun h => ?_
  · replace hr := ite_td h hr; cases hr
  replace hr := ite_fd h hr
  have hpl := of_decide_eq_false h
  refine js_asg2 (by end_is "j") (by end_is "j") (by end_is "j set") (fun _ => (by end_is "j set")) (fun _ _ => ?_)
  refine js_when (jt_or (by end_is "j") fun h => jt_or (ji_ne (ji_item (by end_is "j") (by end_is "j") (by omega) h0 (nlt h)) (by end_is "j")) fun _ => jt_or0) (fun h => ?_) fun h => ?_
  · have hn : r = none := by
      by_cases hs : (P.text.length : Int) ≤ s
      · replace hr := ite_t hs hr; exact (Option.some.inj hr).symm
      · rw [if_neg hs, if_pos (by simpa [hs] using h)] at hr; exact (Option.some.inj hr).symm
    refine js_ret jn_lit ?_
    exact fun _ => hP _ _ _ ⟨rfl, by rw [hn]; rfl⟩
  obtain ⟨hs, hb⟩ := (by simpa using h : s < (P.text.length : Int) ∧ bi P.text s = bi P.pat p)
  rw [if_neg (by omega), if_neg (fun h => h hb)] at hr
  have hr := Option.some.inj hr
  refine js_asg (by end_is "j") (by end_is "j set") fun _ => ?_
  refine js_incr (by end_is "j in") (by end_is "j") (by end_is "j set") fun _ => ?_
  rename_i tb te _ _
  refine js_wh (fun n lm nw => nw = P.own cx.w dep lev t4 t5 S Ln vs ls n1 n2 ∧ E5 fun q u o v x => A4 (lm = ([("self", some (.ref P.M)), ("s", some (.int q u)), ("p", some (.int p tp)), ("begin", some (.int (bi P.pat p) tb)), ("end", some (.int (bi P.pat (p + 1)) te)), ("open_ones", some (.int o v)), ("c", x)] : Lm)) (0 ≤ q) ((P.text.length : Int) - q < n) (balLoop P.text (bi P.pat p) (bi P.pat (p + 1)) n q o = r)) 80 ⟨rfl, _, _, _, _, _, rfl, by omega, by omega, hr⟩ ?_
  clear hr hs hb h
  rintro n T hT _ _ hTr _ _ ⟨rfl, q, u, o, v, x, rfl, hq, hn, hr⟩
  refine ⟨_, (by end_is "j"), fun h => ?_, fun h => ?_⟩
  · have hlt := of_decide_eq_true h
    cases n with
    | zero => exfalso; omega
    | succ n =>
    rw [balLoop, if_pos hlt] at hr
    refine js_asg (by end_is "j") (by end_is "j set") fun _ => ?_
    refine js_ifJ (fun lm nw => nw = P.own cx.w dep lev t4 t5 S Ln vs ls n1 n2 ∧ E3 fun v o x => lm = ([("self", some (.ref P.M)), ("s", some (.int q u)), ("p", some (.int p tp)), ("begin", some (.int (bi P.pat p) tb)), ("end", some (.int (bi P.pat (p + 1)) te)), ("open_ones", some (.int o v)), ("c", x)] : Lm) ∧ balLoop P.text (bi P.pat p) (bi P.pat (p + 1)) n (q + 1) o = r) (by end_is "j") (fun h => ?_) (fun h => ?_) ?_
    · replace hr := ite_td h hr
      refine js_decr (by end_is "j in") (by end_is "j") (by end_is "j set") fun _ => ?_
      refine js_when (by end_is "j") (fun h => ?_) fun h => ?_
      · replace hr := ite_td h hr
        refine js_ret (by end_is "j") ?_
        exact fun t => hTr _ _ _ (hP _ _ _ ⟨rfl, by rw [← hr]; exact ⟨t, rfl⟩⟩)
      · replace hr := ite_fd h hr
        exact js_nil ⟨rfl, _, _, _, rfl, hr⟩
    · replace hr := ite_fd h hr
      refine js_when (by end_is "j") (fun h => ?_) fun h => ?_
      · replace hr := ite_td h hr
        refine js_incr (by end_is "j in") (by end_is "j") (by end_is "j set") fun _ => ?_
        exact js_nil (js_nil ⟨rfl, _, _, _, rfl, hr⟩)
      · replace hr := ite_fd h hr
        exact js_nil ⟨rfl, _, _, _, rfl, hr⟩
    · rintro _ _ ⟨rfl, v, o, x, rfl, hr⟩
      refine js_incr (by end_is "j in") (by end_is "j") (by end_is "j set") fun _ => ?_
      exact js_nil (hT n _ _ (Nat.lt_succ_self n) ⟨rfl, _, _, _, _, _, rfl, by omega, by omega, hr⟩)
  · have : balLoop P.text (bi P.pat p) (bi P.pat (p + 1)) n q o = none := by cases n <;> simp [balLoop, of_decide_eq_false h]
    rw [this] at hr
    refine js_ret jn_lit ?_
    exact fun _ => hP _ _ _ ⟨rfl, by rw [← hr]; rfl⟩
end
theorem setEnd_le {pat : List UInt8} : ∀ {n : Nat} {p e : Int} {b : Bool}, setEnd pat n p b = some e → 0 ≤ p → p < e ∧ e ≤ (pat.length : Int) := by
  intro n
  induction n with
  | zero => intro p e b h; simp [setEnd] at h
  | succ n ih =>
    intro p e b h h0
    rw [setEnd] at h
    split at h
    · split at h
      · cases h
      · split at h
        · have := ih h (by lia); lia
        · have := ih h (by lia); lia
    · rename_i hc
      have hp : patAt pat p = 93 := by
        apply Decidable.byContradiction; intro hn; exact hc (.inr hn)
      have : p < (pat.length : Int) := by
        apply Decidable.byContradiction; intro hn
        unfold patAt at hp; replace hp := ite_f hn hp; cases hp
      cases h; lia
theorem classEnd_le {pat : List UInt8} {p e : Int} (h : classEnd pat p = some e) (h0 : 0 ≤ p) (h1 : p < (pat.length : Int)) : p < e ∧ e ≤ (pat.length : Int) ∧ (bi pat p = 37 → p + 1 < (pat.length : Int)) := by
  have hb : patAt pat p = bi pat p := by unfold patAt; rw [if_pos h1]
  unfold classEnd at h
  rw [hb] at h
  split at h
  · split at h
    · cases h
    · cases h; lia
  · split at h
    · cases h; exact ⟨by lia, by lia, fun q => absurd q (by assumption)⟩
    · split at h
      · have := setEnd_le h (by lia); exact ⟨by lia, by lia, fun q => absurd q (by assumption)⟩
      · have := setEnd_le h (by lia); exact ⟨by lia, by lia, fun q => absurd q (by assumption)⟩
/-- %f -/
noncomputable def frontierOk (text pat : List UInt8) (s p e : Int) : Bool :=
  !inSet pat (if s = 0 then 0 else bi text (s - 1)) p (e - 1) && inSet pat (if s < (text.length : Int) then bi text s else 0) p (e - 1)
noncomputable def matchFrontier (text pat : List UInt8) (s p : Int) : Option (Option Int × Int) :=
  if ¬ patAt pat p = 91 then none else (classEnd pat p).map fun e => (if frontierOk text pat s p e then some s else none, e)
section
variable {c : Cx} {F : FD} {lm : Lm} {P : MP} {dep lev : Int} {t4 t5 : Tok} {S Ln : Addr} {vs ls : List Value} {n1 n2 : Nat} {x : Str} {xp apos pos : Pos} {e : PySem.Expr} {p r : Int}
theorem ji_class_end (ok : P.Ok) (h0 : 0 ≤ p) (hr : classEnd P.pat p = some r) (ho : JV c F lm (P.own c.w dep lev t4 t5 S Ln vs ls n1 n2) (.Name x xp) (.ref P.M)) (h : JI c F lm (P.own c.w dep lev t4 t5 S Ln vs ls n1 n2) e p) (hk : 12 ≤ c.K := by end_is "j room") (hu : 60 ≤ c.U := by end_is "j room")
    (hl : (apos.endLine == pos.line) = true := by rfl) (hs : simpE e = true := by rfl) : JI c F lm (P.own c.w dep lev t4 t5 S Ln vs ls n1 n2) (.Call (.Attribute (.Name x xp) "class_end" apos) [e] [] pos) r :=
  jx_meth1 ho hm_class_end (kp_161 _) h (fun _ => jq_own (c_class_end ok h0 hr) hk hu) hl hs
end
section
variable {w : World} {mean : ExcName → Option Value} {mg mb : Str → Option Value} {P : MP} {dep lev : Int} {t4 t5 : Tok} {S Ln : Addr} {vs ls : List Value} {n1 n2 : Nat}
theorem c_match_frontier {s p e : Int} {r : Option Int} {ts tp : Tok} (ok : P.Ok) (h0 : 0 ≤ s) (h00 : s ≤ (P.text.length : Int)) (h1 : 0 ≤ p) (hr : matchFrontier P.text P.pat s p = some (r, e)) :
    Con w mean mg mb (.ref 210) [.ref P.M, .int s ts, .int p tp] (P.own w dep lev t4 t5 S Ln vs ls n1 n2) 28 140
    (fun v own' => E3 fun T x u => A3 (v = .ref T) (own' = (T, tupO [x, .int e u]) :: P.own w dep lev t4 t5 S Ln vs ls n1 n2) (OptV r x)) := by
  have ht := ok.text
  have hp := ok.pat
  unfold matchFrontier at hr
  by_cases h91 : patAt P.pat p = 91
  case neg => replace hr := ite_t h91 hr; cases hr
  rw [if_neg (fun h => h h91)] at hr
  obtain ⟨e', hce, hr⟩ := Option.map_eq_some_iff.mp hr
  obtain ⟨hr', rfl⟩ := Prod.mk.inj hr
  clear hr
  have h2 : p < (P.pat.length : Int) := by
    apply Decidable.byContradiction; intro hn
    unfold patAt at h91; replace h91 := ite_f hn h91; cases h91
  have hle := classEnd_le hce h1 h2
  refine con_js ([("self", .ref P.M), ("s", .int s ts), ("p", .int p tp)]) (["end", "ahead", "here"]) ([("SET_OPEN", .int 91 _)]) ([("len", .builtin "len")]) (by k_dflt k_is) (by k_dflt k_is) (by kernel_rfl) (by end_is "j gl") (by end_is "j bl") (by exact fun _ _ => BindsTo.of_eq rfl) ?_
  intro dp un gd outer base g L
  simp only [List.map, List.cons_append, List.nil_append]
  refine js_when (by end_is "j") (fun h => absurd h91 (of_decide_eq_true h)) fun _ => ?_
  refine js_asg (ji_class_end ok h1 hce (by end_is "j") (by end_is "j")) (by end_is "j set") fun _ => ?_
  refine js_asg (ji_ite (by end_is "j") (fun _ => ji_lit) fun h => ji_item (by end_is "j") (by end_is "j") (by lia) (by have := of_decide_eq_false h; lia) (by lia)) (by end_is "j set") fun _ => ?_
  refine js_asg (ji_ite (by end_is "j") (fun h => ji_item (by end_is "j") (by end_is "j") (by lia) h0 (of_decide_eq_true h)) fun _ => ji_lit) (by end_is "j set") fun _ => ?_
  rw [if_dec, if_dec]
  have hfr : (inSet P.pat (if s = 0 then 0 else bi P.text (s - 1)) p (e' - 1) || !inSet P.pat (if s < (P.text.length : Int) then bi P.text s else 0) p (e' - 1)) = !frontierOk P.text P.pat s p e' := by
    unfold frontierOk; rw [Bool.not_and, Bool.not_not]
  refine js_when (jt_or (jt_c (jc_in_set ok (by end_is "j") (by end_is "j") (by end_is "j") (by end_is "j") h1 (by lia))) fun _ => jt_or (jt_not (jt_c (jc_in_set ok (by end_is "j") (by end_is "j") (by end_is "j") (by end_is "j") h1 (by lia)))) fun _ => jt_or0) (fun h => ?_) fun h => ?_
  · rw [Bool.or_false, hfr] at h
    replace hr' := ite_f (by simpa using h) hr'
    subst hr'
    refine js_retX (jx_tup2 jn_lit (by end_is "j")) ?_
    rintro v n ⟨T, t, u, rfl, rfl, _⟩
    exact ⟨T, _, _, rfl, rfl, rfl⟩
  · rw [Bool.or_false, hfr] at h
    replace hr' := ite_t (by simpa using h) hr'
    subst hr'
    refine js_retX (jx_tup2 (by end_is "j") (by end_is "j")) ?_
    rintro v n ⟨T, t, u, rfl, rfl, _⟩
    exact ⟨T, _, _, rfl, rfl, t, rfl⟩
end
noncomputable def matchSpecial (text pat : List UInt8) (x : MX) (s p letter : Int) : Option (Option Int × Int) :=
  if letter = 98 then (matchBalance text pat s (p + 2)).map fun r => (r, p + 4)
  else if letter = 102 then matchFrontier text pat s (p + 2)
  else (matchCapture text x s letter).map fun r => (r, p + 2)
section
variable {w : World} {mean : ExcName → Option Value} {mg mb : Str → Option Value} {P : MP} {dep lev : Int} {t4 t5 : Tok} {S Ln : Addr} {vs ls : List Value} {n1 n2 : Nat}
theorem c_match_special {st ln : List Int} {s p letter e : Int} {r : Option Int} {ts tp tl : Tok} (ok : P.Ok) (hvs : IntsAre vs st) (hls : IntsAre ls ln) (h1 : lev ≤ (ln.length : Int)) (h2 : ln.length ≤ 100) (h3 : lev ≤ (st.length : Int)) (h4 : st.length ≤ 100)
    (h0 : 0 ≤ s) (h00 : s ≤ (P.text.length : Int)) (hp0 : 0 ≤ p) (hr : matchSpecial P.text P.pat ⟨lev, st, ln⟩ s p letter = some (r, e)) :
    Con w mean mg mb (.ref 196) [.ref P.M, .int s ts, .int p tp, .int letter tl] (P.own w dep lev t4 t5 S Ln vs ls n1 n2) 32 160
    (fun v own' => E3 fun T x u => A3 (v = .ref T) (own' = (T, tupO [x, .int e u]) :: P.own w dep lev t4 t5 S Ln vs ls n1 n2) (OptV r x)) := by
  unfold matchSpecial at hr
  refine con_js ([("self", .ref P.M), ("s", .int s ts), ("p", .int p tp), ("letter", .int letter tl)]) ([]) ([]) ([]) (by k_dflt k_is) (by k_dflt k_is) (by kernel_rfl) (by end_is "j gl") (by end_is "j bl") (by exact fun _ _ => BindsTo.of_eq rfl) ?_
  intro dp un gd outer base g L
  simp only [List.map, List.cons_append, List.nil_append]
  refine js_when (by end_is "j") (fun h => ?_) fun h => ?_
  · replace hr := ite_td h hr
    obtain ⟨r0, hb, hre⟩ := Option.map_eq_some_iff.mp hr
    cases hre
    refine js_retX (jx_tup2R (jx_meth2 (by end_is "j") hm_match_balance (kp_203 _) (by end_is "j") (by end_is "j") fun _ _ => jx_con1 (c_match_balance ok h0 (by lia) hb) (by end_is "j room") (by end_is "j room")) (by end_is "j")) ?_
    exact fun v n h => h
  replace hr := ite_fd h hr
  refine js_when (by end_is "j") (fun h => ?_) fun h => ?_
  · replace hr := ite_td h hr
    refine js_retX (jx_meth2 (by end_is "j") hm_match_frontier (kp_210 _) (by end_is "j") (by end_is "j") fun _ _ => jx_con1 (c_match_frontier ok h0 h00 (by lia) hr) (by end_is "j room") (by end_is "j room")) ?_
    exact fun v n h => h
  · replace hr := ite_fd h hr
    obtain ⟨r0, hb, hre⟩ := Option.map_eq_some_iff.mp hr
    cases hre
    refine js_retX (jx_tup2R (jx_meth2 (by end_is "j") hm_match_capture (kp_252 _) (by end_is "j") (by end_is "j") fun _ _ => jx_con1 (c_match_capture ok hvs hls h1 h2 h3 h4 hb) (by end_is "j room") (by end_is "j room")) (by end_is "j")) ?_
    exact fun v n h => h
end
/-- the matcher's objects stand so -/
noncomputable def MP.Is (P : MP) (w : World) (dep lev : Int) (st ln : List Int) (own : List (Addr × Obj)) : Prop :=
  E8 fun (t4 t5 : Tok) (S Ln : Addr) (vs ls : List Value) (n1 n2 : Nat) => A4 (own = P.own w dep lev t4 t5 S Ln vs ls n1 n2) (IntsAre vs st) (IntsAre ls ln) (Dist P.M P.D S Ln)
noncomputable abbrev MF := Int → Int → MX → Option (Option Int × MX)
/-- an end of a match -/
theorem here_ret {P : MP} {w : World} {dep lev lev' : Int} {st ln st' ln' : List Int} {x r : Option Int} {v : Value} {n : Led} (hr : some (x, (⟨lev, st, ln⟩ : MX)) = some (r, ⟨lev', st', ln'⟩)) (hI : P.Is w dep lev st ln n) (hv : OptV x v) : OptV r v ∧ P.Is w dep lev' st' ln' n := by
  cases hr; exact ⟨hv, hI⟩
noncomputable def Matches (w : World) (mean : ExcName → Option Value) (mg mb : Str → Option Value) (P : MP) (dep : Int) (M : MF) (k uk : Nat) : Prop :=
  ∀ s p lev st ln r lev' st' ln' own ts tp, P.Is w dep lev st ln own → M s p ⟨lev, st, ln⟩ = some (r, ⟨lev', st', ln'⟩) →
    Con w mean mg mb (.ref 182) [.ref P.M, .int s ts, .int p tp] own k uk (fun v own' => OptV r v ∧ P.Is w dep lev' st' ln' own')
noncomputable def countS (text pat : List UInt8) (s p e : Int) : Nat → Int → Int
  | 0, m => m
  | n + 1, m => if isSingle text pat (s + m) p e = true then countS text pat s p e n (m + 1) else m
noncomputable def tryMost (M : MF) (s e : Int) : Nat → MX → Option (Option Int × MX)
  | 0, x => some (none, x)
  | n + 1, x => match M (s + n) (e + 1) x with
    | none => none
    | some (some r, x') => some (some r, x')
    | some (none, x') => tryMost M s e n x'
noncomputable def expandMost (text pat : List UInt8) (M : MF) (s p e : Int) (x : MX) : Option (Option Int × MX) := tryMost M s e ((countS text pat s p e 80 0).toNat + 1) x
section
variable {c : Cx} {F : FD} {lm : Lm} {P : MP} {dep lev : Int} {t4 t5 : Tok} {S Ln : Addr} {vs ls : List Value} {n1 n2 : Nat} {x : Str} {xp apos pos : Pos} {e1 e2 : PySem.Expr} {s p lev' : Int} {r : Option Int} {st ln st' ln' : List Int} {M : MF} {k uk : Nat}
/-- `x.match(s, p)` -/
theorem jx_match (hM : Matches c.w c.mean c.mg c.mb P dep M k uk) (hk : k ≤ c.K) (hu : uk ≤ c.U) (hvs : IntsAre vs st) (hls : IntsAre ls ln) (hd : Dist P.M P.D S Ln) (hr : M s p ⟨lev, st, ln⟩ = some (r, ⟨lev', st', ln'⟩))
    (ho : JV c F lm (P.own c.w dep lev t4 t5 S Ln vs ls n1 n2) (.Name x xp) (.ref P.M)) (h1 : JI c F lm (P.own c.w dep lev t4 t5 S Ln vs ls n1 n2) e1 s) (h2 : JI c F lm (P.own c.w dep lev t4 t5 S Ln vs ls n1 n2) e2 p)
    (hl : (apos.endLine == pos.line) = true := by rfl) (hs : simpE e1 = true := by rfl) (hs2 : simpE e2 = true := by rfl) :
    JE c F lm (P.own c.w dep lev t4 t5 S Ln vs ls n1 n2) (.Call (.Attribute (.Name x xp) "match" apos) [e1, e2] [] pos) (fun v n => OptV r v ∧ P.Is c.w dep lev' st' ln' n) :=
  jx_meth2 ho hm_match (kp_182 _) h1 h2 (fun _ _ => jx_con1 (hM _ _ _ _ _ _ _ _ _ _ _ _ ⟨_, _, _, _, _, _, _, _, rfl, hvs, hls, hd⟩ hr) hk hu) hl hs hs2
end
theorem single_lt {text pat : List UInt8} {s p e : Int} (h : isSingle text pat s p e = true) : s < (text.length : Int) := by
  apply Decidable.byContradiction; intro hn
  rw [isSingle, if_pos (by lia)] at h; cases h
section
variable {w : World} {mean : ExcName → Option Value} {mg mb : Str → Option Value} {P : MP} {dep lev : Int} {t4 t5 : Tok} {S Ln : Addr} {vs ls : List Value} {n1 n2 : Nat}
theorem c_expand_most {M : MF} {k uk : Nat} (ok : P.Ok) (hM : Matches w mean mg mb P dep M k uk) (hk : 30 ≤ k) (huk : 150 ≤ uk) {s p e : Int} {st ln : List Int} {r : Option Int} {lev' : Int} {st' ln' : List Int} {ts tp te : Tok} (hvs : IntsAre vs st) (hls : IntsAre ls ln) (hd : Dist P.M P.D S Ln)
    (h0 : 0 ≤ s) (h1 : 0 ≤ p) (h2 : p < (P.pat.length : Int)) (he : e ≤ (P.pat.length : Int) + 1) (h3 : bi P.pat p = 37 → p + 1 < (P.pat.length : Int)) (hr : expandMost P.text P.pat M s p e ⟨lev, st, ln⟩ = some (r, ⟨lev', st', ln'⟩)) :
    Con w mean mg mb (.ref 217) [.ref P.M, .int s ts, .int p tp, .int e te] (P.own w dep lev t4 t5 S Ln vs ls n1 n2) (k + 2) (uk + 40) (fun v own' => OptV r v ∧ P.Is w dep lev' st' ln' own') := by
  have ht := ok.text
  refine con_jo ([("self", .ref P.M), ("s", .int s ts), ("p", .int p tp), ("end", .int e te)]) (["many", "found"]) ([]) ([]) (by k_dflt k_is) (by k_dflt k_is) (by kernel_rfl) (by end_is "j gl") (by end_is "j bl") (by exact fun _ _ => BindsTo.of_eq rfl) ?_
  intro cx Pq e1 e2 e3 e4 hK hU hP hN
  subst e1 e2 e3 e4
  dsimp only [List.map, List.cons_append, List.nil_append]
  refine js_asg (by end_is "j") (by end_is "j set") fun _ => ?_
  refine js_wh (fun n lm nw => nw = P.own cx.w dep lev t4 t5 S Ln vs ls n1 n2 ∧ E2 fun q u => A4 (lm = ([("self", some (.ref P.M)), ("s", some (.int s ts)), ("p", some (.int p tp)), ("end", some (.int e te)), ("many", some (.int q u)), ("found", none)] : Lm)) (0 ≤ q) ((P.text.length : Int) - (s + q) < n) (countS P.text P.pat s p e n q = countS P.text P.pat s p e 80 0)) 80 ⟨rfl, _, _, rfl, by lia, by lia, rfl⟩ ?_
  rintro n T hT _ _ _ _ _ ⟨rfl, q, u, rfl, hq0, hn, hc⟩
  refine ⟨_, jt_c (jc_single ok (by end_is "j") (by end_is "j") (by end_is "j") (by end_is "j") (by lia) h1 h2 he h3 (by end_is "j room") (by end_is "j room")), fun h => ?_, fun h => ?_⟩
  · have hlt := single_lt h
    obtain ⟨n, rfl⟩ : ∃ n', n = n' + 1 := ⟨n - 1, by lia⟩
    refine js_incr (by end_is "j in") (by end_is "j") (by end_is "j set") fun _ => ?_
    exact js_nil (hT n _ _ (Nat.lt_succ_self n) ⟨rfl, _, _, rfl, by lia, by lia, by rw [← hc, countS, if_pos h]⟩)
  have hC : countS P.text P.pat s p e 80 0 = q := by
    rw [← hc]; cases n <;> simp [countS, h]
  unfold expandMost at hr
  rw [hC] at hr
  clear hc hn hC h
  refine js_wh (fun n lm nw => E2 fun u x => lm = ([("self", some (.ref P.M)), ("s", some (.int s ts)), ("p", some (.int p tp)), ("end", some (.int e te)), ("many", some (.int ((n : Int) - 1) u)), ("found", x)] : Lm) ∧ E3 fun lev st ln => P.Is cx.w dep lev st ln nw ∧ tryMost M s e n ⟨lev, st, ln⟩ = some (r, ⟨lev', st', ln'⟩)) (q.toNat + 1) ⟨u, none, by rw [show ((q.toNat + 1 : Nat) : Int) - 1 = q by lia], _, _, _, ⟨_, _, _, _, _, _, _, _, rfl, hvs, hls, hd⟩, hr⟩ ?_
  clear hr hvs hls hd
  rintro n T hT _ _ hTr _ _ ⟨u, x, rfl, lev, st, ln, ⟨t4, t5, S, Ln, vs, ls, n1, n2, rfl, hvs, hls, hd⟩, hr⟩
  cases n with
  | zero =>
    refine ⟨_, (by end_is "j"), fun h => absurd (of_decide_eq_true h) (by lia), fun _ => ?_⟩
    refine js_ret jn_lit ?_
    exact fun _ => hP _ _ _ (here_ret hr ⟨_, _, _, _, _, _, _, _, rfl, hvs, hls, hd⟩ rfl)
  | succ n =>
    rw [show (((n + 1 : Nat) : Int) - 1) = n by lia]
    refine ⟨_, (by end_is "j"), fun _ => ?_, fun h => absurd (of_decide_eq_false h) (by lia)⟩
    rw [tryMost] at hr
    rcases hM1 : M (s + n) (e + 1) ⟨lev, st, ln⟩ with _ | ⟨r1, ⟨lev1, st1, ln1⟩⟩
    · rw [hM1] at hr; cases hr
    rw [hM1] at hr
    refine js_asgX (jx_match hM (by end_is "j room") (by end_is "j room") hvs hls hd hM1 (by end_is "j") (by end_is "j") (by end_is "j")) (by end_is "j set") ?_
    rintro v n' ⟨hv, hI⟩
    cases r1 with
    | none =>
      cases hv
      refine js_when (b := false) (jn_isnot (ja_loc (by end_is "j in"))) (fun h => nomatch h) fun _ => ?_
      refine js_decr (by end_is "j in") (by end_is "j") (by end_is "j set") fun _ => ?_
      exact js_nil (hT n _ _ (Nat.lt_succ_self n) ⟨_, _, rfl, _, _, _, hI, hr⟩)
    | some i =>
      obtain ⟨t, rfl⟩ := hv
      refine js_when (b := true) (jn_isnot (ja_loc (by end_is "j in"))) (fun _ => ?_) fun h => nomatch h
      refine js_ret (by end_is "j") ?_
      exact fun t => hTr _ _ _ (hP _ _ _ (here_ret hr hI ⟨t, rfl⟩))
end
noncomputable def expandLeast (text pat : List UInt8) (M : MF) (p e : Int) : Nat → Int → MX → Option (Option Int × MX)
  | 0, _, _ => none
  | n + 1, s, x => match M s (e + 1) x with
    | none => none
    | some (some r, x') => some (some r, x')
    | some (none, x') => if isSingle text pat s p e = true then expandLeast text pat M p e n (s + 1) x' else some (none, x')
section
variable {w : World} {mean : ExcName → Option Value} {mg mb : Str → Option Value} {P : MP} {dep lev : Int} {t4 t5 : Tok} {S Ln : Addr} {vs ls : List Value} {n1 n2 : Nat}
theorem c_expand_least {M : MF} {k uk : Nat} (ok : P.Ok) (hM : Matches w mean mg mb P dep M k uk) (hk : 30 ≤ k) (huk : 150 ≤ uk) {s p e : Int} {st ln : List Int} {r : Option Int} {lev' : Int} {st' ln' : List Int} {ts tp te : Tok} (hvs : IntsAre vs st) (hls : IntsAre ls ln) (hd : Dist P.M P.D S Ln)
    (h0 : 0 ≤ s) (h1 : 0 ≤ p) (h2 : p < (P.pat.length : Int)) (he : e ≤ (P.pat.length : Int) + 1) (h3 : bi P.pat p = 37 → p + 1 < (P.pat.length : Int)) (hr : expandLeast P.text P.pat M p e 80 s ⟨lev, st, ln⟩ = some (r, ⟨lev', st', ln'⟩)) :
    Con w mean mg mb (.ref 224) [.ref P.M, .int s ts, .int p tp, .int e te] (P.own w dep lev t4 t5 S Ln vs ls n1 n2) (k + 2) (uk + 40) (fun v own' => OptV r v ∧ P.Is w dep lev' st' ln' own') := by
  refine con_jo ([("self", .ref P.M), ("s", .int s ts), ("p", .int p tp), ("end", .int e te)]) (["found"]) ([]) ([]) (by k_dflt k_is) (by k_dflt k_is) (by kernel_rfl) (by end_is "j gl") (by end_is "j bl") (by exact fun _ _ => BindsTo.of_eq rfl) ?_
  intro cx Pq e1 e2 e3 e4 hK hU hP hN
  subst e1 e2 e3 e4
  dsimp only [List.map, List.cons_append, List.nil_append]
  refine js_wh (fun n lm nw => E3 fun q u x => A3 (lm = ([("self", some (.ref P.M)), ("s", some (.int q u)), ("p", some (.int p tp)), ("end", some (.int e te)), ("found", x)] : Lm)) (0 ≤ q) (E3 fun lev st ln => P.Is cx.w dep lev st ln nw ∧ expandLeast P.text P.pat M p e n q ⟨lev, st, ln⟩ = some (r, ⟨lev', st', ln'⟩))) 80 ⟨_, _, _, rfl, h0, _, _, _, ⟨_, _, _, _, _, _, _, _, rfl, hvs, hls, hd⟩, hr⟩ ?_
  clear hr hvs hls hd h0
  rintro n T hT _ _ hTr _ _ ⟨q, u, x, rfl, h0, lev, st, ln, ⟨t4, t5, S, Ln, vs, ls, n1, n2, rfl, hvs, hls, hd⟩, hr⟩
  refine ⟨true, jt_c jc_lit, fun _ => ?_, fun h => nomatch h⟩
  cases n with
  | zero => cases hr
  | succ n =>
    rw [expandLeast] at hr
    rcases hM1 : M q (e + 1) ⟨lev, st, ln⟩ with _ | ⟨r1, ⟨lev1, st1, ln1⟩⟩
    · rw [hM1] at hr; cases hr
    rw [hM1] at hr
    refine js_asgX (jx_match hM (by end_is "j room") (by end_is "j room") hvs hls hd hM1 (by end_is "j") (by end_is "j") (by end_is "j")) (by end_is "j set") ?_
    rintro v n' ⟨hv, hI⟩
    cases r1 with
    | none =>
      cases hv
      dsimp only at hr
      obtain ⟨t4, t5, S, Ln, vs, ls, n1, n2, rfl, hvs, hls, hd⟩ := hI
      refine js_when (b := false) (jn_isnot (ja_loc (by end_is "j in"))) (fun h => nomatch h) fun _ => ?_
      refine js_when (jt_not (jt_c (jc_single ok (by end_is "j") (by end_is "j") (by end_is "j") (by end_is "j") (by lia) h1 h2 he h3 (by end_is "j room") (by end_is "j room")))) (fun h => ?_) fun h => ?_
      · replace hr := ite_f (by simpa using h) hr
        refine js_ret jn_lit ?_
        exact fun _ => hTr _ _ _ (hP _ _ _ (here_ret hr ⟨_, _, _, _, _, _, _, _, rfl, hvs, hls, hd⟩ rfl))
      · replace hr := ite_t (by simpa using h) hr
        refine js_incr (by end_is "j in") (by end_is "j") (by end_is "j set") fun _ => ?_
        exact js_nil (hT n _ _ (Nat.lt_succ_self n) ⟨_, _, _, rfl, by lia, _, _, _, ⟨_, _, _, _, _, _, _, _, rfl, hvs, hls, hd⟩, hr⟩)
    | some i =>
      obtain ⟨t, rfl⟩ := hv
      refine js_when (b := true) (jn_isnot (ja_loc (by end_is "j in"))) (fun _ => ?_) fun h => nomatch h
      refine js_ret (by end_is "j") ?_
      exact fun t => hTr _ _ _ (hP _ _ _ (here_ret hr hI ⟨t, rfl⟩))
end
theorem closeAt_lt {ln : List Int} : ∀ {n : Nat} {r : Int}, closeAt ln n = some r → 0 ≤ r ∧ r < (n : Int) := by
  intro n
  induction n with
  | zero => intro r h; simp [closeAt] at h
  | succ n ih =>
    intro r h
    rw [closeAt] at h
    split at h
    · cases h; lia
    · have := ih h; lia
noncomputable def startCapture (M : MF) (s p kind : Int) (x : MX) : Option (Option Int × MX) :=
  if 32 ≤ x.lev then none
  else match M s p ⟨x.lev + 1, x.st.take x.lev.toNat ++ [s], x.ln.take x.lev.toNat ++ [kind]⟩ with
    | none => none
    | some (some r, x') => some (some r, x')
    | some (none, x') => some (none, ⟨x'.lev - 1, x'.st, x'.ln⟩)
noncomputable def endCapture (M : MF) (s p : Int) (x : MX) : Option (Option Int × MX) :=
  match closeAt x.ln x.lev.toNat with
  | none => none
  | some k => match M s p ⟨x.lev, x.st, x.ln.set k.toNat (s - gi x.st k)⟩ with
    | none => none
    | some (some r, x') => some (some r, x')
    | some (none, x') => if k < (x'.ln.length : Int) then some (none, ⟨x'.lev, x'.st, x'.ln.set k.toNat (-1)⟩) else none
section
variable {c : Cx} {F : FD} {lm : Lm} {P : MP} {dep lev : Int} {t4 t5 : Tok} {S Ln : Addr} {vs ls : List Value} {n1 n2 : Nat} {x : Str} {xp apos pos : Pos} {e : PySem.Expr} {ns : List Int} {rest : List Stmt} {T : Flow → Lm → Led → Prop} {b : Int}
theorem upd_mat {P : MP} {S Ln : Addr} {oM oD oD' oS oL : Obj} (hd : Dist P.M P.D S Ln) : Upd P.D oD oD' [(P.M, oM), (P.D, oD), (S, oS), (Ln, oL)] [(P.M, oM), (P.D, oD'), (S, oS), (Ln, oL)] := by
  obtain ⟨d1, d2, d3, d4, d5, d6⟩ := hd
  refine .tail d1 (.head fun p hp => ?_)
  simp only [List.mem_cons, List.not_mem_nil, or_false] at hp
  rcases hp with rfl | rfl
  · exact d4.symm
  · exact d5.symm
theorem js_depth {op : Operator} {g2 : Int} {g : Tok → Value} (hd : Dist P.M P.D S Ln) (ho : JV c F lm (P.own c.w dep lev t4 t5 S Ln vs ls n1 n2) (.Name x xp) (.ref P.M)) (h : JA c F lm (P.own c.w dep lev t4 t5 S Ln vs ls n1 n2) e g) (hi : ∀ t, InplIs op (.int dep t4) (g t) (Value.int g2)) (hr : ∀ t, JS c F lm (P.own c.w g2 lev t t5 S Ln vs ls n1 n2) rest T) :
    JS c F lm (P.own c.w dep lev t4 t5 S Ln vs ls n1 n2) (.AugAssign (.Attribute (.Name x xp) "depth" apos) op e pos :: rest) T :=
  js_augattr ho ha_depth h hi (fun _ => sa_of (.head _) (.tail _ (.head _)) (by k_dflt k_is) (by k_dflt k_is) (by k_dflt k_is) (by k_dflt k_is) rfl (fun _ => rfl) (upd_mat hd) (Nat.le_of_ble_eq_true rfl)) hr
theorem js_level {op : Operator} {g2 : Int} {g : Tok → Value} (hd : Dist P.M P.D S Ln) (ho : JV c F lm (P.own c.w dep lev t4 t5 S Ln vs ls n1 n2) (.Name x xp) (.ref P.M)) (h : JA c F lm (P.own c.w dep lev t4 t5 S Ln vs ls n1 n2) e g) (hi : ∀ t, InplIs op (.int lev t5) (g t) (Value.int g2)) (hr : ∀ t, JS c F lm (P.own c.w dep g2 t4 t S Ln vs ls n1 n2) rest T) :
    JS c F lm (P.own c.w dep lev t4 t5 S Ln vs ls n1 n2) (.AugAssign (.Attribute (.Name x xp) "level" apos) op e pos :: rest) T :=
  js_augattr ho ha_level h hi (fun _ => sa_of (.head _) (.tail _ (.head _)) (by k_dflt k_is) (by k_dflt k_is) (by k_dflt k_is) (by k_dflt k_is) rfl (fun _ => rfl) (upd_mat hd) (Nat.le_of_ble_eq_true rfl)) hr
noncomputable abbrev MP.es (P : MP) (w : World) (dep lev : Int) (t4 t5 : Tok) (S Ln : Addr) : List DictEntry :=
  [⟨PyData.keyHash w.params "text", .str "text" P.k1, .bytes P.text.toArray P.t1⟩, ⟨PyData.keyHash w.params "pattern", .str "pattern" P.k2, .bytes P.pat.toArray P.t2⟩,
     ⟨PyData.keyHash w.params "most_depth", .str "most_depth" P.k3, .int 60 P.t3⟩, ⟨PyData.keyHash w.params "depth", .str "depth" P.k4, .int dep t4⟩, ⟨PyData.keyHash w.params "level", .str "level" P.k5, .int lev t5⟩,
     ⟨PyData.keyHash w.params "starts", .str "starts" P.k6, .ref S⟩, ⟨PyData.keyHash w.params "lengths", .str "lengths" P.k7, .ref Ln⟩]
/-- a new list of ints, kept as an attribute -/
noncomputable abbrev NewInts (nw : Led) (ns : List Int) (v : Value) (n' : Led) : Prop := E2 fun D ws => A4 (v = .ref D) (n' = (D, listOf (List.toArray ws) 0) :: nw) (IntsAre ws ns) (∀ p ∈ nw, p.1 ≠ D)
theorem js_starts (hd : Dist P.M P.D S Ln) (ho : ∀ n, JV c F lm n (.Name x xp) (.ref P.M)) (h : JE c F lm (P.own c.w dep lev t4 t5 S Ln vs ls n1 n2) e (NewInts (P.own c.w dep lev t4 t5 S Ln vs ls n1 n2) ns)) (hr : ∀ D ws, IntsAre ws ns → Dist P.M P.D D Ln → JS c F lm (P.own c.w dep lev t4 t5 D Ln ws ls 0 n2) rest T) (hs : simpE e = true := by rfl) :
    JS c F lm (P.own c.w dep lev t4 t5 S Ln vs ls n1 n2) (.Assign [.Attribute (.Name x xp) "starts" apos] e pos :: rest) T :=
  js_setattr ho h (fun v n ⟨D, ws, e1, e2, hI, ap⟩ => by
    subst e1 e2
    have a1 := ap _ (.head _)
    have a2 := ap _ (.tail _ (.head _))
    have a4 := ap _ (.tail _ (.tail _ (.tail _ (.head _))))
    have hd' := hd
    obtain ⟨d1, d2, d3, d4, d5, d6⟩ := hd'
    refine ⟨_, sa_of (es' := P.es c.w dep lev t4 t5 D Ln) (.tail _ (.head _)) (.tail _ (.tail _ (.head _))) (by k_dflt k_is) (by k_dflt k_is) (by k_dflt k_is) (by k_dflt k_is) rfl (fun _ => rfl) (.tail a2.symm (upd_mat hd)) (Nat.le_of_ble_eq_true rfl), JG.sub (hr D ws hI ⟨d1, a1, d3, a2, d5, a4.symm⟩) fun p hp => ?_⟩
    simp only [List.mem_cons, List.not_mem_nil, or_false] at hp ⊢
    rcases hp with rfl | rfl | rfl | rfl
    · exact .inr (.inl rfl)
    · exact .inr (.inr (.inl rfl))
    · exact .inl rfl
    · exact .inr (.inr (.inr (.inr rfl)))) hs
theorem js_lengths (hd : Dist P.M P.D S Ln) (ho : ∀ n, JV c F lm n (.Name x xp) (.ref P.M)) (h : JE c F lm (P.own c.w dep lev t4 t5 S Ln vs ls n1 n2) e (NewInts (P.own c.w dep lev t4 t5 S Ln vs ls n1 n2) ns)) (hr : ∀ D ws, IntsAre ws ns → Dist P.M P.D S D → JS c F lm (P.own c.w dep lev t4 t5 S D vs ws n1 0) rest T) (hs : simpE e = true := by rfl) :
    JS c F lm (P.own c.w dep lev t4 t5 S Ln vs ls n1 n2) (.Assign [.Attribute (.Name x xp) "lengths" apos] e pos :: rest) T :=
  js_setattr ho h (fun v n ⟨D, ws, e1, e2, hI, ap⟩ => by
    subst e1 e2
    have a1 := ap _ (.head _)
    have a2 := ap _ (.tail _ (.head _))
    have a3 := ap _ (.tail _ (.tail _ (.head _)))
    have hd' := hd
    obtain ⟨d1, d2, d3, d4, d5, d6⟩ := hd'
    refine ⟨_, sa_of (es' := P.es c.w dep lev t4 t5 S D) (.tail _ (.head _)) (.tail _ (.tail _ (.head _))) (by k_dflt k_is) (by k_dflt k_is) (by k_dflt k_is) (by k_dflt k_is) rfl (fun _ => rfl) (.tail a2.symm (upd_mat hd)) (Nat.le_of_ble_eq_true rfl), JG.sub (hr D ws hI ⟨d1, d2, a1, d4, a2, a3⟩) fun p hp => ?_⟩
    simp only [List.mem_cons, List.not_mem_nil, or_false] at hp ⊢
    rcases hp with rfl | rfl | rfl | rfl
    · exact .inr (.inl rfl)
    · exact .inr (.inr (.inl rfl))
    · exact .inr (.inr (.inr (.inl rfl)))
    · exact .inl rfl) hs
end
section
variable {w : World} {mean : ExcName → Option Value} {mg mb : Str → Option Value} {P : MP} {dep lev : Int} {t4 t5 : Tok} {S Ln : Addr} {vs ls : List Value} {n1 n2 : Nat}
theorem c_start_capture {M : MF} {k uk : Nat} (hM : Matches w mean mg mb P dep M k uk) {s p kind : Int} {st ln : List Int} {r : Option Int} {lev' : Int} {st' ln' : List Int} {ts tp te : Tok} (hvs : IntsAre vs st) (hls : IntsAre ls ln) (hd : Dist P.M P.D S Ln)
    (h0 : 0 ≤ lev) (h1 : lev ≤ (ln.length : Int)) (h2 : ln.length ≤ 100) (h3 : lev ≤ (st.length : Int)) (h4 : st.length ≤ 100) (hr : startCapture M s p kind ⟨lev, st, ln⟩ = some (r, ⟨lev', st', ln'⟩)) :
    Con w mean mg mb (.ref 231) [.ref P.M, .int s ts, .int p tp, .int kind te] (P.own w dep lev t4 t5 S Ln vs ls n1 n2) (k + 2) (uk + 40) (fun v own' => OptV r v ∧ P.Is w dep lev' st' ln' own') := by
  unfold startCapture at hr
  dsimp only at hr
  by_cases hlv : 32 ≤ lev
  · replace hr := ite_t hlv hr; cases hr
  replace hr := ite_f hlv hr
  refine con_js ([("self", .ref P.M), ("s", .int s ts), ("p", .int p tp), ("kind", .int kind te)]) (["found"]) ([("MOST_CAPTURES", .int 32 _)]) ([]) (by k_dflt k_is) (by k_dflt k_is) (by kernel_rfl) (by end_is "j gl") (by end_is "j bl") (by exact fun _ _ => BindsTo.of_eq rfl) ?_
  intro dp un gd outer base g L
  simp only [List.map, List.cons_append, List.nil_append]
  refine js_when (by end_is "j") (fun h => absurd (of_decide_eq_true h) hlv) fun _ => ?_
  refine js_starts hd (fun _ => (by end_is "j")) (jx_lpush (ja_attr (by end_is "j") ha_starts) (by end_is "j") (.tail _ (.tail _ (.head _))) hvs h0 h4 fun _ _ => (by end_is "j")) fun S ws hI hd => ?_
  refine js_lengths hd (fun _ => (by end_is "j")) (jx_lpush (ja_attr (by end_is "j") ha_lengths) (by end_is "j") (.tail _ (.tail _ (.tail _ (.head _)))) hls h0 h2 fun _ _ => (by end_is "j")) fun Ln ws2 hI2 hd => ?_
  refine js_level hd (by end_is "j") ji_lit (fun _ => inpl_add) fun _ => ?_
  rcases hM1 : M s p ⟨lev + 1, st.take lev.toNat ++ [s], ln.take lev.toNat ++ [kind]⟩ with _ | ⟨r1, ⟨lev1, st1, ln1⟩⟩
  · rw [hM1] at hr; cases hr
  rw [hM1] at hr
  refine js_asgX (jx_match hM (by end_is "j room") (by end_is "j room") hI hI2 hd hM1 (by end_is "j") (by end_is "j") (by end_is "j")) (by end_is "j set") ?_
  rintro v n' ⟨hv, hIs⟩
  cases r1 with
  | none =>
    cases hv
    cases hr
    obtain ⟨t4, t5, S, Ln, vs, ls, n1, n2, rfl, hvs, hls, hd⟩ := hIs
    refine js_when (b := true) (jn_is (ja_loc (by end_is "j in"))) (fun _ => ?_) fun h => nomatch h
    refine js_level hd (by end_is "j") ji_lit (fun _ => inpl_sub) fun _ => ?_
    refine js_nil ?_
    refine js_ret (ja_loc (by end_is "j in")) ?_
    exact fun _ => ⟨rfl, _, _, _, _, _, _, _, _, rfl, hvs, hls, hd⟩
  | some i =>
    obtain ⟨t, rfl⟩ := hv
    cases hr
    refine js_when (b := false) (jn_is (ja_loc (by end_is "j in"))) (fun h => nomatch h) fun _ => ?_
    refine js_ret (by end_is "j") ?_
    exact fun t => ⟨⟨t, rfl⟩, hIs⟩
theorem c_end_capture {M : MF} {k uk : Nat} (hM : Matches w mean mg mb P dep M k uk) (hk : 30 ≤ k) (huk : 150 ≤ uk) {s p : Int} {st ln : List Int} {r : Option Int} {lev' : Int} {st' ln' : List Int} {ts tp : Tok} (hvs : IntsAre vs st) (hls : IntsAre ls ln) (hd : Dist P.M P.D S Ln)
    (h0 : 0 ≤ lev) (h1 : lev ≤ (ln.length : Int)) (h2 : ln.length ≤ 100) (h3 : lev ≤ (st.length : Int)) (h4 : st.length ≤ 100) (hr : endCapture M s p ⟨lev, st, ln⟩ = some (r, ⟨lev', st', ln'⟩)) :
    Con w mean mg mb (.ref 238) [.ref P.M, .int s ts, .int p tp] (P.own w dep lev t4 t5 S Ln vs ls n1 n2) (k + 2) (uk + 40) (fun v own' => OptV r v ∧ P.Is w dep lev' st' ln' own') := by
  unfold endCapture at hr
  dsimp only at hr
  rcases hcl : closeAt ln lev.toNat with _ | q
  · rw [hcl] at hr; cases hr
  rw [hcl] at hr
  dsimp only at hr
  obtain ⟨q0, q1⟩ := closeAt_lt hcl
  rcases hM1 : M s p ⟨lev, st, ln.set q.toNat (s - gi st q)⟩ with _ | ⟨r1, ⟨lev1, st1, ln1⟩⟩
  · rw [hM1] at hr; cases hr
  rw [hM1] at hr
  refine con_js ([("self", .ref P.M), ("s", .int s ts), ("p", .int p tp)]) (["number", "found"]) ([("UNFINISHED", .int (-1) _)]) ([]) (by k_dflt k_is) (by k_dflt k_is) (by kernel_rfl) (by end_is "j gl") (by end_is "j bl") (by exact fun _ _ => BindsTo.of_eq rfl) ?_
  intro dp un gd outer base g L
  simp only [List.map, List.cons_append, List.nil_append]
  have upd : ∀ {oM oD oS oL oL' : Obj} {S Ln : Addr}, Dist P.M P.D S Ln → Upd Ln oL oL' [(P.M, oM), (P.D, oD), (S, oS), (Ln, oL)] [(P.M, oM), (P.D, oD), (S, oS), (Ln, oL')] := fun hd => .tail hd.2.2.1 (.tail hd.2.2.2.2.1 (.tail hd.2.2.2.2.2 (.head fun _ hp => nomatch hp)))
  refine js_asg (jx_meth0 rfl (by end_is "j") hm_to_close (kp_245 _) (jq_own (c_to_close hls h0 h1 h2 hcl) (by end_is "j room") (by end_is "j room"))) (by end_is "j set") fun _ => ?_
  refine js_setitem (ji_sub (by end_is "j") (ji_starts (by end_is "j") (by end_is "j") hvs q0 (by lia) h4)) (ja_attr (by end_is "j") ha_lengths) (by end_is "j") (nf := fun v => P.own w dep lev t4 t5 S Ln vs (ls.set q.toNat v) n1 n2) (fun _ => upd hd) hls q0 (by lia) (by lia) fun _ hI => ?_
  refine js_asgX (jx_match hM (by end_is "j room") (by end_is "j room") hvs hI hd hM1 (by end_is "j") (by end_is "j") (by end_is "j")) (by end_is "j set") ?_
  rintro v n' ⟨hv, hIs⟩
  cases r1 with
  | none =>
    cases hv
    dsimp only at hr
    by_cases hq : q < (ln1.length : Int)
    case neg => replace hr := ite_f hq hr; cases hr
    replace hr := ite_t hq hr
    cases hr
    obtain ⟨t4, t5, S, Ln, vs, ls, n1, n2, rfl, hvs, hls, hd⟩ := hIs
    refine js_when (b := true) (jn_is (ja_loc (by end_is "j in"))) (fun _ => ?_) fun h => nomatch h
    refine js_setitem (by end_is "j") (ja_attr (by end_is "j") ha_lengths) (by end_is "j") (nf := fun v => P.own w dep lev' t4 t5 S Ln vs (ls.set q.toNat v) n1 n2) (fun _ => upd hd) hls q0 hq (by lia) fun _ hI => ?_
    refine js_nil ?_
    refine js_ret (ja_loc (by end_is "j in")) ?_
    exact fun _ => ⟨rfl, _, _, _, _, _, _, _, _, rfl, hvs, hI, hd⟩
  | some i =>
    obtain ⟨t, rfl⟩ := hv
    cases hr
    refine js_when (b := false) (jn_is (ja_loc (by end_is "j in"))) (fun h => nomatch h) fun _ => ?_
    refine js_ret (by end_is "j") ?_
    exact fun t => ⟨⟨t, rfl⟩, hIs⟩
end
/-- match, a frame above match_here -/
noncomputable def Heres (w : World) (mean : ExcName → Option Value) (mg mb : Str → Option Value) (P : MP) (dep : Int) (H : MF) (k uk : Nat) : Prop :=
  ∀ s p lev st ln r lev' st' ln' own ts tp, P.Is w dep lev st ln own → H s p ⟨lev, st, ln⟩ = some (r, ⟨lev', st', ln'⟩) →
    Con w mean mg mb (.ref 189) [.ref P.M, .int s ts, .int p tp] own k uk (fun v own' => OptV r v ∧ P.Is w dep lev' st' ln' own')
section
variable {w : World} {mean : ExcName → Option Value} {mg mb : Str → Option Value} {P : MP} {dep lev : Int} {t4 t5 : Tok} {S Ln : Addr} {vs ls : List Value} {n1 n2 : Nat}
theorem c_match {H : MF} {k uk : Nat} (hM : Heres w mean mg mb P (dep + 1) H k uk) (hdep : dep + 1 ≤ 60) : Matches w mean mg mb P dep H (k + 2) (uk + 20) := by
  rintro s p lev st ln r lev' st' ln' own ts tp ⟨t4, t5, S, Ln, vs, ls, n1, n2, rfl, hvs, hls, hd⟩ hr
  refine con_jo ([("self", .ref P.M), ("s", .int s ts), ("p", .int p tp)]) (["found"]) ([]) ([]) (by k_dflt k_is) (by k_dflt k_is) (by kernel_rfl) (by end_is "j gl") (by end_is "j bl") (by exact fun _ _ => BindsTo.of_eq rfl) ?_
  intro cx Pq e1 e2 e3 e4 hK hU hP hN
  subst e1 e2 e3 e4
  dsimp only [List.map, List.cons_append, List.nil_append]
  refine js_depth hd (by end_is "j") ji_lit (fun _ => inpl_add) fun _ => ?_
  refine js_when (ji_gt (ji_attr (by end_is "j") ha_depth) (ji_attr (by end_is "j") ha_most)) (fun h => absurd (of_decide_eq_true h) (by lia)) fun _ => ?_
  refine js_asgX (jx_meth2 (by end_is "j") hm_match_here (kp_189 _) (by end_is "j") (by end_is "j") fun _ _ => jx_con1 (hM _ _ _ _ _ _ _ _ _ _ _ _ ⟨_, _, _, _, _, _, _, _, rfl, hvs, hls, hd⟩ hr) (by end_is "j room") (by end_is "j room")) (by end_is "j set") ?_
  rintro v n' ⟨hv, t4, t5, S, Ln, vs, ls, n1, n2, rfl, hvs, hls, hd⟩
  refine js_depth hd (by end_is "j") ji_lit (fun _ => inpl_sub) fun _ => ?_
  refine js_ret (ja_loc (by end_is "j in")) ?_
  exact fun _ => hP _ _ _ ⟨hv, _, _, _, _, _, _, _, _, by rw [Int.add_sub_cancel], hvs, hls, hd⟩
end
/-! match_here -/
noncomputable def mM (H : MF) (dep : Int) : MF := fun s p x => if dep + 1 ≤ 60 then H s p x else none
noncomputable def mGuard (text : List UInt8) (H : MF) : MF := fun s p x =>
  if 0 ≤ s ∧ s ≤ (text.length : Int) ∧ 0 ≤ p ∧ 0 ≤ x.lev ∧ x.lev ≤ (x.ln.length : Int) ∧ x.ln.length ≤ 100 ∧ x.lev ≤ (x.st.length : Int) ∧ x.st.length ≤ 100 then H s p x else none
/-- a turn at a plain item: its end, and the sign behind it -/
noncomputable def mItem (text pat : List UInt8) (M H : MF) (e : Int) : MF := fun s p x =>
  if patAt pat e = 42 then expandMost text pat M s p e x
  else if patAt pat e = 43 then (if isSingle text pat s p e = true then expandMost text pat M (s + 1) p e x else some (none, x))
  else if patAt pat e = 45 then expandLeast text pat M p e 80 s x
  else if patAt pat e = 63 then
    if isSingle text pat s p e = true then
      match M (s + 1) (e + 1) x with
      | none => none
      | some (some r, x') => some (some r, x')
      | some (none, x') => H s (e + 1) x'
    else H s (e + 1) x
  else if isSingle text pat s p e = true then H (s + 1) e x else some (none, x)
noncomputable def mStep (text pat : List UInt8) (M H : MF) : MF := fun s p x =>
  if p < (pat.length : Int) then
    if bi pat p = 40 then (if patAt pat (p + 1) = 41 then startCapture M s (p + 2) (-2) x else startCapture M s (p + 1) (-1) x)
    else if bi pat p = 41 then endCapture M s (p + 1) x
    else if bi pat p = 36 ∧ p + 1 = (pat.length : Int) then some (if s = (text.length : Int) then some s else none, x)
    else if bi pat p = 37 ∧ ((patAt pat (p + 1) = 98 ∨ patAt pat (p + 1) = 102) ∨ isDigit (patAt pat (p + 1)) = true) then
      match matchSpecial text pat x s p (patAt pat (p + 1)) with
      | none => none
      | some (none, _) => some (none, x)
      | some (some s', p') => H s' p' x
    else match classEnd pat p with
      | none => none
      | some e => mItem text pat M H e s p x
  else some (some s, x)
noncomputable def mHere (text pat : List UInt8) : Nat → Int → MF
  | 0, _ => fun _ _ _ => none
  | n + 1, dep => mGuard text (mStep text pat (mM (mHere text pat n (dep + 1)) dep) (mHere text pat n dep))
theorem cmp_bf {i : Int} {t u : Tok} (h0 : 0 ≤ i) (h1 : i < 256) : CmpIs .In (.int i t) (.bytes [98, 102].toArray u) (decide (i = 98 ∨ i = 102)) := fun _ _ _ _ _ h => b_in_two h0 h1 h
section
variable {w : World} {mean : ExcName → Option Value} {mg mb : Str → Option Value} {P : MP} {dep lev : Int} {t4 t5 : Tok} {S Ln : Addr} {vs ls : List Value} {n1 n2 : Nat}
theorem c_match_here (ok : P.Ok) : ∀ (n : Nat) (dep : Int), Heres w mean mg mb P dep (mHere P.text P.pat n dep) (5 * n + 60) (100 * n + 300) := by
  intro n
  induction n using Nat.strongRecOn with
  | ind n IH =>
  intro dep s p lev st ln r lev' st' ln' own ts tp hI hr
  have ht := ok.text
  have hp := ok.pat
  refine con_jo ([("self", .ref P.M), ("s", .int s ts), ("p", .int p tp)]) (["first", "second", "end", "after", "is_here", "found"]) ([("OPEN", .int 40 _), ("CLOSE", .int 41 _), ("POSITION", .int (-2) _), ("UNFINISHED", .int (-1) _), ("DOLLAR", .int 36 _), ("ESCAPE", .int 37 _), ("is_digit", .ref 90), ("STAR", .int 42 _), ("PLUS", .int 43 _), ("MINUS", .int 45 _), ("MARK", .int 63 _)]) ([("len", .builtin "len")]) (by k_dflt k_is) (by k_dflt k_is) (by kernel_rfl) (by end_is "j gl") (by end_is "j bl") (by exact fun _ _ => BindsTo.of_eq rfl) ?_
  intro cx Pq e1 e2 e3 e4 hK hU hP hN
  subst e1 e2 e3 e4
  dsimp only [List.map, List.cons_append, List.nil_append]
  refine js_wh (fun k lm nw => k ≤ n ∧ E10 fun q u pp v x1 x2 x3 x4 x5 x6 => lm = ([("self", some (.ref P.M)), ("s", some (.int q u)), ("p", some (.int pp v)), ("first", x1), ("second", x2), ("end", x3), ("after", x4), ("is_here", x5), ("found", x6)] : Lm) ∧ E3 fun lev st ln => P.Is cx.w dep lev st ln nw ∧ mHere P.text P.pat k dep q pp ⟨lev, st, ln⟩ = some (r, ⟨lev', st', ln'⟩)) n
      ⟨Nat.le_refl _, _, _, _, _, _, _, _, _, _, _, rfl, _, _, _, hI, hr⟩ ?_
  clear hI hr
  rintro k T hT hTc hTb hTr _ _ ⟨hk, q, u, pp, v, x1, x2, x3, x4, x5, x6, rfl, lev, st, ln, ⟨t4, t5, S, Ln, vs, ls, n1, n2, rfl, hvs, hls, hd⟩, hr⟩
  cases k with
  | zero => cases hr
  | succ k =>
    have hM : Matches cx.w cx.mean cx.mg cx.mb P dep (mM (mHere P.text P.pat k (dep + 1)) dep) (5 * k + 62) (100 * k + 320) := by
      by_cases hdep : dep + 1 ≤ 60
      · have e : mM (mHere P.text P.pat k (dep + 1)) dep = mHere P.text P.pat k (dep + 1) := by
          funext a b c; simp [mM, hdep]
        rw [e]
        exact c_match (IH k hk (dep + 1)) hdep
      · intro s p lev st ln r lev' st' ln' own ts tp _ h
        simp [mM, hdep] at h
    generalize hMM : mM (mHere P.text P.pat k (dep + 1)) dep = M at hM
    simp only [mHere, mGuard, hMM] at hr
    have hg : 0 ≤ q ∧ q ≤ (P.text.length : Int) ∧ 0 ≤ pp ∧ 0 ≤ lev ∧ lev ≤ (ln.length : Int) ∧ ln.length ≤ 100 ∧ lev ≤ (st.length : Int) ∧ st.length ≤ 100 := by
      apply Decidable.byContradiction; intro hn; replace hr := ite_f hn hr; cases hr
    replace hr := ite_t hg hr
    clear hMM IH
    obtain ⟨hq0, hq1, hp0, hl0, hl1, hl2, hl3, hl4⟩ := hg
    have hI : P.Is cx.w dep lev st ln (P.own cx.w dep lev t4 t5 S Ln vs ls n1 n2) := ⟨_, _, _, _, _, _, _, _, rfl, hvs, hls, hd⟩
    unfold mStep at hr
    refine ⟨_, (by end_is "j"), fun h => ?_, fun h => ?_⟩
    case refine_2 =>
      replace hr := ite_fd h hr
      refine js_ret (by end_is "j") ?_
      exact fun t => hP _ _ _ (here_ret hr hI ⟨t, rfl⟩)
    replace hr := ite_td h hr
    have hA := of_decide_eq_true h
    refine js_asg2 (by end_is "j") (by end_is "j") (by end_is "j set") (fun _ => (by end_is "j set")) (fun _ _ => ?_)
    refine js_when (by end_is "j") (fun h => ?_) fun h => ?_
    · replace hr := ite_td h hr
      refine js_when (by end_is "j") (fun h => ?_) fun h => ?_
      · replace hr := ite_td h hr
        refine js_retX (jx_meth3 (by end_is "j") hm_start_capture (kp_231 _) (by end_is "j") (by end_is "j") (by end_is "j") fun _ _ _ => jx_con1 (c_start_capture hM hvs hls hd hl0 hl1 hl2 hl3 hl4 hr) (by end_is "j room") (by end_is "j room")) ?_
        exact fun v n h => hTr _ _ _ (hP _ _ _ h)
      · replace hr := ite_fd h hr
        refine js_retX (jx_meth3 (by end_is "j") hm_start_capture (kp_231 _) (by end_is "j") (by end_is "j") (by end_is "j") fun _ _ _ => jx_con1 (c_start_capture hM hvs hls hd hl0 hl1 hl2 hl3 hl4 hr) (by end_is "j room") (by end_is "j room")) ?_
        exact fun v n h => hTr _ _ _ (hP _ _ _ h)
    replace hr := ite_fd h hr
    refine js_when (by end_is "j") (fun h => ?_) fun h => ?_
    · replace hr := ite_td h hr
      refine js_retX (jx_meth2 (by end_is "j") hm_end_capture (kp_238 _) (by end_is "j") (by end_is "j") fun _ _ => jx_con1 (c_end_capture hM (by lia) (by lia) hvs hls hd hl0 hl1 hl2 hl3 hl4 hr) (by end_is "j room") (by end_is "j room")) ?_
      exact fun v n h => hTr _ _ _ (hP _ _ _ h)
    replace hr := ite_fd h hr
    refine js_when (jt_and (by end_is "j") fun _ => jt_and (by end_is "j") fun _ => jt_and0) (fun h => ?_) fun h => ?_
    · replace hr := ite_t (by simpa using h) hr
      refine js_retX (jx_ite (by end_is "j") (R := fun v n => OptV r v ∧ P.Is cx.w dep lev' st' ln' n) (fun h => ?_) fun h => ?_) fun v n h => hTr _ _ _ (hP _ _ _ h)
      · refine ja_x (by end_is "j") ?_
        exact fun t => here_ret hr hI (by rw [if_pos (of_decide_eq_true h)]; exact ⟨t, rfl⟩)
      · refine ja_x jn_lit ?_
        exact fun t => here_ret hr hI (by rw [if_neg (of_decide_eq_false h)]; exact rfl)
    replace hr := ite_f (by simpa using h) hr
    refine js_when (jt_and (by end_is "j") fun _ => jt_and (jt_or (jt_cmp (ji_loc (by end_is "j in")) jb_lit fun _ _ => cmp_bf (patAt_lo _ _) (patAt_hi _ _)) fun _ => jt_or (jt_c (jc_fn (by end_is "j") (by end_is "j in") (kp_90 _) (fun _ => c_is_digit) (by end_is "j room") (by end_is "j room"))) fun _ => jt_or0) fun _ => jt_and0) (fun h => ?_) fun h => ?_
    · replace hr := ite_t (by simpa using h) hr
      rcases hms : matchSpecial P.text P.pat (⟨lev, st, ln⟩ : MX) q pp (patAt P.pat (pp + 1)) with _ | ⟨r1, e'⟩
      · rw [hms] at hr; cases hr
      rw [hms] at hr
      refine js_unpack2 (S := fun a b n' => A3 (n' = P.own cx.w dep lev t4 t5 S Ln vs ls n1 n2) (OptV r1 a) (∃ u, b = .int e' u)) (JX.mono (jx_meth3 (by end_is "j") hm_match_special (kp_196 _) (by end_is "j") (by end_is "j") (by end_is "j") fun _ _ _ => jx_con1 (c_match_special ok hvs hls hl1 hl2 hl3 hl4 hq0 hq1 hp0 hms) (by end_is "j room") (by end_is "j room"))
        fun v n ⟨T, x, u, e1, e2, h⟩ => ⟨T, x, _, _, e1, e2, rfl, h, u, rfl⟩) (by end_is "j set") (fun _ => (by end_is "j set")) ?_
      rintro a b _ ⟨rfl, ha, u', rfl⟩
      cases r1 with
      | none =>
        cases ha
        refine js_when (b := true) (jn_is (ja_loc (by end_is "j in"))) (fun _ => ?_) fun h => nomatch h
        refine js_ret jn_lit ?_
        exact fun t => hTr _ _ _ (hP _ _ _ (here_ret hr hI rfl))
      | some i =>
        obtain ⟨t, rfl⟩ := ha
        refine js_when (b := false) (jn_is (ja_loc (by end_is "j in"))) (fun h => nomatch h) fun _ => ?_
        refine js_cont ?_
        exact hTc k _ _ (Nat.lt_succ_self k) ⟨Nat.le_of_succ_le hk, _, _, _, _, _, _, _, _, _, _, rfl, _, _, _, hI, hr⟩
    replace hr := ite_f (by simpa using h) hr
    rcases hce : classEnd P.pat pp with _ | e
    · rw [hce] at hr; cases hr
    rw [hce] at hr
    dsimp only at hr
    obtain ⟨he1, he2, he3⟩ := classEnd_le hce hp0 hA
    refine js_asg (ji_class_end ok hp0 hce (by end_is "j") (by end_is "j") (by end_is "j room") (by end_is "j room")) (by end_is "j set") fun _ => ?_
    refine js_asg (by end_is "j") (by end_is "j set") fun _ => ?_
    unfold mItem at hr
    refine js_when (by end_is "j") (fun h => ?_) fun h => ?_
    · replace hr := ite_td h hr
      refine js_retX (jx_meth3 (by end_is "j") hm_expand_most (kp_217 _) (by end_is "j") (by end_is "j") (by end_is "j") fun _ _ _ => jx_con1 (c_expand_most ok hM (by lia) (by lia) hvs hls hd hq0 hp0 hA (by lia) he3 hr) (by end_is "j room") (by end_is "j room")) ?_
      exact fun v n h => hTr _ _ _ (hP _ _ _ h)
    replace hr := ite_fd h hr
    refine js_when (by end_is "j") (fun h => ?_) fun h => ?_
    · replace hr := ite_td h hr
      refine js_retX (jx_ite (jt_c (jc_single ok (by end_is "j") (by end_is "j") (by end_is "j") (by end_is "j") hq0 hp0 hA (by lia) he3 (by end_is "j room") (by end_is "j room"))) (R := fun v n => OptV r v ∧ P.Is cx.w dep lev' st' ln' n) (fun h => ?_) fun h => ?_) fun v n h => hTr _ _ _ (hP _ _ _ h)
      · replace hr := ite_t h hr
        exact jx_meth3 (by end_is "j") hm_expand_most (kp_217 _) (by end_is "j") (by end_is "j") (by end_is "j") fun _ _ _ => jx_con1 (c_expand_most ok hM (by lia) (by lia) hvs hls hd (by lia) hp0 hA (by lia) he3 hr) (by end_is "j room") (by end_is "j room")
      · replace hr := ite_b h hr
        refine ja_x jn_lit ?_
        exact fun t => here_ret hr hI rfl
    replace hr := ite_fd h hr
    refine js_when (by end_is "j") (fun h => ?_) fun h => ?_
    · replace hr := ite_td h hr
      refine js_retX (jx_meth3 (by end_is "j") hm_expand_least (kp_224 _) (by end_is "j") (by end_is "j") (by end_is "j") fun _ _ _ => jx_con1 (c_expand_least ok hM (by lia) (by lia) hvs hls hd hq0 hp0 hA (by lia) he3 hr) (by end_is "j room") (by end_is "j room")) ?_
      exact fun v n h => hTr _ _ _ (hP _ _ _ h)
    replace hr := ite_fd h hr
    refine js_asg (jc_single ok (by end_is "j") (by end_is "j") (by end_is "j") (by end_is "j") hq0 hp0 hA (by lia) he3 (by end_is "j room") (by end_is "j room")) (by end_is "j set") fun _ => ?_
    generalize hsi : isSingle P.text P.pat q pp e = si at hr ⊢
    refine js_when (by end_is "j") (fun h => ?_) fun h => ?_
    · replace hr := ite_td h hr
      cases si with
      | false =>
        refine js_when (b := false) (jt_c (ja_loc (by end_is "j in"))) (fun h => nomatch h) fun _ => ?_
        refine js_asg (by end_is "j") (by end_is "j set") fun _ => ?_
        refine js_cont ?_
        exact hTc k _ _ (Nat.lt_succ_self k) ⟨Nat.le_of_succ_le hk, _, _, _, _, _, _, _, _, _, _, rfl, _, _, _, hI, hr⟩
      | true =>
        replace hr := ite_t rfl hr
        rcases hM1 : M (q + 1) (e + 1) (⟨lev, st, ln⟩ : MX) with _ | ⟨r1, ⟨lev1, st1, ln1⟩⟩
        · rw [hM1] at hr; cases hr
        rw [hM1] at hr
        refine js_when (b := true) (jt_c (ja_loc (by end_is "j in"))) (fun _ => ?_) fun h => nomatch h
        refine js_asgX (jx_match hM (by end_is "j room") (by end_is "j room") hvs hls hd hM1 (by end_is "j") (by end_is "j") (by end_is "j")) (by end_is "j set") ?_
        rintro v n' ⟨hv, hI⟩
        cases r1 with
        | none =>
          cases hv
          refine js_when (b := false) (jn_isnot (ja_loc (by end_is "j in"))) (fun h => nomatch h) fun _ => ?_
          refine js_nil (js_asg (by end_is "j") (by end_is "j set") fun _ => ?_)
          refine js_cont ?_
          exact hTc k _ _ (Nat.lt_succ_self k) ⟨Nat.le_of_succ_le hk, _, _, _, _, _, _, _, _, _, _, rfl, _, _, _, hI, hr⟩
        | some i =>
          obtain ⟨t, rfl⟩ := hv
          refine js_when (b := true) (jn_isnot (ja_loc (by end_is "j in"))) (fun _ => ?_) fun h => nomatch h
          refine js_ret (by end_is "j") ?_
          exact fun t => hTr _ _ _ (hP _ _ _ (here_ret hr hI ⟨t, rfl⟩))
    replace hr := ite_fd h hr
    cases si with
    | false =>
      refine js_when (b := true) (jt_not (p := false) (jt_c (ja_loc (by end_is "j in")))) (fun _ => ?_) fun h => nomatch h
      refine js_ret jn_lit ?_
      exact fun t => hTr _ _ _ (hP _ _ _ (here_ret hr hI rfl))
    | true =>
      replace hr := ite_t rfl hr
      refine js_when (b := false) (jt_not (p := true) (jt_c (ja_loc (by end_is "j in")))) (fun h => nomatch h) fun _ => ?_
      refine js_asg2 (by end_is "j") (by end_is "j") (by end_is "j set") (fun _ => (by end_is "j set")) (fun _ _ => js_nil ?_)
      exact hT k _ _ (Nat.lt_succ_self k) ⟨Nat.le_of_succ_le hk, _, _, _, _, _, _, _, _, _, _, rfl, _, _, _, hI, hr⟩
end
/-- a capture as Python holds it: a place or a text -/
inductive Cap where
  | pos (i : Int)
  | txt (b : List UInt8)
noncomputable def Cap.Is : Cap → Value → Prop
  | .pos i, v => ∃ t, v = .int i t
  | .txt b, v => ∃ t, v = .bytes b.toArray t
noncomputable def capV (text : List UInt8) (x : MX) (number s e : Int) : Option Cap :=
  if x.lev ≤ number then (if 0 < number then none else some (.txt (sl text (some s) (some e))))
  else if gi x.ln number = -1 then none
  else if gi x.ln number = -2 then some (.pos (gi x.st number + 1))
  else some (.txt (sl text (some (gi x.st number)) (some (gi x.st number + gi x.ln number))))
section
variable {w : World} {mean : ExcName → Option Value} {mg mb : Str → Option Value} {P : MP} {dep lev : Int} {t4 t5 : Tok} {S Ln : Addr} {vs ls : List Value} {n1 n2 : Nat}
theorem c_capture {st ln : List Int} {number s e : Int} {c : Cap} {tn ts te : Tok} (ok : P.Ok) (hvs : IntsAre vs st) (hls : IntsAre ls ln) (h0 : 0 ≤ number) (h1 : lev ≤ (ln.length : Int)) (h2 : ln.length ≤ 100) (h3 : lev ≤ (st.length : Int)) (h4 : st.length ≤ 100)
    (hr : capV P.text ⟨lev, st, ln⟩ number s e = some c) :
    Con w mean mg mb (.ref 259) [.ref P.M, .int number tn, .int s ts, .int e te] (P.own w dep lev t4 t5 S Ln vs ls n1 n2) 12 60
    (fun v own' => own' = P.own w dep lev t4 t5 S Ln vs ls n1 n2 ∧ c.Is v) := by
  have ht := ok.text
  unfold capV at hr
  dsimp only at hr
  refine con_js ([("self", .ref P.M), ("number", .int number tn), ("s", .int s ts), ("end", .int e te)]) (["size", "start"]) ([("UNFINISHED", .int (-1) _), ("POSITION", .int (-2) _)]) ([]) (by k_dflt k_is) (by k_dflt k_is) (by kernel_rfl) (by end_is "j gl") (by end_is "j bl") (by exact fun _ _ => BindsTo.of_eq rfl) ?_
  intro dp un gd outer base g L
  simp only [List.map, List.cons_append, List.nil_append]
  refine js_when (by end_is "j") (fun h => ?_) fun h => ?_
  · replace hr := ite_td h hr
    refine js_when (by end_is "j") (fun h => ?_) fun h => ?_
    · replace hr := ite_td h hr; cases hr
    replace hr := ite_fd h hr
    cases hr
    refine js_ret (jb_slice (by end_is "j") (jp_some (by end_is "j")) (jp_some (by end_is "j")) (by omega)) ?_
    exact fun t => ⟨rfl, t, rfl⟩
  replace hr := ite_fd h hr
  have h := of_decide_eq_false h
  refine js_asg2 (ji_lengths (by end_is "j") (by end_is "j") hls h0 (by omega) h2) (ji_starts (by end_is "j") (by end_is "j") hvs h0 (by omega) h4) (by end_is "j set") (fun _ => (by end_is "j set")) (fun _ _ => ?_)
  refine js_when (by end_is "j") (fun h => ?_) fun h => ?_
  · replace hr := ite_td h hr; cases hr
  replace hr := ite_fd h hr
  refine js_retX (jx_ite (by end_is "j") (R := fun v n => n = P.own w dep lev t4 t5 S Ln vs ls n1 n2 ∧ c.Is v) (fun h => ?_) fun h => ?_) fun v n h => h
  · replace hr := ite_td h hr
    cases hr
    refine ja_x (by end_is "j") ?_
    exact fun t => ⟨rfl, t, rfl⟩
  · replace hr := ite_fd h hr
    cases hr
    refine ja_x (jb_slice (by end_is "j") (jp_some (by end_is "j")) (jp_some (by end_is "j")) (by omega)) ?_
    exact fun t => ⟨rfl, t, rfl⟩
theorem c_reset {st ln : List Int} {own : List (Addr × Obj)} (hI : P.Is w dep lev st ln own) : Con w mean mg mb (.ref 147) [.ref P.M] own 6 40 (fun v own' => v = .none ∧ P.Is w 0 0 [] [] own') := by
  obtain ⟨t4, t5, S, Ln, vs, ls, n1, n2, rfl, hvs, hls, hd⟩ := hI
  refine con_js ([("self", .ref P.M)]) ([]) ([]) ([]) (by k_dflt k_is) (by k_dflt k_is) (by kernel_rfl) (by end_is "j gl") (by end_is "j bl") (by exact fun _ _ => BindsTo.of_eq rfl) ?_
  intro dp un gd outer base g L
  simp only [List.map, List.cons_append, List.nil_append]
  refine js_setattr (fun _ => (by end_is "j")) (ja_x ji_lit (R := fun v n => (∃ t, v = .int 0 t) ∧ n = P.own w dep lev t4 t5 S Ln vs ls n1 n2) fun u => ⟨⟨u, rfl⟩, rfl⟩) ?_
  rintro _ _ ⟨⟨t4, rfl⟩, rfl⟩
  refine ⟨P.own w 0 lev t4 t5 S Ln vs ls n1 n2, sa_of (.head _) (.tail _ (.head _)) (by k_dflt k_is) (by k_dflt k_is) (by k_dflt k_is) (by k_dflt k_is) rfl (fun _ => rfl) (upd_mat hd) (Nat.le_of_ble_eq_true rfl), ?_⟩
  refine js_setattr (fun _ => (by end_is "j")) (ja_x ji_lit (R := fun v n => (∃ t, v = .int 0 t) ∧ n = P.own w 0 lev t4 t5 S Ln vs ls n1 n2) fun u => ⟨⟨u, rfl⟩, rfl⟩) ?_
  rintro _ _ ⟨⟨t5, rfl⟩, rfl⟩
  refine ⟨P.own w 0 0 t4 t5 S Ln vs ls n1 n2, sa_of (.head _) (.tail _ (.head _)) (by k_dflt k_is) (by k_dflt k_is) (by k_dflt k_is) (by k_dflt k_is) rfl (fun _ => rfl) (upd_mat hd) (Nat.le_of_ble_eq_true rfl), ?_⟩
  refine js_starts hd (fun _ => (by end_is "j")) (JX.mono jx_list0 (R' := NewInts _ []) fun v n ⟨D, e1, e2, ap⟩ => ⟨D, [], e1, e2, .nil, ap⟩) fun S ws hI hd => ?_
  refine js_lengths hd (fun _ => (by end_is "j")) (JX.mono jx_list0 (R' := NewInts _ []) fun v n ⟨D, e1, e2, ap⟩ => ⟨D, [], e1, e2, .nil, ap⟩) fun Ln ws2 hI2 hd => ?_
  exact js_nil ⟨rfl, _, _, _, _, _, _, _, _, rfl, hI, hI2, hd⟩
end
/-! contracts over clean stacks, that may raise the text's own exception -/
theorem codeC_call_def {prog : Program} {w : World} {A : Around} {s : Shared} {R : Result → Shared → Prop} {a : Addr} {o : Obj} {fd : FuncData} {body : List Stmt} {args : Args} {binds : List (Str × Value)}
    (hroom : A.depth < recursionLimit) (ho : s.heap.get? a = some o) (hdata : o.data = .func fd) (hlim : s.heap.NoLimit) (hcd : s.heap.CodeRec fd.code fd.qualname)
    (hbody : fd.body = .stmts body) (hbind : BindsTo s fd args binds) (hcell : ∀ x ∈ fd.scope.names, x.2 ≠ .cell) (hloc : ∀ x ∈ binds, fd.scope.names.lookup x.1 = some .local)
    (h : ∀ h₀, h₀.Ns s.heap.objs.size (fun x => binds.reverse.lookup x) → (∀ b o, s.heap.get? b = some o → h₀.get? b = some o) →
      wpC (model prog w) (A.deeper (callEnv fd s.heap.objs.size a)) (execs body (callEnv fd s.heap.objs.size a)) (fun f s' => R (.ok (.ret (match f with | .ret v => v | _ => .none))) s')
        (fun e s' => wpAny (model prog w) (A.deeper (callEnv fd s.heap.objs.size a)) (leaving (callEnv fd s.heap.objs.size a) e) (fun _ s'' => R (.error e) s'') (fun e' s'' => R (.error e') s'') s')
        { s with heap := h₀, toks := s.toks + binds.length })
    (hco : fd.scope.isCoroutine = false) (hgen : fd.scope.isGenerator = false) (hk : fd.scope.kind = .function) : codeC (model prog w) A (.call (.ref a) args) R s := by
  refine codeC_call_function hroom ho hdata hco hgen hbody hcd (hbind _ _ _ _ ?_)
  refine wpAny_newFunctionEnv hcell hloc (fun h₀ hns₀ hsb₀ => ⟨hlim.fresh _ hsb₀, codeC_func (h h₀ hns₀ fun b o e => ?_)⟩) hk
  exact hsb₀.extBut b o (Nat.ne_of_lt (Heap.lt_size e)) (Heap.get?_push_of_some _ e)
/-- the exception is on its way, `B` all that stood where it was raised, the frames apart -/
structure Flies (base : Heap) (l : List Env) (e : Value) (h : Heap) : Prop where
  out : E3 fun (B : Heap) (x : Addr) (a0 : Value) => A4 (e = .ref x) (base.StaysIn B) (Heap.FlyingW B l x (.ref 59) a0 h) (GrownAt 350 B)
theorem Flies.leave {M : Model} {A : Around} {base : Heap} {env : Env} {outer : List Env} {L : Addr} {e : Value} {s : Shared} {Q : Unit → Shared → Prop} {E : Value → Shared → Prop} (hfr : A.frames = some (env :: outer)) (hf : env.frame = some L) (f : Flies base (env :: outer) e s.heap)
    (hQ : ∀ h', Flies base outer e h' → s.heap.UpToSlots h' → Q () { s with heap := h' }) : wpAny M A (leaving env e) Q E s := by
  obtain ⟨B, x, a0, rfl, hb, hfl, hg⟩ := f.out
  exact wpAny_leaves_onW hfr hf hfl fun h' x1 x2 => hQ h' ⟨B, x, a0, rfl, hb, x1, hg⟩ x2

/-- a contract over clean stacks; `X` where it may raise -/
noncomputable def ConC (w : World) (mean : ExcName → Option Value) (mg mb : Str → Option Value) (f : Value) (vs : List Value) (own : List (Addr × Obj)) (cost ucost : Nat) (R : Value → List (Addr × Obj) → Prop) (X : Prop) : Prop :=
  ∀ (dp un : Nat) (outer : List Env) (base g : Heap) (s : Shared) (Q E : Value → Shared → Prop),
    (hd.heap_39 w.params).In g → Top topProg gl mean mg mb g → base.StaysIn g → g.FunFrames base outer → Own g s.heap own → dp + cost < recursionLimit → un + ucost < cLine →
    (∀ r own' h' tk', R r own' → Own g h' own' → Q r { s with heap := h', toks := tk' }) →
    (X → ∀ e h' tk', Flies base outer e h' → g.UpToSlots h' → E e { s with heap := h', toks := tk' }) →
    wpC (model PySem.Challenge.rw_nt0643_01.row.prog w) (cA dp un (some []) outer) (call f vs) Q E s
section
variable {w : World} {mean : ExcName → Option Value} {mg mb : Str → Option Value}
theorem Con.toC {f : Value} {vs : List Value} {own : List (Addr × Obj)} {cost ucost : Nat} {R : Value → List (Addr × Obj) → Prop} {X : Prop} (C : Con w mean mg mb f vs own cost ucost R) : ConC w mean mg mb f vs own cost ucost R X :=
  fun dp un outer base g s Q E K T hb hf O h1 h2 hQ _ => .ofAny (C dp un (some []) outer g s Q E ⟨K, T, base, hb, hf⟩ O h1 h2 hQ)
theorem ConC.mono {f : Value} {vs : List Value} {own : List (Addr × Obj)} {cost ucost cost' ucost' : Nat} {R R' : Value → List (Addr × Obj) → Prop} {X X' : Prop} (C : ConC w mean mg mb f vs own cost ucost R X)
    (hR : ∀ r o, R r o → R' r o) (hX : X → X') (hc : cost ≤ cost') (hu : ucost ≤ ucost') : ConC w mean mg mb f vs own cost' ucost' R' X' :=
  fun dp un outer base g s Q E K T hb hf O h1 h2 hQ hE => C dp un outer base g s Q E K T hb hf O (by lia) (by lia) (fun r o h tk q => hQ r o h tk (hR _ _ q)) fun x => hE (hX x)

/-- what a body has of its frame, over a clean stack -/
theorem conC_enter {f : Addr} {name qual : Str} {params : Arguments} {body : List Stmt} {scope : Scope} {dV kV doc pm cdv ct oc : Value} {an od : Option Addr} {osl : Array (Option Value)}
    {vs : List Value} {binds : List (Str × Value)} {own : List (Addr × Obj)} {cost ucost : Nat} {R : Value → List (Addr × Obj) → Prop} {X : Prop}
    (ho : (hd.heap_39 w.params).lookup f = some ⟨oc, od, .func (fnOf name qual params body scope dV kV doc pm an cdv ct), osl⟩)
    (hcd : codeIn (hd.heap_39 w.params) cdv qual = true)
    (hbind : ∀ s : Shared, (hd.heap_39 w.params).In s.heap → BindsTo s (fnOf name qual params body scope dV kV doc pm an cdv ct) ⟨vs, []⟩ binds)
    (hloc : ∀ y ∈ binds, scope.names.lookup y.1 = some .local)
    (h : ∀ (dp un : Nat) (outer : List Env) (base g : Heap) (s : Shared) (L' : Addr) (h₁ : Heap) (Q E : Value → Shared → Prop),
      Below (cA dp un (some []) outer) base outer g → (hd.heap_39 w.params).In g → Top topProg gl mean mg mb g →
      Fr g L' h₁ (fun y => binds.reverse.lookup y) → News g L' h₁ own → (∀ p ∈ own, p.1 < L') → dp + cost < recursionLimit → un + ucost < cLine →
      (∀ r own' h' tk' m', Fr g L' h' m' → News g L' h' own' → R r own' → Q r { s with heap := h', toks := tk' }) →
      (X → ∀ e h' tk', Flies base (envOf qual scope L' f cdv :: outer) e h' → g.UpToSlots h' → E e { s with heap := h', toks := tk' }) →
      PassesOwn (model PySem.Challenge.rw_nt0643_01.row.prog w) ((cA dp un (some []) outer).deeper (envOf qual scope L' f cdv)) (envOf qual scope L' f cdv) E →
      wpC (model PySem.Challenge.rw_nt0643_01.row.prog w) ((cA dp un (some []) outer).deeper (envOf qual scope L' f cdv)) (execs body (envOf qual scope L' f cdv))
        (fun fl s' => Q (match fl with | .ret v => v | _ => .none) s') E { s with heap := h₁, toks := s.toks + binds.length })
    (hc : 0 < cost) (hco : scope.isCoroutine = false) (hgen : scope.isGenerator = false) (hk : scope.kind = .function) (hcell : ∀ x ∈ scope.names, x.2 ≠ .cell) :
    ConC w mean mg mb (.ref f) vs own cost ucost R X := by
  intro dp un outer base g s Q E K T hst hff O hdp hu hQ hE
  have X' : (hd.heap_39 w.params).In s.heap := K.keeps O.keep
  refine wpC_call (codeC_call_def (fd := fnOf name qual params body scope dV kV doc pm an cdv ct) (body := body) (binds := binds) (by show dp < _; lia) (X' _ _ ho) rfl (T.nolimit.keeps O.keep) (codeRec_of X' hcd) rfl (hbind s X') hcell hloc (fun h₁ hns hk₁ => ?_) hco hgen hk)
  refine h dp un outer base g s s.heap.objs.size h₁ Q _ ⟨rfl, hst, hff⟩ K T ⟨hns, fun b o e => hk₁ b o (O.keep b o e), O.size⟩
    (fun p hp => ⟨hk₁ _ _ (O.at_ p hp).1, Nat.ne_of_lt (Heap.lt_size (O.at_ p hp).1), (O.at_ p hp).2⟩) (fun p hp => Heap.lt_size (O.at_ p hp).1) hdp hu ?_ ?_ PassesOwn.leaving
  · intro r own' h' tk' m' F' N' hR
    refine hQ r own' h' tk' hR ⟨F'.keep, ?_, fun p hp => ⟨(N' p hp).1, (N' p hp).2.2⟩⟩
    obtain ⟨o, _, _, ho', _⟩ := F'.ns
    exact Nat.le_of_lt (Nat.lt_of_le_of_lt F'.above (Heap.lt_size ho'))
  · intro hX e h' tk' hfl hup
    exact hfl.leave rfl rfl fun h'' fl' up' => hE hX e h'' tk' fl' (hup.trans up')

/-- a contract over a clean stack, used where a body stands -/
theorem conC_use {f : Value} {vs : List Value} {own : List (Addr × Obj)} {cost ucost : Nat} {R : Value → List (Addr × Obj) → Prop} {X : Prop} (C : ConC w mean mg mb f vs own cost ucost R X)
    {dp un : Nat} {env : Env} {outer : List Env} {A₀ : Around} {base h₀ : Heap} {L : Addr} {m : Str → Option Value} {news rest : List (Addr × Obj)} {s : Shared} {Q E : Value → Shared → Prop}
    (B : Below A₀ base outer h₀) (F : Fr h₀ L s.heap m) (K : (hd.heap_39 w.params).In h₀) (N : News h₀ L s.heap news) (T : Top topProg gl mean mg mb h₀)
    (hf : env.frame = some L) (hk : env.scope.kind = .function)
    (hown : ∀ p ∈ own, p ∈ news) (hrest : ∀ p ∈ rest, p ∈ news) (hne : ∀ p ∈ rest, p.1 ∉ own.map (·.1))
    (hdp : dp + cost < recursionLimit) (hu : un + ucost < cLine)
    (h : ∀ r own' h' tk', R r own' → Fr h₀ L h' m → News h₀ L h' (own' ++ rest) → (∀ p ∈ own', ∀ q ∈ rest, q.1 ≠ p.1) → Q r { s with heap := h', toks := tk' })
    (hE : X → ∀ e h' tk', Flies base (env :: outer) e h' → h₀.UpToSlots h' → E e { s with heap := h', toks := tk' }) :
    wpC (model PySem.Challenge.rw_nt0643_01.row.prog w) (cA dp un (some []) (env :: outer)) (call f vs) Q E s := by
  have N' : News h₀ L s.heap own := fun p hp => N p (hown p hp)
  obtain ⟨FG, BG, st, -⟩ := groundX (A := cA dp un (some []) (env :: outer)) (R := fun _ _ => True) B F N' rfl hf hk
  refine C dp un (env :: outer) base _ s Q E (K.keeps st) (T.keeps st) BG.stays BG.frames ⟨fun b o e => of_hideAll _ e, Nat.le_of_eq (hideAll_size _ _), fun p hp => ⟨(N' p hp).1, hideAll_none _ (List.mem_map_of_mem hp)⟩⟩ hdp hu ?_
    fun hX e h' tk' fl up => hE hX e h' tk' fl ((Heap.UpToSlots.of_keeps st).trans up)
  intro r own' h' tk' hR O
  obtain ⟨oL, es, ep, hL, hLd, hLk, hLf⟩ := FG.ns
  have st' : ∀ b o, h₀.get? b = some o → h'.get? b = some o := fun b o e => O.keep b o (st b o e)
  have hr : ∀ q ∈ rest, (hideAll s.heap (own.map (·.1))).get? q.1 = some q.2 := fun q hq => hideAll_get _ (N q (hrest q hq)).1 (hne q hq)
  refine h r own' h' tk' hR ⟨⟨oL, es, ep, O.keep L oL hL, hLd, hLk, hLf⟩, st', F.above⟩ (fun p hp => ?_) (fun p hp q hq e => ?_)
  · rcases List.mem_append.mp hp with hp | hp
    · refine ⟨(O.at_ p hp).1, fun e => ?_, ?_⟩
      · have := (O.at_ p hp).2; rw [e, hL] at this; cases this
      · cases e : h₀.get? p.1 with
        | none => rfl
        | some o => have := (O.at_ p hp).2; rw [st _ _ e] at this; cases this
    · exact ⟨O.keep _ _ (hr p hp), (N p (hrest p hp)).2⟩
  · have := (O.at_ p hp).2; rw [← e, hr q hq] at this; cases this
end
/-! calls, tuples, over clean stacks -/
section
variable {prog : Program} {w : World} {A : Around} {E : Value → Shared → Prop} {s : Shared} {env : Env}
theorem execsC_any {st : Stmt} {rest : List Stmt} {Q : Flow → Shared → Prop}
    (h : wpAny (model prog w) A (exec st env) (fun f s' => match f with | .next => wpC (model prog w) A (execs rest env) Q E s' | f => Q f s') E s) : wpC (model prog w) A (execs (st :: rest) env) Q E s := execsC_cons (.ofAny h)
theorem splicedC_nil {Q : List Value → Shared → Prop} (h : Q [] s) : wpC (model prog w) A (spliced []) Q E s := .ofAny (spliced_nil h)
theorem splicedC_cons {x : Sem Value} {rest : List (Bool × Sem Value)} {Q : List Value → Shared → Prop}
    (h : wpC (model prog w) A x (fun v s₁ => wpC (model prog w) A (spliced rest) (fun vs s₂ => Q (v :: vs) s₂) E s₁) E s) : wpC (model prog w) A (spliced ((false, x) :: rest)) Q E s := by
  rw [spliced]
  refine wpC_bind (wpC_mono h (fun v s₁ h₁ => ?_) fun _ _ x => x)
  simp only [Bool.false_eq_true, if_false]
  exact wpC_bind (wpC_pure (wpC_bind (wpC_holding (wpC_mono h₁ (fun vs s₂ h₂ => wpC_pure h₂) fun _ _ x => x))))
theorem evalArgsC {f : Value} {x : Sem Value} {rest : List (Bool × Sem Value)} {Q : Args → Shared → Prop}
    (h : wpC (model prog w) A (spliced ((false, x) :: rest)) (fun vs s' => Q ⟨vs, []⟩ s') E s) : wpC (model prog w) A (evalArgs f true ((false, x) :: rest) []) Q E s := by
  unfold evalArgs
  show wpC (model prog w) A (spliced ((false, x) :: rest) >>= _) Q E s
  refine wpC_bind (wpC_mono h (fun vs s' h' => ?_) fun _ _ x => x)
  refine wpC_holding ?_
  exact wpC_bind (wpC_pure (wpC_bind (wpC_pure (wpC_pure h'))))
theorem argsC_nil {pos : Pos} {Q : List Value → Shared → Prop} (h : Q [] s) : wpC (model prog w) A (spliced (backTo pos (starEach [] env))) Q E s := splicedC_nil h
theorem argsC_cons {e : PySem.Expr} {rest : List PySem.Expr} {pos : Pos} {Q : List Value → Shared → Prop}
    (h : wpC (model prog w) A (eval e env) (fun v s₁ => wpC (model prog w) A (spliced (backTo pos (starEach rest env))) (fun vs s₂ => Q (v :: vs) s₂) E s₁) E s)
    (he : starEach (e :: rest) env = (false, eval e env) :: starEach rest env := by rfl) : wpC (model prog w) A (spliced (backTo pos (starEach (e :: rest) env))) Q E s := by
  rw [he]; exact splicedC_cons h
theorem argsC {f : Value} {e : PySem.Expr} {rest : List PySem.Expr} {pos : Pos} {Q : Args → Shared → Prop}
    (h : wpC (model prog w) A (spliced (backTo pos (starEach (e :: rest) env))) (fun vs s' => Q ⟨vs, []⟩ s') E s)
    (he : starEach (e :: rest) env = (false, eval e env) :: starEach rest env := by rfl) : wpC (model prog w) A (evalArgs f true (backTo pos (starEach (e :: rest) env)) []) Q E s := by
  rw [he] at h ⊢; exact evalArgsC h
theorem evalArgsC_nil {f : Value} {Q : Args → Shared → Prop} (h : Q ⟨[], []⟩ s) : wpC (model prog w) A (evalArgs f true [] []) Q E s := .ofAny (PySem.evalArgs_none h)
theorem callWithC {P : Heap → Prop} {f : Value} {pos : Pos} {first : List Value} {args : List (Bool × Sem Value)} {Q : Value → Shared → Prop} (hplain : args.any (·.1) = false)
    (hk : ∀ h, P h → ∃ k, (k = Keeper.frame ∨ k = Keeper.machine ∨ k = Keeper.boundFrame) ∧ Looks (model prog w) h (keeperOf f) k)
    (h : wpC (model prog w) A (evalArgs f true args []) (fun a s₁ => P s₁.heap ∧ wpC (model prog w) A (call f (first ++ a.pos) a.kw) Q E s₁) E s) : wpC (model prog w) A (callWith pos f first args []) Q E s := by
  unfold callWith
  refine wpC_bind (wpC_holding (wpC_mono h (fun a s₁ h₁ => wpC_anyBind (wpAny_standAt ?_)) fun _ _ x => x))
  obtain ⟨k, hk', L⟩ := hk _ h₁.1
  simp -iota only [hplain, List.any_nil, Bool.or_false]
  refine wpC_anyBind (L.here ?_)
  have tail : ∀ {t : Sem Value}, wpC (model prog w) A t Q E s₁ → wpC (model prog w) A (t >>= fun r => holding [r] point >>= fun _ => pure r) Q E s₁ :=
    fun ht => wpC_bind (wpC_mono ht (fun r s₂ hr => wpC_bind (wpC_holding (.ofAny (wpAny_point (wpC_pure hr))))) fun _ _ x => x)
  have marked (mk : Value) : wpC (model prog w) A (callMarked mk f (first ++ a.pos) a.kw) Q E s₁ := by
    unfold callMarked
    exact fun Γ p hΓ hc => by rw [Sem.wp_keep]; exact h₁.2 Γ p hΓ hc
  rcases hk' with rfl | rfl | rfl <;> dsimp only <;> first | exact tail h₁.2 | (split <;> first | exact tail h₁.2 | exact tail (marked _))
theorem CallC {func : PySem.Expr} {args : List PySem.Expr} {pos : Pos} {Q : Value → Shared → Prop}
    (h : wpAny (model prog w) A (eval func env) (fun f s₁ => wpC (model prog w) A (callWith pos f [] (backTo pos (starEach args env)) []) Q E s₁) E s)
    (he : eval (.Call func args [] pos) env = (do callWith pos (← eval func env) [] (backTo pos (starEach args env)) (backToKw pos (keywordEach [] env))) := by rfl) :
    wpC (model prog w) A (eval (.Call func args [] pos) env) Q E s := by
  rw [he]; exact wpC_anyBind h
theorem MethodCallC {o : PySem.Expr} {name : Str} {apos pos : Pos} {args : List PySem.Expr} {pl : Sem Bool} {Q : Value → Shared → Prop}
    (h : wpAny (model prog w) A (eval o env) (fun ov s₁ => wpAny (model prog w) A (getMethod ov name pl) (fun fx s₂ => wpC (model prog w) A (callWith pos fx.1 fx.2 (backTo pos (starEach args env)) []) Q E s₂) E s₁) E s)
    (he : eval (.Call (.Attribute o name apos) args [] pos) env = (do
      let ov ← eval o env
      standAt apos.atName
      let (f, first) ← holding [ov] (getMethod ov name pl)
      callWith pos f first (backTo pos (starEach args env)) []) := by rfl) : wpC (model prog w) A (eval (.Call (.Attribute o name apos) args [] pos) env) Q E s := by
  rw [he]
  exact wpC_anyBind (wpAny_mono h (fun ov s₁ h₁ => wpC_anyBind (wpAny_standAt (wpC_bind (wpC_holding (.ofAny (wpAny_mono h₁ (fun fx s₂ h₂ => h₂) fun _ _ x => x)))))) fun _ _ x => x)
theorem TupleC {elts : List PySem.Expr} {k : Nat} {pos : Pos} {Q : Value → Shared → Prop}
    (h : wpC (model prog w) A (spliced (backTo pos (starEach elts env))) (fun vs s₁ => wpAny (model prog w) A (newTuple vs) Q E s₁) E s) : wpC (model prog w) A (eval (.Tuple elts k pos) env) Q E s := by
  show wpC (model prog w) A (do standAt pos; newTuple (← spliced (backTo pos (starEach elts env)))) Q E s
  exact wpC_anyBind (wpAny_standAt (wpC_bind (wpC_mono h (fun _ _ x => .ofAny x) fun _ _ x => x)))
theorem AssignSwappedC {elts : List PySem.Expr} {k : Nat} {tpos pos : Pos} {value : PySem.Expr} {names : List Str} {Q : Flow → Shared → Prop}
    (h : wpC (model prog w) A (eval value env) (fun v s₁ => wpAny (model prog w) A (unpackItems v names.length none) (fun items s₂ =>
      wpAny (model prog w) A (assignInOrder (names.reverse.map fun n => bindName env n) items.reverse) (fun _ => Q .next) E s₂) E s₁) E s)
    (hs : swapsWithSole [.Tuple elts k tpos] value pos.line env = pure false := by rfl)
    (hw : swappedStores [.Tuple elts k tpos] value env = pure (some names) := by rfl) : wpC (model prog w) A (exec (.Assign [.Tuple elts k tpos] value pos) env) Q E s := by
  rw [exec_Assign]
  refine wpC_anyBind (wpAny_standAt ?_)
  rw [hs]
  refine wpC_anyBind (wpAny_pure ?_)
  rw [if_neg (by decide)]
  refine wpC_bind (wpC_mono h (fun v s₁ h₁ => ?_) fun _ _ x => x)
  rw [hw]
  refine wpC_anyBind (wpAny_pure (.ofAny ?_))
  show wpAny (model prog w) A (do rule "assign.swapped-stores"; let items ← unpackItems v names.length none; assignInOrder (names.reverse.map fun n => bindName env n) items.reverse; pure .next) Q E s₁
  exact wpAny_bind (wpAny_rule (wpAny_bind (wpAny_mono h₁ (fun items s₂ h₂ => wpAny_bind (wpAny_mono h₂ (fun _ _ x => wpAny_pure x) fun _ _ x => x)) fun _ _ x => x)))
theorem ba_method {a : Addr} {b : Array UInt8} {name : Str} {id : String} {pl : Sem Bool} {Q : Value × List Value → Shared → Prop} (ho : s.heap.get? a = some (baObj b)) (slot : Slot "bytearray" name id) (hty : typeOf (.builtin id) = pure (.type "method_descriptor"))
    (h : Q (.builtin id, [.ref a]) s) : wpAny (model prog w) A (getMethod (.ref a) name pl) Q E s :=
  getMethod_builtin ⟨_, ho, rfl⟩ ba_plainAttrs slot hty (fun c e => by cases e; exact ⟨_, ho, rfl⟩) h
end
/-! short judgements over clean stacks: what is walked may hold a bytearray, and, where X, raise the text's own exception -/
noncomputable def JXC {α : Type} (c : Cx) (F : FD) (X : Prop) (lm : Lm) (nw : Led) (t : Sem α) (R : α → Led → Prop) : Prop :=
  ∀ (s : Shared) (m : Str → Option Value) (Q : α → Shared → Prop) (E : Value → Shared → Prop), c.gd = some [] → COk c F → lm.map (·.1) = F.names → Fr c.g c.L s.heap m → (∀ x v, (x, some v) ∈ lm → m x = some v) → News c.g c.L s.heap nw →
    (∀ v h' tk' nw', R v nw' → Fr c.g c.L h' m → News c.g c.L h' nw' → Q v { s with heap := h', toks := tk' }) →
    (X → ∀ e h' tk', Flies c.base (F.env c.L :: c.outer) e h' → c.g.UpToSlots h' → E e { s with heap := h', toks := tk' }) → wpC (model PR c.w) (c.A F) t Q E s
/-- statements -/
noncomputable def JR (c : Cx) (F : FD) (X : Prop) (lm : Lm) (nw : Led) (ss : List Stmt) (P : Flow → Lm → Led → Prop) : Prop :=
  ∀ (s : Shared) (m : Str → Option Value) (Q : Flow → Shared → Prop) (E : Value → Shared → Prop), c.gd = some [] → COk c F → lm.map (·.1) = F.names → Fr c.g c.L s.heap m → (∀ x v, (x, some v) ∈ lm → m x = some v) → News c.g c.L s.heap nw →
    (∀ fl h' tk' m' lm' nw', P fl lm' nw' → lm'.map (·.1) = F.names → Fr c.g c.L h' m' → (∀ x v, (x, some v) ∈ lm' → m' x = some v) → News c.g c.L h' nw' → Q fl { s with heap := h', toks := tk' }) →
    (X → ∀ e h' tk', Flies c.base (F.env c.L :: c.outer) e h' → c.g.UpToSlots h' → E e { s with heap := h', toks := tk' }) → PassesOwn (model PR c.w) (c.A F) (F.env c.L) E → wpC (model PR c.w) (c.A F) (execs ss (F.env c.L)) Q E s
/-- a function's object stands in the ledger -/
noncomputable def HasFn (a : Addr) (own : Led) : Prop := E4 fun oc od fd sl => (a, (⟨oc, od, .func fd, sl⟩ : Obj)) ∈ own
theorem HasFn.at {h₀ h : Heap} {L a : Addr} {own news : Led} (x : HasFn a own) (N : News h₀ L h news) (hs : ∀ p ∈ own, p ∈ news) : FnAt a h := let ⟨_, _, _, _, hm⟩ := x; FnAt.of N (hs _ hm)
theorem HasFn.tail {a : Addr} {own : Led} {q : Addr × Obj} (x : HasFn a own) : HasFn a (q :: own) := let ⟨_, _, _, _, hm⟩ := x; ⟨_, _, _, _, .tail _ hm⟩
/-- behind a statement -/
noncomputable def ThenR (c : Cx) (F : FD) (X : Prop) (rest : List Stmt) (P : Flow → Lm → Led → Prop) : Flow → Lm → Led → Prop
  | .next, lm, nw => JR c F X lm nw rest P
  | fl, lm, nw => P fl lm nw
section
variable {c : Cx} {F : FD} {X : Prop} {lm : Lm} {nw nw' : Led} {pos xp apos : Pos} {e e1 : PySem.Expr} {es : List PySem.Expr} {x name : Str} {st : Stmt} {rest body orelse : List Stmt} {P P' : Flow → Lm → Led → Prop} {R R1 : Value → Led → Prop} {Rv : List Value → Led → Prop} {k : Value → Lm} {b : Bool} {f ov : Value}
theorem JXC.ofX {α : Type} {t : Sem α} {R : α → Led → Prop} (h : JX c F lm nw t R) : JXC c F X lm nw t R := fun s m Q _ _ ok hn Fm hm N hQ _ => .ofAny (wpAny_mono (h s m Q ok hn Fm hm N hQ) (fun _ _ q => q) fun _ _ x => x.elim)
theorem JXC.sub {α : Type} {t : Sem α} {R : α → Led → Prop} (h : JXC c F X lm nw' t R) (hs : ∀ p ∈ nw', p ∈ nw) : JXC c F X lm nw t R := fun s m Q E hg ok hn Fm hm N hQ hX => h s m Q E hg ok hn Fm hm (fun p hp => N p (hs p hp)) hQ hX
theorem JXC.mono {α : Type} {t : Sem α} {R R' : α → Led → Prop} (h : JXC c F X lm nw t R) (z : ∀ v n, R v n → R' v n) : JXC c F X lm nw t R' := fun s m Q E hg ok hn Fm hm N hQ hX => h s m Q E hg ok hn Fm hm N (fun v h' tk' n r => hQ v h' tk' n (z v n r)) hX
theorem jargsC0 (h : Rv [] nw) : JXC c F X lm nw (spliced (backTo pos (starEach [] (F.env c.L)))) Rv := fun s _ _ _ _ _ _ Fm _ N hQ _ => argsC_nil (hQ [] s.heap s.toks nw h Fm N)
theorem jargsC_cons (h : JXC c F X lm nw (eval e (F.env c.L)) R1) (h2 : ∀ v n, R1 v n → JXC c F X lm n (spliced (backTo pos (starEach es (F.env c.L)))) (fun vs n' => Rv (v :: vs) n')) (hs : simpE e = true := by rfl) : JXC c F X lm nw (spliced (backTo pos (starEach (e :: es) (F.env c.L)))) Rv := fun s m _ E hg ok hn Fm hm N hQ hX =>
  argsC_cons (h s m _ E hg ok hn Fm hm N (fun v h' tk' n r F' N' => h2 v n r { s with heap := h', toks := tk' } m _ E hg ok hn F' hm N' (fun vs h₂ tk₂ n₂ r₂ F₂ N₂ => hQ _ h₂ tk₂ n₂ r₂ F₂ N₂) hX) hX) (star_simp hs _ _)
theorem jxc_callWith {first : List Value} (hk : Kept c.w f) (hs : (e :: es).all simpE = true) (ha : JXC c F X lm nw (spliced (backTo pos (starEach (e :: es) (F.env c.L)))) Rv) (hc : ∀ vs n, Rv vs n → JXC c F X lm n (call f (first ++ vs)) R) :
    JXC c F X lm nw (callWith pos f first (backTo pos (starEach (e :: es) (F.env c.L))) []) R := fun s m Q E hg ok hn Fm hm N hQ hX => by
  have hs' := hs
  rw [List.all_cons, Bool.and_eq_true] at hs'
  exact callWithC (P := (hd.heap_39 c.w.params).In) (star_all hs) hk (argsC (ha s m _ E hg ok hn Fm hm N (fun vs h' tk' n r F' N' => ⟨ok.X.keeps F'.keep, hc vs n r { s with heap := h', toks := tk' } m Q E hg ok hn F' hm N' (fun v h₂ tk₂ n₂ r₂ F₂ N₂ => hQ v h₂ tk₂ n₂ r₂ F₂ N₂) hX⟩) hX) (star_simp hs'.1 _ _))
theorem jxc_callWith0 {first : List Value} (hk : Kept c.w f) (hc : JXC c F X lm nw (call f (first ++ [])) R) : JXC c F X lm nw (callWith pos f first (backTo pos (starEach [] (F.env c.L))) []) R := fun s m Q E hg ok hn Fm hm N hQ hX =>
  callWithC (P := (hd.heap_39 c.w.params).In) rfl hk (evalArgsC_nil ⟨ok.X.keeps Fm.keep, hc s m Q E hg ok hn Fm hm N hQ hX⟩)
/-- a name that is called -/
theorem jxc_name (hf : JV c F lm nw (.Name x xp) f) (hk : Kept c.w f) (hs : (e :: es).all simpE = true) (ha : JXC c F X lm nw (spliced (backTo pos (starEach (e :: es) (F.env c.L)))) Rv) (hc : ∀ vs n, Rv vs n → JXC c F X lm n (call f vs) R) : JXC c F X lm nw (eval (.Call (.Name x xp) (e :: es) [] pos) (F.env c.L)) R := fun s m Q E hg ok hn Fm hm N hQ hX =>
  CallC (wpAny_mono (hf s m _ ok hn Fm hm N fun v h' tk' n ⟨e0, _, e'⟩ F' N' => by
    subst e'
    exact jxc_callWith (first := []) hk hs ha hc { s with heap := h', toks := tk' } m Q E hg ok hn F' hm (e0 ▸ N') (fun v h₂ tk₂ n₂ r₂ F₂ N₂ => hQ v h₂ tk₂ n₂ r₂ F₂ N₂) hX) (fun _ _ q => q) fun _ _ x => x.elim) (eval_CallName _ _ _ _ _)
theorem jxc_name0 (hf : JV c F lm nw (.Name x xp) f) (hk : Kept c.w f) (hc : JXC c F X lm nw (call f []) R) : JXC c F X lm nw (eval (.Call (.Name x xp) [] [] pos) (F.env c.L)) R := fun s m Q E hg ok hn Fm hm N hQ hX =>
  CallC (wpAny_mono (hf s m _ ok hn Fm hm N fun v h' tk' n ⟨e0, _, e'⟩ F' N' => by
    subst e'
    exact jxc_callWith0 (first := []) hk hc { s with heap := h', toks := tk' } m Q E hg ok hn F' hm (e0 ▸ N') (fun v h₂ tk₂ n₂ r₂ F₂ N₂ => hQ v h₂ tk₂ n₂ r₂ F₂ N₂) hX) (fun _ _ q => q) fun _ _ x => x.elim) (eval_CallName _ _ _ _ _)
/-- a closure of the ledger's, called by a name of its -/
theorem jxc_nameF {H : Addr} (hf : JV c F lm nw (.Name x xp) (.ref H)) (hs : (e :: es).all simpE = true) (ha : JXC c F X lm nw (spliced (backTo pos (starEach (e :: es) (F.env c.L)))) Rv) (hF : ∀ vs n, Rv vs n → HasFn H n) (hc : ∀ vs n, Rv vs n → JXC c F X lm n (call (.ref H) vs) R) : JXC c F X lm nw (eval (.Call (.Name x xp) (e :: es) [] pos) (F.env c.L)) R := fun s m Q E hg ok hn Fm hm N hQ hX =>
  CallC (wpAny_mono (hf s m _ ok hn Fm hm N fun v h' tk' n ⟨e0, _, e'⟩ F' N' => by
    subst e'
    have hs' := hs
    rw [List.all_cons, Bool.and_eq_true] at hs'
    exact callWithC (P := FnAt H) (first := []) (star_all hs) keeps_F (argsC (ha { s with heap := h', toks := tk' } m _ E hg ok hn F' hm (e0 ▸ N') (fun vs h₂ tk₂ n₂ r₂ F₂ N₂ => ⟨(hF vs n₂ r₂).at N₂ fun _ hp => hp, hc vs n₂ r₂ { s with heap := h₂, toks := tk₂ } m Q E hg ok hn F₂ hm N₂ (fun v h₃ tk₃ n₃ r₃ F₃ N₃ => hQ v h₃ tk₃ n₃ r₃ F₃ N₃) hX⟩) hX) (star_simp hs'.1 _ _))) (fun _ _ q => q) fun _ _ x => x.elim) (eval_CallName _ _ _ _ _)
/-- a method that is called -/
theorem jxc_meth1 (ho : JV c F lm nw (.Name x xp) ov) (hm : HasM c F lm nw ov name f) (hk : Kept c.w f) (h1 : JXC c F X lm nw (eval e1 (F.env c.L)) R1) (hc : ∀ v n, R1 v n → JXC c F X lm n (call f [ov, v]) R)
    (hl : (apos.endLine == pos.line) = true := by rfl) (hs : simpE e1 = true := by rfl) : JXC c F X lm nw (eval (.Call (.Attribute (.Name x xp) name apos) [e1] [] pos) (F.env c.L)) R := fun s m Q E hg ok hn Fm hm' N hQ hX =>
  MethodCallC (wpAny_mono (ho s m _ ok hn Fm hm' N fun v h' tk' n ⟨e0, _, e'⟩ F' N' => by
    subst e'
    exact wpAny_mono (hm _ { s with heap := h', toks := tk' } m _ ok hn F' hm' (e0 ▸ N') fun r h₂ tk₂ n₂ ⟨e2, e2'⟩ F₂ N₂ => by
      subst e2'
      exact jxc_callWith (first := [v]) (Rv := fun vs n => ∃ v', vs = [v'] ∧ R1 v' n) hk (by simp [hs]) (jargsC_cons h1 (fun v n r => jargsC0 ⟨v, rfl, r⟩) hs) (fun vs n ⟨v', e, r⟩ => by subst e; exact hc v' n r) { s with heap := h₂, toks := tk₂ } m Q E hg ok hn F₂ hm' (e2 ▸ N₂) (fun v h₃ tk₃ n₃ r₃ F₃ N₃ => hQ v h₃ tk₃ n₃ r₃ F₃ N₃) hX) (fun _ _ q => q) fun _ _ x => x.elim) (fun _ _ q => q) fun _ _ x => x.elim)
    (eval_Method rfl hl (by simp [hs]) (by simp) _)
/-- a contract over clean stacks, used -/
theorem jxc_conC {vs : List Value} {own rest : Led} {k u : Nat} {S : Value → Led → Prop} {X' : Prop} (C : ConC c.w c.mean c.mg c.mb f vs own k u S X') (hX' : X' → X) (hk : k ≤ c.K) (hu : u ≤ c.U) (hown : ∀ p ∈ own, p ∈ nw) (hrest : ∀ p ∈ rest, p ∈ nw) (hne : ∀ p ∈ rest, p.1 ∉ own.map (·.1)) :
    JXC c F X lm nw (call f vs) (fun v n => ∃ own', S v own' ∧ n = own' ++ rest ∧ ∀ p ∈ own', ∀ q ∈ rest, q.1 ≠ p.1) := fun s m Q E hg ok hn Fm hm N hQ hX => by
  have hA : c.A F = cA (c.dp + 1) (c.un + 3) (some []) (F.env c.L :: c.outer) := by show cA _ _ c.gd _ = _; rw [hg]
  have B := ok.B
  rw [hg] at B
  rw [hA]
  exact conC_use (dp := c.dp + 1) (un := c.un + 3) C B Fm ok.X N ok.T rfl ok.fok.kind hown hrest hne (by have := ok.room; lia) (by have := ok.units; lia) (fun v own' h₃ tk₃ hv F₃ N₃ ap => hQ v h₃ tk₃ _ ⟨own', hv, rfl, ap⟩ F₃ N₃) fun x => hX (hX' x)
theorem cA_guards (F : FD) (hg : c.gd = some []) : (c.A F).guards = some [] := hg
variable {a : Addr} {y z : List UInt8} {i : Int}
theorem jxc_ba_new : JXC c F X lm nw (call (.type "bytearray") []) (fun v n => ∃ a, v = .ref a ∧ n = (a, baL []) :: nw ∧ ∀ p ∈ nw, p.1 ≠ a) := fun s m Q E hg ok hn Fm hm N hQ hX =>
  baNewK (cA_guards F hg) Fm N fun a h' F' N' ap _ => hQ _ h' s.toks _ ⟨a, rfl, rfl, ap⟩ F' N'
theorem jxc_ba_append {t : Tok} (hne : ∀ p ∈ nw, p.1 ≠ a) (h0 : 0 ≤ i) (h1 : i < 256) (hz : y.length ≤ 40000) : JXC c F X lm ((a, baL y) :: nw) (call (.builtin "bytearray.append") [.ref a, .int i t]) (fun v n => v = .none ∧ n = (a, baL (y ++ [i.toNat.toUInt8])) :: nw) := fun s m Q E hg ok hn Fm hm N hQ hX =>
  baAppendK (cA_guards F hg) Fm N hne h0 h1 (by rw [sizeLine_eq]; lia) fun h' F' N' => hQ _ h' s.toks _ ⟨rfl, rfl⟩ F' N'
theorem jxc_ba_extend {t : Tok} (hne : ∀ p ∈ nw, p.1 ≠ a) (hz : y.length + z.length ≤ 40000) : JXC c F X lm ((a, baL y) :: nw) (call (.builtin "bytearray.extend") [.ref a, .bytes z.toArray t]) (fun v n => v = .none ∧ n = (a, baL (y ++ z)) :: nw) := fun s m Q E hg ok hn Fm hm N hQ hX =>
  baExtendK (cA_guards F hg) Fm N hne (by rw [sizeLine_eq]; lia) fun h' F' N' => hQ _ h' s.toks _ ⟨rfl, rfl⟩ F' N'
theorem hm_ba_append (hm : (a, baL y) ∈ nw) : HasM c F lm nw (.ref a) "append" (.builtin "bytearray.append") := fun _ s m Q ok hn Fm _ N hQ => ba_method (N _ hm).1 ba_slot_append ba_type_append (hQ _ s.heap s.toks nw ⟨rfl, rfl⟩ Fm N)
theorem hm_ba_extend (hm : (a, baL y) ∈ nw) : HasM c F lm nw (.ref a) "extend" (.builtin "bytearray.extend") := fun _ s m Q ok hn Fm _ N hQ => ba_method (N _ hm).1 ba_slot_extend ba_type_extend (hQ _ s.heap s.toks nw ⟨rfl, rfl⟩ Fm N)
theorem jb_ba (hf : JV c F lm nw (.Name x xp) (.type "bytes")) (h : JV c F lm nw e1 (.ref a)) (hm : (a, baL y) ∈ nw) (hz : y.length ≤ 50000) (hs : simpE e1 = true := by rfl) : JB c F lm nw (.Call (.Name x xp) [e1] [] pos) y :=
  jx_name1 hf kept_type h (fun _ s m Q ok hn Fm _ N hQ => call_bytes_ba (N _ hm).1 (by rw [List.size_toArray, sizeLine_eq]; lia) fun t k => hQ _ s.heap k nw ⟨rfl, t, rfl⟩ Fm N) hs
/-! statements -/
theorem JR.sub (h : JR c F X lm nw' rest P) (hs : ∀ p ∈ nw', p ∈ nw) : JR c F X lm nw rest P := fun s m Q E hg ok hn Fm hm N hQ hX hE => h s m Q E hg ok hn Fm hm (fun p hp => N p (hs p hp)) hQ hX hE
theorem JR.mono (h : JR c F X lm nw rest P) (z : ∀ fl l n, P fl l n → P' fl l n) : JR c F X lm nw rest P' := fun s m Q E hg ok hn Fm hm N hQ hX hE => h s m Q E hg ok hn Fm hm N (fun fl h' tk' m' lm' nw' r => hQ fl h' tk' m' lm' nw' (z _ _ _ r)) hX hE
theorem jr_nil (h : P .next lm nw) : JR c F X lm nw [] P := fun s m Q E _ ok hn Fm hm N hQ _ _ => execsC_nil (hQ .next s.heap s.toks m lm nw h hn Fm hm N)
theorem jr_cons (h : ∀ (s : Shared) (m : Str → Option Value) (Q : Flow → Shared → Prop) (E : Value → Shared → Prop), c.gd = some [] → COk c F → lm.map (·.1) = F.names → Fr c.g c.L s.heap m → (∀ x v, (x, some v) ∈ lm → m x = some v) → News c.g c.L s.heap nw →
    (∀ fl h' tk' m' lm' nw', ThenR c F X rest P fl lm' nw' → lm'.map (·.1) = F.names → Fr c.g c.L h' m' → (∀ x v, (x, some v) ∈ lm' → m' x = some v) → News c.g c.L h' nw' → Q fl { s with heap := h', toks := tk' }) →
    (X → ∀ e h' tk', Flies c.base (F.env c.L :: c.outer) e h' → c.g.UpToSlots h' → E e { s with heap := h', toks := tk' }) → PassesOwn (model PR c.w) (c.A F) (F.env c.L) E → wpC (model PR c.w) (c.A F) (exec st (F.env c.L)) Q E s) : JR c F X lm nw (st :: rest) P := fun s m Q E hg ok hn Fm hm N hQ hX hE =>
  execsC_cons (h s m _ E hg ok hn Fm hm N (fun fl h' tk' m' lm' nw' r hn' F' hm' N' => by
    cases fl with
    | next => exact r { s with heap := h', toks := tk' } m' Q E hg ok hn' F' hm' N' (fun fl h₂ tk₂ m₂ l₂ n₂ r₂ => hQ fl h₂ tk₂ m₂ l₂ n₂ r₂) hX hE
    | brk => exact hQ _ h' tk' m' lm' nw' r hn' F' hm' N'
    | cont => exact hQ _ h' tk' m' lm' nw' r hn' F' hm' N'
    | ret v => exact hQ _ h' tk' m' lm' nw' r hn' F' hm' N') hX hE)
theorem jr_js (h : JS c F lm nw [st] (ThenR c F X rest P)) : JR c F X lm nw (st :: rest) P := fun s m Q E hg ok hn Fm hm N hQ hX hE => by
  have e : execs (st :: rest) (F.env c.L) = (execs [st] (F.env c.L) >>= fun fl => match fl with | .next => execs rest (F.env c.L) | f => pure f) := by
    rw [execs_cons, execs_cons, bind_assoc]
    congr 1
    funext fl
    cases fl <;> rfl
  rw [e]
  refine wpC_anyBind (wpAny_mono (h s m (fun fl s' => wpC (model PR c.w) (c.A F) (match fl with | .next => execs rest (F.env c.L) | f => pure f) Q E s') ok hn Fm hm N fun fl h' tk' m' lm' nw' r hn' F' hm' N' => ?_) (fun _ _ q => q) fun _ _ x => x.elim)
  cases fl with
  | next => exact r { s with heap := h', toks := tk' } m' Q E hg ok hn' F' hm' N' (fun fl h₂ tk₂ m₂ l₂ n₂ r₂ => hQ fl h₂ tk₂ m₂ l₂ n₂ r₂) hX hE
  | brk => exact wpC_pure (hQ _ h' tk' m' lm' nw' r hn' F' hm' N')
  | cont => exact wpC_pure (hQ _ h' tk' m' lm' nw' r hn' F' hm' N')
  | ret v => exact wpC_pure (hQ _ h' tk' m' lm' nw' r hn' F' hm' N')
theorem jr_of (h : JS c F lm nw [st] P) : JR c F X lm nw [st] P := jr_js (JG.mono h fun fl _ _ r => by cases fl <;> first | exact jr_nil r | exact r)
theorem jr_next (h : JR c F X lm nw rest P) : JS c F lm nw [] (ThenR c F X rest P) := js_nil h
theorem jr_expr (h : JXC c F X lm nw (eval e (F.env c.L)) R) (hr : ∀ v n, R v n → v = .none ∧ JR c F X lm n rest P) (hs : simpE e = true := by rfl) : JR c F X lm nw (.Expr e pos :: rest) P :=
  jr_cons fun s m Q E hg ok hn Fm hm N hQ hX _ => ExprC (h s m _ E hg ok hn Fm hm N (fun v h' tk' n r F' N' => by
    obtain ⟨h1, h2⟩ := hr v n r
    subst h1
    exact hQ .next h' tk' m lm n h2 hn F' hm N') hX) (by show (F.scope.kind == .module && _) = false; rw [ok.fok.kind]; rfl) (swaps_simp hs _ _ _)
theorem jr_asg (h : JXC c F X lm nw (eval e (F.env c.L)) R) (hk : SetK x lm k) (hr : ∀ v n, R v n → JR c F X (k v) n rest P) (hs : simpE e = true := by rfl) : JR c F X lm nw (.Assign [.Name x xp] e pos :: rest) P :=
  jr_cons fun s m Q E hg ok hn Fm hm N hQ hX _ => AssignC (h s m _ E hg ok hn Fm hm N (fun v h' tk' n r F' N' => wpAny_mono (store_loc (s := { s with heap := h', toks := tk' }) (Q := fun _ => Q .next) hk ok hn F' hm N' fun h₂ tk₂ m₂ hn₂ F₂ hm₂ N₂ => hQ .next h₂ tk₂ m₂ _ n (hr v n r) hn₂ F₂ hm₂ N₂) (fun _ _ q => q) fun _ _ x => x.elim) hX) (swaps_simp hs _ _ _)
theorem jr_ret (h : JXC c F X lm nw (eval e (F.env c.L)) R) (hp : ∀ v n, R v n → P (.ret v) lm n) : JR c F X lm nw (.Return (some e) pos :: rest) P :=
  jr_cons fun s m Q E hg ok hn Fm hm N hQ hX _ => ReturnC (h s m _ E hg ok hn Fm hm N (fun v h' tk' n r F' N' => hQ (.ret v) h' tk' m lm n (hp v n r) hn F' hm N') hX)
/-- a return that drops some of the ledger -/
theorem jr_retS (h : JXC c F X lm nw (eval e (F.env c.L)) (fun v n => ∃ n', (∀ p ∈ n', p ∈ n) ∧ P (.ret v) lm n')) : JR c F X lm nw (.Return (some e) pos :: rest) P :=
  jr_cons fun s m Q E hg ok hn Fm hm N hQ hX _ => ReturnC (h s m _ E hg ok hn Fm hm N (fun v h' tk' n ⟨n', r1, r2⟩ F' N' => hQ (.ret v) h' tk' m lm n' r2 hn F' hm fun p hp => N' p (r1 p hp)) hX)
theorem jr_if (h : JT c F lm nw e b) (h1 : b = true → JR c F X lm nw body (ThenR c F X rest P)) (h2 : b = false → JR c F X lm nw orelse (ThenR c F X rest P)) : JR c F X lm nw (.If e body orelse pos :: rest) P :=
  jr_cons fun s m Q E hg ok hn Fm hm N hQ hX hE => IfC (wpAny_mono (h s m _ ok hn Fm hm N fun v h' tk' n ⟨e, _, e'⟩ F' N' => by
    subst e e'
    cases v with
    | true => exact h1 rfl { s with heap := h', toks := tk' } m Q E hg ok hn F' hm N' (fun fl h₂ tk₂ m₂ l₂ n₂ r₂ => hQ fl h₂ tk₂ m₂ l₂ n₂ r₂) hX hE
    | false => exact h2 rfl { s with heap := h', toks := tk' } m Q E hg ok hn F' hm N' (fun fl h₂ tk₂ m₂ l₂ n₂ r₂ => hQ fl h₂ tk₂ m₂ l₂ n₂ r₂) hX hE) (fun _ _ q => q) fun _ _ x => x.elim)
theorem ThenR.last {fl : Flow} (h : P fl lm nw) : ThenR c F X [] P fl lm nw := by cases fl <;> first | exact jr_nil h | exact h
theorem jr_ifL (h : JT c F lm nw e b) (h1 : b = true → JR c F X lm nw body P) (h2 : b = false → JR c F X lm nw orelse P) : JR c F X lm nw [.If e body orelse pos] P :=
  jr_if h (fun z => JR.mono (h1 z) fun _ _ _ => ThenR.last) fun z => JR.mono (h2 z) fun _ _ _ => ThenR.last
theorem jr_when (h : JT c F lm nw e b) (h1 : b = true → JR c F X lm nw body (ThenR c F X rest P)) (h2 : b = false → JR c F X lm nw rest P) : JR c F X lm nw (.If e body [] pos :: rest) P := jr_if h h1 fun z => jr_nil (h2 z)
/-- `x.append(e)`, `x.extend(e)` of a bytearray -/
theorem jr_append {p2 : Pos} (hx : (x, some (.ref a)) ∈ lm) (h : JI c F lm ((a, baL y) :: nw) e1 i) (hne : ∀ p ∈ nw, p.1 ≠ a) (h0 : 0 ≤ i) (h1 : i < 256) (hz : y.length ≤ 40000) (hr : JR c F X lm ((a, baL (y ++ [i.toNat.toUInt8])) :: nw) rest P)
    (hl : (apos.endLine == p2.line) = true := by rfl) (hs : simpE e1 = true := by rfl) : JR c F X lm ((a, baL y) :: nw) (.Expr (.Call (.Attribute (.Name x xp) "append" apos) [e1] [] p2) pos :: rest) P :=
  jr_expr (R := fun v n => v = .none ∧ n = (a, baL (y ++ [i.toNat.toUInt8])) :: nw) (jxc_meth1 (R1 := fun v n => n = (a, baL y) :: nw ∧ ∃ t, v = .int i t) (ja_loc hx) (hm_ba_append (.head _)) kept_builtin (.ofX h) (fun v n ⟨e, t, e'⟩ => by subst e e'; exact jxc_ba_append hne h0 h1 hz) hl hs) (fun v n ⟨e, e'⟩ => by subst e'; exact ⟨e, hr⟩) rfl
theorem jr_extend {p2 : Pos} {S : List UInt8 → Led → Prop} (hx : (x, some (.ref a)) ∈ lm) (h : JXC c F X lm ((a, baL y) :: nw) (eval e1 (F.env c.L)) (fun v n => E3 fun z t n' => A3 (v = .bytes z.toArray t) (∀ p ∈ (a, baL y) :: n', p ∈ n) (S z n'))) (hr : ∀ z n', S z n' → A3 (∀ p ∈ n', p.1 ≠ a) (y.length + z.length ≤ 40000) (JR c F X lm ((a, baL (y ++ z)) :: n') rest P))
    (hl : (apos.endLine == p2.line) = true := by rfl) (hs : simpE e1 = true := by rfl) : JR c F X lm ((a, baL y) :: nw) (.Expr (.Call (.Attribute (.Name x xp) "extend" apos) [e1] [] p2) pos :: rest) P :=
  jr_expr (R := fun v n => v = .none ∧ E2 fun z n' => n = (a, baL (y ++ z)) :: n' ∧ S z n') (jxc_meth1 (ja_loc hx) (hm_ba_extend (.head _)) kept_builtin h (fun v n ⟨z, t, n', e, hs, r⟩ => by
    subst e
    obtain ⟨h1, h2, h3⟩ := hr z n' r
    exact JXC.sub (JXC.mono (jxc_ba_extend h1 h2) fun v n e => ⟨e.1, z, n', e.2, r⟩) hs) hl hs) (fun v n ⟨e, z, n', e', r⟩ => by
    subst e'
    obtain ⟨h1, h2, h3⟩ := hr z n' r
    exact ⟨e, h3⟩) rfl
/-- a while loop -/
inductive WhR (c : Cx) (F : FD) (X : Prop) (lm : Lm) (nw : Led) (e : PySem.Expr) (body : List Stmt) (T : Flow → Lm → Led → Prop) (rest : List Stmt) (P : Flow → Lm → Led → Prop) : Prop
  | mk (b : Bool) (t : JT c F lm nw e b) (h1 : b = true → JR c F X lm nw body T) (h2 : b = false → JR c F X lm nw rest P) : WhR c F X lm nw e body T rest P
noncomputable def TurnR (c : Cx) (F : FD) (X : Prop) (rest : List Stmt) (P : Flow → Lm → Led → Prop) (I : Nat → Lm → Led → Prop) (n : Nat) : Flow → Lm → Led → Prop
  | .next, lm, nw => ∃ j, j < n ∧ I j lm nw
  | .cont, lm, nw => ∃ j, j < n ∧ I j lm nw
  | .brk, lm, nw => JR c F X lm nw rest P
  | .ret v, lm, nw => P (.ret v) lm nw
theorem jr_while (I : Nat → Lm → Led → Prop) (n₀ : Nat) (h0 : I n₀ lm nw)
    (ht : ∀ n (T : Flow → Lm → Led → Prop), (∀ j l m, j < n → I j l m → T .next l m) → (∀ l m, JR c F X l m rest P → T .brk l m) → (∀ v l m, P (.ret v) l m → T (.ret v) l m) → ∀ lm nw, I n lm nw → WhR c F X lm nw e body T rest P) : JR c F X lm nw (.While e body [] pos :: rest) P :=
  jr_cons fun s m Q E hg ok hn Fm hm N hQ hX hE => WhileC (fun n m nw => ∃ lm, lm.map (·.1) = F.names ∧ (∀ x v, (x, some v) ∈ lm → m x = some v) ∧ I n lm nw) Fm N ⟨lm, hn, hm, h0⟩ (fun n m₁ nw₁ h₁ tk₁ F₁ N₁ ⟨lm₁, hn₁, hm₁, I₁⟩ => by
    obtain ⟨b, t1, t2, t3⟩ := ht n (TurnR c F X rest P I n) (fun j _ _ hj r => ⟨j, hj, r⟩) (fun _ _ r => r) (fun _ _ _ r => r) lm₁ nw₁ I₁
    refine wpAny_mono (t1 { s with heap := h₁, toks := tk₁ } m₁ _ ok hn₁ F₁ hm₁ N₁ fun v h' tk' n' ⟨e, _, e'⟩ F' N' => ?_) (fun _ _ q => q) fun _ _ x => x.elim
    subst e e'
    cases v with
    | false => exact (hQ .next h' tk' m₁ lm₁ n' (t3 rfl) hn₁ F' hm₁ N')
    | true =>
      refine t2 rfl { s with heap := h', toks := tk' } m₁ _ E hg ok hn₁ F' hm₁ N' (fun fl h₂ tk₂ m₂ l₂ n₂ r₂ hn₂ F₂ hm₂ N₂ => ?_) hX hE
      cases fl with
      | next => obtain ⟨j, hj, r⟩ := r₂; exact ⟨h₂, tk₂, m₂, n₂, j, rfl, F₂, N₂, hj, l₂, hn₂, hm₂, r⟩
      | cont => obtain ⟨j, hj, r⟩ := r₂; exact ⟨h₂, tk₂, m₂, n₂, j, rfl, F₂, N₂, hj, l₂, hn₂, hm₂, r⟩
      | brk => exact hQ .next h₂ tk₂ m₂ l₂ n₂ r₂ hn₂ F₂ hm₂ N₂
      | ret v => exact hQ (.ret v) h₂ tk₂ m₂ l₂ n₂ r₂ hn₂ F₂ hm₂ N₂) hE
/-- `x, y, z = (bytearray(), e2, e3)` and `x, y = (bytearray(), e2)` -/
theorem jr_ba3 {y z : Str} {kf : Value → Lm} {kf' : Value → Value → Lm} {kf'' : Value → Value → Value → Lm} {e2 e3 : PySem.Expr} {g2 g3 : Tok → Value} {k1 k2 : Nat} {tp vp yp zp bp cp : Pos} {bn : Str} (hb : (bn, .type "bytearray") ∈ F.bl) (h2 : ∀ n, JA c F lm n e2 g2) (h3 : ∀ n, JA c F lm n e3 g3) (hz : SetK z lm kf) (hy : ∀ v, SetK y (kf v) (kf' v)) (hx : ∀ v w, SetK x (kf' v w) (kf'' v w)) (hr : ∀ a t u, (∀ p ∈ nw, p.1 ≠ a) → JR c F X (kf'' (g3 u) (g2 t) (.ref a)) ((a, baL []) :: nw) rest P)
    (hw : swappedStores [.Tuple [.Name x xp, .Name y yp, .Name z zp] k1 tp] (.Tuple [.Call (.Name bn bp) [] [] cp, e2, e3] k2 vp) (F.env c.L) = pure (some [x, y, z]) := by rfl) (hs2 : simpE e2 = true := by rfl) (hs3 : simpE e3 = true := by rfl) :
    JR c F X lm nw (.Assign [.Tuple [.Name x xp, .Name y yp, .Name z zp] k1 tp] (.Tuple [.Call (.Name bn bp) [] [] cp, e2, e3] k2 vp) pos :: rest) P :=
  jr_cons fun s m Q E hg ok hn Fm hm N hQ hX _ => AssignSwappedC (names := [x, y, z]) (TupleC (jargsC_cons (Rv := fun vs n' => E3 fun a t u => A3 (vs = [.ref a, g2 t, g3 u]) (n' = (a, baL []) :: nw) (∀ p ∈ nw, p.1 ≠ a)) (jxc_name0 (ja_blt hb) kept_type jxc_ba_new) (fun v n ⟨a, e1, e2, ap⟩ => jargsC_cons (R1 := fun v' n' => n' = n ∧ ∃ t, v' = g2 t) (.ofX (h2 n)) (fun v' n' ⟨e3, t, e4⟩ => jargsC_cons (R1 := fun v'' n'' => n'' = n ∧ ∃ t, v'' = g3 t) (.ofX (e3 ▸ h3 n)) (fun v'' n'' ⟨e5, u, e6⟩ => jargsC0 ⟨a, t, u, by rw [e1, e4, e6], by rw [e5, e2], ap⟩) hs3) hs2) rfl s m _ E hg ok hn Fm hm N (fun vs h' tk' n ⟨a, t, u, ev, en, ap⟩ F' N' => by
    subst ev en
    refine newTuple_N (s := { s with heap := h', toks := tk' }) F' N' (fun h₃ F₃ N₃ => ?_) (by rw [sizeLine_eq]; simp)
    refine wpAny_mono (unpackItemsN_ (s := { s with heap := h₃, toks := tk' }) (items := #[.ref a, g2 t, g3 u]) F₃ N₃ (News.isTup N₃ (.head _)) rfl rfl fun h₄ F₄ N₄ => ?_) (fun _ _ q => q) fun _ _ x => x
    refine wpAny_mono (assignInOrder_cons (bindName_ (store_loc (s := { s with heap := h₄, toks := tk' }) hz ok hn F₄ hm (fun p hp => N₄ p (.tail _ hp)) fun h₁ tk₁ m₁ hn₁ F₁ hm₁ N₁ => assignInOrder_cons (bindName_ (store_loc (s := { s with heap := h₁, toks := tk₁ }) (hy _) ok hn₁ F₁ hm₁ N₁ fun h₃ tk₃ m₃ hn₃ F₃ hm₃ N₃ =>
      assignInOrder_cons (bindName_ (store_loc (s := { s with heap := h₃, toks := tk₃ }) (hx _ _) ok hn₃ F₃ hm₃ N₃ fun h₄ tk₄ m₄ hn₄ F₄ hm₄ N₄ => assignInOrder_nil (hQ .next h₄ tk₄ m₄ _ _ (hr a t u ap) hn₄ F₄ hm₄ N₄)))))))) (fun _ _ q => q) fun _ _ x => x.elim) hX)) rfl hw
/-- a while loop whose ways out meet -/
inductive WhZ (c : Cx) (F : FD) (X : Prop) (lm : Lm) (nw : Led) (e : PySem.Expr) (body : List Stmt) (T : Flow → Lm → Led → Prop) (Z : Lm → Led → Prop) : Prop
  | mk (b : Bool) (t : JT c F lm nw e b) (h1 : b = true → JR c F X lm nw body T) (h2 : b = false → Z lm nw) : WhZ c F X lm nw e body T Z
theorem jr_whileZ (I : Nat → Lm → Led → Prop) (Z : Lm → Led → Prop) (n₀ : Nat) (h0 : I n₀ lm nw) (hz : ∀ l m, Z l m → JR c F X l m rest P)
    (ht : ∀ n (T : Flow → Lm → Led → Prop), (∀ j l m, j < n → I j l m → T .next l m) → (∀ l m, Z l m → T .brk l m) → ∀ lm nw, I n lm nw → WhZ c F X lm nw e body T Z) : JR c F X lm nw (.While e body [] pos :: rest) P :=
  jr_while I n₀ h0 fun n T h1 h2 h3 lm nw hI => by
    obtain ⟨b, t, k1, k2⟩ := ht n T h1 (fun l m r => h2 l m (hz l m r)) lm nw hI
    exact ⟨b, t, k1, fun e => hz _ _ (k2 e)⟩
theorem jr_ba2 {y : Str} {kf : Value → Lm} {kf' : Value → Value → Lm} {e2 : PySem.Expr} {g2 : Tok → Value} {k1 k2 : Nat} {tp vp yp bp cp : Pos} {bn : Str} (hb : (bn, .type "bytearray") ∈ F.bl) (h2 : ∀ n, JA c F lm n e2 g2) (hy : SetK y lm kf) (hx : ∀ v, SetK x (kf v) (kf' v)) (hr : ∀ a t, (∀ p ∈ nw, p.1 ≠ a) → JR c F X (kf' (g2 t) (.ref a)) ((a, baL []) :: nw) rest P)
    (hw : swappedStores [.Tuple [.Name x xp, .Name y yp] k1 tp] (.Tuple [.Call (.Name bn bp) [] [] cp, e2] k2 vp) (F.env c.L) = pure (some [x, y]) := by rfl) (hs2 : simpE e2 = true := by rfl) :
    JR c F X lm nw (.Assign [.Tuple [.Name x xp, .Name y yp] k1 tp] (.Tuple [.Call (.Name bn bp) [] [] cp, e2] k2 vp) pos :: rest) P :=
  jr_cons fun s m Q E hg ok hn Fm hm N hQ hX _ => AssignSwappedC (names := [x, y]) (TupleC (jargsC_cons (Rv := fun vs n' => ∃ a t, vs = [.ref a, g2 t] ∧ n' = (a, baL []) :: nw ∧ ∀ p ∈ nw, p.1 ≠ a) (jxc_name0 (ja_blt hb) kept_type jxc_ba_new) (fun v n ⟨a, e1, e2, ap⟩ => jargsC_cons (R1 := fun v' n' => n' = n ∧ ∃ t, v' = g2 t) (.ofX (h2 n)) (fun v' n' ⟨e3, t, e4⟩ => jargsC0 ⟨a, t, by rw [e1, e4], by rw [e3, e2], ap⟩) hs2) rfl s m _ E hg ok hn Fm hm N (fun vs h' tk' n ⟨a, t, ev, en, ap⟩ F' N' => by
    subst ev en
    refine newTuple_N (s := { s with heap := h', toks := tk' }) F' N' (fun h₃ F₃ N₃ => ?_) (by rw [sizeLine_eq]; simp)
    refine wpAny_mono (unpackItemsN_ (s := { s with heap := h₃, toks := tk' }) (items := #[.ref a, g2 t]) F₃ N₃ (News.isTup N₃ (.head _)) rfl rfl fun h₄ F₄ N₄ => ?_) (fun _ _ q => q) fun _ _ x => x
    exact wpAny_mono (store2 (s := { s with heap := h₄, toks := tk' }) (Q := fun _ => Q .next) hy hx ok hn F₄ hm (fun p hp => N₄ p (.tail _ hp)) fun h₅ tk₅ m₅ hn₅ F₅ hm₅ N₅ => hQ .next h₅ tk₅ m₅ _ _ (hr a t ap) hn₅ F₅ hm₅ N₅) (fun _ _ q => q) fun _ _ x => x.elim) hX)) rfl hw
end
/-- a contract over clean stacks from its body's judgement -/
theorem conC_jr {w : World} {mean : ExcName → Option Value} {mg mb : Str → Option Value} {f : Addr} {name qual : Str} {params : Arguments} {body : List Stmt} {scope : Scope} {dV kV doc pm cdv ct oc : Value} {an od : Option Addr} {osl : Array (Option Value)}
    {vs : List Value} {own : Led} {K U : Nat} {R : Value → Led → Prop} {X : Prop} (binds : List (Str × Value)) (more : List Str) (gl bl : List (Str × Value))
    (ho : (hd.heap_39 w.params).lookup f = some ⟨oc, od, .func (fnOf name qual params body scope dV kV doc pm an cdv ct), osl⟩)
    (hcd : codeIn (hd.heap_39 w.params) cdv qual = true)
    (hsc : fokB scope (binds.map (·.1) ++ more) (gl.map (·.1) ++ bl.map (·.1)) = true)
    (hgl : ∀ p ∈ gl, nsIn (hd.heap_39 w.params) mainGlobals p.1 = some (some p.2))
    (hbl : ∀ p ∈ bl, nsIn (hd.heap_39 w.params) mainGlobals p.1 = some none ∧ bootBuiltins p.1 = some p.2)
    (hbind : ∀ s : Shared, (hd.heap_39 w.params).In s.heap → BindsTo s (fnOf name qual params body scope dV kV doc pm an cdv ct) ⟨vs, []⟩ binds)
    (h : ∀ (c : Cx) (P : Flow → Lm → Led → Prop), c.w = w → c.mean = mean → c.mg = mg → c.mb = mb → (∀ n, n ≤ K → n ≤ c.K) → (∀ n, n ≤ U → n ≤ c.U) → (∀ v l n, R v n → P (.ret v) l n) → (∀ l n, R .none n → P .next l n) →
      JR c ⟨qual, scope, f, cdv, [], binds.map (·.1) ++ more, gl, bl⟩ X (binds.map (fun p => (p.1, some p.2)) ++ more.map fun x => (x, none)) own body P) :
    ConC w mean mg mb (.ref f) vs own (K + 1) (U + 3) R X := by
  simp only [fokB, Bool.and_eq_true, List.all_eq_true, decide_eq_true_eq, Bool.not_eq_true'] at hsc
  obtain ⟨⟨⟨⟨⟨⟨h1, h2⟩, h3⟩, h4⟩, h5⟩, h6⟩, h7⟩ := hsc
  have fok : FOk w ⟨qual, scope, f, cdv, [], binds.map (·.1) ++ more, gl, bl⟩ := ⟨h4, h3, h1, fun p hp => ⟨(h2 _ (List.mem_append_left _ (List.mem_map_of_mem hp))).1.1, (h2 _ (List.mem_append_left _ (List.mem_map_of_mem hp))).1.2, hgl p hp⟩,
    fun p hp => ⟨(h2 _ (List.mem_append_right _ (List.mem_map_of_mem hp))).1.1, (h2 _ (List.mem_append_right _ (List.mem_map_of_mem hp))).1.2, (h2 _ (List.mem_append_right _ (List.mem_map_of_mem hp))).2, hbl p hp⟩⟩
  refine conC_enter ho hcd hbind (fun y hy => (h1 _ (List.mem_append_left _ (List.mem_map_of_mem hy))).1) ?_ (Nat.succ_pos _) h5 h6 h4 h7
  intro dp un outer base g s L' h₁ Q E B Xh T F' N' hlt hdp hun hret hexc hPE
  refine wpC_mono (h ⟨w, mean, mg, mb, K, U, dp, un, some [], outer, base, g, L'⟩ (fun fl _ nw' => R (retOf fl) nw') rfl rfl rfl rfl (fun _ h => h) (fun _ h => h) (fun _ _ _ r => r) (fun _ _ r => r) { s with heap := h₁, toks := s.toks + binds.length } _ (fun fl s' => Q (retOf fl) s') E rfl ⟨fok, B, Xh, T, by dsimp only; lia, by dsimp only; lia⟩ (by simp [Function.comp_def]) F' (fun x v hx => ?_) N' (fun fl h' tk' m' lm' nw' r _ F₂ _ N₂ => hret _ nw' h' tk' m' F₂ N₂ r) hexc hPE) (fun fl s' q => ?_) fun _ _ x => x
  · rcases List.mem_append.mp hx with hx | hx
    · obtain ⟨p, hp, e⟩ := List.mem_map.mp hx
      obtain ⟨rfl, e2⟩ := Prod.mk.inj e
      refine lookup_nodup ?_ (List.mem_reverse.mpr ?_)
      · rw [List.map_reverse]; exact List.pairwise_reverse.mpr ((List.nodup_append.mp h3).1.imp fun h => h.symm)
      · rw [← Option.some.inj e2]; exact hp
    · obtain ⟨_, _, e⟩ := List.mem_map.mp hx
      exact nomatch (Prod.mk.inj e).2
  cases fl <;> exact q
noncomputable def expandM (hv : Int → Option (List UInt8)) (news : List UInt8) : Nat → Int → List UInt8 → Option (List UInt8)
  | 0, _, found => some found
  | n + 1, at_, found =>
    if at_ < (news.length : Int) then
      if bi news at_ = 37 then
        if 48 ≤ patAt news (at_ + 1) ∧ patAt news (at_ + 1) ≤ 57 then
          match hv (patAt news (at_ + 1) - 48) with
          | none => none
          | some b => expandM hv news n (at_ + 1 + 1) (found ++ b)
        else expandM hv news n (at_ + 1 + 1) (found ++ [(patAt news (at_ + 1)).toNat.toUInt8])
      else expandM hv news n (at_ + 1) (found ++ [(bi news at_).toNat.toUInt8])
    else some found
theorem expand_end {hv : Int → Option (List UInt8)} {news : List UInt8} {n : Nat} {at_ : Int} {found : List UInt8} {r : Option (List UInt8)} (h : ¬ at_ < (news.length : Int)) (hr : expandM hv news n at_ found = r) : r = some found := by
  cases n with
  | zero => exact hr.symm
  | succ n => rw [expandM, if_neg h] at hr; exact hr.symm
section
variable {w : World} {mean : ExcName → Option Value} {mg mb : Str → Option Value}
theorem c_expanded {news : List UInt8} {t : Tok} {H : Addr} {own : List (Addr × Obj)} {hv : Int → Option (List UInt8)} {ck uk : Nat} (hz : news.length ≤ 16)
    (hH : ∀ k u, 0 ≤ k → k ≤ 9 → ConC w mean mg mb (.ref H) [.int k u] own ck uk (fun v own' => own' = own ∧ E2 fun b u => A3 (hv k = some b) (b.length ≤ 64) (v = .bytes b.toArray u)) (hv k = none))
    (hHm : E4 fun oc od fd sl => (H, (⟨oc, od, .func fd, sl⟩ : Obj)) ∈ own) :
    ConC w mean mg mb (.ref 35) [.bytes news.toArray t, .ref H] own (ck + 4) (uk + 60) (fun v own' => own' = own ∧ E2 fun r u => A3 (expandM hv news 20 0 [] = some r) (r.length ≤ 1100) (v = .bytes r.toArray u)) (expandM hv news 20 0 [] = none) := by
  have hF : HasFn H own := hHm
  refine conC_jr ([("news", .bytes news.toArray t), ("held", .ref H)]) (["found", "at", "octet"]) ([("ESCAPE_SIGN", .int 37 _), ("ZERO_SIGN", .int 48 _), ("NINE_SIGN", .int 57 _)]) ([("bytearray", .type "bytearray"), ("len", .builtin "len"), ("bytes", .type "bytes")]) (by k_dflt k_is) (by k_dflt k_is) (by kernel_rfl) (by end_is "j gl") (by end_is "j bl") (by exact fun _ _ => BindsTo.of_eq rfl) ?_
  intro cx Pq e1 e2 e3 e4 hK hU hP hN
  subst e1 e2 e3 e4
  dsimp only [List.map, List.cons_append, List.nil_append]
  generalize hfin : expandM hv news 20 0 [] = fin at hP ⊢
  refine jr_ba2 (by end_is "j in") (fun _ => ji_lit) (by end_is "j set") (fun _ => (by end_is "j set")) fun a t0 hne => ?_
  refine jr_while (fun n lm nw => E4 fun (at_ : Int) (u : Tok) (o : Option Value) (fnd : List UInt8) => A7 (lm = ([("news", some (.bytes news.toArray t)), ("held", some (.ref H)), ("found", some (.ref a)), ("at", some (.int at_ u)), ("octet", o)] : Lm)) (nw = (a, baL fnd) :: own) (0 ≤ at_) (at_ ≤ 17) ((news.length : Int) - at_ < n) ((fnd.length : Int) ≤ 64 * at_)
      (expandM hv news n at_ fnd = fin)) 20 ⟨0, t0, none, [], rfl, rfl, Int.le_refl _, by decide, by lia, Int.le_refl _, hfin⟩ ?_
  clear hfin
  rintro n T hT hTb hTr _ _ ⟨at_, u, o, fnd, rfl, rfl, h0, h17, hn, hfl, hr⟩
  refine ⟨_, ji_lt (by end_is "j") (ji_len (ja_blt (by end_is "j in")) (by end_is "j") (by lia)), fun h => ?_, fun h => ?_⟩
  · have hlt := of_decide_eq_true h
    obtain ⟨n, rfl⟩ : ∃ n', n = n' + 1 := ⟨n - 1, by lia⟩
    rw [expandM] at hr
    replace hr := ite_td h hr
    refine jr_js (js_asg (ji_item (by end_is "j") (by end_is "j") (by lia) h0 hlt) (by end_is "j set") fun _ => jr_next ?_)
    refine jr_if (by end_is "j") (fun h => ?_) fun h => ?_
    · replace hr := ite_td h hr
      refine jr_js (js_incr (by end_is "j in") (by end_is "j") (by end_is "j set") fun _ => jr_next ?_)
      refine jr_js (js_asg (g := Value.int (patAt news (at_ + 1))) (ja_ite (ji_lt (by end_is "j") (ji_len (ja_blt (by end_is "j in")) (by end_is "j") (by lia))) (fun h => by rw [patAt, if_pos (of_decide_eq_true h)]; exact ji_item (by end_is "j") (by end_is "j") (by lia) (by lia) (of_decide_eq_true h)) fun h => by rw [patAt, if_neg (of_decide_eq_false h)]; exact ji_lit) (by end_is "j set") fun _ => jr_next ?_)
      refine jr_ifL (by end_is "j") (fun h => ?_) fun h => ?_
      · have hd : 48 ≤ patAt news (at_ + 1) ∧ patAt news (at_ + 1) ≤ 57 := by simpa using h
        replace hr := ite_t hd hr
        refine jr_extend (S := fun b n' => A3 (n' = own) (hv (patAt news (at_ + 1) - 48) = some b) (b.length ≤ 64)) (by end_is "j in") (jxc_nameF (Rv := fun vs n => n = (a, baL fnd) :: own ∧ ∃ t, vs = [.int (patAt news (at_ + 1) - 48) t]) (ja_loc (by end_is "j in")) rfl (jargsC_cons (.ofX (ji_sub (by end_is "j") (by end_is "j"))) fun v n r => jargsC0 ⟨r.1, by obtain ⟨_, t, e⟩ := r; exact ⟨t, by rw [e]⟩⟩) ?_ ?_) ?_
        · rintro vs n ⟨rfl, t, rfl⟩
          obtain ⟨oc, od, fd, sl, hm⟩ := hF
          exact ⟨oc, od, fd, sl, .tail _ hm⟩
        · rintro vs n ⟨rfl, t, rfl⟩
          refine JXC.mono (jxc_conC (own := own) (rest := [(a, baL fnd)]) (hH _ _ (by lia) (by lia)) (fun hx => by rw [← hr, hx]) (hK _ (by lia)) (hU _ (by lia)) (fun p hp => .tail _ hp) (fun p hp => by rw [List.mem_singleton.mp hp]; exact .head _) fun p hp hm => by rw [List.mem_singleton.mp hp] at hm; obtain ⟨q, hq, e⟩ := List.mem_map.mp hm; exact hne q hq e) fun v n ⟨own', ⟨e, b, u, hb, hl, ev⟩, e2, _⟩ => ⟨b, u, own, ev, ?_, rfl, hb, hl⟩
          rw [e2, e]
          exact fun p hp => (List.mem_cons.mp hp).elim (fun e => e ▸ List.mem_append_right _ (.head _)) (List.mem_append_left _)
        · rintro b _ ⟨rfl, hb, hl⟩
          rw [hb] at hr
          exact ⟨hne, by lia, jr_nil (jr_js (js_incr (by end_is "j in") (by end_is "j") (by end_is "j set") fun _ => jr_next (jr_nil (hT n _ _ (Nat.lt_succ_self n) ⟨_, _, _, _, rfl, rfl, by lia, by lia, by lia, by simp only [List.length_append]; lia, hr⟩))))⟩
      · replace hr := ite_f (by simpa using h) hr
        exact jr_append (by end_is "j in") (by end_is "j") hne (patAt_lo _ _) (patAt_hi _ _) (by lia) (jr_nil (jr_js (js_incr (by end_is "j in") (by end_is "j") (by end_is "j set") fun _ => jr_next (jr_nil (hT n _ _ (Nat.lt_succ_self n) ⟨_, _, _, _, rfl, rfl, by lia, by lia, by lia, by simp only [List.length_append, List.length_cons, List.length_nil]; lia, hr⟩)))))
    · replace hr := ite_fd h hr
      exact jr_append (by end_is "j in") (by end_is "j") hne (bi_lo _ _) (bi_hi _ _) (by lia) (jr_nil (jr_js (js_incr (by end_is "j in") (by end_is "j") (by end_is "j set") fun _ => jr_next (jr_nil (hT n _ _ (Nat.lt_succ_self n) ⟨_, _, _, _, rfl, rfl, by lia, by lia, by lia, by simp only [List.length_append, List.length_cons, List.length_nil]; lia, hr⟩)))))
  · exact jr_retS (JXC.mono (.ofX (jb_ba (ja_blt (by end_is "j in")) (ja_loc (by end_is "j in")) (.head _) (by lia))) fun v n ⟨e, t, e'⟩ => ⟨own, fun p hp => e ▸ .tail _ hp, hP _ _ _ ⟨rfl, fnd, t, expand_end (of_decide_eq_false h) hr, by lia, e'⟩⟩)
end
noncomputable def replM (text : List UInt8) (most : Int) (bound : Bool) (ends : Int → Option Int) (gv : Int → Int → Option (List UInt8)) : Nat → Int → Int → List UInt8 → Option (List UInt8 × Int)
  | 0, at_, many, found => some (found ++ sl text (some at_) none, many)
  | n + 1, at_, many, found =>
    if many < most then
      match ends at_ with
      | some e =>
        match gv at_ e with
        | none => none
        | some b =>
          if at_ < e then (if bound = true then some ((found ++ b) ++ sl text (some e) none, many + 1) else replM text most bound ends gv n e (many + 1) (found ++ b))
          else if at_ < (text.length : Int) then
            (if bound = true then some ((found ++ b ++ [(bi text at_).toNat.toUInt8]) ++ sl text (some (at_ + 1)) none, many + 1) else replM text most bound ends gv n (at_ + 1) (many + 1) (found ++ b ++ [(bi text at_).toNat.toUInt8]))
          else some ((found ++ b) ++ sl text (some at_) none, many + 1)
      | none =>
        if at_ < (text.length : Int) then
          (if bound = true then some ((found ++ [(bi text at_).toNat.toUInt8]) ++ sl text (some (at_ + 1)) none, many) else replM text most bound ends gv n (at_ + 1) many (found ++ [(bi text at_).toNat.toUInt8]))
        else some (found ++ sl text (some at_) none, many)
    else some (found ++ sl text (some at_) none, many)
theorem repl_end {text : List UInt8} {most : Int} {bound : Bool} {ends : Int → Option Int} {gv : Int → Int → Option (List UInt8)} {n : Nat} {at_ many : Int} {found : List UInt8} {r : Option (List UInt8 × Int)} (h : ¬ many < most) (hr : replM text most bound ends gv n at_ many found = r) : some (found ++ sl text (some at_) none, many) = r := by
  cases n with
  | zero => exact hr
  | succ n => rw [replM, if_neg h] at hr; exact hr
theorem led_back {a : Addr × Obj} {own : Led} : ∀ p ∈ a :: own, p ∈ own ++ [a] := fun p hp => (List.mem_cons.mp hp).elim (fun e => e ▸ List.mem_append_right _ (.head _)) (List.mem_append_left _)
theorem led_off {a : Addr × Obj} {own : Led} (hne : ∀ p ∈ own, p.1 ≠ a.1) : ∀ p ∈ [a], p.1 ∉ own.map (·.1) := fun p hp hm => by
  rw [List.mem_singleton.mp hp] at hm
  obtain ⟨q, hq, e⟩ := List.mem_map.mp hm
  exact hne q hq e
section
variable {w : World} {mean : ExcName → Option Value} {mg mb : Str → Option Value}
theorem c_replaced {text : List UInt8} {most : Int} {bound : Bool} {tt tm : Tok} {EA GV : Addr} {own : Led} {ends : Int → Option Int} {gv : Int → Int → Option (List UInt8)} {I : Led → Prop} {J : Int → Int → Led → Prop} {ce ue cg ug c uc : Nat}
    (hz : text.length ≤ 16) (hI : I own)
    (hends : ∀ at_ e, ends at_ = some e → at_ ≤ e ∧ e ≤ (text.length : Int))
    (hE : ∀ at_ u own, 0 ≤ at_ → at_ ≤ (text.length : Int) → I own → ConC w mean mg mb (.ref EA) [.int at_ u] own ce ue (fun v own' => A3 (OptV (ends at_) v) (I own') (∀ e, ends at_ = some e → J at_ e own')) False)
    (hG : ∀ at_ e u u' own, J at_ e own → ConC w mean mg mb (.ref GV) [.int at_ u, .int e u'] own cg ug (fun v own' => I own' ∧ E2 fun b u => A3 (gv at_ e = some b) (b.length ≤ 1100) (v = .bytes b.toArray u)) (gv at_ e = none))
    (hEf : ∀ own, I own → HasFn EA own) (hGf : ∀ at_ e own, J at_ e own → HasFn GV own) (h1 : ce + 4 ≤ c) (h2 : cg + 4 ≤ c) (h3 : ue + 60 ≤ uc) (h4 : ug + 60 ≤ uc) :
    ConC w mean mg mb (.ref 42) [.bytes text.toArray tt, .int most tm, .bool bound, .ref EA, .ref GV] own c uc
      (fun v own' => E6 fun T r k u u' own0 => A4 (replM text most bound ends gv 20 0 0 [] = some (r, k)) (v = .ref T) (I own0) (own' = (T, tupO [.bytes r.toArray u, .int k u']) :: own0)) (replM text most bound ends gv 20 0 0 [] = none) := by
  obtain ⟨c, rfl⟩ : ∃ c', c = c' + 1 := ⟨c - 1, by lia⟩
  obtain ⟨uc, rfl⟩ : ∃ c', uc = c' + 3 := ⟨uc - 3, by lia⟩
  refine conC_jr ([("text", .bytes text.toArray tt), ("most", .int most tm), ("is_bound", .bool bound), ("ends_at", .ref EA), ("give", .ref GV)]) (["found", "at", "many", "end"]) ([]) ([("bytearray", .type "bytearray"), ("len", .builtin "len"), ("bytes", .type "bytes")]) (by k_dflt k_is) (by k_dflt k_is) (by kernel_rfl) (by end_is "j gl") (by end_is "j bl") (by exact fun _ _ => BindsTo.of_eq rfl) ?_
  intro cx Pq e1 e2 e3 e4 hK hU hP hN
  subst e1 e2 e3 e4
  dsimp only [List.map, List.cons_append, List.nil_append]
  generalize hfin : replM text most bound ends gv 20 0 0 [] = fin at hP ⊢
  refine jr_ba3 (by end_is "j in") (fun _ => ji_lit) (fun _ => ji_lit) (by end_is "j set") (fun _ => (by end_is "j set")) (fun _ _ => (by end_is "j set")) fun a t0 t1 hne => ?_
  refine jr_whileZ (fun n lm nw => E7 fun (at_ many : Int) (u u' : Tok) (o : Option Value) (fnd : List UInt8) (own0 : Led) => A10 (lm = ([("text", some (.bytes text.toArray tt)), ("most", some (.int most tm)), ("is_bound", some (.bool bound)), ("ends_at", some (.ref EA)), ("give", some (.ref GV)), ("found", some (.ref a)), ("at", some (.int at_ u)), ("many", some (.int many u')), ("end", o)] : Lm)) (nw = (a, baL fnd) :: own0) (I own0) (∀ p ∈ own0, p.1 ≠ a) (0 ≤ at_) (at_ ≤ (text.length : Int)) ((text.length : Int) + 1 - at_ ≤ n) (n ≤ 20) ((fnd.length : Int) ≤ 1200 * (20 - n))
      (replM text most bound ends gv n at_ many fnd = fin))
    (fun lm nw => E7 fun (at_ many : Int) (u u' : Tok) (o : Option Value) (fnd : List UInt8) (own0 : Led) => A7 (lm = ([("text", some (.bytes text.toArray tt)), ("most", some (.int most tm)), ("is_bound", some (.bool bound)), ("ends_at", some (.ref EA)), ("give", some (.ref GV)), ("found", some (.ref a)), ("at", some (.int at_ u)), ("many", some (.int many u')), ("end", o)] : Lm)) (nw = (a, baL fnd) :: own0) (I own0) (∀ p ∈ own0, p.1 ≠ a) (0 ≤ at_) (fnd.length ≤ 30000) (some (fnd ++ sl text (some at_) none, many) = fin))
    20 ⟨0, 0, t0, t1, none, [], own, rfl, rfl, hI, hne, Int.le_refl _, by lia, by lia, by lia, Int.le_refl _, hfin⟩ ?_ ?_
  · rintro _ _ ⟨at_, many, u, u', o, fnd, own0, rfl, rfl, hI0, hne0, h0, hfl, hr⟩
    have hsl := sl_len text (some at_) none
    refine jr_extend (S := fun b n' => b = sl text (some at_) none ∧ own0 = n') (by end_is "j in") (JXC.mono (.ofX (jb_slice (by end_is "j") (jp_some (by end_is "j")) jp_none (by lia))) fun v n ⟨e, t, e'⟩ => ⟨_, t, _, e', fun p hp => e ▸ hp, rfl, rfl⟩) ?_
    rintro _ _ ⟨rfl, rfl⟩
    refine ⟨hne0, by lia, jr_retS (JXC.mono (.ofX (jx_tup2 (g2 := Value.int many) (jb_ba (ja_blt (by end_is "j in")) (ja_loc (by end_is "j in")) (.head _) (by rw [List.length_append]; lia)) (ji_loc (by end_is "j in")))) ?_)⟩
    rintro v n ⟨T, t, u, rfl, rfl, _⟩
    exact ⟨_, fun p hp => (List.mem_cons.mp hp).elim (fun e => e ▸ .head _) fun hp => .tail _ (.tail _ hp), hP _ _ _ ⟨T, _, _, t, u, own0, hr.symm, rfl, hI0, rfl⟩⟩
  clear hfin
  rintro n T hT hTb _ _ ⟨at_, many, u, u', o, fnd, own0, rfl, rfl, hI0, hne0, h0, hle, hn, hn20, hfl, hr⟩
  obtain ⟨n, rfl⟩ : ∃ n', n = n' + 1 := ⟨n - 1, by lia⟩
  refine ⟨_, ji_lt (by end_is "j") (by end_is "j"), fun h => ?_, fun h => ⟨at_, many, u, u', o, fnd, own0, rfl, rfl, hI0, hne0, h0, by lia, repl_end (of_decide_eq_false h) hr⟩⟩
  rw [replM] at hr
  replace hr := ite_td h hr
  refine jr_asg (R := fun v n => ∃ own1, A5 (OptV (ends at_) v) (I own1) (∀ e, ends at_ = some e → J at_ e own1) (∀ p ∈ own1, p.1 ≠ a) (n = own1 ++ [(a, baL fnd)])) (jxc_nameF (Rv := fun vs n => n = (a, baL fnd) :: own0 ∧ ∃ t, vs = [.int at_ t]) (ja_loc (by end_is "j in")) rfl (jargsC_cons (.ofX (ji_loc (by end_is "j in"))) fun v n r => jargsC0 ⟨r.1, by obtain ⟨_, t, e⟩ := r; exact ⟨t, by rw [e]⟩⟩) ?_ ?_) (by end_is "j set") ?_
  · rintro vs n ⟨rfl, t, rfl⟩
    exact (hEf _ hI0).tail
  · rintro vs n ⟨rfl, t, rfl⟩
    exact JXC.mono (jxc_conC (own := own0) (rest := [(a, baL fnd)]) (hE at_ _ own0 h0 hle hI0) (fun x => x.elim) (hK _ (by lia)) (hU _ (by lia)) (fun p hp => .tail _ hp) (fun p hp => List.mem_singleton.mp hp ▸ .head _) (led_off hne0)) fun v n ⟨own1, ⟨r1, r2, r3⟩, e, ap⟩ => ⟨own1, r1, r2, r3, fun p hp e => ap p hp _ (.head _) e.symm, e⟩
  rintro v _ ⟨own1, hv, hI1, hJ1, hne1, rfl⟩
  refine JR.sub (nw' := (a, baL fnd) :: own1) ?_ led_back
  clear hI0 hne0
  rcases hend : ends at_ with _ | e
  · rw [hend] at hv hr
    cases hv
    dsimp only at hr
    refine jr_when (b := false) (jn_isnot (ja_loc (by end_is "j in"))) (fun h => nomatch h) fun _ => ?_
    refine jr_if (b := false) (jt_and (p := false) (q := true) (jn_isnot (ja_loc (by end_is "j in"))) fun h => nomatch h) (fun h => nomatch h) fun _ => ?_
    refine jr_ifL (ji_lt (by end_is "j") (ji_len (ja_blt (by end_is "j in")) (by end_is "j") (by lia))) (fun h => ?_) fun h => ?_
    · replace hr := ite_td h hr
      have hat := of_decide_eq_true h
      refine jr_append (by end_is "j in") (ji_item (by end_is "j") (by end_is "j") (by lia) h0 hat) hne1 (bi_lo _ _) (bi_hi _ _) (by lia) (jr_js (js_incr (by end_is "j in") (by end_is "j") (by end_is "j set") fun _ => jr_next (jr_nil ?_)))
      refine jr_ifL (jt_c (ja_loc (by end_is "j in"))) (fun h => ?_) fun h => ?_
      · replace hr := ite_t h hr
        exact jr_of (js_brk (hTb _ _ ⟨_, _, _, _, _, _, own1, rfl, rfl, hI1, hne1, by lia, by simp only [List.length_append, List.length_cons, List.length_nil]; lia, hr⟩))
      · replace hr := ite_b h hr
        exact jr_nil (hT n _ _ (Nat.lt_succ_self n) ⟨_, _, _, _, _, _, own1, rfl, rfl, hI1, hne1, by lia, by lia, by lia, by lia, by simp only [List.length_append, List.length_cons, List.length_nil]; lia, hr⟩)
    · replace hr := ite_fd h hr
      exact jr_of (js_brk (hTb _ _ ⟨_, _, _, _, _, _, own1, rfl, rfl, hI1, hne1, h0, by lia, hr⟩))
  · rw [hend] at hv hr
    obtain ⟨te, rfl⟩ := hv
    dsimp only at hr
    obtain ⟨he1, he2⟩ := hends at_ e hend
    have hJ2 := hJ1 e hend
    refine jr_when (b := true) (jn_isnot (ja_loc (by end_is "j in"))) (fun _ => ?_) fun h => nomatch h
    refine jr_js (js_incr (by end_is "j in") (by end_is "j") (by end_is "j set") fun _ => jr_next ?_)
    refine jr_extend (S := fun b n' => A4 (I n') (∀ p ∈ n', p.1 ≠ a) (gv at_ e = some b) (b.length ≤ 1100)) (by end_is "j in") (jxc_nameF (Rv := fun vs n => n = (a, baL fnd) :: own1 ∧ E2 fun t t' => vs = [.int at_ t, .int e t']) (ja_loc (by end_is "j in")) rfl (jargsC_cons (R1 := fun v n => n = (a, baL fnd) :: own1 ∧ ∃ t, v = .int at_ t) (.ofX (ji_loc (by end_is "j in"))) ?_) ?_ ?_) ?_
    · rintro v n ⟨rfl, t, rfl⟩
      exact jargsC_cons (R1 := fun v n => n = (a, baL fnd) :: own1 ∧ ∃ t, v = .int e t) (.ofX (ji_loc (by end_is "j in"))) fun v n ⟨e, t', e'⟩ => jargsC0 ⟨e, t, t', by rw [e']⟩
    · rintro vs n ⟨rfl, t, t', rfl⟩
      exact (hGf _ _ _ hJ2).tail
    · rintro vs n ⟨rfl, t, t', rfl⟩
      exact JXC.mono (jxc_conC (own := own1) (rest := [(a, baL fnd)]) (hG at_ e _ _ own1 hJ2) (fun hx => by rw [← hr, hx]) (hK _ (by lia)) (hU _ (by lia)) (fun p hp => .tail _ hp) (fun p hp => List.mem_singleton.mp hp ▸ .head _) (led_off hne1)) fun v n ⟨own2, ⟨r1, b, u, r2, r3, r4⟩, e, ap⟩ => ⟨b, u, own2, r4, fun p hp => e ▸ led_back p hp, r1, fun p hp e => ap p hp _ (.head _) e.symm, r2, r3⟩
    clear hI1 hne1 hJ1 hJ2
    rintro b own1 ⟨hI1, hne1, hb, hbl⟩
    rw [hb] at hr
    dsimp only at hr
    refine ⟨hne1, by lia, jr_nil ?_⟩
    refine jr_if (jt_and (p := true) (jn_isnot (ja_loc (by end_is "j in"))) fun _ => jt_and (ji_gt (by end_is "j") (by end_is "j")) fun _ => jt_and0) (fun h => ?_) fun h => ?_
    · replace hr := ite_t (by simpa using h) hr
      refine jr_js (js_asg (ji_loc (by end_is "j in")) (by end_is "j set") fun _ => jr_next (jr_nil ?_))
      have hlt : at_ < e := by simpa using h
      refine jr_ifL (jt_c (ja_loc (by end_is "j in"))) (fun h => ?_) fun h => ?_
      · replace hr := ite_t h hr
        exact jr_of (js_brk (hTb _ _ ⟨_, _, _, _, _, _, own1, rfl, rfl, hI1, hne1, by lia, by simp only [List.length_append]; lia, hr⟩))
      · replace hr := ite_b h hr
        exact jr_nil (hT n _ _ (Nat.lt_succ_self n) ⟨_, _, _, _, _, _, own1, rfl, rfl, hI1, hne1, by lia, by lia, by lia, by lia, by simp only [List.length_append]; lia, hr⟩)
    · replace hr := ite_f (by simpa using h) hr
      refine jr_ifL (ji_lt (by end_is "j") (ji_len (ja_blt (by end_is "j in")) (by end_is "j") (by lia))) (fun h => ?_) fun h => ?_
      · replace hr := ite_td h hr
        have hat := of_decide_eq_true h
        refine jr_append (by end_is "j in") (ji_item (by end_is "j") (by end_is "j") (by lia) h0 hat) hne1 (bi_lo _ _) (bi_hi _ _) (by simp only [List.length_append]; lia) (jr_js (js_incr (by end_is "j in") (by end_is "j") (by end_is "j set") fun _ => jr_next (jr_nil ?_)))
        refine jr_ifL (jt_c (ja_loc (by end_is "j in"))) (fun h => ?_) fun h => ?_
        · replace hr := ite_t h hr
          exact jr_of (js_brk (hTb _ _ ⟨_, _, _, _, _, _, own1, rfl, rfl, hI1, hne1, by lia, by simp only [List.length_append, List.length_cons, List.length_nil]; lia, hr⟩))
        · replace hr := ite_b h hr
          exact jr_nil (hT n _ _ (Nat.lt_succ_self n) ⟨_, _, _, _, _, _, own1, rfl, rfl, hI1, hne1, by lia, by lia, by lia, by lia, by simp only [List.length_append, List.length_cons, List.length_nil]; lia, hr⟩)
      · replace hr := ite_fd h hr
        exact jr_of (js_brk (hTb _ _ ⟨_, _, _, _, _, _, own1, rfl, rfl, hI1, hne1, h0, by simp only [List.length_append]; lia, hr⟩))
end
/-! defs within defs: the code's table in the ledger, the new code's table too -/
structure CodeO (oc : Obj) (c P : Addr) (qual : Str) : Prop where
  head : ∃ vs file tf flags tg inF text tt, oc.cls = .type "code" ∧ oc.data = .fields vs ∧ vs[11]? = some (.ref P) ∧ vs.getD 11 .none = .ref P ∧ vs.getD 18 .none = .str file tf ∧
    vs.getD 7 .none = .int flags tg ∧ vs.getD 9 .none = .bool inF ∧ vs.getD 10 .none = .int text tt ∧ c ≠ P
  name : ∃ vs t, oc.data = .fields vs ∧ vs[1]? = some (.str qual t)
theorem CodeO.hd {oc : Obj} {c P : Addr} {qual : Str} (x : CodeO oc c P qual) {h : Heap} (e : h.get? c = some oc) : CodeHd h c P := let ⟨vs, file, tf, flags, tg, inF, text, tt, r⟩ := x.head; ⟨oc, vs, file, tf, flags, tg, inF, text, tt, e, r⟩
theorem CodeO.rec' {oc : Obj} {c P : Addr} {qual : Str} (x : CodeO oc c P qual) {h : Heap} (e : h.get? c = some oc) : h.CodeRec (.ref c) qual := let ⟨vs, t, r⟩ := x.name; ⟨c, oc, vs, t, rfl, e, r⟩
section
variable {M : Model} {A : Around} {E : Value → Shared → Prop} {s : Shared} {name qual : Str} {params : Arguments} {body : List Stmt} {scope : Scope} {env : Env} {c P : Addr} {ps : Array Value} {pos : Pos} {firstLine : Nat} {mg mb : Str → Option Value}
  {clos : List (Str × Addr)} {Q : Value → Shared → Prop}
/-- the tail of a def's making, where the table does not hold its code yet -/
theorem make_miss (hcl : closureFor scope env = pure clos) (hge0 : env.globals = mainGlobals) (hg : s.heap.Ns mainGlobals mg) (hcode : env.code = .ref c) (C : CodeHd s.heap c P) (hP : s.heap.get? P = some (tabObj ps)) (ht : TriplesOk ps.toList)
    (hnf : codeAmong pos ps.toList = none) (hgP : mainGlobals ≠ P) (hb : s.heap.BuiltinsAt mg P) (hne : clos ≠ [])
    (h : ∀ c' oc P' ctv doc h' tk, Heap.ExtBut P s.heap h' → s.heap.objs.size ≤ c' → c' < h'.objs.size → s.heap.objs.size ≤ P' → P' < h'.objs.size → h'.get? c' = some oc → CodeO oc c' P' qual → h'.get? P' = some (tabObj #[]) →
      h'.get? P = some (tabObj (ps ++ #[rawInt pos.line, rawInt pos.col, .ref c'])) →
      Q (.ref h'.objs.size) { s with heap := h'.push (fnMade name qual params body scope clos doc ((mg "__name__").getD .none) c' ctv), toks := tk }) :
    wpAny M A (makeFunction name qual params (.stmts body) scope env [] [] [] pos firstLine) Q E s := by
  rw [makeFunction_eq]
  simp only [List.zip_nil_right, List.filterMap_nil, List.isEmpty_nil, if_true, pure_bind]
  obtain ⟨bm, ob, hbm, hne0, _, hneP, hbo, hcls, hdict, hdata⟩ := hb
  unfold makeTail
  rw [hcl, hge0]
  refine wpAny_bind (wpAny_pure ?_)
  cases clos with
  | nil => exact absurd rfl hne
  | cons q r =>
    simp only [List.isEmpty_cons, Bool.false_eq_true, if_false]
    refine wpAny_bind (wpAny_newTextTuple ?_)
    have up := fun (oT : Obj) (b : Addr) (o : Obj) (e : s.heap.get? b = some o) => Heap.get?_push_of_some oT e
    refine wpAny_bind (wpAny_functionCodeX hcode ((C.keeps (up _)).code (up _ _ _ hP) ht) ((C.keeps (up _)).tab (up _ _ _ hP)) hnf fun c' h' tk hx hge hlt hcd hrec htb hnew => ?_)
    refine Classical.byContradiction fun hno => ?_
    obtain ⟨P', hP1, hP2, hP3⟩ := hnew
    have hCh := CodeHd.of hP2 hP3
    obtain ⟨oc, vs, file, tf, flags, tg, inF, text, tt, e1, r1⟩ := hCh
    obtain ⟨c₂, oc₂, vs₂, t₂, f1, f2, f3, f4⟩ := hrec
    cases f1
    rw [e1] at f2; cases f2
    have hg' := (hg.push _).extBut hx hgP
    have hx' : Heap.ExtBut P s.heap h' := fun b o hb' e => hx b o hb' (up _ b o e)
    have sz : ∀ {x : Nat}, (s.heap.push { cls := .type "tuple", data := .seq ((q :: r).map (fun y => Value.ref y.2)).toArray }).objs.size ≤ x → s.heap.objs.size ≤ x := fun h => Nat.le_trans (by rw [Heap.size_push]; lia) h
    have hge' : s.heap.objs.size ≤ c' := Nat.le_trans (by rw [Heap.size_push]; lia) hge
    have hgP' : s.heap.objs.size ≤ P' := Nat.le_trans (by rw [Heap.size_push]; lia) hP1
    refine hno ?_
    refine wpAny_bind (wpAny_builtinsFor hg' hbm hne0 (hx' _ _ hneP hbo) hcls hdict hdata ?_)
    refine wpAny_bind (wpAny_nsGet hg' ?_)
    have fin := fun ctv doc tk' => h c' oc P' ctv doc h' tk' hx' hge' hlt hgP' (Heap.lt_size hP3.2) e1 ⟨⟨vs, file, tf, flags, tg, inF, text, tt, r1⟩, ⟨vs₂, t₂, f3, f4⟩⟩ hP3.2 htb.2
    cases hdoc : docOf body with
    | none => exact wpAny_bind (wpAny_pure (wpAny_newObj_type (fin _ .none tk) (by size_fits)))
    | some t => exact wpAny_bind (wpAny_mkText (wpAny_newObj_type (fin _ _ _) (by size_fits)))
variable {h₀ : Heap} {L : Addr} {m : Str → Option Value} {rest : Led} {p : Program} {loose : List Str} {mean : ExcName → Option Value}
theorem nest_places (F : Fr h₀ L s.heap m) (T : Top p loose mean mg mb h₀) (hm : s.heap.get? P = some (tabObj ps)) (hn : h₀.get? P = none) : mainGlobals ≠ P ∧ s.heap.BuiltinsAt mg P := by
  obtain ⟨bm, ob, b1, b2, b3, b4, b5, b6⟩ := T.bmain
  have hgs := T.g.keeps F.keep
  refine ⟨fun q => ?_, bm, ob, b1, b2, fun q => ?_, fun q => ?_, F.keep _ _ b3, b4, b5, b6⟩
  · obtain ⟨o, es, ep, e, hd, _⟩ := hgs
    rw [q, hm] at e; cases e; cases hd
  · obtain ⟨o, es, ep, e, hd, _⟩ := T.g
    rw [q, e] at b3; cases b3; rw [hd] at b6; cases b6
  · have e := F.keep _ _ b3
    rw [q, hm] at e; cases e; cases b4
theorem nest_miss (F : Fr h₀ L s.heap m) (N : News h₀ L s.heap ((P, tabObj ps) :: rest)) (hap : ∀ q ∈ rest, q.1 ≠ P) (T : Top p loose mean mg mb h₀) (C : CodeHd s.heap c P) (hcode : env.code = .ref c) (hge0 : env.globals = mainGlobals) (ht : TriplesOk ps.toList)
    (hnf : codeAmong pos ps.toList = none) (hcl : closureFor scope env = pure clos) (hne : clos ≠ [])
    (h : ∀ f c' oc P' ctv doc h' tk, Fr h₀ L h' m →
      News h₀ L h' ((f, fnMade name qual params body scope clos doc ((mg "__name__").getD .none) c' ctv) :: (c', oc) :: (P', tabObj #[]) :: (P, tabObj (ps ++ #[rawInt pos.line, rawInt pos.col, .ref c'])) :: rest) →
      CodeO oc c' P' qual → (∀ q ∈ (P, tabObj ps) :: rest, q.1 ≠ c' ∧ q.1 ≠ P' ∧ q.1 ≠ f) → c' ≠ P' → c' ≠ f → P' ≠ f → Q (.ref f) { s with heap := h', toks := tk }) :
    wpAny M A (makeFunction name qual params (.stmts body) scope env [] [] [] pos firstLine) Q E s := by
  have hm := N (P, tabObj ps) (.head _)
  obtain ⟨hgP, hb⟩ := nest_places F T hm.1 hm.2.2
  refine make_miss hcl hge0 (T.g.keeps F.keep) hcode C hm.1 ht hnf hgP hb hne fun c' oc P' ctv doc h' tk hx hge hlt hgeP hltP hoc hco hP' hPn => ?_
  have hLs : L < s.heap.objs.size := F.ns.lt
  have old : ∀ b o, h₀.get? b = some o → h'.get? b = some o := fun b o e => hx b o (fun q => by rw [q, hm.2.2] at e; cases e) (F.keep b o e)
  have fresh : ∀ b, s.heap.objs.size ≤ b → h₀.get? b = none := fun b hb => Heap.get?_none_of_le (Nat.le_trans F.above (Nat.le_of_lt (Nat.lt_of_lt_of_le hLs hb)))
  have hsz : s.heap.objs.size ≤ h'.objs.size := Nat.le_trans hge (Nat.le_of_lt hlt)
  have lt : ∀ q ∈ (P, tabObj ps) :: rest, q.1 < s.heap.objs.size := fun q hq => Heap.lt_size (N q hq).1
  obtain ⟨vs, file, tf, flags, tg, inF, text, tt, r1⟩ := hco.head
  have hcP : c' ≠ P' := r1.2.2.2.2.2.2.2.2
  refine h h'.objs.size c' oc P' ctv doc _ tk ⟨(F.ns.extBut hx hm.2.1.symm).push _, fun b o e => Heap.get?_push_of_some _ (old b o e), F.above⟩ (fun q hq => ?_) hco
    (fun q hq => ⟨Nat.ne_of_lt (Nat.lt_of_lt_of_le (lt q hq) hge), Nat.ne_of_lt (Nat.lt_of_lt_of_le (lt q hq) hgeP), Nat.ne_of_lt (Nat.lt_of_lt_of_le (lt q hq) hsz)⟩) hcP (Nat.ne_of_lt hlt) (Nat.ne_of_lt hltP)
  rcases List.mem_cons.mp hq with rfl | hq
  · exact ⟨Heap.get?_push_size _ rfl, Nat.ne_of_gt (Nat.lt_of_lt_of_le hLs hsz), fresh _ hsz⟩
  rcases List.mem_cons.mp hq with rfl | hq
  · exact ⟨Heap.get?_push_of_some _ hoc, Nat.ne_of_gt (Nat.lt_of_lt_of_le hLs hge), fresh _ hge⟩
  rcases List.mem_cons.mp hq with rfl | hq
  · exact ⟨Heap.get?_push_of_some _ hP', Nat.ne_of_gt (Nat.lt_of_lt_of_le hLs hgeP), fresh _ hgeP⟩
  rcases List.mem_cons.mp hq with rfl | hq
  · exact ⟨Heap.get?_push_of_some _ hPn, hm.2⟩
  · have n := N q (.tail _ hq)
    exact ⟨Heap.get?_push_of_some _ (hx _ _ (hap q hq) n.1), n.2⟩
theorem nest_hit {c' : Addr} {news : Led} (F : Fr h₀ L s.heap m) (N : News h₀ L s.heap news) (hmem : (P, tabObj ps) ∈ news) (T : Top p loose mean mg mb h₀) (C : CodeHd s.heap c P) (hcode : env.code = .ref c) (hge0 : env.globals = mainGlobals) (ht : TriplesOk ps.toList)
    (hf : codeAmong pos ps.toList = some (.ref c')) (hcl : closureFor scope env = pure clos)
    (h : ∀ f ctv doc h' tk, Fr h₀ L h' m → News h₀ L h' ((f, fnMade name qual params body scope clos doc ((mg "__name__").getD .none) c' ctv) :: news) → (∀ q ∈ news, q.1 ≠ f) → Q (.ref f) { s with heap := h', toks := tk }) :
    wpAny M A (makeFunction name qual params (.stmts body) scope env [] [] [] pos firstLine) Q E s := by
  have hm := N (P, tabObj ps) hmem
  obtain ⟨hgP, hb⟩ := nest_places F T hm.1 hm.2.2
  refine makeFunction_hit (mg := mg) hcl hge0 (T.g.keeps F.keep) hcode C hm.1 ht hf hb fun ctv doc h' tk hk hsz => ?_
  have hLs : L < h'.objs.size := Nat.lt_of_lt_of_le F.ns.lt hsz
  refine h h'.objs.size ctv doc _ tk ⟨(F.ns.keeps hk).push _, fun b o e => Heap.get?_push_of_some _ (hk b o (F.keep b o e)), F.above⟩ (fun q hq => ?_) (fun q hq => Nat.ne_of_lt (Nat.lt_of_lt_of_le (Heap.lt_size (N q hq).1) hsz))
  rcases List.mem_cons.mp hq with rfl | hq
  · exact ⟨Heap.get?_push_size _ rfl, Nat.ne_of_gt hLs, Heap.get?_none_of_le (Nat.le_trans F.above (Nat.le_of_lt hLs))⟩
  · exact ⟨Heap.get?_push_of_some _ (hk _ _ (N q hq).1), (N q hq).2⟩
end
/-! frames of closures, of defs whose names are captured -/
section
variable {M : Model} {A : Around} {E : Value → Shared → Prop} {s : Shared}
theorem forIn_cells_none {names : List (Str × NameKind)} {f : Str × NameKind → List (Str × Addr) → Sem (ForInStep (List (Str × Addr)))} {cl : List (Str × Addr)} (hr : ∀ x ∈ names, x.2 ≠ .cell)
    (hf : ∀ n k c, (k == NameKind.cell) = false → f (n, k) c = pure (.yield c)) : forIn names cl f = pure cl :=
  forIn_yield_id cl fun x hx c => by
    obtain ⟨n, k⟩ := x
    exact hf n k c (by simpa using hr _ hx)
theorem env_two {scope : Scope} {globals : Addr} {closure : List (Str × Addr)} {n1 n2 : Str} {v1 v2 : Value} {restN : List (Str × NameKind)} {qual : Str} {func : Option Addr} {code : Value} {builtins : Addr} {Q : Env → Shared → Prop}
    (hn : scope.names = (n1, .cell) :: (n2, .cell) :: restN) (hr : ∀ x ∈ restN, x.2 ≠ .cell) (h12 : n1 ≠ n2) (hk : scope.kind = .function)
    (h : ∀ h' o1 o2 tk, (∀ b o, s.heap.get? b = some o → h'.get? b = some o) → h'.Ns s.heap.objs.size (fun _ => none) → h'.get? (s.heap.objs.size + 1) = some o1 → o1.data = .cell (some v1) → h'.get? (s.heap.objs.size + 2) = some o2 → o2.data = .cell (some v2) →
      Q (newEnv scope s.heap.objs.size globals ((n2, s.heap.objs.size + 2) :: (n1, s.heap.objs.size + 1) :: closure) qual func code none builtins) { s with heap := h', toks := tk }) :
    wpAny M A (newFunctionEnv scope globals closure [(n1, v1), (n2, v2)] qual func code none builtins) Q E s := by
  simp only [newFunctionEnv, Option.isSome_none, Bool.false_eq_true, if_false]
  refine wpAny_bind (wpAny_alloc ?_)
  rw [hn, List.forIn_cons]
  refine wpAny_bind (wpAny_bind ?_)
  rw [if_pos (by rfl)]
  refine wpAny_bind (wpAny_alloc (wpAny_pure ?_))
  dsimp only
  rw [List.forIn_cons]
  refine wpAny_bind ?_
  rw [if_pos (by rfl)]
  refine wpAny_bind (wpAny_alloc (wpAny_pure ?_))
  dsimp only
  rw [forIn_cells_none hr (fun n k c hc => by simp only [hc, Bool.false_eq_true, if_false])]
  refine wpAny_pure ?_
  have e1 : (s.heap.push { cls := Value.type "frame", data := Data.dict #[] }).objs.size = s.heap.objs.size + 1 := Heap.size_push ..
  have e2 : ((s.heap.push { cls := Value.type "frame", data := Data.dict #[] }).push { cls := Value.type "cell", data := Data.cell none }).objs.size = s.heap.objs.size + 2 := by rw [Heap.size_push, e1]
  rw [e1, e2]
  have hk1 : Env.kindOf { scope := scope, locals := s.heap.objs.size, globals := globals, cells := (n2, s.heap.objs.size + 2) :: (n1, s.heap.objs.size + 1) :: closure, qual := qual, func := func, code := code, frame := some s.heap.objs.size, builtins := builtins } n1 = some .cell := by
    show scope.names.lookup n1 = some .cell
    rw [hn, List.lookup_cons]; simp
  have hk2 : Env.kindOf { scope := scope, locals := s.heap.objs.size, globals := globals, cells := (n2, s.heap.objs.size + 2) :: (n1, s.heap.objs.size + 1) :: closure, qual := qual, func := func, code := code, frame := some s.heap.objs.size, builtins := builtins } n2 = some .cell := by
    show scope.names.lookup n2 = some .cell
    rw [hn, List.lookup_cons, show (n2 == n1) = false from beq_eq_false_iff_ne.mpr (Ne.symm h12)]
    simp [List.lookup_cons]
  have c1 : ((n2, s.heap.objs.size + 2) :: (n1, s.heap.objs.size + 1) :: closure).lookup n1 = some (s.heap.objs.size + 1) := by
    rw [List.lookup_cons, show (n1 == n2) = false from beq_eq_false_iff_ne.mpr h12]; simp [List.lookup_cons]
  have c2 : ((n2, s.heap.objs.size + 2) :: (n1, s.heap.objs.size + 1) :: closure).lookup n2 = some (s.heap.objs.size + 2) := by simp [List.lookup_cons]
  have g1 : (((s.heap.push { cls := Value.type "frame", data := Data.dict #[] }).push { cls := Value.type "cell", data := Data.cell none }).push { cls := Value.type "cell", data := Data.cell none }).get? (s.heap.objs.size + 1) = some { cls := Value.type "cell", data := Data.cell none } :=
    Heap.get?_push_of_some _ (by rw [← e1]; exact Heap.get?_push_size _ rfl)
  have g2 : (((s.heap.push { cls := Value.type "frame", data := Data.dict #[] }).push { cls := Value.type "cell", data := Data.cell none }).push { cls := Value.type "cell", data := Data.cell none }).get? (s.heap.objs.size + 2) = some { cls := Value.type "cell", data := Data.cell none } := by
    rw [← e2]; exact Heap.get?_push_size _ rfl
  rw [List.forIn_cons]
  refine wpAny_bind (wpAny_bind (wpAny_bind (wpAny_storeName_cell hk hk1 c1 ⟨_, g1, rfl⟩ fun h1 hc1 hs1 => wpAny_pure ?_)))
  dsimp only
  rw [List.forIn_cons]
  have g2' : h1.get? (s.heap.objs.size + 2) = some { cls := Value.type "cell", data := Data.cell none } := (hs1.2 (s.heap.objs.size + 2) (Nat.ne_of_gt (Nat.lt_succ_self _))).trans g2
  refine wpAny_bind (wpAny_bind (wpAny_storeName_cell hk hk2 c2 ⟨_, g2', rfl⟩ fun h2 hc2 hs2 => wpAny_pure ?_))
  dsimp only
  rw [List.forIn_nil]
  refine wpAny_pure (wpAny_pure ?_)
  obtain ⟨o1, ho1, hd1⟩ := hc1
  obtain ⟨o2, ho2, hd2⟩ := hc2
  have old : ∀ (b : Nat) o, b ≤ s.heap.objs.size → (((s.heap.push { cls := Value.type "frame", data := Data.dict #[] }).push { cls := Value.type "cell", data := Data.cell none }).push { cls := Value.type "cell", data := Data.cell none }).get? b = some o → h2.get? b = some o :=
    fun b o hb e => (hs2.2 b (Nat.ne_of_lt (Nat.lt_of_le_of_lt hb (Nat.lt_add_of_pos_right (by decide))))).trans ((hs1.2 b (Nat.ne_of_lt (Nat.lt_succ_of_le hb))).trans e)
  refine h h2 o1 o2 s.toks (fun b o e => old b o (Nat.le_of_lt (Heap.lt_size e)) (Heap.get?_push_of_some _ (Heap.get?_push_of_some _ (Heap.get?_push_of_some _ e)))) ?_ ((hs2.2 (s.heap.objs.size + 1) (Nat.ne_of_lt (Nat.lt_succ_self _))).trans ho1) hd1 ho2 hd2
  obtain ⟨o, es, ep, ho, r⟩ := (Heap.Ns.new s.heap (.type "frame")).keeps (fun b o e => Heap.get?_push_of_some { cls := Value.type "cell", data := Data.cell none } (Heap.get?_push_of_some { cls := Value.type "cell", data := Data.cell none } e))
  exact ⟨o, es, ep, old _ _ (Nat.le_refl _) ho, r⟩
end
section
variable {w : World} {mean : ExcName → Option Value} {mg mb : Str → Option Value}
/-- what a body asks of its contract, whatever its frame -/
structure BodyC (w : World) (R : Value → Led → Prop) (X : Prop) (dp un : Nat) (outer : List Env) (base g : Heap) (env : Env) (L' : Addr) (s : Shared) (Q E : Value → Shared → Prop) : Prop where
  ret : ∀ r own' h' tk' m', Fr g L' h' m' → News g L' h' own' → R r own' → Q r { s with heap := h', toks := tk' }
  exc : X → ∀ e h' tk', Flies base (env :: outer) e h' → g.UpToSlots h' → E e { s with heap := h', toks := tk' }
  passes : PassesOwn (model PySem.Challenge.rw_nt0643_01.row.prog w) ((cA dp un (some []) outer).deeper env) env E
theorem BodyC.of {R : Value → Led → Prop} {X : Prop} {dp un : Nat} {outer : List Env} {base g : Heap} {env : Env} {L' : Addr} {s : Shared} {Q E : Value → Shared → Prop} (hf : env.frame = some L')
    (hQ : ∀ r own' h' tk', R r own' → Own g h' own' → Q r { s with heap := h', toks := tk' }) (hE : X → ∀ e h' tk', Flies base outer e h' → g.UpToSlots h' → E e { s with heap := h', toks := tk' }) (hfr : ((cA dp un (some []) outer).deeper env).frames = some (env :: outer)) :
    BodyC w R X dp un outer base g env L' s Q (fun e s' => wpAny (model PySem.Challenge.rw_nt0643_01.row.prog w) ((cA dp un (some []) outer).deeper env) (leaving env e) (fun _ s'' => E e s'') (fun e' s'' => E e' s'') s') where
  ret := fun r own' h' tk' m' F' N' hR => by
    refine hQ r own' h' tk' hR ⟨F'.keep, ?_, fun p hp => ⟨(N' p hp).1, (N' p hp).2.2⟩⟩
    obtain ⟨o, _, _, ho', _⟩ := F'.ns
    exact Nat.le_of_lt (Nat.lt_of_le_of_lt F'.above (Heap.lt_size ho'))
  exc := fun hX e h' tk' hfl hup => hfl.leave hfr hf fun h'' fl' up' => hE hX e h'' tk' fl' (hup.trans up')
  passes := PassesOwn.leaving
/-- entry to a closure -/
theorem conC_enterX {f c' P' : Addr} {oc : Obj} {name qual : Str} {params : Arguments} {body : List Stmt} {scope : Scope} {cl : List (Str × Addr)} {doc pm ctv : Value}
    {vs : List Value} {binds : List (Str × Value)} {own : Led} {cost ucost : Nat} {R : Value → Led → Prop} {X : Prop}
    (ho : (f, fnMade name qual params body scope cl doc pm c' ctv) ∈ own) (hoc : (c', oc) ∈ own) (hco' : CodeO oc c' P' qual)
    (hbind : bindArgs (fnX name qual params body scope cl .none .none doc pm none (.ref c') ctv) ⟨vs, []⟩ = pure binds)
    (hloc : ∀ y ∈ binds, scope.names.lookup y.1 = some .local)
    (h : ∀ (dp un : Nat) (outer : List Env) (base g : Heap) (s : Shared) (L' : Addr) (h₁ : Heap) (Q E : Value → Shared → Prop),
      Below (cA dp un (some []) outer) base outer g → (hd.heap_39 w.params).In g → Top topProg gl mean mg mb g →
      Fr g L' h₁ (fun y => binds.reverse.lookup y) → News g L' h₁ own → (∀ p ∈ own, p.1 < L') → dp + cost < recursionLimit → un + ucost < cLine →
      BodyC w R X dp un outer base g (envX qual scope L' f (.ref c') cl) L' s Q E →
      wpC (model PySem.Challenge.rw_nt0643_01.row.prog w) ((cA dp un (some []) outer).deeper (envX qual scope L' f (.ref c') cl)) (execs body (envX qual scope L' f (.ref c') cl))
        (fun fl s' => Q (match fl with | .ret v => v | _ => .none) s') E { s with heap := h₁, toks := s.toks + binds.length })
    (hc : 0 < cost) (hco : scope.isCoroutine = false) (hgen : scope.isGenerator = false) (hk : scope.kind = .function) (hcell : ∀ x ∈ scope.names, x.2 ≠ .cell) :
    ConC w mean mg mb (.ref f) vs own cost ucost R X := by
  intro dp un outer base g s Q E K T hst hff O hdp hu hQ hE
  refine wpC_call (codeC_call_def (fd := fnX name qual params body scope cl .none .none doc pm none (.ref c') ctv) (body := body) (binds := binds) (by show dp < _; omega) (O.at_ _ ho).1 rfl (T.nolimit.keeps O.keep) (hco'.rec' (O.at_ _ hoc).1) rfl (.of_eq hbind) hcell hloc (fun h₁ hns hk₁ => ?_) hco hgen hk)
  exact h dp un outer base g s s.heap.objs.size h₁ Q _ ⟨rfl, hst, hff⟩ K T ⟨hns, fun b o e => hk₁ b o (O.keep b o e), O.size⟩
    (fun p hp => ⟨hk₁ _ _ (O.at_ p hp).1, Nat.ne_of_lt (Heap.lt_size (O.at_ p hp).1), (O.at_ p hp).2⟩) (fun p hp => Heap.lt_size (O.at_ p hp).1) hdp hu (BodyC.of rfl hQ hE rfl)

/-- entry to a closure whose two parameters are captured -/
theorem conC_enter2 {f c' P' : Addr} {oc : Obj} {name qual : Str} {params : Arguments} {body : List Stmt} {scope : Scope} {cl : List (Str × Addr)} {doc pm ctv : Value} {n1 n2 : Str} {restN : List (Str × NameKind)}
    {vs : List Value} {v1 v2 : Value} {own : Led} {cost ucost : Nat} {R : Value → Led → Prop} {X : Prop}
    (ho : (f, fnMade name qual params body scope cl doc pm c' ctv) ∈ own) (hoc : (c', oc) ∈ own) (hco' : CodeO oc c' P' qual)
    (hbind : bindArgs (fnX name qual params body scope cl .none .none doc pm none (.ref c') ctv) ⟨vs, []⟩ = pure [(n1, v1), (n2, v2)])
    (hn : scope.names = (n1, .cell) :: (n2, .cell) :: restN) (hr : ∀ x ∈ restN, x.2 ≠ .cell) (h12 : n1 ≠ n2)
    (h : ∀ (dp un : Nat) (outer : List Env) (base g : Heap) (s : Shared) (L' : Addr) (h₁ : Heap) (Q E : Value → Shared → Prop) (o1 o2 : Obj) (tk : Nat),
      Below (cA dp un (some []) outer) base outer g → (hd.heap_39 w.params).In g → Top topProg gl mean mg mb g →
      Fr g L' h₁ (fun _ => none) → News g L' h₁ ((L' + 1, o1) :: (L' + 2, o2) :: own) → o1.data = .cell (some v1) → o2.data = .cell (some v2) → (∀ p ∈ own, p.1 < L') → dp + cost < recursionLimit → un + ucost < cLine →
      BodyC w R X dp un outer base g (envX qual scope L' f (.ref c') ((n2, L' + 2) :: (n1, L' + 1) :: cl)) L' s Q E →
      wpC (model PySem.Challenge.rw_nt0643_01.row.prog w) ((cA dp un (some []) outer).deeper (envX qual scope L' f (.ref c') ((n2, L' + 2) :: (n1, L' + 1) :: cl))) (execs body (envX qual scope L' f (.ref c') ((n2, L' + 2) :: (n1, L' + 1) :: cl)))
        (fun fl s' => Q (match fl with | .ret v => v | _ => .none) s') E { s with heap := h₁, toks := tk })
    (hc : 0 < cost) (hco : scope.isCoroutine = false) (hgen : scope.isGenerator = false) (hk : scope.kind = .function) :
    ConC w mean mg mb (.ref f) vs own cost ucost R X := by
  intro dp un outer base g s Q E K T hst hff O hdp hu hQ hE
  have hlim := T.nolimit.keeps O.keep
  refine wpC_call (codeC_call_function (fd := fnX name qual params body scope cl .none .none doc pm none (.ref c') ctv) (body := body) (by show dp < _; omega) (O.at_ _ ho).1 rfl hco hgen rfl (hco'.rec' (O.at_ _ hoc).1) (wpAny_of_eq hbind ?_))
  refine env_two hn hr h12 hk fun h₁ o1 o2 tk hk₁ hns g1 d1 g2 d2 => ⟨hlim.keeps hk₁, codeC_func ?_⟩
  have above : ∀ b, s.heap.objs.size ≤ b → g.get? b = none := fun b hb => Heap.get?_none_of_le (Nat.le_trans O.size hb)
  refine h dp un outer base g s s.heap.objs.size h₁ Q _ o1 o2 tk ⟨rfl, hst, hff⟩ K T ⟨hns, fun b o e => hk₁ b o (O.keep b o e), O.size⟩ (fun p hp => ?_) d1 d2 (fun p hp => Heap.lt_size (O.at_ p hp).1) hdp hu (BodyC.of rfl hQ hE rfl)
  rcases List.mem_cons.mp hp with rfl | hp
  · exact ⟨g1, Nat.succ_ne_self _, above _ (Nat.le_succ _)⟩
  rcases List.mem_cons.mp hp with rfl | hp
  · exact ⟨g2, fun e => absurd e (Nat.ne_of_gt (Nat.lt_add_of_pos_right (by decide))), above _ (Nat.le_add_right _ _)⟩
  · exact ⟨hk₁ _ _ (O.at_ p hp).1, Nat.ne_of_lt (Heap.lt_size (O.at_ p hp).1), (O.at_ p hp).2⟩

/-- entry to a def of the text's whose names are captured -/
theorem conC_enterC {f : Addr} {name qual : Str} {params : Arguments} {body : List Stmt} {scope : Scope} {dV kV doc pm cdv ct oc : Value} {an od : Option Addr} {osl : Array (Option Value)}
    {vs : List Value} {binds : List (Str × Value)} {own : Led} {cost ucost : Nat} {R : Value → Led → Prop} {X : Prop}
    (ho : (hd.heap_39 w.params).lookup f = some ⟨oc, od, .func (fnOf name qual params body scope dV kV doc pm an cdv ct), osl⟩)
    (hcd : codeIn (hd.heap_39 w.params) cdv qual = true)
    (hbind : ∀ s : Shared, (hd.heap_39 w.params).In s.heap → BindsTo s (fnOf name qual params body scope dV kV doc pm an cdv ct) ⟨vs, []⟩ binds)
    (hkind : ∀ n, ∀ x ∈ binds, scope.names.lookup x.1 = some .local ∨ (scope.names.lookup x.1 = some .cell ∧ ((cellsFrom n scope.names []).lookup x.1).isSome = true))
    (hnd : ((cellsFrom 0 scope.names []).map (·.1)).Nodup)
    (h : ∀ (dp un : Nat) (outer : List Env) (base g : Heap) (s : Shared) (L' : Addr) (h₁ : Heap) (Q E : Value → Shared → Prop) (cells : Led) (tk : Nat),
      Below (cA dp un (some []) outer) base outer g → (hd.heap_39 w.params).In g → Top topProg gl mean mg mb g →
      Fr g L' h₁ (bindL (envOfC qual scope L' f cdv).kindOf binds fun _ => none) → News g L' h₁ (cells ++ own) →
      CellsAre (bindC (envOfC qual scope L' f cdv).kindOf binds fun _ => none) (cellsFrom (L' + 1) scope.names []) cells → (∀ p ∈ own, p.1 < L') → dp + cost < recursionLimit → un + ucost < cLine →
      BodyC w R X dp un outer base g (envOfC qual scope L' f cdv) L' s Q E →
      wpC (model PySem.Challenge.rw_nt0643_01.row.prog w) ((cA dp un (some []) outer).deeper (envOfC qual scope L' f cdv)) (execs body (envOfC qual scope L' f cdv))
        (fun fl s' => Q (match fl with | .ret v => v | _ => .none) s') E { s with heap := h₁, toks := tk })
    (hc : 0 < cost) (hco : scope.isCoroutine = false) (hgen : scope.isGenerator = false) (hk : scope.kind = .function) :
    ConC w mean mg mb (.ref f) vs own cost ucost R X := by
  intro dp un outer base g s Q E K T hst hff O hdp hu hQ hE
  have X' : (hd.heap_39 w.params).In s.heap := K.keeps O.keep
  have hlim := T.nolimit.keeps O.keep
  refine wpC_call (codeC_call_function (fd := fnOf name qual params body scope dV kV doc pm an cdv ct) (body := body) (by show dp < _; omega) (X' _ _ ho) rfl hco hgen rfl (codeRec_of X' hcd) (hbind s X' _ _ _ _ ?_))
  refine wpAny_newFunctionEnv_cells hk (hkind _) fun env' he s' x => ?_
  subst he
  refine ⟨hlim.keeps x.toInCall.keep, codeC_func ?_⟩
  obtain ⟨h₁, tk, rfl, _⟩ := x.done
  have hk₁ := x.toInCall.keep
  obtain ⟨cells, NC, Y⟩ := Cl.news (h₀ := s.heap) (Nat.le_refl _) fun n c hm => ⟨x.cell n c (lookup_of_mem_nodup (cellsFrom_names scope.names 0 (s.heap.objs.size + 1) [] [] rfl ▸ hnd) hm), x.above n c hm⟩
  refine h dp un outer base g s s.heap.objs.size h₁ Q _ cells tk ⟨rfl, hst, hff⟩ K T ⟨x.toInCall.ns, fun b o e => hk₁ b o (O.keep b o e), O.size⟩ (fun p hp => ?_) Y (fun p hp => Heap.lt_size (O.at_ p hp).1) hdp hu (BodyC.of rfl hQ hE rfl)
  rcases List.mem_append.mp hp with hp | hp
  · refine ⟨(NC p hp).1, (NC p hp).2.1, ?_⟩
    cases q : g.get? p.1 with
    | none => rfl
    | some o => have := O.keep _ _ q; rw [(NC p hp).2.2] at this; cases this
  · exact ⟨hk₁ _ _ (O.at_ p hp).1, Nat.ne_of_lt (Heap.lt_size (O.at_ p hp).1), (O.at_ p hp).2⟩
end
/-! the place of an octet -/
theorem bf_slot : Slot "bytes" "find" "bytes.find" :=
  .of (owner := "bytes") (n := "find") (by rw [typeLookup_type, builtinLookup_eq_fast]; kernel_rfl) (by decide +kernel) (by decide +kernel) (by decide +kernel)
    (by first | exact .inl (by decide +kernel) | exact .inr (by decide +kernel)) (by rw [isSubtype_type]; kernel_rfl)
theorem bf_entry : entryFor table "bytes.find" = some Builtin.«bytes.find» := entryFor_of_tree (by kernel_rfl)
theorem bf_args2 (a b : Value) : argsOk "bytes.find" ⟨[a, b], []⟩ := by unfold argsOk; kernel_rfl
theorem bf_args3 (a b c : Value) : argsOk "bytes.find" ⟨[a, b, c], []⟩ := by unfold argsOk; kernel_rfl
theorem bf_type : typeOf (.builtin "bytes.find") = pure (.type "method_descriptor") := by show builtinType _ = _; rw [builtinType_eq_fast]; kernel_rfl
theorem bf_index : specialOf (.int i t) "__index__" = pure (some (.builtin "int.__index__")) := by kernel_rfl
noncomputable def findV (b sub : Array UInt8) (lo : Nat) : Int := match (if (b.size : Int) - (lo : Int) < (sub.size : Int) then none else some (lo, b.size)).bind (fun x => Builtin.Bytes.find? b sub x.1 x.2) with
  | some i => (i : Int)
  | none => -1
section
variable {prog : Program} {w : World} {A : Around} {E : Value → Shared → Prop} {s : Shared} {b sub : Array UInt8} {t u v : Tok} {i : Int}
theorem find_end {w' : Option (Nat × Nat)} {Q : PySem.Fin → Shared → Prop} {x : Int} (hx : (match w'.bind (fun x => Builtin.Bytes.find? b sub x.1 x.2) with | some i => (i : Int) | none => -1) = x) (h : ∀ t' k, Q (.done (.ret (.int x t'))) { s with toks := k }) :
    wpAny (model prog w) A (match w'.bind fun (lo, hi) => if false = true then Builtin.Bytes.rfind? b sub lo hi else Builtin.Bytes.find? b sub lo hi with
      | some i => retInt i
      | none => (do rule "bytes.find.not-found"; if false = true then raiseError "ValueError" "subsection not found" else retInt (-1) : Sem PySem.Fin)) Q E s := by
  subst hx
  simp only [Bool.false_eq_true, if_false]
  split
  · rename_i j hj
    rw [hj] at h
    exact wpAny_bind (wpAny_mkInt (wpAny_pure (h _ _)))
  · rename_i hj
    rw [hj] at h
    exact wpAny_bind (wpAny_rule (wpAny_bind (wpAny_mkInt (wpAny_pure (h _ _)))))
theorem call_find1 {Q : Value → Shared → Prop} (h : ∀ t' k, Q (.int (findV b sub 0) t') { s with toks := k }) : wpAny (model prog w) A (call (.builtin "bytes.find") [.bytes b t, .bytes sub u]) Q E s := by
  refine wpAny_call (codeAny_call_builtin bf_slot.plain bf_entry (bf_slot.check _ _ _ _ _ _ _ _ (typeIs_bytes _ _ _) (bf_args2 _ _) ?_))
  unfold Builtin.«bytes.find» Builtin.Bytes.searchM
  refine wpAny_bind ?_
  unfold Builtin.Bytes.searchArgs
  refine wpAny_bind (wpAny_of_eq (a := (Value.bytes b t, [Value.bytes sub u])) rfl ?_)
  refine wpAny_bind (wpAny_of_eq (a := none) rfl ?_)
  refine wpAny_bind (wpAny_of_eq (a := none) rfl ?_)
  refine wpAny_bind (wpAny_of_eq KBy.buffer_eq ?_)
  refine wpAny_bind (wpAny_pure ?_)
  refine wpAny_bind (wpAny_of_eq (a := b) rfl ?_)
  refine wpAny_pure ?_
  exact find_end (x := findV b sub 0) (by have h0 : ¬ ((b.size : Int) < 0) := by lia
                                          simp [findV, h0]) fun t' k => h t' k
theorem call_find2 {lo : Nat} {Q : Value → Shared → Prop} (hi : i = (lo : Int)) (h : ∀ t' k, Q (.int (findV b sub lo) t') { s with toks := k }) : wpAny (model prog w) A (call (.builtin "bytes.find") [.bytes b t, .bytes sub u, .int i v]) Q E s := by
  subst hi
  refine wpAny_call (codeAny_call_builtin bf_slot.plain bf_entry (bf_slot.check _ _ _ _ _ _ _ _ (typeIs_bytes _ _ _) (bf_args3 _ _ _) ?_))
  unfold Builtin.«bytes.find» Builtin.Bytes.searchM
  refine wpAny_bind ?_
  unfold Builtin.Bytes.searchArgs
  refine wpAny_bind (wpAny_of_eq (a := (Value.bytes b t, [Value.bytes sub u, Value.int lo v])) rfl ?_)
  refine wpAny_bind ?_
  show wpAny _ _ (specialOf (.int (lo : Int) v) "__index__" >>= _) _ _ _
  refine wpAny_bind (wpAny_of_eq bf_index ?_)
  refine wpAny_bind (wpAny_of_eq (a := (lo : Int)) rfl (wpAny_pure ?_))
  refine wpAny_bind (wpAny_of_eq (a := none) rfl ?_)
  refine wpAny_bind (wpAny_of_eq KBy.buffer_eq ?_)
  refine wpAny_bind (wpAny_pure ?_)
  refine wpAny_bind (wpAny_of_eq (a := b) rfl ?_)
  refine wpAny_pure ?_
  exact find_end (x := findV b sub lo) (by have h0 : ¬ ((b.size : Int) < 0) := by lia
                                           have h1 : ¬ ((lo : Int) < 0) := by lia
                                           simp [findV, h0, h1]) fun t' k => h t' k
theorem bf_method {x : Array UInt8} {t : Tok} {pl : Sem Bool} {Q : Value × List Value → Shared → Prop} (h : Q (.builtin "bytes.find", [.bytes x t]) s) : wpAny (model prog w) A (getMethod (.bytes x t) "find" pl) Q E s :=
  getMethod_builtin (typeIs_bytes _ _ _) FB.plainAttrs_bytes bf_slot bf_type (fun _ e => nomatch e) h
end
theorem extract_one {x : List UInt8} {c : UInt8} {i : Nat} : ((x.toArray.extract i (i + 1)) == (#[c] : Array UInt8)) = decide (x[i]? = some c) := by
  have e : x.toArray.extract i (i + 1) = ((x.drop i).take 1).toArray := by
    rw [List.extract_toArray]
    simp
  rw [e]
  by_cases hi : i < x.length
  · rw [List.drop_eq_getElem_cons hi, List.getElem?_eq_getElem hi, List.take_succ_cons, List.take_zero]
    by_cases hc : x[i] = c
    · simp [hc]
    · simp [hc]
  · rw [List.drop_eq_nil_of_le (by lia), List.getElem?_eq_none (by lia)]
    rfl
theorem findV_spec (x : List UInt8) (c : UInt8) (lo : Nat) : (findV x.toArray #[c] lo = -1 ∧ ∀ i, lo ≤ i → x[i]? ≠ some c) ∨ (∃ j : Nat, findV x.toArray #[c] lo = j ∧ lo ≤ j ∧ x[j]? = some c ∧ ∀ i, lo ≤ i → i < j → x[i]? ≠ some c) := by
  unfold findV
  by_cases hlo : (x.toArray.size : Int) - (lo : Int) < ((#[c] : Array UInt8).size : Int)
  · rw [if_pos hlo]
    refine .inl ⟨rfl, fun i hi e => ?_⟩
    have : i < x.length := (List.getElem?_eq_some_iff.mp e).1
    simp at hlo; lia
  · rw [if_neg hlo]
    simp only [Option.bind_some]
    unfold Builtin.Bytes.find?
    simp only [List.size_toArray, List.length_cons, List.length_nil] at hlo ⊢
    rcases hf : ((List.range (x.length + 1 - (lo + (0 + 1)))).map (· + lo)).find? (fun i => x.toArray.extract i (i + (0 + 1)) == (#[c] : Array UInt8)) with _ | j
    · left
      refine ⟨by simp only [hf], fun i hi e => ?_⟩
      have hl : i < x.length := (List.getElem?_eq_some_iff.mp e).1
      have := List.find?_eq_none.mp hf i (List.mem_map.mpr ⟨i - lo, List.mem_range.mpr (by lia), by lia⟩)
      rw [extract_one] at this
      exact this (decide_eq_true e)
    · right
      have hj := List.mem_of_find?_eq_some hf
      obtain ⟨k, hk, rfl⟩ := List.mem_map.mp hj
      have hk := List.mem_range.mp hk
      have hp := List.find?_some hf
      rw [extract_one] at hp
      refine ⟨k + lo, by simp only [hf], by lia, of_decide_eq_true hp, fun i h1 h2 e => ?_⟩
      have := List.find?_eq_some_iff_append.mp hf
      obtain ⟨_, as, bs, hab, hno⟩ := this
      have hi : i ∈ as := by
        have hlen : as.length = k := by
          have h3 := congrArg (fun l => l[as.length]?) hab
          simp at h3
          obtain ⟨h4, h5⟩ := List.getElem?_eq_some_iff.mp (by simpa using h3)
          simpa using h5
        have h6 := congrArg (fun l => l[i - lo]?) hab
        simp only [List.getElem?_map] at h6
        rw [List.getElem?_range (by lia), List.getElem?_append_left (by lia)] at h6
        simp only [Option.map_some, show i - lo + lo = i by lia] at h6
        exact List.mem_of_getElem? h6.symm
      have := hno i hi
      rw [extract_one] at this
      simp [e] at this
/-- a capture's octets -/
noncomputable def Cap.oct : Cap → List UInt8
  | .pos i => [(48 + i).toNat.toUInt8]
  | .txt b => b
theorem oneToNine {P : Int → Prop} (h1 : P 1) (h2 : P 2) (h3 : P 3) (h4 : P 4) (h5 : P 5) (h6 : P 6) (h7 : P 7) (h8 : P 8) (h9 : P 9) {i : Int} (a : 1 ≤ i) (b : i ≤ 9) : P i := by
  have : i = 1 ∨ i = 2 ∨ i = 3 ∨ i = 4 ∨ i = 5 ∨ i = 6 ∨ i = 7 ∨ i = 8 ∨ i = 9 := by lia
  rcases this with rfl | rfl | rfl | rfl | rfl | rfl | rfl | rfl | rfl <;> assumption
theorem enc_ascii {i : Int} (a : 1 ≤ i) (b : i ≤ 9) (t u : Tok) : Builtin.«str.encode» ⟨[.str (Str.ofString (toString i)) t, .str "ascii" u], []⟩ = (do ret (← mkBytes (Cap.oct (.pos i)).toArray)) :=
  oneToNine (P := fun i => Builtin.«str.encode» ⟨[.str (Str.ofString (toString i)) t, .str "ascii" u], []⟩ = (do ret (← mkBytes (Cap.oct (.pos i)).toArray))) (by kernel_rfl) (by kernel_rfl) (by kernel_rfl) (by kernel_rfl) (by kernel_rfl) (by kernel_rfl) (by kernel_rfl) (by kernel_rfl) (by kernel_rfl) a b
theorem enc_plain {i : Int} (a : 1 ≤ i) (b : i ≤ 9) (t : Tok) : Builtin.«str.encode» ⟨[.str (Str.ofString (toString i)) t], []⟩ = (do ret (← mkBytes (Cap.oct (.pos i)).toArray)) :=
  oneToNine (P := fun i => Builtin.«str.encode» ⟨[.str (Str.ofString (toString i)) t], []⟩ = (do ret (← mkBytes (Cap.oct (.pos i)).toArray))) (by kernel_rfl) (by kernel_rfl) (by kernel_rfl) (by kernel_rfl) (by kernel_rfl) (by kernel_rfl) (by kernel_rfl) (by kernel_rfl) (by kernel_rfl) a b
section
variable {prog : Program} {w : World} {A : Around} {E : Value → Shared → Prop} {s : Shared} {i : Int} {t u : Tok}
theorem call_enc_ascii {Q : Value → Shared → Prop} (a : 1 ≤ i) (b : i ≤ 9) (h : ∀ t' k, Q (.bytes (Cap.oct (.pos i)).toArray t') { s with toks := k }) : wpAny (model prog w) A (call (.builtin "str.encode") [.str (Str.ofString (toString i)) t, .str "ascii" u]) Q E s := by
  refine wpAny_call (codeAny_call_builtin PySem.F.slot_str_encode.plain PySem.F.entry_str_encode (PySem.F.slot_str_encode.check _ _ _ _ _ _ _ _ (typeIs_str _ _ _) (PySem.F.args_str_encode_2 _ _) ?_))
  rw [enc_ascii a b]
  exact wpAny_bind (wpAny_mkBytes (wpAny_pure (h _ _)) (by rw [sizeLine_eq]; show (1 : Nat) ≤ _; decide))
theorem call_enc_plain {Q : Value → Shared → Prop} (a : 1 ≤ i) (b : i ≤ 9) (h : ∀ t' k, Q (.bytes (Cap.oct (.pos i)).toArray t') { s with toks := k }) : wpAny (model prog w) A (call (.builtin "str.encode") [.str (Str.ofString (toString i)) t]) Q E s := by
  refine wpAny_call (codeAny_call_builtin PySem.F.slot_str_encode.plain PySem.F.entry_str_encode (PySem.F.slot_str_encode.check _ _ _ _ _ _ _ _ (typeIs_str _ _ _) (PySem.F.args_str_encode_1 _) ?_))
  rw [enc_plain a b]
  exact wpAny_bind (wpAny_mkBytes (wpAny_pure (h _ _)) (by rw [sizeLine_eq]; show (1 : Nat) ≤ _; decide))
theorem method_enc {x : Str} {pl : Sem Bool} {Q : Value × List Value → Shared → Prop} (h : Q (.builtin "str.encode", [.str x t]) s) : wpAny (model prog w) A (getMethod (.str x t) "encode" pl) Q E s :=
  GM.of (.str x t) (typeIs_str _ _ _) PySem.F.slot_str_encode PySem.F.type_str_encode GM.noRef h
end
/-! a method of a call's value; isinstance -/
section
variable {c : Cx} {F : FD} {lm : Lm} {nw : Led} {pos apos cp xp yp zp : Pos} {a0 e e1 : PySem.Expr} {es as : List PySem.Expr} {kw : List Keyword} {x y z name : Str} {R : Value → Led → Prop} {g g1 : Tok → Value} {f : Value} {Rs : List Value → Prop}
theorem eval_MethodC (hl : (apos.endLine == pos.line) = true) (hs : es.all simpE = true) (hlen : es.length < 30) (env : Env) : eval (.Call (.Attribute (.Call (.Name z zp) (a0 :: as) kw cp) name apos) es [] pos) env = (do
    let ov ← eval (.Call (.Name z zp) (a0 :: as) kw cp) env
    standAt apos.atName
    let (f, first) ← holding [ov] (getMethod ov name (do return (← importBound (.Call (.Name z zp) (a0 :: as) kw cp) env).getD true))
    callWith pos f first (backTo pos (starEach es env)) []) := by
  have hform : methodCallForm (es.length + 0) (backTo pos (starEach es env)) [] = true := by
    unfold methodCallForm
    have : (backTo pos (starEach es env)).all (!·.1) = true := by
      have h := star_all (env := env) (pos := pos) hs
      rw [List.any_eq_false] at h
      rw [List.all_eq_true]
      intro x hx; have := h x hx; simpa using this
    rw [this]; simp; lia
  show (do
    let ov ← attributeBase (.Call (.Name z zp) (a0 :: as) kw cp) name env (eval (.Call (.Name z zp) (a0 :: as) kw cp) env)
    standAt apos.atName
    methodCall (.Call (.Name z zp) (a0 :: as) kw cp) name apos pos env ov (es.length + 0) (backTo pos (starEach es env)) (backToKw pos (keywordEach [] env))) = _
  unfold methodCall
  show (do
    let ov ← eval (.Call (.Name z zp) (a0 :: as) kw cp) env
    standAt apos.atName
    let (f, first) ← holding [ov] (calleeOf (methodCallForm (es.length + 0) (backTo pos (starEach es env)) []) (.Call (.Name z zp) (a0 :: as) kw cp) env ov name)
    let callPos ← methodCallPos (methodCallForm (es.length + 0) (backTo pos (starEach es env)) []) (.Call (.Name z zp) (a0 :: as) kw cp) env apos pos
    callWith callPos f first (backTo pos (starEach es env)) []) = _
  rw [hform]
  unfold calleeOf methodCallPos
  rw [hl]
  rfl
theorem jx_methC0 (ho : JA c F lm nw (.Call (.Name z zp) (a0 :: as) kw cp) g) (hm : ∀ t, HasM c F lm nw (g t) name f) (hk : Kept c.w f) (hc : ∀ t, JX c F lm nw (call f [g t]) R) (hl : (apos.endLine == pos.line) = true := by rfl) : JE c F lm nw (.Call (.Attribute (.Call (.Name z zp) (a0 :: as) kw cp) name apos) [] [] pos) R :=
  JX.bind2 (t2 := fun v => getMethod v name _) (f := fun _ fx => callWith pos fx.1 fx.2 (backTo pos (starEach [] (F.env c.L))) []) (R2 := fun _ r n => n = nw ∧ ∃ t, r = (f, [g t])) (fun _ _ z => MethodCall_ z (eval_MethodC hl rfl (by decide) _)) ho (fun a n ⟨e, t, e'⟩ => by subst e e'; exact JX.mono (hm t _) fun _ _ ⟨e, e'⟩ => ⟨e, t, e'⟩)
    fun a b n ⟨e, t, e'⟩ => by subst e e'; exact jx_callWith0 (first := [g t]) hk (hc t)
theorem jx_methC1 (ho : JA c F lm nw (.Call (.Name z zp) (a0 :: as) kw cp) g) (hm : ∀ t, HasM c F lm nw (g t) name f) (hk : Kept c.w f) (h1 : JA c F lm nw e1 g1) (hc : ∀ t u, JX c F lm nw (call f [g t, g1 u]) R) (hl : (apos.endLine == pos.line) = true := by rfl) (hs : simpE e1 = true := by rfl) : JE c F lm nw (.Call (.Attribute (.Call (.Name z zp) (a0 :: as) kw cp) name apos) [e1] [] pos) R :=
  JX.bind2 (t2 := fun v => getMethod v name _) (f := fun _ fx => callWith pos fx.1 fx.2 (backTo pos (starEach [e1] (F.env c.L))) []) (R2 := fun _ r n => n = nw ∧ ∃ t, r = (f, [g t])) (fun _ _ z => MethodCall_ z (eval_MethodC hl (by simp [hs]) (by simp) _)) ho (fun a n ⟨e, t, e'⟩ => by subst e e'; exact JX.mono (hm t _) fun _ _ ⟨e, e'⟩ => ⟨e, t, e'⟩)
    fun a b n ⟨e, t, e'⟩ => by subst e e'; exact jx_callWith (first := [g t]) hk (by simp [hs]) (jargs_cons h1 hs jargs0) fun vs ⟨u, _, e, e'⟩ => by subst e e'; exact hc t u
theorem hm_enc {z : Str} {t : Tok} : HasM c F lm nw (.str z t) "encode" (.builtin "str.encode") := fun _ s _ _ _ _ Fm _ N hQ => method_enc (hQ _ s.heap s.toks nw ⟨rfl, rfl⟩ Fm N)
theorem js_lit {z : Str} {k} : JA c F lm nw (.Constant (.str z) k pos) (Value.str z) := JQ.rule fun _ _ _ _ _ _ _ hQ => wpAny_Constant_str (hQ _ _)
theorem js_str {i : Int} (hf : (x, .type "str") ∈ F.bl) (h : JI c F lm nw e i) (h9 : i.natAbs < 1000) (hs : simpE e = true := by rfl) : JA c F lm nw (.Call (.Name x xp) [e] [] pos) (Value.str (Str.ofString (toString i))) :=
  jx_name1 (ja_blt hf) kept_type h (fun _ => JQ.rule fun _ _ _ _ _ _ _ hQ => str_of_int_fit (N := 1000) (by lia) (by decide) fun _ => hQ _ _) hs
theorem jc_isB {v : Value} {r : Bool} (hf : (x, .builtin "isinstance") ∈ F.bl) (hy : (y, .type "bytes") ∈ F.bl) (h : JV c F lm nw e v) (hv : (r = true ∧ E2 fun b t => v = .bytes b t) ∨ r = false ∧ E2 fun n t => v = .int n t) (hs : simpE e = true := by rfl) : JC c F lm nw (.Call (.Name x xp) [e, .Name y yp] [] pos) r :=
  jx_name2 (ja_blt hf) kept_builtin h (ja_blt hy) (fun _ _ => fun s m Q ok hn Fm hm N hQ => by
    rcases hv with ⟨rfl, b, t, rfl⟩ | ⟨rfl, n, t, rfl⟩
    · exact kia_one kitx_bytes (ok.X.keeps Fm.keep) trivial (by kit_is) (by kit_nb) fun tk => hQ _ s.heap tk nw ⟨rfl, 0, rfl⟩ Fm N
    · exact kia_one kitx_int (ok.X.keeps Fm.keep) trivial (by kit_is) (by kit_nb) fun tk => hQ _ s.heap tk nw ⟨rfl, 0, rfl⟩ Fm N) hs rfl
end
section
variable {w : World} {mean : ExcName → Option Value} {mg mb : Str → Option Value}
theorem c_text {c : Cap} {v : Value} (hc : c.Is v) (hp : ∀ i, c = .pos i → 1 ≤ i ∧ i ≤ 9) : Con w mean mg mb (.ref 28) [v] [] 6 30 (fun r own' => own' = [] ∧ ∃ u, r = .bytes c.oct.toArray u) := by
  refine con_js ([("value", v)]) ([]) ([]) ([("isinstance", .builtin "isinstance"), ("bytes", .type "bytes"), ("str", .type "str")]) (by k_dflt k_is) (by k_dflt k_is) (by kernel_rfl) (by end_is "j gl") (by end_is "j bl") (by exact fun _ _ => BindsTo.of_eq rfl) ?_
  intro dp un gd outer base g L
  simp only [List.map, List.cons_append, List.nil_append]
  cases c with
  | pos i =>
    obtain ⟨t, rfl⟩ := hc
    obtain ⟨h1, h9⟩ := hp i rfl
    refine js_ret (ja_ite (p := false) (jt_c (jc_isB (by end_is "j in") (by end_is "j in") (ja_loc (by end_is "j in")) (.inr ⟨rfl, _, _, rfl⟩))) (fun h => nomatch h) fun _ => jx_methC1 (js_str (by end_is "j in") (by end_is "j") (by lia)) (fun _ => hm_enc) kept_builtin js_lit fun _ _ => JQ.rule fun _ _ _ _ _ _ _ hQ => call_enc_ascii h1 h9 fun _ _ => hQ _ _) ?_
    exact fun t => ⟨rfl, t, rfl⟩
  | txt b =>
    obtain ⟨t, rfl⟩ := hc
    refine js_ret (ja_ite (p := true) (jt_c (jc_isB (by end_is "j in") (by end_is "j in") (ja_loc (by end_is "j in")) (.inl ⟨rfl, _, _, rfl⟩))) (fun _ => jb_loc (by end_is "j in")) fun h => nomatch h) ?_
    exact fun t => ⟨rfl, t, rfl⟩
end
/-! a contract of a call's code: for the defs that a class calls; the making of a Matcher -/
noncomputable def ConK (w : World) (mean : ExcName → Option Value) (mg mb : Str → Option Value) (f : Value) (vs : List Value) (own : Led) (cost ucost : Nat) (R : Value → Led → Prop) : Prop :=
  ∀ (dp un : Nat) (gd : Option (List Code)) (outer : List Env) (g : Heap) (s : Shared) (RR : Result → Shared → Prop),
    Wd w mean mg mb outer g → Own g s.heap own → dp + cost < recursionLimit → un + ucost < cLine →
    (∀ r own' h' tk', R r own' → Own g h' own' → RR (.ok (.ret r)) { s with heap := h', toks := tk' }) →
    codeAny (model PySem.Challenge.rw_nt0643_01.row.prog w) (cA dp un gd outer) (.call f ⟨vs, []⟩) RR s
section
variable {w : World} {mean : ExcName → Option Value} {mg mb : Str → Option Value}
theorem conK_enter {f : Addr} {name qual : Str} {params : Arguments} {body : List Stmt} {scope : Scope} {dV kV doc pm cdv ct oc : Value} {an od : Option Addr} {osl : Array (Option Value)}
    {vs : List Value} {binds : List (Str × Value)} {own : Led} {cost ucost : Nat} {R : Value → Led → Prop}
    (ho : (hd.heap_39 w.params).lookup f = some ⟨oc, od, .func (fnOf name qual params body scope dV kV doc pm an cdv ct), osl⟩)
    (hcd : codeIn (hd.heap_39 w.params) cdv qual = true)
    (hbind : ∀ s : Shared, (hd.heap_39 w.params).In s.heap → BindsTo s (fnOf name qual params body scope dV kV doc pm an cdv ct) ⟨vs, []⟩ binds)
    (hloc : ∀ y ∈ binds, scope.names.lookup y.1 = some .local)
    (h : ∀ (dp un : Nat) (gd : Option (List Code)) (outer : List Env) (base g : Heap) (s : Shared) (L' : Addr) (h₁ : Heap) (Q : Value → Shared → Prop),
      Below (cA dp un gd outer) base outer g → (hd.heap_39 w.params).In g → Top topProg gl mean mg mb g →
      Fr g L' h₁ (fun y => binds.reverse.lookup y) → News g L' h₁ own → (∀ p ∈ own, p.1 < L') → dp + cost < recursionLimit → un + ucost < cLine →
      (∀ r own' h' tk' m', Fr g L' h' m' → News g L' h' own' → R r own' → Q r { s with heap := h', toks := tk' }) →
      wpAny (model PySem.Challenge.rw_nt0643_01.row.prog w) ((cA dp un gd outer).deeper (envOf qual scope L' f cdv)) (execs body (envOf qual scope L' f cdv))
        (fun fl s' => Q (match fl with | .ret v => v | _ => .none) s') (fun _ _ => False) { s with heap := h₁, toks := s.toks + binds.length })
    (hc : 0 < cost) (hco : scope.isCoroutine = false) (hgen : scope.isGenerator = false) (hk : scope.kind = .function) (hcell : ∀ x ∈ scope.names, x.2 ≠ .cell) :
    ConK w mean mg mb (.ref f) vs own cost ucost R := by
  intro dp un gd outer g s RR W O hdp hu hQ
  obtain ⟨base, hst, hff⟩ := W.B
  have X := W.K
  have X' : (hd.heap_39 w.params).In s.heap := X.keeps O.keep
  refine codeAny_call_def (fd := fnOf name qual params body scope dV kV doc pm an cdv ct) (body := body) (binds := binds) (by show dp < _; lia) (X' _ _ ho) rfl (W.T.nolimit.keeps O.keep) (codeRec_of X' hcd) rfl (hbind s X') hcell hloc (fun h₁ hns hk₁ => ?_) hco hgen hk
  refine wpAny_mono (h dp un gd outer base g s s.heap.objs.size h₁ (fun v s' => RR (.ok (.ret v)) s') ⟨rfl, hst, hff⟩ X W.T ⟨hns, fun b o e => hk₁ b o (O.keep b o e), O.size⟩
    (fun p hp => ⟨hk₁ _ _ (O.at_ p hp).1, Nat.ne_of_lt (Heap.lt_size (O.at_ p hp).1), (O.at_ p hp).2⟩) (fun p hp => Heap.lt_size (O.at_ p hp).1) hdp hu ?_) (fun fl s' x => x) (fun _ _ x => x.elim)
  intro r own' h' tk' m' F' N' hR
  refine hQ r own' h' tk' hR ⟨F'.keep, ?_, fun p hp => ⟨(N' p hp).1, (N' p hp).2.2⟩⟩
  obtain ⟨o, _, _, ho', _⟩ := F'.ns
  exact Nat.le_of_lt (Nat.lt_of_le_of_lt F'.above (Heap.lt_size ho'))
theorem conK_use {f : Value} {vs : List Value} {own : Led} {cost ucost : Nat} {R : Value → Led → Prop} (C : ConK w mean mg mb f vs own cost ucost R)
    {dp un : Nat} {gd : Option (List Code)} {env : Env} {outer : List Env} {A₀ : Around} {base h₀ : Heap} {L : Addr} {m : Str → Option Value} {news rest : Led} {s : Shared} {RR : Result → Shared → Prop}
    (B : Below A₀ base outer h₀) (F : Fr h₀ L s.heap m) (X : (hd.heap_39 w.params).In h₀) (N : News h₀ L s.heap news) (T : Top topProg gl mean mg mb h₀)
    (hf : env.frame = some L) (hk : env.scope.kind = .function)
    (hown : ∀ p ∈ own, p ∈ news) (hrest : ∀ p ∈ rest, p ∈ news) (hne : ∀ p ∈ rest, p.1 ∉ own.map (·.1))
    (hdp : dp + cost < recursionLimit) (hu : un + ucost < cLine)
    (h : ∀ r own' h' tk', R r own' → Fr h₀ L h' m → News h₀ L h' (own' ++ rest) → (∀ p ∈ own', ∀ q ∈ rest, q.1 ≠ p.1) → RR (.ok (.ret r)) { s with heap := h', toks := tk' }) :
    codeAny (model PySem.Challenge.rw_nt0643_01.row.prog w) (cA dp un gd (env :: outer)) (.call f ⟨vs, []⟩) RR s := by
  have N' : News h₀ L s.heap own := fun p hp => N p (hown p hp)
  obtain ⟨FG, BG, st, -⟩ := groundX (A := cA dp un gd (env :: outer)) (R := fun _ _ => True) B F N' rfl hf hk
  refine C dp un gd (env :: outer) _ s RR ⟨X.keeps st, T.keeps st, base, BG.stays, BG.frames⟩ ⟨fun b o e => of_hideAll _ e, Nat.le_of_eq (hideAll_size _ _), fun p hp => ⟨(N' p hp).1, hideAll_none _ (List.mem_map_of_mem hp)⟩⟩ hdp hu ?_
  intro r own' h' tk' hR O
  obtain ⟨oL, es, ep, hL, hLd, hLk, hLf⟩ := FG.ns
  have st' : ∀ b o, h₀.get? b = some o → h'.get? b = some o := fun b o e => O.keep b o (st b o e)
  have hr : ∀ q ∈ rest, (hideAll s.heap (own.map (·.1))).get? q.1 = some q.2 := fun q hq => hideAll_get _ (N q (hrest q hq)).1 (hne q hq)
  refine h r own' h' tk' hR ⟨⟨oL, es, ep, O.keep L oL hL, hLd, hLk, hLf⟩, st', F.above⟩ (fun p hp => ?_) (fun p hp q hq e => ?_)
  · rcases List.mem_append.mp hp with hp | hp
    · refine ⟨(O.at_ p hp).1, fun e => ?_, ?_⟩
      · have := (O.at_ p hp).2; rw [e, hL] at this; cases this
      · cases e : h₀.get? p.1 with
        | none => rfl
        | some o => have := (O.at_ p hp).2; rw [st _ _ e] at this; cases this
    · exact ⟨O.keep _ _ (hr p hp), (N p (hrest p hp)).2⟩
  · have := (O.at_ p hp).2; rw [← e, hr q hq] at this; cases this
theorem c_init {x dx : Addr} {text pat : List UInt8} {tt tp : Tok} (hne : dx < x) (hz : (0 : UInt8) ∉ pat) (hl : pat.length ≤ 64) (ht : text.length ≤ 64) :
    ConK w mean mg mb (.ref 140) [.ref x, .bytes text.toArray tt, .bytes pat.toArray tp] [(x, instObj 274 dx), (dx, dictOf [] 0)] 12 60
      (fun v own' => v = .none ∧ ∃ P : MP, P.text = text ∧ P.pat = pat ∧ P.M = x ∧ P.Is w 0 0 [] [] own') := by
  have hFast : MeFast := MeFast.mk
  refine conK_enter (binds := [("self", .ref x), ("text", .bytes text.toArray tt), ("pattern", .bytes pat.toArray tp), ("depth", .int 60 379)]) (by k_dflt k_is) (by k_dflt k_is) (fun s X => BindsTo.of_defaults (T := 133) rfl (X 133 _ (by k_dflt k_is)) rfl rfl rfl) (by exact locs rfl) ?_ (by first | decide | lia) (by exact rfl) (by exact rfl) (by exact rfl) (by decide)
  intro dp un gd outer base g sh L' h₁ Q B X T F N hlt hdp hun hret
  (try dsimp only)
  k_fold
  have hfind : findV pat.toArray #[0] 0 = -1 := by
    rcases findV_spec pat 0 0 with h | ⟨j, h1, h2, h3, h4⟩
    · exact h.1
    · exact absurd (List.mem_of_getElem? h3) hz
  have hne3 : (dx : Nat) < (x : Nat) := hne
  have hne1 : x ≠ dx := Nat.ne_of_gt hne
  have hne2 : dx ≠ x := Nat.ne_of_lt hne
  repeat' ((fail_if_success (with_reducible show wpAny _ _ (exec (Stmt.While _ _ _ _) _) _ _ _)); (fail_if_success (with_reducible show wpAny _ _ (exec (Stmt.For _ _ _ _ _) _) _ _ _)); (fail_if_success (with_reducible show wpAny _ _ (exec (Stmt.Raise _ _ _) _) _ _ _)); (first | (k_unfold; (try dsimp only)) | walk1 | (dsimp only; walk1) | (leave1; try dsimp only)))
  refine bf_method ?_
  repeat' ((fail_if_success (with_reducible show wpAny _ _ (exec (Stmt.While _ _ _ _) _) _ _ _)); (fail_if_success (with_reducible show wpAny _ _ (exec (Stmt.For _ _ _ _ _) _) _ _ _)); (fail_if_success (with_reducible show wpAny _ _ (exec (Stmt.Raise _ _ _) _) _ _ _)); (first | (k_unfold; (try dsimp only)) | walk1 | (dsimp only; walk1) | (leave1; try dsimp only)))
  refine call_find1 ?_
  intro _ _
  repeat' ((fail_if_success (with_reducible show wpAny _ _ (exec (Stmt.While _ _ _ _) _) _ _ _)); (fail_if_success (with_reducible show wpAny _ _ (exec (Stmt.For _ _ _ _ _) _) _ _ _)); (fail_if_success (with_reducible show wpAny _ _ (exec (Stmt.Raise _ _ _) _) _ _ _)); (first | (k_unfold; (try dsimp only)) | walk1 | (dsimp only; walk1) | (leave1; try dsimp only)))
  all_goals (try dsimp only)
  all_goals rename_i la _ l1a _ _ lb _ l1b _ F' N'
  all_goals (refine hret _ ((⟨x, dx, text, pat, _, _, _, _, _, _, _, _, _, _⟩ : MP).own w 0 0 _ _ la lb [] [] 0 0) _ _ _ (by k_asm) (by refine' cb_drop ?N ?S; (case N => k_asm); (case S => ((repeat refine List.forall_mem_cons.mpr ⟨by k_mem, ?_⟩); exact List.forall_mem_nil _))) ⟨rfl, _, rfl, rfl, rfl, _, _, _, _, _, _, _, _, rfl, .nil, .nil, by unfold Dist; dsimp only; refine ⟨hne1, ?_, ?_, ?_, ?_, ?_⟩ <;> first | assumption | lia⟩)
theorem make_use {dp un : Nat} {gd : Option (List Code)} {env : Env} {outer : List Env} {A₀ : Around} {base h₀ : Heap} {L : Addr} {m : Str → Option Value} {news : Led} {s : Shared} {Q E : Value → Shared → Prop} {text pat : List UInt8} {tt tp : Tok}
    (B : Below A₀ base outer h₀) (F : Fr h₀ L s.heap m) (X : (hd.heap_39 w.params).In h₀) (N : News h₀ L s.heap news) (T : Top topProg gl mean mg mb h₀)
    (hf : env.frame = some L) (hk : env.scope.kind = .function) (hz : (0 : UInt8) ∉ pat) (hl : pat.length ≤ 64) (ht : text.length ≤ 64)
    (hdp : dp + 20 < recursionLimit) (hu : un + 100 < cLine)
    (h : ∀ (P : MP) own' h' tk', P.text = text → P.pat = pat → P.Is w 0 0 [] [] own' → Fr h₀ L h' m → News h₀ L h' (own' ++ news) → (∀ p ∈ own', ∀ q ∈ news, q.1 ≠ p.1) → Q (.ref P.M) { s with heap := h', toks := tk' }) :
    wpAny (model PySem.Challenge.rw_nt0643_01.row.prog w) (cA dp un gd (env :: outer)) (call (.ref 274) [.bytes text.toArray tt, .bytes pat.toArray tp]) Q E s := by
  refine call_cls F X N (by k_is) (by k_is) (by k_is) fun x dx h' F' N' hlt hne => ?_
  show codeAny _ (cA (dp + 1) (un + 1) gd (env :: outer)) _ _ _
  refine conK_use (own := [(x, instObj 274 dx), (dx, dictOf [] 0)]) (rest := news) (c_init (dx := dx) hne hz hl ht) B F' X N' T hf hk (fun p hp => ?_) (fun p hp => .tail _ (.tail _ hp)) (fun p hp hm => ?_) (by lia) (by lia) ?_
  · rcases List.mem_cons.mp hp with rfl | hp
    · exact .head _
    · rcases List.mem_cons.mp hp with rfl | hp
      · exact .tail _ (.head _)
      · nomatch hp
  · have h1 := hlt p hp
    simp only [List.map_cons, List.map_nil, List.mem_cons, List.not_mem_nil, or_false] at hm
    rcases hm with hm | hm
    · exact absurd hm (Nat.ne_of_lt (Nat.lt_trans h1 hne))
    · exact absurd hm (Nat.ne_of_lt h1)
  · rintro r own' h' tk' ⟨rfl, P, rfl, rfl, rfl, hI⟩ F N hap
    exact ⟨rfl, h P own' h' tk' rfl rfl hI F N hap⟩
end
/-! the text's own exception -/
theorem exc_cls {w : World} {h : Heap} (X : (hd.heap_39 w.params).In h) : h.get? 59 = some (excClassObj "LuaError" "LuaError" 59 58 [.type "Exception"] [.type "Exception", .type "BaseException", .type "object"] true [] [] false none none
    (some (.ref 43)) none (some (.str "LuaError" 237)) (some (.str "LuaError" 245)) (some (.bool true)) "Exception.__new__") := X 59 _ (by k_is)
theorem exc_base : ExcBaseFacts "Exception" "Exception.__new__" "Exception.__init__" [.type "Exception", .type "BaseException", .type "object"] := PySem.F.excBase_Exception
theorem exc_refuse (self : Value) : refuseLoop self "__setattr__" [.ref 59, .type "Exception", .type "BaseException", .type "object"] = pure () := by
  rw [refuseLoop_ref]
  kernel_rfl
section
variable {prog : Program} {w : World} {A : Around} {s : Shared} {R : Result → Shared → Prop}
theorem exc_mro {w' : World} (X : (hd.heap_39 w'.params).In s.heap) : Looks (model prog w) s.heap (mroOf (.ref 59)) [.ref 59, .type "Exception", .type "BaseException", .type "object"] :=
  (looks_clsIn X (by k_is : clsIn (hd.heap_39 w'.params) 59 = some _)).andThen .now
theorem exc_store {x : Addr} {ox : Obj} {od : Option Obj} {name : Str} {tk : Tok} {v : Value} (X : (hd.heap_39 w.params).In s.heap) (I : InstAt s.heap x ox 59 od)
    (ha : findIn (hd.heap_39 w.params) (.ref 59) name = some none)
    (h : wpAny (model prog w) A.in1 (Builtin.ObjectAttr.storeInOwnDict (.ref x) (.ref 59) (.str name tk) name v false)
      (fun fin s' => match fin with | PySem.Fin.done f => R (.ok f) s' | PySem.Fin.again c' => c'.quiet = true ∧ codeAny (model prog w) A c' R s') (fun e s' => R (.error e) s') s) :
    codeAny (model prog w) A (.call (.builtin "object.__setattr__") ⟨[.ref x, .str name tk, v], []⟩) R s := by
  have SF := PySem.F.store_object
  have hm := exc_mro (prog := prog) (w := w) X
  have sub : Looks (model prog w) s.heap (isInstance (.ref x) (.type "object")) true := I.type.andThen (looks_mroIn X (by k_is))
  refine codeAny_call_builtin SF.slot.plain SF.entry (@check_slot (model prog w) _ _ s "object.__setattr__" "object" "__setattr__" (.ref x) [.str name tk, v] [] _ SF.kind SF.split sub (SF.args (.ref x) (.str name tk) v) ?_)
  rw [osa_eq, refuse_eq]
  refine wpAny_bind (wpAny_bind (I.type.here (wpAny_bind (hm.here ?_))))
  rw [exc_refuse]
  refine wpAny_pure (wpAny_bind (I.type.here (wpAny_bind ((looks_findIn X ha).here (wpAny_bind ?_)))))
  exact wpAny_pure h
end
section
variable {prog : Program} {w : World} {A : Around} {s : Shared} {R : Result → Shared → Prop} {E : Value → Shared → Prop} {g : Heap} {L : Addr} {m : Str → Option Value}
theorem exc_storeIn {A' : Around} {dx : Addr} {name : Str} {tk : Tok} {v : Value} {pre post : Led} {es es' : List DictEntry} {n n' : Nat} (F : Fr g L s.heap m) (N : News g L s.heap (pre ++ (dx, dictOf es n) :: post)) (h1 : ∀ p ∈ pre, p.1 ≠ dx) (h2 : ∀ p ∈ post, p.1 ≠ dx)
    (hl : (getL name es).isSome = true) (e1 : putL name (PyData.keyHash w.params name) (.str name s.toks) v es = es') (e2 : putN name es n = n') (hz : es'.length ≤ 1000)
    (h : ∀ h', Fr g L h' m → News g L h' (pre ++ (dx, dictOf es' n') :: post) → R (.ok (.ret .none)) { s with heap := h', toks := s.toks + 1 }) :
    wpAny (model prog w) A (Builtin.ObjectAttr.storeInDict dx (.str name tk) name v)
      (fun fin s' => match fin with | PySem.Fin.done f => R (.ok f) s' | PySem.Fin.again c' => c'.quiet = true ∧ codeAny (model prog w) A' c' R s') E s := by
  obtain ⟨U1, U2⟩ := news_upd (o' := dictOf es' n') (f := Obj.putName name (PyData.keyHash w.params name) (.str name s.toks) v) F N h1 h2 (by rw [putName_dict, e1, e2]) rfl
  have D := (N (dx, dictOf es n) (by simp)).1
  have D' := (U2 (dx, dictOf es' n') (by simp)).1
  unfold Builtin.ObjectAttr.storeInDict
  refine wpAny_bind (wpAny_pure (wpAny_bind ?_))
  unfold nsSet
  refine wpAny_bind (wpAny_bind (wpAny_askSetting (wpAny_pure (wpAny_bind (wpAny_mkText (wpAny_bind (wpAny_loadPart D ?_)))))))
  dsimp only
  have c : (!(es.toArray).any (·.key.isStr name) && (es.toArray).any (·.refKey)) = false := by
    rw [← Array.any_toList, ← Array.any_toList]
    unfold getL at hl
    split at hl
    · rename_i en he
      rw [List.any_eq_true.mpr ⟨en, List.mem_of_find?_eq_some he, List.find?_some he⟩]; rfl
    · split at hl
      · cases hl
      · rename_i z; rw [Bool.not_eq_true] at z; rw [z, Bool.and_false]
  rw [aRefKeyMayBeTheName_at, c]
  refine wpAny_updatePart D ?_
  refine wpAny_bind (wpAny_lookBehind D' (by exact pastItsLine_dict (by rw [List.size_toArray, sizeLine_eq]; lia)) ?_)
  exact wpAny_pure (h _ U1 U2)
theorem exc_own {x d : Addr} {ox : Obj} {Q : PySem.Fin → Shared → Prop} {name : Str} {nameV v : Value} (X : (hd.heap_39 w.params).In s.heap) (hx : s.heap.get? x = some ox) (hc : ox.cls = .ref 59) (hd : ox.dict = some d)
    (h : wpAny (model prog w) A (Builtin.ObjectAttr.storeInDict d nameV name v) Q E s) : wpAny (model prog w) A (Builtin.ObjectAttr.storeInOwnDict (.ref x) (.ref 59) nameV name v false) Q E s := by
  obtain ⟨oc, odi, oda, osl⟩ := ox
  dsimp only at hc hd
  subst hc hd
  refine wpAny_bind (wpAny_pure (wpAny_bind (wpAny_bind (wpAny_loadPart hx (wpAny_bind ((looks_clsIn X (by k_is : clsIn (hd.heap_39 w.params) 59 = some _)).here ?_))))))
  exact wpAny_pure (a := some d) h
end
section
variable {prog : Program} {w : World} {A : Around} {s : Shared} {R : Result → Shared → Prop} {E : Value → Shared → Prop} {g : Heap} {L : Addr} {m : Str → Option Value}
/-- the first attribute of an exception: its dict is made -/
theorem exc_set1 {x : Addr} {f : Array Value} {rest : Led} {name : Str} {v : Value} {Q : Unit → Shared → Prop} (F : Fr g L s.heap m) (X₀ : (hd.heap_39 w.params).In g) (N : News g L s.heap ((x, ⟨.ref 59, none, .fields f, #[]⟩) :: rest)) (hap : ∀ p ∈ rest, p.1 ≠ x)
    (ha : findIn (hd.heap_39 w.params) (.ref 59) name = some none)
    (h : ∀ d h', Fr g L h' m → News g L h' ((d, dictOf [⟨PyData.keyHash w.params name, .str name (s.toks + 1), v⟩] (putN name [] 0)) :: (x, ⟨.ref 59, some d, .fields f, #[]⟩) :: rest) → (∀ p ∈ rest, p.1 ≠ d) → x ≠ d → Q () { s with heap := h', toks := s.toks + 2 }) :
    wpAny (model prog w) A (setAttr (.ref x) name v) Q E s := by
  have X := X₀.keeps F.keep
  have I : InstAt s.heap x ⟨.ref 59, none, .fields f, #[]⟩ 59 none := ⟨(N _ (.head _)).1, rfl, rfl, trivial⟩
  refine set_plain X I (by k_is) (exc_store (s := { s with toks := s.toks + 1 }) X I ha ?_)
  refine wpAny_bind (wpAny_pure (wpAny_bind (wpAny_bind (wpAny_loadPart (N _ (.head _)).1 (wpAny_bind ?_)))))
  refine Looks.here (s := { s with toks := s.toks + 1 }) (looks_clsIn X (by k_is : clsIn (hd.heap_39 w.params) 59 = some _)) ?_
  dsimp only
  have N1 := N.push F (dictOf [] 0)
  have F1 := F.push (dictOf [] 0)
  have hx1 : ∀ p ∈ (x, (⟨.ref 59, none, .fields f, #[]⟩ : Obj)) :: rest, p.1 < s.heap.objs.size := fun p hp => Heap.lt_size (N p hp).1
  have hxd : x < s.heap.objs.size := hx1 _ (.head _)
  obtain ⟨F2, N2⟩ := news_upd (pre := [(s.heap.objs.size, dictOf [] 0)]) (post := rest) (o' := ⟨.ref 59, some s.heap.objs.size, .fields f, #[]⟩) (f := fun o => { o with dict := some s.heap.objs.size }) F1 N1 (fun p hp => by rw [List.mem_singleton.mp hp]; exact Nat.ne_of_gt hxd) hap rfl rfl
  refine wpAny_bind (wpAny_alloc (wpAny_bind (wpAny_update (N1 _ (.tail _ (.head _))).1 ?_)))
  refine wpAny_pure ?_
  refine exc_storeIn (s := { s with toks := s.toks + 1, heap := (s.heap.push (dictOf [] 0)).update x fun o => { o with dict := some s.heap.objs.size } }) (R := fun r s' => match r with | .ok (.ret _) => Q () s' | .ok _ => False | .error e => E e s') (pre := []) (post := (x, ⟨.ref 59, some s.heap.objs.size, .fields f, #[]⟩) :: rest) F2 N2 (fun p hp => nomatch hp) (fun p hp => ?_) rfl rfl rfl (by show 1 ≤ 1000; decide) fun h' F' N' => ?_
  · rcases List.mem_cons.mp hp with rfl | hp
    · exact Nat.ne_of_lt hxd
    · exact Nat.ne_of_lt (hx1 _ (.tail _ hp))
  · exact h _ _ F' N' (fun p hp => Nat.ne_of_lt (hx1 _ (.tail _ hp))) (Nat.ne_of_lt hxd)
/-- a further attribute -/
theorem exc_set2 {x d : Addr} {f : Array Value} {pre post : Led} {name : Str} {v : Value} {es es' : List DictEntry} {n n' : Nat} {Q : Unit → Shared → Prop} (F : Fr g L s.heap m) (X₀ : (hd.heap_39 w.params).In g) (N : News g L s.heap (pre ++ (d, dictOf es n) :: post)) (hx : (x, (⟨.ref 59, some d, .fields f, #[]⟩ : Obj)) ∈ pre ++ (d, dictOf es n) :: post)
    (h1 : ∀ p ∈ pre, p.1 ≠ d) (h2 : ∀ p ∈ post, p.1 ≠ d)
    (ha : findIn (hd.heap_39 w.params) (.ref 59) name = some none) (hl : (getL name es).isSome = true) (e1 : putL name (PyData.keyHash w.params name) (.str name (s.toks + 1)) v es = es') (e2 : putN name es n = n') (hz : es'.length ≤ 1000)
    (h : ∀ h', Fr g L h' m → News g L h' (pre ++ (d, dictOf es' n') :: post) → Q () { s with heap := h', toks := s.toks + 2 }) :
    wpAny (model prog w) A (setAttr (.ref x) name v) Q E s := by
  have X := X₀.keeps F.keep
  have I : InstAt s.heap x ⟨.ref 59, some d, .fields f, #[]⟩ 59 (some (dictOf es n)) := ⟨(N _ hx).1, rfl, rfl, (N (d, dictOf es n) (by simp)).1⟩
  refine set_plain X I (by k_is) (exc_store (s := { s with toks := s.toks + 1 }) X I ha ?_)
  refine exc_own (ox := ⟨.ref 59, some d, .fields f, #[]⟩) X (N _ hx).1 rfl rfl ?_
  exact exc_storeIn (s := { s with toks := s.toks + 1 }) (R := fun r s' => match r with | .ok (.ret _) => Q () s' | .ok _ => False | .error e => E e s') F N h1 h2 hl e1 e2 hz fun h' F' N' => h h' F' N'
end
section
variable {w : World} {mean : ExcName → Option Value} {mg mb : Str → Option Value}
theorem c_initE {x : Addr} {v : Value} {f : Array Value} : ConK w mean mg mb (.ref 56) [.ref x, v] [(x, ⟨.ref 59, none, .fields f, #[]⟩)] 6 60
      (fun r own' => r = .none ∧ ∃ d, (x, (⟨.ref 59, some d, .fields f, #[]⟩ : Obj)) ∈ own') := by
  have hFast : MeFast := MeFast.mk
  refine conK_enter (binds := [("self", .ref x), ("value", v)]) (by k_dflt k_is) (by k_dflt k_is) (by exact fun _ _ => BindsTo.of_eq rfl) (by exact locs rfl) ?_ (by first | decide | lia) (by exact rfl) (by exact rfl) (by exact rfl) (by decide)
  intro dp un gd outer base g sh L' h₁ Q B X T F N hlt hdp hun hret
  (try dsimp only)
  k_fold
  repeat' ((fail_if_success (with_reducible show wpAny _ _ (exec (Stmt.While _ _ _ _) _) _ _ _)); (fail_if_success (with_reducible show wpAny _ _ (exec (Stmt.For _ _ _ _ _) _) _ _ _)); (fail_if_success (with_reducible show wpAny _ _ (exec (Stmt.Raise _ _ _) _) _ _ _)); (first | (k_unfold; (try dsimp only)) | walk1 | (dsimp only; walk1) | (leave1; try dsimp only)))
  (with_reducible rename Fr _ _ _ _ => F)
  (with_reducible rename News _ _ _ _ => N)
  refine exc_set1 F X N (fun p hp => nomatch hp) (by k_is) ?_
  clear F N
  intro d h' F N _ hxd
  repeat' ((fail_if_success (with_reducible show wpAny _ _ (exec (Stmt.While _ _ _ _) _) _ _ _)); (fail_if_success (with_reducible show wpAny _ _ (exec (Stmt.For _ _ _ _ _) _) _ _ _)); (fail_if_success (with_reducible show wpAny _ _ (exec (Stmt.Raise _ _ _) _) _ _ _)); (first | (k_unfold; (try dsimp only)) | walk1 | (dsimp only; walk1) | (leave1; try dsimp only)))
  (with_reducible rename Fr _ _ _ _ => F)
  (with_reducible rename News _ _ _ _ => N)
  rename_i l h2 l1
  refine exc_set2 (pre := [(l, W.listOf #[] 0)]) (post := [(x, ⟨.ref 59, some d, .fields f, #[]⟩)]) F X N (.tail _ (.tail _ (.head _))) (fun p hp => by rw [List.mem_singleton.mp hp]; exact Nat.ne_of_gt l1.1) (fun p hp => by rw [List.mem_singleton.mp hp]; exact hxd) (by k_is) (by rfl) rfl rfl (by exact Nat.le_of_ble_eq_true rfl) ?_
  clear F N
  intro h' F N
  repeat' ((fail_if_success (with_reducible show wpAny _ _ (exec (Stmt.While _ _ _ _) _) _ _ _)); (fail_if_success (with_reducible show wpAny _ _ (exec (Stmt.For _ _ _ _ _) _) _ _ _)); (fail_if_success (with_reducible show wpAny _ _ (exec (Stmt.Raise _ _ _) _) _ _ _)); (first | (k_unfold; (try dsimp only)) | walk1 | (dsimp only; walk1) | (leave1; try dsimp only)))
  (with_reducible rename Fr _ _ _ _ => F)
  (with_reducible rename News _ _ _ _ => N)
  exact hret _ _ _ _ _ F N ⟨rfl, d, .tail _ (.tail _ (.head _))⟩
/-- the class called: a new exception that bears its dict -/
theorem exc_call {dp un : Nat} {gd : Option (List Code)} {env : Env} {outer : List Env} {A₀ : Around} {base h₀ : Heap} {L : Addr} {m : Str → Option Value} {news : Led} {s : Shared} {Q E : Value → Shared → Prop} {v : Value}
    (B : Below A₀ base outer h₀) (F : Fr h₀ L s.heap m) (X : (hd.heap_39 w.params).In h₀) (N : News h₀ L s.heap news) (T : Top topProg gl mean mg mb h₀)
    (hf : env.frame = some L) (hk : env.scope.kind = .function) (hdp : dp + 12 < recursionLimit) (hu : un + 80 < cLine)
    (h : ∀ x d t h' tk', Fr h₀ L h' m → News h₀ L h' ((x, ⟨.ref 59, some d, .fields #[.ref t, .none, .none, .none, .bool false, .none], #[]⟩) :: news) → (∀ p ∈ news, p.1 ≠ x) → Q (.ref x) { s with heap := h', toks := tk' }) :
    wpAny (model PySem.Challenge.rw_nt0643_01.row.prog w) (cA dp un gd (env :: outer)) (call (.ref 59) [v]) Q E s := by
  have XS := X.keeps F.keep
  have hC := exc_cls XS
  refine wpAny_call ?_
  refine codeAny_of_tree ?_
  show wpAny _ _ (callAny (.ref 59) _) _ _ _
  refine nd_load hC ?_
  show wpAny _ _ (callAny.viaDunder (.ref 59) _) _ _ _
  unfold callAny.viaDunder
  refine wpAny_bind ((looks_specialIn XS (by k_is : specialIn (hd.heap_39 w.params) (.ref 59) "__call__" = some (some (.builtin "type.__call__")))).here ?_)
  dsimp only
  rw [tc_bind]
  refine wpAny_bind (wpAny_pure (wpAny_bind (wpAny_pure ?_)))
  refine wpAny_pure (a := PySem.Fin.again (.call (.builtin "type.__call__") ⟨.ref 59 :: [v], []⟩)) (And.intro rfl ?_)
  refine codeAny_call_builtin_at (Code.quiet_builtin _ (by decide +kernel)) entry_typeCall (check_slot tc_kind tc_split (looks_instIn XS (by k_is : instIn (hd.heap_39 w.params) (.ref 59) (.type "type") = some true)) (tc_args _ _ _) ?_)
  unfold Builtin.«type.__call__»
  obtain ⟨hp, gg, dd, tt, os⟩ := s
  have EB := exc_base
  repeat (first | with_reducible refine wpAny_loadPart_at hC ?_ | with_reducible refine wpAny_madeBy_exc hC ?_ | wp_step)
  refine codeAny_call_builtin_code (Code.quiet_builtin _ EB.quiet) (wpAny_check_new_sub EB hC ?_)
  refine codeAny_exc_new_sub EB hC ?_ (by size_fits)
  show wpAny _ _ _ _ _ _
  have hC₁ := Heap.get?_push_of_some { cls := .ref 59, data := .fields #[.ref hp.objs.size, .none, .none, .none, .bool false, .none] }
    (Heap.get?_push_of_some { cls := .type "tuple", data := .seq [v].toArray } hC)
  have F1 := F.push { cls := .type "tuple", data := .seq [v].toArray }
  have N1 := N.push F { cls := .type "tuple", data := .seq [v].toArray }
  have F2 := F1.push ⟨.ref 59, none, .fields #[.ref hp.objs.size, .none, .none, .none, .bool false, .none], #[]⟩
  have N2 := N1.push F1 ⟨.ref 59, none, .fields #[.ref hp.objs.size, .none, .none, .none, .bool false, .none], #[]⟩
  rw [Heap.size_push] at N2
  have hget := (N2 _ (.head _)).1
  have hcC : (Value.ref 59 :: [Value.type "Exception", .type "BaseException", .type "object"]).contains (.ref 59) = true := by simp
  unfold isInstance
  repeat (first | with_reducible refine wpAny_loadPart_at hget ?_ | (with_reducible refine wpAny_isSubtype_exc hC₁ ?_; rw [hcC]) | wp_step)
  show wpAny _ _ (typeLookup (.ref 59) _) _ _ _
  have XS2 := X.keeps F2.keep
  have lk := looks_findIn (M := model PySem.Challenge.rw_nt0643_01.row.prog w) XS2 (by k_is : findIn (hd.heap_39 w.params) (.ref 59) "__init__" = some (some (.ref 56)))
  refine Looks.here (s := ⟨_, gg, dd, tt, os⟩) lk ?_
  have lb := bind_fn (M := model PySem.Challenge.rw_nt0643_01.row.prog w) XS2 (.ref (hp.objs.size + 1)) (by k_is : typeIn (hd.heap_39 w.params) (.ref 56) = some (.type "function"))
  refine wpAny_holding (wpAny_bind (Looks.here (s := ⟨_, gg, dd, tt, os⟩) lb ?_))
  refine wpAny_bind (wpAny_call ?_)
  show codeAny _ (cA (dp + 1) (un + 1) gd (env :: outer)) (.call (.ref 56) ⟨[.ref (hp.objs.size + 1), v], []⟩) _ _
  refine conK_use (s := ⟨_, gg, dd, tt, os⟩) (own := [(hp.objs.size + 1, ⟨.ref 59, none, .fields #[.ref hp.objs.size, .none, .none, .none, .bool false, .none], #[]⟩)]) (rest := news) c_initE B F2 X N2 T hf hk (fun p hp => by rw [List.mem_singleton.mp hp]; exact .head _) (fun p hp => .tail _ (.tail _ hp)) (fun p hp' hm => ?_) (by lia) (by lia) ?_
  · have h1 : p.1 < hp.objs.size := Heap.lt_size (N p hp').1
    simp only [List.map_cons, List.map_nil, List.mem_singleton] at hm
    exact absurd hm (Nat.ne_of_lt (Nat.lt_succ_of_lt h1))
  · rintro r own' h' tk' ⟨rfl, d, hm⟩ F' N' hap
    refine wpAny_pure ?_
    refine wpAny_pure ?_
    exact h _ d _ h' tk' F' (cb_drop N' fun p hp => by rcases List.mem_cons.mp hp with rfl | hp; exact List.mem_append_left _ hm; exact List.mem_append_right _ hp) fun p hp => hap _ hm p hp
end
section
variable {M : Model} {A : Around} {E : Value → Shared → Prop} {env : Env} {s : Shared} {Q : Flow → Shared → Prop}
theorem exc_raiseStmt {x : Sem Value} {w : World} (hh : A.handled = none)
    (h : wpAny M A x (fun v s₁ => ∃ e d t, v = .ref e ∧ (hd.heap_39 w.params).In s₁.heap ∧
      s₁.heap.get? e = some ⟨.ref 59, some d, .fields #[.ref t, .none, .none, .none, .bool false, .none], #[]⟩ ∧ E (.ref e) s₁) E s) :
    wpAny M A (raiseStmt env (some x) none) Q E s := by
  have hcB : (Value.ref 59 :: [Value.type "Exception", .type "BaseException", .type "object"]).contains (.type "BaseException") = true := by decide +kernel
  unfold raiseStmt
  refine wpAny_bind (wpAny_mono h (fun v s₁ h₁ => ?_) fun _ _ x => x)
  obtain ⟨e, d, t, rfl, X, he, hE⟩ := h₁
  have hC := exc_cls X
  obtain ⟨hp, g, dr, tk, os⟩ := s₁
  repeat (first | with_reducible refine wpAny_loadPart_at he ?_ | with_reducible refine wpAny_loadPart_at hC ?_ | (with_reducible refine wpAny_isSubtype_exc hC ?_; rw [hcB]) | wp_step)
  exact wpAny_raiseNew_none hh hE
theorem exc_Raise {x : PySem.Expr} {pos : Pos} {w : World} (hh : A.handled = none)
    (h : wpAny M A (eval x env) (fun v s₁ => ∃ e d t, v = .ref e ∧ (hd.heap_39 w.params).In s₁.heap ∧
      s₁.heap.get? e = some ⟨.ref 59, some d, .fields #[.ref t, .none, .none, .none, .bool false, .none], #[]⟩ ∧ E (.ref e) s₁) E s) :
    wpAny M A (exec (.Raise (some x) none pos) env) Q E s := by
  rw [arm_exec_Raise]
  show wpAny M A (do standAt pos; raiseStmt env (some (do let v ← eval x env; standAt pos; pure v)) none) Q E s
  exact wpAny_bind (wpAny_standAt (exc_raiseStmt hh (wpAny_bind (wpAny_mono h (fun v s₁ h₁ => wpAny_bind (wpAny_standAt (wpAny_pure h₁))) fun _ _ x => x))))
end
/-! the exception starts on its way -/
section
variable {M : Model} {A : Around} {E : Value → Shared → Prop}
theorem funFrames_raise {base h : Heap} {e : Addr} {es : List Addr} : ∀ {l : List Env}, h.FunFrames base l → (∀ b ∈ l.filterMap (·.frame), b ∈ es) → h.FunFrames (hideAll h es) l
  | [], _, _ => trivial
  | env :: r, ⟨hk, ⟨L, o, hf, hn, ho, hd⟩, hr⟩, hm => ⟨hk, ⟨L, o, hf, hideAll_none _ (hm L (by simp [hf])), ho, hd⟩, funFrames_raise (e := e) hr fun b hb => hm b (by
      obtain ⟨x, hx, ex⟩ := List.mem_filterMap.mp hb
      exact List.mem_filterMap.mpr ⟨x, .tail _ hx, ex⟩)⟩
theorem Flies.first {base : Heap} {env : Env} {outer : List Env} {L e : Addr} {oe : Obj} {vs ps : Array Value} {a0 : Value} {s : Shared} {Q : Unit → Shared → Prop} (hst : base.StaysIn s.heap) (hff : s.heap.FunFrames base (env :: outer)) (hfr : A.frames = some (env :: outer)) (hf : env.frame = some L)
    (he : s.heap.get? e = some oe) (hc : oe.cls = .ref 59) (hd : oe.data = .fields vs) (h1 : vs[1]? = some .none) (h0 : vs[0]? = some a0) (hbe : base.get? e = none) (hg : s.heap.get? 350 = some (tabObj ps))
    (hQ : ∀ h', Flies base outer (.ref e) h' → s.heap.UpToSlots h' → Q () { s with heap := h' }) : wpAny M A (leaving env (.ref e)) Q E s := by
  have hmem : ∀ b ∈ e :: (env :: outer).filterMap (·.frame), base.get? b = none := fun b hb => by
    rcases List.mem_cons.mp hb with rfl | hb
    · exact hbe
    · exact (hff.mem hb).1
  have h350 : 350 ∉ e :: (env :: outer).filterMap (·.frame) := fun hb => by
    rcases List.mem_cons.mp hb with hb | hb
    · rw [← hb, hg] at he; cases he; cases hc
    · obtain ⟨_, o, ho, hn⟩ := hff.mem hb
      rw [hg] at ho; cases ho; exact hn _ rfl
  refine wpAny_leaving_firstW (base := hideAll s.heap (e :: (env :: outer).filterMap (·.frame))) hfr (funFrames_raise (e := e) hff fun b hb => .tail _ hb) hf he (fun b o q => of_hideAll _ q) (hideAll_none _ (.head _)) hd h1 h0 fun h' x => ?_
  obtain ⟨x1, x2, x3, x4⟩ := x
  rw [hc] at x3
  refine hQ h' ⟨⟨hideAll s.heap (e :: (env :: outer).filterMap (·.frame)), e, a0, rfl, ?_, ⟨x1, hideAll_none _ (.head _), x2.2.2, x3⟩, ps, hideAll_get _ hg h350⟩⟩ x4
  intro b o q
  exact hideAll_get _ (hst b o q) fun hb => by have := hmem b hb; rw [this] at q; cases q
end
section
variable {w : World} {mean : ExcName → Option Value} {mg mb : Str → Option Value}
theorem conC_enterR {f : Addr} {name qual : Str} {params : Arguments} {body : List Stmt} {scope : Scope} {dV kV doc pm cdv ct oc : Value} {an od : Option Addr} {osl : Array (Option Value)}
    {vs : List Value} {binds : List (Str × Value)} {own : Led} {cost ucost : Nat} {R : Value → Led → Prop} {X : Prop}
    (ho : (hd.heap_39 w.params).lookup f = some ⟨oc, od, .func (fnOf name qual params body scope dV kV doc pm an cdv ct), osl⟩)
    (hcd : codeIn (hd.heap_39 w.params) cdv qual = true)
    (hbind : ∀ s : Shared, (hd.heap_39 w.params).In s.heap → BindsTo s (fnOf name qual params body scope dV kV doc pm an cdv ct) ⟨vs, []⟩ binds)
    (hloc : ∀ y ∈ binds, scope.names.lookup y.1 = some .local)
    (h : ∀ (dp un : Nat) (outer : List Env) (base g : Heap) (s : Shared) (L' : Addr) (h₁ : Heap) (Q E : Value → Shared → Prop),
      Below (cA dp un (some []) outer) base outer g → (hd.heap_39 w.params).In g → Top topProg gl mean mg mb g →
      Fr g L' h₁ (fun y => binds.reverse.lookup y) → News g L' h₁ own → (∀ p ∈ own, p.1 < L') → dp + cost < recursionLimit → un + ucost < cLine →
      (∀ r own' h' tk' m', Fr g L' h' m' → News g L' h' own' → R r own' → Q r { s with heap := h', toks := tk' }) →
      (X → ∀ e d t ps h' tk' m' news', Fr g L' h' m' → News g L' h' news' → (e, (⟨.ref 59, some d, .fields #[.ref t, .none, .none, .none, .bool false, .none], #[]⟩ : Obj)) ∈ news' → (350, tabObj ps) ∈ news' → E (.ref e) { s with heap := h', toks := tk' }) →
      wpAny (model PySem.Challenge.rw_nt0643_01.row.prog w) ((cA dp un (some []) outer).deeper (envOf qual scope L' f cdv)) (execs body (envOf qual scope L' f cdv))
        (fun fl s' => Q (match fl with | .ret v => v | _ => .none) s') E { s with heap := h₁, toks := s.toks + binds.length })
    (hc : 0 < cost) (hco : scope.isCoroutine = false) (hgen : scope.isGenerator = false) (hk : scope.kind = .function) (hcell : ∀ x ∈ scope.names, x.2 ≠ .cell) :
    ConC w mean mg mb (.ref f) vs own cost ucost R X := by
  intro dp un outer base g s Q E K T hst hff O hdp hu hQ hE
  have X' : (hd.heap_39 w.params).In s.heap := K.keeps O.keep
  have B : Below (cA dp un (some []) outer) base outer g := ⟨rfl, hst, hff⟩
  refine wpC_call (codeC_call_def (fd := fnOf name qual params body scope dV kV doc pm an cdv ct) (body := body) (binds := binds) (by show dp < _; omega) (X' _ _ ho) rfl (T.nolimit.keeps O.keep) (codeRec_of X' hcd) rfl (hbind s X') hcell hloc (fun h₁ hns hk₁ => .ofAny ?_) hco hgen hk)
  refine h dp un outer base g s s.heap.objs.size h₁ Q _ B K T ⟨hns, fun b o e => hk₁ b o (O.keep b o e), O.size⟩
    (fun p hp => ⟨hk₁ _ _ (O.at_ p hp).1, Nat.ne_of_lt (Heap.lt_size (O.at_ p hp).1), (O.at_ p hp).2⟩) (fun p hp => Heap.lt_size (O.at_ p hp).1) hdp hu ?_ ?_
  · intro r own' h' tk' m' F' N' hR
    refine hQ r own' h' tk' hR ⟨F'.keep, ?_, fun p hp => ⟨(N' p hp).1, (N' p hp).2.2⟩⟩
    obtain ⟨o, _, _, ho', _⟩ := F'.ns
    exact Nat.le_of_lt (Nat.lt_of_le_of_lt F'.above (Heap.lt_size ho'))
  · intro hX e d t ps h' tk' m' news' F' N' he h350
    have B' := pushX B F' (env := envOf qual scope s.heap.objs.size f cdv) rfl hk
    refine Flies.first (s := { s with heap := h', toks := tk' }) B'.stays B'.frames rfl rfl (N' _ he).1 rfl rfl rfl rfl ?_ (N' _ h350).1 fun h'' fl up => ?_
    · cases q : base.get? e with
      | none => rfl
      | some o => have := hst _ _ q; rw [(N' _ he).2.2] at this; cases this
    · exact hE hX _ h'' tk' fl ((Heap.UpToSlots.of_keeps F'.keep).trans up)
end
section
variable {w : World} {mean : ExcName → Option Value} {mg mb : Str → Option Value} {P : MP} {dep lev : Int} {t4 t5 : Tok} {S Ln : Addr} {vs ls : List Value} {n1 n2 : Nat}
theorem c_capture_raise {number s e : Int} {tn ts te : Tok} {rest : Led} {ps : Array Value} (h0 : 0 < number) (h1 : lev ≤ number) (h350 : (350, tabObj ps) ∈ rest) :
    ConC w mean mg mb (.ref 259) [.ref P.M, .int number tn, .int s ts, .int e te] (P.own w dep lev t4 t5 S Ln vs ls n1 n2 ++ rest) 20 150 (fun _ _ => False) True := by
  have hFast : MeFast := MeFast.mk
  refine conC_enterR (binds := [("self", .ref P.M), ("number", .int number tn), ("s", .int s ts), ("end", .int e te)]) (by k_dflt k_is) (by k_dflt k_is) (by exact fun _ _ => BindsTo.of_eq rfl) (by exact locs rfl) ?_ (by first | decide | omega) (by exact rfl) (by exact rfl) (by exact rfl) (by decide)
  intro dp un outer base g sh L' h₁ Q E B X T F N hlt hdp hun hret hexc
  have hF := hexc trivial
  clear hexc
  (try dsimp only)
  simp only [MP.own, List.cons_append, List.nil_append] at N
  (try k_fold)
  repeat' ((fail_if_success (with_reducible show wpAny _ _ (exec (Stmt.While _ _ _ _) _) _ _ _)); (fail_if_success (with_reducible show wpAny _ _ (exec (Stmt.For _ _ _ _ _) _) _ _ _)); (fail_if_success (with_reducible show wpAny _ _ (exec (Stmt.Raise _ _ _) _) _ _ _)); (first | (k_unfold; (try dsimp only)) | walk1 | (dsimp only; walk1) | (leave1; try dsimp only)))
  refine exc_Raise (w := w) rfl ?_
  repeat' ((fail_if_success (with_reducible show wpAny _ _ (exec (Stmt.While _ _ _ _) _) _ _ _)); (fail_if_success (with_reducible show wpAny _ _ (exec (Stmt.For _ _ _ _ _) _) _ _ _)); (fail_if_success (with_reducible show wpAny _ _ (exec (Stmt.Raise _ _ _) _) _ _ _)); (first | (k_unfold; (try dsimp only)) | walk1 | (dsimp only; walk1) | (leave1; try dsimp only)))
  k_dflt (refine' exc_call ?k1 ?k2 ?k3 ?k4 ?k5 ?k6 ?k7 ?k8 ?k9 ?_; (case k1 => k_asm); (case k2 => k_asm); (case k3 => k_asm); (case k4 => k_asm); (case k5 => k_asm); (case k6 => exact rfl); (case k7 => exact rfl); (case k8 => first | omega | (dsimp only [Around.deeper, cA, Around.in1, Around.under]; omega)); (case k9 => first | omega | (dsimp only [Around.deeper, cA, Around.in1, Around.under]; omega)); intro xE dE tE h' tk' F' N' hxE)
  repeat' ((fail_if_success (with_reducible show wpAny _ _ (exec (Stmt.While _ _ _ _) _) _ _ _)); (fail_if_success (with_reducible show wpAny _ _ (exec (Stmt.For _ _ _ _ _) _) _ _ _)); (fail_if_success (with_reducible show wpAny _ _ (exec (Stmt.Raise _ _ _) _) _ _ _)); (first | (k_unfold; (try dsimp only)) | walk1 | (dsimp only; walk1) | (leave1; try dsimp only)))
  (with_reducible rename Fr _ _ _ _ => F)
  (with_reducible rename News _ _ _ _ => N)
  · exact (N _ (.head _)).1
  · (with_reducible rename Fr _ _ _ _ => F); (with_reducible rename News _ _ _ _ => N)
    exact hF _ _ _ _ _ _ _ _ F N (.head _) (.tail _ (.tail _ (.tail _ (.tail _ (.tail _ h350)))))
end
/-! the defs within _law_told, as the text has them -/
noncomputable def toldDef : Stmt := stAt PySem.Challenge.rw_nt0643_01.prog.main.body 47
noncomputable def endsDef : Stmt := stAt (bodyOf toldDef) 1
noncomputable def giveDef : Stmt := stAt (bodyOf toldDef) 2
noncomputable def heldDef : Stmt := stAt (bodyOf giveDef) 0
/-! closures, cells and defs within defs, in short judgements -/
section
variable {prog : Program} {w : World} {A : Around} {E : Value → Shared → Prop} {s : Shared} {env : Env}
theorem IfExpC {test body orelse : PySem.Expr} {pos : Pos} {Q : Value → Shared → Prop}
    (h : wpAny (model prog w) A (isTrue test env (eval test env)) (fun b s₂ => if b then wpC (model prog w) A (eval body env) Q E s₂ else wpC (model prog w) A (eval orelse env) Q E s₂) E s) :
    wpC (model prog w) A (eval (.IfExp test body orelse pos) env) Q E s := by
  rw [eval_IfExp]
  refine wpC_anyBind (wpAny_mono h (fun b s₂ h₂ => ?_) fun _ _ x => x)
  cases b <;> simpa using h₂
end
noncomputable def fokC (scope : Scope) (names gl : List Str) : Bool :=
  names.all (fun x => decide (scope.names.lookup x = some .local) && !(x == ("__debug__" : Str))) && gl.all (fun x => decide (scope.names.lookup x = some .globalImplicit) && !(x == ("__debug__" : Str)) && decide (x ≠ "__name__")) && decide names.Nodup && decide (scope.kind = .function) &&
    decide (scope.isCoroutine = false) && decide (scope.isGenerator = false)
structure FCo (w : World) (F : FD) : Prop where
  ok : FOk w F
  co : F.scope.isCoroutine = false
  gen : F.scope.isGenerator = false
theorem fco_of {w : World} {F : FD} (hsc : fokC F.scope F.names (F.gl.map (·.1) ++ F.bl.map (·.1)) = true) (hgl : ∀ p ∈ F.gl, nsIn (hd.heap_39 w.params) mainGlobals p.1 = some (some p.2))
    (hbl : ∀ p ∈ F.bl, nsIn (hd.heap_39 w.params) mainGlobals p.1 = some none ∧ bootBuiltins p.1 = some p.2) : FCo w F := by
  simp only [fokC, Bool.and_eq_true, List.all_eq_true, decide_eq_true_eq, Bool.not_eq_true'] at hsc
  obtain ⟨⟨⟨⟨⟨h1, h2⟩, h3⟩, h4⟩, h5⟩, h6⟩ := hsc
  exact ⟨⟨h4, h3, h1, fun p hp => ⟨(h2 _ (List.mem_append_left _ (List.mem_map_of_mem hp))).1.1, (h2 _ (List.mem_append_left _ (List.mem_map_of_mem hp))).1.2, hgl p hp⟩,
    fun p hp => ⟨(h2 _ (List.mem_append_right _ (List.mem_map_of_mem hp))).1.1, (h2 _ (List.mem_append_right _ (List.mem_map_of_mem hp))).1.2, (h2 _ (List.mem_append_right _ (List.mem_map_of_mem hp))).2, hbl p hp⟩⟩, h5, h6⟩
section
variable {w : World} {mean : ExcName → Option Value} {mg mb : Str → Option Value} {qual name : Str} {params : Arguments} {body : List Stmt} {scope : Scope} {cl : List (Str × Addr)} {f c' P' : Addr} {oc : Obj} {doc pm ctv : Value}
  {vs : List Value} {own : Led} {K U : Nat} {R : Value → Led → Prop} {X : Prop}
/-- a closure's contract -/
theorem conX_jr (binds : List (Str × Value)) (more : List Str) (gl bl : List (Str × Value))
    (ho : (f, fnMade name qual params body scope cl doc pm c' ctv) ∈ own) (hoc : (c', oc) ∈ own) (hco' : CodeO oc c' P' qual)
    (hbind : bindArgs (fnX name qual params body scope cl .none .none doc pm none (.ref c') ctv) ⟨vs, []⟩ = pure binds)
    (hsc : fokC scope (binds.map (·.1) ++ more) (gl.map (·.1) ++ bl.map (·.1)) = true) (hcell : ∀ x ∈ scope.names, x.2 ≠ .cell)
    (hgl : ∀ p ∈ gl, nsIn (hd.heap_39 w.params) mainGlobals p.1 = some (some p.2))
    (hbl : ∀ p ∈ bl, nsIn (hd.heap_39 w.params) mainGlobals p.1 = some none ∧ bootBuiltins p.1 = some p.2)
    (h : ∀ (c : Cx) (P : Flow → Lm → Led → Prop), c.w = w → c.mean = mean → c.mg = mg → c.mb = mb → (∀ n, n ≤ K → n ≤ c.K) → (∀ n, n ≤ U → n ≤ c.U) → (∀ v l n, R v n → P (.ret v) l n) → (∀ l n, R .none n → P .next l n) →
      JR c ⟨qual, scope, f, .ref c', cl, binds.map (·.1) ++ more, gl, bl⟩ X (binds.map (fun p => (p.1, some p.2)) ++ more.map fun x => (x, none)) own body P) :
    ConC w mean mg mb (.ref f) vs own (K + 1) (U + 3) R X := by
  have fc : FCo w ⟨qual, scope, f, .ref c', cl, binds.map (·.1) ++ more, gl, bl⟩ := fco_of hsc hgl hbl
  refine conC_enterX ho hoc hco' hbind (fun y hy => (fc.ok.loc _ (List.mem_append_left _ (List.mem_map_of_mem hy))).1) ?_ (Nat.succ_pos _) fc.co fc.gen fc.ok.kind hcell
  intro dp un outer base g s L' h₁ Q E B Xh T F' N' hlt hdp hun b
  refine wpC_mono (h ⟨w, mean, mg, mb, K, U, dp, un, some [], outer, base, g, L'⟩ (fun fl _ nw' => R (retOf fl) nw') rfl rfl rfl rfl (fun _ h => h) (fun _ h => h) (fun _ _ _ r => r) (fun _ _ r => r) { s with heap := h₁, toks := s.toks + binds.length } _ (fun fl s' => Q (retOf fl) s') E rfl ⟨fc.ok, B, Xh, T, by dsimp only; omega, by dsimp only; omega⟩ (by simp [Function.comp_def]) F' (fun x v hx => ?_) N' (fun fl h' tk' m' lm' nw' r _ F₂ _ N₂ => b.ret _ nw' h' tk' m' F₂ N₂ r) b.exc b.passes) (fun fl s' q => ?_) fun _ _ x => x
  · rcases List.mem_append.mp hx with hx | hx
    · obtain ⟨p, hp, e⟩ := List.mem_map.mp hx
      obtain ⟨rfl, e2⟩ := Prod.mk.inj e
      refine lookup_nodup ?_ (List.mem_reverse.mpr ?_)
      · rw [List.map_reverse]; exact List.pairwise_reverse.mpr ((List.nodup_append.mp fc.ok.nodup).1.imp fun h => h.symm)
      · rw [← Option.some.inj e2]; exact hp
    · obtain ⟨_, _, e⟩ := List.mem_map.mp hx
      exact nomatch (Prod.mk.inj e).2
  cases fl <;> exact q
/-- of a closure whose two parameters are captured -/
theorem conX2_jr {n1 n2 : Str} {v1 v2 : Value} {restN : List (Str × NameKind)} (more : List Str) (gl bl : List (Str × Value))
    (ho : (f, fnMade name qual params body scope cl doc pm c' ctv) ∈ own) (hoc : (c', oc) ∈ own) (hco' : CodeO oc c' P' qual)
    (hbind : bindArgs (fnX name qual params body scope cl .none .none doc pm none (.ref c') ctv) ⟨vs, []⟩ = pure [(n1, v1), (n2, v2)])
    (hn : scope.names = (n1, .cell) :: (n2, .cell) :: restN) (hr : ∀ x ∈ restN, x.2 ≠ .cell) (h12 : n1 ≠ n2)
    (hsc : fokC scope more (gl.map (·.1) ++ bl.map (·.1)) = true)
    (hgl : ∀ p ∈ gl, nsIn (hd.heap_39 w.params) mainGlobals p.1 = some (some p.2))
    (hbl : ∀ p ∈ bl, nsIn (hd.heap_39 w.params) mainGlobals p.1 = some none ∧ bootBuiltins p.1 = some p.2)
    (h : ∀ (c : Cx) (P : Flow → Lm → Led → Prop), c.w = w → c.mean = mean → c.mg = mg → c.mb = mb → (∀ n, n ≤ K → n ≤ c.K) → (∀ n, n ≤ U → n ≤ c.U) → (∀ v l n, R v n → P (.ret v) l n) → (∀ l n, R .none n → P .next l n) →
      ∀ o1 o2 : Obj, o1.data = .cell (some v1) → o2.data = .cell (some v2) → (∀ p ∈ own, (p.1 : Nat) < c.L) →
      JR c ⟨qual, scope, f, .ref c', (n2, c.L + 2) :: (n1, c.L + 1) :: cl, more, gl, bl⟩ X (more.map fun x => (x, none)) ((c.L + 1, o1) :: (c.L + 2, o2) :: own) body P) :
    ConC w mean mg mb (.ref f) vs own (K + 1) (U + 3) R X := by
  refine conC_enter2 ho hoc hco' hbind hn hr h12 ?_ (Nat.succ_pos _) (fco_of (w := w) (F := ⟨qual, scope, f, .ref c', [], more, gl, bl⟩) hsc hgl hbl).co (fco_of (w := w) (F := ⟨qual, scope, f, .ref c', [], more, gl, bl⟩) hsc hgl hbl).gen (fco_of (w := w) (F := ⟨qual, scope, f, .ref c', [], more, gl, bl⟩) hsc hgl hbl).ok.kind
  intro dp un outer base g s L' h₁ Q E o1 o2 tk B Xh T F' N' d1 d2 hlt hdp hun b
  refine wpC_mono (h ⟨w, mean, mg, mb, K, U, dp, un, some [], outer, base, g, L'⟩ (fun fl _ nw' => R (retOf fl) nw') rfl rfl rfl rfl (fun _ h => h) (fun _ h => h) (fun _ _ _ r => r) (fun _ _ r => r) o1 o2 d1 d2 hlt { s with heap := h₁, toks := tk } _ (fun fl s' => Q (retOf fl) s') E rfl ⟨(fco_of hsc hgl hbl).ok, B, Xh, T, by dsimp only; omega, by dsimp only; omega⟩ (by simp [Function.comp_def]) F' (fun x v hx => ?_) N' (fun fl h' tk' m' lm' nw' r _ F₂ _ N₂ => b.ret _ nw' h' tk' m' F₂ N₂ r) b.exc b.passes) (fun fl s' q => ?_) fun _ _ x => x
  · obtain ⟨_, _, e⟩ := List.mem_map.mp hx
    exact nomatch (Prod.mk.inj e).2
  cases fl <;> exact q
/-- of a def of the text's whose names are captured -/
theorem conCells_jr {cdv ct ocv dV kV : Value} {an od : Option Addr} {osl : Array (Option Value)} {binds : List (Str × Value)} (lm : Lm) (gl bl : List (Str × Value))
    (ho : (hd.heap_39 w.params).lookup f = some ⟨ocv, od, .func (fnOf name qual params body scope dV kV doc pm an cdv ct), osl⟩)
    (hcd : codeIn (hd.heap_39 w.params) cdv qual = true)
    (hbind : ∀ s : Shared, (hd.heap_39 w.params).In s.heap → BindsTo s (fnOf name qual params body scope dV kV doc pm an cdv ct) ⟨vs, []⟩ binds)
    (hkind : ∀ n, ∀ x ∈ binds, scope.names.lookup x.1 = some .local ∨ (scope.names.lookup x.1 = some .cell ∧ ((cellsFrom n scope.names []).lookup x.1).isSome = true))
    (hnd : ((cellsFrom 0 scope.names []).map (·.1)).Nodup) (hsc : fokC scope (lm.map (·.1)) (gl.map (·.1) ++ bl.map (·.1)) = true)
    (hlm : ∀ (L : Addr) x v, (x, some v) ∈ lm → bindL (envOfC qual scope L f cdv).kindOf binds (fun _ => none) x = some v)
    (hgl : ∀ p ∈ gl, nsIn (hd.heap_39 w.params) mainGlobals p.1 = some (some p.2))
    (hbl : ∀ p ∈ bl, nsIn (hd.heap_39 w.params) mainGlobals p.1 = some none ∧ bootBuiltins p.1 = some p.2)
    (h : ∀ (c : Cx) (P : Flow → Lm → Led → Prop), c.w = w → c.mean = mean → c.mg = mg → c.mb = mb → (∀ n, n ≤ K → n ≤ c.K) → (∀ n, n ≤ U → n ≤ c.U) → (∀ v l n, R v n → P (.ret v) l n) → (∀ l n, R .none n → P .next l n) →
      ∀ cells, CellsAre (bindC (envOfC qual scope c.L f cdv).kindOf binds fun _ => none) (cellsFrom (c.L + 1) scope.names []) cells → (∀ p ∈ own, (p.1 : Nat) < c.L) →
      JR c ⟨qual, scope, f, cdv, cellsFrom (c.L + 1) scope.names [], lm.map (·.1), gl, bl⟩ X lm (cells ++ own) body P) :
    ConC w mean mg mb (.ref f) vs own (K + 1) (U + 3) R X := by
  have fc : ∀ L : Addr, FCo w ⟨qual, scope, f, cdv, cellsFrom (L + 1) scope.names [], lm.map (·.1), gl, bl⟩ := fun L => fco_of hsc hgl hbl
  refine conC_enterC ho hcd hbind hkind hnd ?_ (Nat.succ_pos _) (fc 0).co (fc 0).gen (fc 0).ok.kind
  intro dp un outer base g s L' h₁ Q E cells tk B Xh T F' N' Y hlt hdp hun b
  refine wpC_mono (h ⟨w, mean, mg, mb, K, U, dp, un, some [], outer, base, g, L'⟩ (fun fl _ nw' => R (retOf fl) nw') rfl rfl rfl rfl (fun _ h => h) (fun _ h => h) (fun _ _ _ r => r) (fun _ _ r => r) cells Y hlt { s with heap := h₁, toks := tk } _ (fun fl s' => Q (retOf fl) s') E rfl ⟨(fc L').ok, B, Xh, T, by dsimp only; omega, by dsimp only; omega⟩ rfl F' (fun x v hx => hlm L' x v hx) N' (fun fl h' tk' m' lm' nw' r _ F₂ _ N₂ => b.ret _ nw' h' tk' m' F₂ N₂ r) b.exc b.passes) (fun fl s' q => ?_) fun _ _ x => x
  cases fl <;> exact q
end
/-! ledgers within ledgers, ledgers apart -/
theorem sub_cons {α : Type} {q : α} {a b : List α} (h : q ∈ b) (t : ∀ p ∈ a, p ∈ b) : ∀ p ∈ q :: a, p ∈ b := List.forall_mem_cons.mpr ⟨h, t⟩
theorem sub_app {α : Type} {a b d : List α} (h : ∀ p ∈ a, p ∈ d) (t : ∀ p ∈ b, p ∈ d) : ∀ p ∈ a ++ b, p ∈ d := fun p hp => (List.mem_append.mp hp).elim (h p) (t p)
theorem sub_tail {α : Type} {q : α} {a b : List α} (t : ∀ p ∈ a, p ∈ b) : ∀ p ∈ a, p ∈ q :: b := fun p hp => .tail _ (t p hp)
theorem sub_right {α : Type} {a b d : List α} (t : ∀ p ∈ a, p ∈ d) : ∀ p ∈ a, p ∈ b ++ d := fun p hp => List.mem_append_right _ (t p hp)
theorem sub_left {α : Type} {a b d : List α} (t : ∀ p ∈ a, p ∈ b) : ∀ p ∈ a, p ∈ b ++ d := fun p hp => List.mem_append_left _ (t p hp)
theorem sub_id {α : Type} {a : List α} : ∀ p ∈ a, p ∈ a := fun _ h => h
theorem sub_nil {α : Type} {a : List α} : ∀ p ∈ ([] : List α), p ∈ a := fun _ h => nomatch h
noncomputable def Apart (a b : Led) : Prop := ∀ p ∈ a, ∀ q ∈ b, q.1 ≠ p.1
theorem Apart.keys {a b : Led} (h : Apart a b) : ∀ p ∈ b, p.1 ∉ a.map (·.1) := fun p hp hm => by
  obtain ⟨q, hq, e⟩ := List.mem_map.mp hm
  exact h q hq p hp e.symm
theorem Apart.cons {a b : Led} {q : Addr × Obj} (h : ∀ p ∈ a, q.1 ≠ p.1) (t : Apart a b) : Apart a (q :: b) := fun p hp => List.forall_mem_cons.mpr ⟨h p hp, t p hp⟩
theorem Apart.app {a b d : Led} (h : Apart a b) (t : Apart a d) : Apart a (b ++ d) := fun p hp => fun q hq => (List.mem_append.mp hq).elim (h p hp q) (t p hp q)
theorem Apart.nil {a : Led} : Apart a [] := fun _ _ _ h => nomatch h
theorem Apart.sub {a b d : Led} (h : Apart a b) (t : ∀ p ∈ d, p ∈ b) : Apart a d := fun p hp q hq => h p hp q (t q hq)
theorem Apart.consL {a b : Led} {q : Addr × Obj} (h : ∀ p ∈ b, p.1 ≠ q.1) (t : Apart a b) : Apart (q :: a) b := fun p hp r hr => (List.mem_cons.mp hp).elim (fun e => e ▸ h r hr) fun hp => t p hp r hr
theorem Apart.nilL {b : Led} : Apart [] b := fun _ h => nomatch h
section
variable {M : Model} {A : Around} {E : Value → Shared → Prop} {s : Shared} {g : Heap} {L : Addr} {m : Str → Option Value}
theorem cell_set {env : Env} {x : Str} {v : Value} {ov : Option Value} {c : Addr} {o : Obj} {rest : Led} {Q : Unit → Shared → Prop} (F : Fr g L s.heap m) (N : News g L s.heap ((c, o) :: rest)) (ho : o.data = .cell ov) (hap : ∀ p ∈ rest, p.1 ≠ c)
    (hk : env.scope.kind = .function) (hx : env.kindOf x = some .cell) (hc : env.cells.lookup x = some c)
    (h : ∀ h' o', o'.data = .cell (some v) → Fr g L h' m → News g L h' ((c, o') :: rest) → Q () { s with heap := h' }) : wpAny M A (storeName env x v) Q E s := by
  have n := N _ (.head _)
  refine wpAny_storeName_cell hk hx hc ⟨o, n.1, ho⟩ fun h' hc' hs' => ?_
  obtain ⟨o', ho', hd'⟩ := hc'
  obtain ⟨oL, es, ep, hL, r⟩ := F.ns
  refine h h' o' hd' ⟨⟨oL, es, ep, (hs'.2 L (Ne.symm n.2.1)).trans hL, r⟩, fun b o e => (hs'.2 b fun q => ?_).trans (F.keep b o e), F.above⟩ fun p hp => ?_
  · have := n.2.2; rw [← q, e] at this; cases this
  · rcases List.mem_cons.mp hp with rfl | hp
    · exact ⟨ho', n.2⟩
    · have k := N p (.tail _ hp)
      exact ⟨(hs'.2 p.1 (hap p hp)).trans k.1, k.2⟩
end
section
variable {c : Cx} {F : FD} {X : Prop} {lm : Lm} {nw rest' : Led} {pos xp : Pos} {e : PySem.Expr} {x name : Str} {rest body : List Stmt} {params : Arguments} {scope : Scope} {P : Flow → Lm → Led → Prop} {R : Value → Led → Prop} {k : Value → Lm} {v : Value} {C cc TP : Addr} {o : Obj} {ps : Array Value} {clos : List (Str × Addr)}
/-- a name that is a cell of the def -/
theorem ja_cell (hk : F.scope.names.lookup x = some .cell) (hc : F.cl.lookup x = some C) (hm : (C, o) ∈ nw) (hd : o.data = .cell (some v)) (hb : (x == ("__debug__" : Str)) = false := by decide) : JV c F lm nw (.Name x xp) v := fun s m Q ok hn Fm hm' N hQ =>
  nameX_C N hc hm hd (hQ v s.heap s.toks nw ⟨rfl, 0, rfl⟩ Fm N) ok.fok.kind hk hb
theorem ja_free (hk : F.scope.names.lookup x = some .free) (hc : F.cl.lookup x = some C) (hm : (C, o) ∈ nw) (hd : o.data = .cell (some v)) (hb : (x == ("__debug__" : Str)) = false := by decide) (hn : (x == ("__classdict__" : Str)) = false := by decide) : JV c F lm nw (.Name x xp) v := fun s m Q ok _ Fm _ N hQ =>
  nameX_F N hc hm hd (hQ v s.heap s.toks nw ⟨rfl, 0, rfl⟩ Fm N) ok.fok.kind hk hb hn
theorem ji_free {n : Int} {t : Tok} (hk : F.scope.names.lookup x = some .free) (hc : F.cl.lookup x = some C) (hm : (C, o) ∈ nw) (hd : o.data = .cell (some (.int n t))) (hb : (x == ("__debug__" : Str)) = false := by decide) (hn : (x == ("__classdict__" : Str)) = false := by decide) : JI c F lm nw (.Name x xp) n := JQ.as (ja_free hk hc hm hd hb hn) fun _ => ⟨t, rfl⟩
theorem jb_free {l : List UInt8} {t : Tok} (hk : F.scope.names.lookup x = some .free) (hc : F.cl.lookup x = some C) (hm : (C, o) ∈ nw) (hd : o.data = .cell (some (.bytes l.toArray t))) (hb : (x == ("__debug__" : Str)) = false := by decide) (hn : (x == ("__classdict__" : Str)) = false := by decide) : JB c F lm nw (.Name x xp) l := JQ.as (ja_free hk hc hm hd hb hn) fun _ => ⟨t, rfl⟩
/-- `int(e)` of a bool -/
theorem ji_int {r : Bool} (hf : (x, .type "int") ∈ F.bl) (h : JC c F lm nw e r) (hs : simpE e = true := by rfl) : JI c F lm nw (.Call (.Name x xp) [e] [] pos) (if r then 1 else 0) :=
  jx_name1 (ja_blt hf) kept_type h (fun _ => JQ.rule fun _ _ _ _ _ _ _ hQ => call_int_bool (hQ _ _)) hs
/-- a choice whose ways may raise -/
theorem jxc_ite {α β : PySem.Expr} {p : Bool} (h : JT c F lm nw e p) (h1 : p = true → JXC c F X lm nw (eval α (F.env c.L)) R) (h2 : p = false → JXC c F X lm nw (eval β (F.env c.L)) R) : JXC c F X lm nw (eval (.IfExp e α β pos) (F.env c.L)) R := fun s m Q E hg ok hn Fm hm N hQ hX =>
  IfExpC (wpAny_mono (h s m _ ok hn Fm hm N fun v h' tk' n ⟨e, _, e'⟩ F' N' => by
    subst e e'
    cases v with
    | true => exact h1 rfl { s with heap := h', toks := tk' } m Q E hg ok hn F' hm N' (fun v h₂ tk₂ n₂ r₂ F₂ N₂ => hQ v h₂ tk₂ n₂ r₂ F₂ N₂) hX
    | false => exact h2 rfl { s with heap := h', toks := tk' } m Q E hg ok hn F' hm N' (fun v h₂ tk₂ n₂ r₂ F₂ N₂ => hQ v h₂ tk₂ n₂ r₂ F₂ N₂) hX) (fun _ _ q => q) fun _ _ x => x.elim)
/-- a method, arguments that may raise -/
theorem jxc_meth {f ov : Value} {apos : Pos} {e1 : PySem.Expr} {es : List PySem.Expr} {Rv : List Value → Led → Prop} (ho : JV c F lm nw (.Name x xp) ov) (hm : HasM c F lm nw ov name f) (hk : Kept c.w f) (hs : (e1 :: es).all simpE = true) (hlen : (e1 :: es).length < 30) (ha : JXC c F X lm nw (spliced (backTo pos (starEach (e1 :: es) (F.env c.L)))) Rv) (hc : ∀ vs n, Rv vs n → JXC c F X lm n (call f (ov :: vs)) R)
    (hl : (apos.endLine == pos.line) = true := by rfl) : JXC c F X lm nw (eval (.Call (.Attribute (.Name x xp) name apos) (e1 :: es) [] pos) (F.env c.L)) R := fun s m Q E hg ok hn Fm hm' N hQ hX =>
  MethodCallC (wpAny_mono (ho s m _ ok hn Fm hm' N fun v h' tk' n ⟨e0, _, e'⟩ F' N' => by
    subst e'
    exact wpAny_mono (hm _ { s with heap := h', toks := tk' } m _ ok hn F' hm' (e0 ▸ N') fun r h₂ tk₂ n₂ ⟨e2, e2'⟩ F₂ N₂ => by
      subst e2'
      exact jxc_callWith (first := [v]) hk hs ha hc { s with heap := h₂, toks := tk₂ } m Q E hg ok hn F₂ hm' (e2 ▸ N₂) (fun v h₃ tk₃ n₃ r₃ F₃ N₃ => hQ v h₃ tk₃ n₃ r₃ F₃ N₃) hX) (fun _ _ q => q) fun _ _ x => x.elim) (fun _ _ q => q) fun _ _ x => x.elim)
    (eval_Method rfl hl hs hlen _)
/-- statements whose ways meet -/
theorem jr_jsI {st : Stmt} (I : Lm → Led → Prop) (h : JS c F lm nw [st] (fun fl l n => fl = .next ∧ I l n)) (kI : ∀ l n, I l n → JR c F X l n rest P) : JR c F X lm nw (st :: rest) P :=
  jr_js (JG.mono h fun fl l n r => by obtain ⟨rfl, r⟩ := r; exact kI l n r)
/-- `x = e`, x a cell of the def -/
theorem js_asgCell {ov : Option Value} (hk : F.scope.names.lookup x = some .cell) (hc : F.cl.lookup x = some C) (hd : o.data = .cell ov) (h : JE c F lm nw e R) (hr : ∀ v n, R v n → ∃ n', (∀ p ∈ (C, o) :: n', p ∈ n) ∧ (∀ p ∈ n', p.1 ≠ C) ∧ ∀ o', o'.data = .cell (some v) → JS c F lm ((C, o') :: n') rest P) (hs : simpE e = true := by rfl) : JS c F lm nw (.Assign [.Name x xp] e pos :: rest) P :=
  js_cons fun s m _ ok hn Fm hm N hQ => wpAny_Assign_Name (h s m _ ok hn Fm hm N fun v h' tk' n r F' N' => by
    obtain ⟨n', h1, h2, h3⟩ := hr v n r
    exact cell_set (s := { s with heap := h', toks := tk' }) F' (fun p hp => N' p (h1 p hp)) hd h2 ok.fok.kind hk hc fun h₂ o' hd' F₂ N₂ => hQ .next h₂ tk' m lm _ (h3 o' hd') hn F₂ hm N₂) (swaps_simp hs _ _ _)
/-- a def within a def: its code is made, or found in the table -/
theorem js_nest_miss (hk : SetK name lm k) (hC : ∀ h, (hd.heap_39 c.w.params).In h → News c.g c.L h ((TP, tabObj ps) :: nw) → CodeHd h cc TP) (hcode : F.cdv = .ref cc) (hap : ∀ q ∈ nw, q.1 ≠ TP) (ht : TriplesOk ps.toList) (hnf : codeAmong pos ps.toList = none)
    (hcl : closureFor scope (F.env c.L) = pure clos) (hne : clos ≠ [])
    (hr : ∀ f c' oc P' ctv doc, CodeO oc c' P' (qualnameIn (F.env c.L) name name) → (∀ q ∈ (TP, tabObj ps) :: nw, q.1 ≠ c' ∧ q.1 ≠ P' ∧ q.1 ≠ f) → c' ≠ P' → c' ≠ f → P' ≠ f →
      JS c F (k (.ref f)) ((f, fnMade name (qualnameIn (F.env c.L) name name) params body scope clos doc ((c.mg "__name__").getD .none) c' ctv) :: (c', oc) :: (P', tabObj #[]) :: (TP, tabObj (ps ++ #[rawInt pos.line, rawInt pos.col, .ref c'])) :: nw) rest P)
    (hd0 : params.defaults = [] := by rfl) (hk0 : params.kw_defaults = [] := by rfl) (ha : annTrees params none (F.env c.L) = [] := by rfl) : JS c F lm ((TP, tabObj ps) :: nw) (.FunctionDef name params body [] none [] scope none name pos :: rest) P :=
  js_cons fun s m _ ok hn Fm hm N hQ => nestDef_K hd0 hk0 ha (nest_miss Fm N hap ok.T (hC _ (ok.X.keeps Fm.keep) N) hcode rfl ht hnf hcl hne fun f c' oc P' ctv doc h' tk F' N' hco hfr h1 h2 h3 =>
    store_loc (s := { s with heap := h', toks := tk }) hk ok hn F' hm N' fun h₂ tk₂ m₂ hn₂ F₂ hm₂ N₂ => hQ .next h₂ tk₂ m₂ _ _ (hr f c' oc P' ctv doc hco hfr h1 h2 h3) hn₂ F₂ hm₂ N₂)
theorem js_nest_hit {c' : Addr} (hk : SetK name lm k) (hmem : (TP, tabObj ps) ∈ nw) (hC : ∀ h, (hd.heap_39 c.w.params).In h → News c.g c.L h nw → CodeHd h cc TP) (hcode : F.cdv = .ref cc) (ht : TriplesOk ps.toList) (hf : codeAmong pos ps.toList = some (.ref c'))
    (hcl : closureFor scope (F.env c.L) = pure clos)
    (hr : ∀ f ctv doc, (∀ q ∈ nw, q.1 ≠ f) → JS c F (k (.ref f)) ((f, fnMade name (qualnameIn (F.env c.L) name name) params body scope clos doc ((c.mg "__name__").getD .none) c' ctv) :: nw) rest P)
    (hd0 : params.defaults = [] := by rfl) (hk0 : params.kw_defaults = [] := by rfl) (ha : annTrees params none (F.env c.L) = [] := by rfl) : JS c F lm nw (.FunctionDef name params body [] none [] scope none name pos :: rest) P :=
  js_cons fun s m _ ok hn Fm hm N hQ => nestDef_K hd0 hk0 ha (nest_hit Fm N hmem ok.T (hC _ (ok.X.keeps Fm.keep) N) hcode rfl ht hf hcl fun f ctv doc h' tk F' N' hap =>
    store_loc (s := { s with heap := h', toks := tk }) hk ok hn F' hm N' fun h₂ tk₂ m₂ hn₂ F₂ hm₂ N₂ => hQ .next h₂ tk₂ m₂ _ _ (hr f ctv doc hap) hn₂ F₂ hm₂ N₂)
end
theorem kp_274 (w : World) : Kept w (.ref 274) := kept_K (by k_dflt k_is)
section
variable {c : Cx} {F : FD} {lm : Lm} {nw : Led} {pos xp : Pos} {e1 e2 : PySem.Expr} {x : Str} {text pat : List UInt8}
/-- `Matcher(text, pattern)` -/
theorem jx_make (hf : (x, .ref 274) ∈ F.gl) (h1 : JB c F lm nw e1 text) (h2 : JB c F lm nw e2 pat) (hz : (0 : UInt8) ∉ pat) (hl : pat.length ≤ 64) (ht : text.length ≤ 64) (hk : 20 ≤ c.K) (hu : 100 ≤ c.U) (hs : simpE e1 = true := by rfl) (hs2 : simpE e2 = true := by rfl) :
    JE c F lm nw (.Call (.Name x xp) [e1, e2] [] pos) (fun v n => E2 fun (P : MP) (own' : Led) => A6 (v = .ref P.M) (n = own' ++ nw) (P.text = text) (P.pat = pat) (P.Is c.w 0 0 [] [] own') (∀ p ∈ own', ∀ q ∈ nw, q.1 ≠ p.1)) :=
  jx_name2 (ja_glb hf) (kp_274 _) h1 h2 (fun t u s m Q ok hn Fm hm N hQ => make_use (outer := c.outer) (env := F.env c.L) (gd := c.gd) ok.B Fm ok.X N ok.T rfl ok.fok.kind hz hl ht (by have := ok.room; omega) (by have := ok.units; omega) fun P own' h' tk' a b hI F' N' ap => hQ _ h' tk' _ ⟨P, own', rfl, rfl, a, b, hI, ap⟩ F' N') hs hs2
variable {P : MP} {dep lev : Int} {st ln : List Int} {mat : Led}
theorem is_reset (hI : P.Is c.w dep lev st ln mat) (hs : ∀ p ∈ mat, p ∈ nw) : HasM c F lm nw (.ref P.M) "reset" (.ref 147) := by
  obtain ⟨t4, t5, S, Ln, vs, ls, n1, n2, rfl, -⟩ := hI
  exact hm_of (hs _ (.head _)) (hs _ (.tail _ (.head _))) (by k_dflt k_is) (by k_dflt k_is) (by k_dflt k_is) rfl
theorem is_match (hI : P.Is c.w dep lev st ln mat) (hs : ∀ p ∈ mat, p ∈ nw) : HasM c F lm nw (.ref P.M) "match" (.ref 182) := by
  obtain ⟨t4, t5, S, Ln, vs, ls, n1, n2, rfl, -⟩ := hI
  exact hm_of (hs _ (.head _)) (hs _ (.tail _ (.head _))) (by k_dflt k_is) (by k_dflt k_is) (by k_dflt k_is) rfl
theorem is_capture (hI : P.Is c.w dep lev st ln mat) (hs : ∀ p ∈ mat, p ∈ nw) : HasM c F lm nw (.ref P.M) "capture" (.ref 259) := by
  obtain ⟨t4, t5, S, Ln, vs, ls, n1, n2, rfl, -⟩ := hI
  exact hm_of (hs _ (.head _)) (hs _ (.tail _ (.head _))) (by k_dflt k_is) (by k_dflt k_is) (by k_dflt k_is) rfl
theorem kp_147 (w : World) : Kept w (.ref 147) := kept_K (by k_dflt k_is)
theorem kp_259 (w : World) : Kept w (.ref 259) := kept_K (by k_dflt k_is)
theorem kp_28 (w : World) : Kept w (.ref 28) := kept_K (by k_dflt k_is)
theorem kp_35 (w : World) : Kept w (.ref 35) := kept_K (by k_dflt k_is)
theorem kp_42 (w : World) : Kept w (.ref 42) := kept_K (by k_dflt k_is)
end
section
variable {c : Cx} {F : FD} {lm : Lm} {nw : Led} {pos : Pos} {e1 e2 e3 e4 e5 : PySem.Expr} {g1 g2 g3 g4 g5 : Tok → Value}
/-- three, four, five arguments -/
theorem jargs3 (h1 : JA c F lm nw e1 g1) (h2 : JA c F lm nw e2 g2) (h3 : JA c F lm nw e3 g3) (hs : [e1, e2, e3].all simpE = true := by rfl) : JArgs c F lm nw pos [e1, e2, e3] (fun vs => E3 fun a b d => vs = [g1 a, g2 b, g3 d]) := by
  simp only [List.all_cons, Bool.and_eq_true] at hs
  exact JX.mono (jargs_cons h1 hs.1 (jargs_cons h2 hs.2.1 (jargs_cons h3 hs.2.2.1 jargs0))) fun vs n ⟨e, a, _, e1, b, _, e2, d, _, e3, e4⟩ => ⟨e, a, b, d, by rw [e1, e2, e3, e4]⟩
theorem jargs4 (h1 : JA c F lm nw e1 g1) (h2 : JA c F lm nw e2 g2) (h3 : JA c F lm nw e3 g3) (h4 : JA c F lm nw e4 g4) (hs : [e1, e2, e3, e4].all simpE = true := by rfl) : JArgs c F lm nw pos [e1, e2, e3, e4] (fun vs => E4 fun a b d e => vs = [g1 a, g2 b, g3 d, g4 e]) := by
  simp only [List.all_cons, Bool.and_eq_true] at hs
  exact JX.mono (jargs_cons h1 hs.1 (jargs_cons h2 hs.2.1 (jargs_cons h3 hs.2.2.1 (jargs_cons h4 hs.2.2.2.1 jargs0)))) fun vs n ⟨e, a, _, e1, b, _, e2, d, _, e3, f, _, e4, e5⟩ => ⟨e, a, b, d, f, by rw [e1, e2, e3, e4, e5]⟩
theorem jargs5 (h1 : JA c F lm nw e1 g1) (h2 : JA c F lm nw e2 g2) (h3 : JA c F lm nw e3 g3) (h4 : JA c F lm nw e4 g4) (h5 : JA c F lm nw e5 g5) (hs : [e1, e2, e3, e4, e5].all simpE = true := by rfl) : JArgs c F lm nw pos [e1, e2, e3, e4, e5] (fun vs => E5 fun a b d e f => vs = [g1 a, g2 b, g3 d, g4 e, g5 f]) := by
  simp only [List.all_cons, Bool.and_eq_true] at hs
  exact JX.mono (jargs_cons h1 hs.1 (jargs_cons h2 hs.2.1 (jargs_cons h3 hs.2.2.1 (jargs_cons h4 hs.2.2.2.1 (jargs_cons h5 hs.2.2.2.2.1 jargs0))))) fun vs n ⟨e, a, _, e1, b, _, e2, d, _, e3, f, _, e4, k, _, e5, e6⟩ => ⟨e, a, b, d, f, k, by rw [e1, e2, e3, e4, e5, e6]⟩
end
/-! the contract of ends_at -/
noncomputable abbrev bI (b : Bool) : Int := if b = true then 1 else 0
noncomputable abbrev endsFn (cl : List (Str × Addr)) (doc pm : Value) (c' : Addr) (ctv : Value) : Obj := fnMade "ends_at" "_law_told.<locals>.ends_at" (parOf endsDef) (bodyOf endsDef) (scoOf endsDef) cl doc pm c' ctv
noncomputable abbrev cellO (o : Obj) (v : Value) : Prop := o.data = .cell (some v)
section
variable {w : World} {mean : ExcName → Option Value} {mg mb : Str → Option Value} {P : MP}
theorem c_ends {mat tail : Led} {aM aB fE cE PE : Addr} {oM oB ocE : Obj} {doc pm ctv : Value} {bound : Bool} {at_ dep lev : Int} {st ln : List Int} {r : Option Int} {x : MX} {u : Tok} (ok : P.Ok)
    (hE : (fE, endsFn [("matcher", aM), ("is_bound", aB)] doc pm cE ctv) ∈ tail) (hcE : (cE, ocE) ∈ tail) (hco : CodeO ocE cE PE "_law_told.<locals>.ends_at")
    (hM : (aM, oM) ∈ tail) (hMd : cellO oM (.ref P.M)) (hB : (aB, oB) ∈ tail) (hBd : cellO oB (.bool bound))
    (hI : P.Is w dep lev st ln mat) (hap : Apart mat tail) (hm : mHere P.text P.pat 60 1 at_ (bI bound) ⟨0, [], []⟩ = some (r, x)) :
    ConC w mean mg mb (.ref fE) [.int at_ u] (mat ++ tail) 400 6600 (fun v own' => OptV r v ∧ ∃ mat', own' = mat' ++ tail ∧ P.Is w 0 x.lev x.st x.ln mat' ∧ Apart mat' tail) False := by
  refine conX_jr (K := 399) (U := 6597) [("place", .int at_ u)] [] [] [("int", .type "int")] (List.mem_append_right _ hE) (List.mem_append_right _ hcE) hco (by rfl) (by kernel_rfl) (by decide) (by end_is "j gl") (by end_is "j bl") ?_
  intro cx Pq e1 e2 e3 e4 hK hU hP hN
  subst e1 e2 e3 e4
  dsimp only [List.map, List.cons_append, List.nil_append]
  refine jr_js (js_expr (R := fun v n => v = .none ∧ ∃ mat', P.Is cx.w 0 0 [] [] mat' ∧ n = mat' ++ tail ∧ Apart mat' tail) (jx_meth0 (by rfl) (ja_free (by kernel_rfl) rfl (List.mem_append_right _ hM) hMd) (is_reset hI fun p hp => List.mem_append_left _ hp) (kp_147 _) ?_) ?_)
  · exact JX.mono (jx_con (own := mat) (rest := tail) (c_reset hI) (hK _ (by decide)) (hU _ (by decide)) (fun p hp => List.mem_append_left _ hp) (fun p hp => List.mem_append_right _ hp) hap.keys) fun v n ⟨o, ⟨e, hI'⟩, en, ap⟩ => ⟨e, o, hI', en, ap⟩
  · rintro v n ⟨rfl, mat', hI', rfl, hap'⟩
    have hMt : Matches cx.w cx.mean cx.mg cx.mb P 0 (mHere P.text P.pat 60 1) 362 6320 := c_match (dep := 0) (c_match_here ok 60 1) (by decide)
    refine ⟨fun a => nofun, jr_next (jr_of (js_retX (jx_meth2 (ja_free (by kernel_rfl) rfl (List.mem_append_right _ hM) hMd) (is_match hI' fun p hp => List.mem_append_left _ hp) (kp_182 _) (ja_loc (by end_is "j in")) (ji_int (by end_is "j in") (ja_free (by kernel_rfl) rfl (List.mem_append_right _ hB) hBd)) fun _ _ => jx_con (own := mat') (rest := tail) (hMt at_ _ 0 [] [] r x.lev x.st x.ln _ _ _ hI' hm) (hK _ (by decide)) (hU _ (by decide)) (fun p hp => List.mem_append_left _ hp) (fun p hp => List.mem_append_right _ hp) hap'.keys) ?_))⟩
    rintro v n ⟨o, ⟨hv, hI2⟩, rfl, ap⟩
    exact hP _ _ _ ⟨hv, o, rfl, hI2, ap⟩
end
/-! the contract of held -/
noncomputable abbrev heldFn (cl : List (Str × Addr)) (doc pm : Value) (c' : Addr) (ctv : Value) : Obj := fnMade "held" "_law_told.<locals>.give.<locals>.held" (parOf heldDef) (bodyOf heldDef) (scoOf heldDef) cl doc pm c' ctv
section
variable {w : World} {mean : ExcName → Option Value} {mg mb : Str → Option Value} {P : MP}
theorem ConC.frame {f : Value} {vs : List Value} {own rest : Led} {cost ucost : Nat} {R : Value → Led → Prop} {X : Prop} (C : ConC w mean mg mb f vs own cost ucost R X) (hap : Apart own rest) :
    ConC w mean mg mb f vs (own ++ rest) cost ucost (fun v o' => ∃ o, o' = o ++ rest ∧ R v o ∧ Apart o rest) X := by
  intro dp un outer base g s Q E K T hb hf O h1 h2 hQ hE
  have st : ∀ b o, g.get? b = some o → (hideAll s.heap (own.map (·.1))).get? b = some o := fun b o e => hideAll_get _ (O.keep b o e) fun q => by
    obtain ⟨p, hp, rfl⟩ := List.mem_map.mp q
    have := (O.at_ p (List.mem_append_left _ hp)).2; rw [e] at this; cases this
  refine C dp un outer base (hideAll s.heap (own.map (·.1))) s Q E (K.keeps st) (T.keeps st) (fun b o e => st b o (hb b o e)) (hf.of_keeps fun b o e _ => ⟨o, st b o e, rfl⟩)
    ⟨fun b o e => of_hideAll _ e, Nat.le_of_eq (hideAll_size _ _), fun p hp => ⟨(O.at_ p (List.mem_append_left _ hp)).1, hideAll_none _ (List.mem_map_of_mem hp)⟩⟩ h1 h2 ?_ fun hX e h' tk' fl up => hE hX e h' tk' fl ((Heap.UpToSlots.of_keeps st).trans up)
  intro r o h' tk' hR O'
  have hr : ∀ q ∈ rest, (hideAll s.heap (own.map (·.1))).get? q.1 = some q.2 := fun q hq => hideAll_get _ (O.at_ q (List.mem_append_right _ hq)).1 (hap.keys q hq)
  refine hQ r (o ++ rest) h' tk' ⟨o, rfl, hR, fun p hp q hq e => ?_⟩ ⟨fun b o e => O'.keep b o (st b o e), Nat.le_trans O.size (Nat.le_trans (Nat.le_of_eq (hideAll_size _ _).symm) O'.size), fun p hp => ?_⟩
  · have := (O'.at_ p hp).2; rw [← e, hr q hq] at this; cases this
  · rcases List.mem_append.mp hp with hp | hp
    · refine ⟨(O'.at_ p hp).1, ?_⟩
      cases e : g.get? p.1 with
      | none => rfl
      | some o => have := (O'.at_ p hp).2; rw [st _ _ e] at this; cases this
    · exact ⟨O'.keep _ _ (hr p hp), (O.at_ p (List.mem_append_right _ hp)).2⟩
/-- what a match leaves of its captures -/
structure CapsOk (x : MX) : Prop where
  l0 : 0 ≤ x.lev
  l1 : x.lev ≤ (x.ln.length : Int)
  l2 : x.ln.length ≤ 100
  l3 : x.lev ≤ (x.st.length : Int)
  l4 : x.st.length ≤ 100
  fin : ∀ k, 0 ≤ k → k < x.lev → gi x.ln k ≠ -1
  pos : ∀ k, 0 ≤ k → k < x.lev → gi x.ln k = -2 → 0 ≤ gi x.st k ∧ gi x.st k ≤ 8
theorem CapsOk.none {x : MX} (h : CapsOk x) {text : List UInt8} {k s e : Int} (h0 : 0 ≤ k) (hn : capV text x k s e = none) : 0 < k ∧ x.lev ≤ k := by
  unfold capV at hn
  by_cases ha : x.lev ≤ k
  · replace hn := ite_t ha hn
    by_cases hb : 0 < k
    · exact ⟨hb, ha⟩
    · replace hn := ite_f hb hn; cases hn
  · rw [if_neg ha, if_neg (h.fin k h0 (by omega))] at hn
    split at hn <;> cases hn
theorem CapsOk.posIs {x : MX} (h : CapsOk x) {text : List UInt8} {k s e : Int} {c : Cap} (h0 : 0 ≤ k) (hs : capV text x k s e = some c) : ∀ i, c = .pos i → 1 ≤ i ∧ i ≤ 9 := by
  rintro i rfl
  unfold capV at hs
  by_cases ha : x.lev ≤ k
  · replace hs := ite_t ha hs
    split at hs <;> cases hs
  · rw [if_neg ha, if_neg (h.fin k h0 (by omega))] at hs
    split at hs
    · rename_i h2
      have := h.pos k h0 (by omega) h2
      cases hs; omega
    · cases hs
theorem c_captureC {x : MX} {number s e : Int} {tn ts te : Tok} {mat tail : Led} {dep : Int} {ps : Array Value} (ok : P.Ok) (hI : P.Is w dep x.lev x.st x.ln mat) (hap : Apart mat tail) (hc : CapsOk x) (h0 : 0 ≤ number) (h350 : (350, tabObj ps) ∈ tail) :
    ConC w mean mg mb (.ref 259) [.ref P.M, .int number tn, .int s ts, .int e te] (mat ++ tail) 24 160 (fun v own' => own' = mat ++ tail ∧ ∃ c, capV P.text x number s e = some c ∧ c.Is v) (capV P.text x number s e = none) := by
  obtain ⟨t4, t5, S, Ln, vs, ls, n1, n2, rfl, hvs, hls, hd⟩ := hI
  rcases hr : capV P.text x number s e with _ | c
  · obtain ⟨a, b⟩ := hc.none h0 hr
    exact (c_capture_raise a b h350).mono (fun _ _ h => h.elim) (fun _ => rfl) (by decide) (by decide)
  · obtain ⟨lev, st, ln⟩ := x
    refine ((c_capture (P := P) (dep := dep) (lev := lev) ok hvs hls h0 hc.l1 hc.l2 hc.l3 hc.l4 hr).toC.frame hap).mono (fun v o h => ?_) (fun h => h) (by decide) (by decide)
    obtain ⟨o, rfl, ⟨rfl, hv⟩, _⟩ := h
    exact ⟨rfl, c, rfl, hv⟩
theorem capV_len {text : List UInt8} {x : MX} {k s e : Int} {c : Cap} (h : capV text x k s e = some c) : c.oct.length ≤ text.length + 1 := by
  unfold capV at h
  repeat' split at h
  all_goals (cases h)
  all_goals (unfold Cap.oct; first | exact Nat.le_succ_of_le (sl_len _ _ _) | (simp only [List.length_cons, List.length_nil]; omega))
noncomputable def heldV (text : List UInt8) (x : MX) (s e k : Int) : Option (List UInt8) := if k = 0 then some (sl text (some s) (some e)) else (capV text x (k - 1) s e).map Cap.oct
theorem c_held {x : MX} {s e k : Int} {u ts te tt : Tok} {mat tail : Led} {dep : Int} {ps : Array Value} {aT aM aEn aBg fH cH PH : Addr} {oT oM oEn oBg ocH : Obj} {doc pm ctv : Value} (ok : P.Ok) (h16 : P.text.length ≤ 16) (hI : P.Is w dep x.lev x.st x.ln mat) (hap : Apart mat tail) (hc : CapsOk x) (h0 : 0 ≤ k) (h350 : (350, tabObj ps) ∈ tail)
    (hF : (fH, heldFn [("text", aT), ("matcher", aM), ("end", aEn), ("begin", aBg)] doc pm cH ctv) ∈ tail) (hcH : (cH, ocH) ∈ tail) (hco : CodeO ocH cH PH "_law_told.<locals>.give.<locals>.held")
    (hT : (aT, oT) ∈ tail) (hTd : cellO oT (.bytes P.text.toArray tt)) (hM : (aM, oM) ∈ tail) (hMd : cellO oM (.ref P.M)) (hEn : (aEn, oEn) ∈ tail) (hEnd : cellO oEn (.int e te)) (hBg : (aBg, oBg) ∈ tail) (hBgd : cellO oBg (.int s ts)) :
    ConC w mean mg mb (.ref fH) [.int k u] (mat ++ tail) 40 300 (fun v own' => own' = mat ++ tail ∧ E2 fun b u => A3 (heldV P.text x s e k = some b) (b.length ≤ 64) (v = .bytes b.toArray u)) (heldV P.text x s e k = none) := by
  refine conX_jr (K := 39) (U := 297) [("number", .int k u)] [] [("capture_text", .ref 28)] [] (List.mem_append_right _ hF) (List.mem_append_right _ hcH) hco (by rfl) (by kernel_rfl) (by decide) (by end_is "j gl") (by end_is "j bl") ?_
  intro cx Pq e1 e2 e3 e4 hK hU hP hN
  subst e1 e2 e3 e4
  dsimp only [List.map, List.cons_append, List.nil_append]
  have ht := ok.text
  refine jr_ret (R := fun v n => n = mat ++ tail ∧ E2 fun b u => A3 (heldV P.text x s e k = some b) (b.length ≤ 64) (v = .bytes b.toArray u)) (jxc_ite (ji_eq (by end_is "j") (by end_is "j")) (fun h => ?_) fun h => ?_) fun v n r => hP _ _ _ r
  · exact JXC.mono (.ofX (jb_slice (jb_free (by kernel_rfl) rfl (List.mem_append_right _ hT) hTd) (jp_some (ji_free (by kernel_rfl) rfl (List.mem_append_right _ hBg) hBgd)) (jp_some (ji_free (by kernel_rfl) rfl (List.mem_append_right _ hEn) hEnd)) (by lia))) fun v n ⟨e1, t, e2⟩ => ⟨e1, _, t, if_pos (of_decide_eq_true h), Nat.le_trans (sl_len _ _ _) ht, e2⟩
  · have hk := of_decide_eq_false h
    have hhv : heldV P.text x s e k = (capV P.text x (k - 1) s e).map Cap.oct := if_neg hk
    refine jxc_name (Rv := fun vs n => n = mat ++ tail ∧ ∃ c v, capV P.text x (k - 1) s e = some c ∧ c.Is v ∧ vs = [v]) (ja_glb (by end_is "j in")) (kp_28 _) rfl (jargsC_cons (R1 := fun v n => n = mat ++ tail ∧ ∃ c, capV P.text x (k - 1) s e = some c ∧ c.Is v)
      (jxc_meth (Rv := fun vs n => n = mat ++ tail ∧ E3 fun a b d => vs = [.int (k - 1) a, .int s b, .int e d]) (ja_free (by kernel_rfl) rfl (List.mem_append_right _ hM) hMd) (is_capture hI fun p hp => List.mem_append_left _ hp) (kp_259 _) rfl (by decide) (.ofX (JX.mono (jargs_cons (ji_sub (by end_is "j") (by end_is "j")) rfl (jargs_cons (ji_free (by kernel_rfl) rfl (List.mem_append_right _ hBg) hBgd) rfl (jargs_cons (ji_free (by kernel_rfl) rfl (List.mem_append_right _ hEn) hEnd) rfl jargs0))) ?_)) ?_) ?_) ?_
    · rintro vs n ⟨rfl, a, _, rfl, b, _, rfl, d, _, rfl, rfl⟩
      exact ⟨rfl, a, b, d, rfl⟩
    · rintro vs n ⟨rfl, a, b, d, rfl⟩
      exact JXC.mono (jxc_conC (own := mat ++ tail) (rest := []) (c_captureC (s := s) (e := e) ok hI hap hc (by lia) h350) (fun hx => by rw [hhv, hx]; rfl) (hK _ (by decide)) (hU _ (by decide)) (fun p hp => hp) (fun p hp => nomatch hp) fun p hp => nomatch hp) fun v n ⟨o, ⟨e, r⟩, en, _⟩ => ⟨by rw [en, e, List.append_nil], r⟩
    · rintro v n ⟨e, c, hc, hv⟩
      exact jargsC0 ⟨e, c, v, hc, hv, rfl⟩
    · rintro vs n ⟨rfl, c, v, hcv, hv, rfl⟩
      exact JXC.mono (.ofX (jx_con0 (c_text hv (hc.posIs (by lia) hcv)) (hK _ (by decide)) (hU _ (by decide)))) fun v n ⟨e1, t, e2⟩ => ⟨e1, _, t, by rw [hhv, hcv]; rfl, Nat.le_trans (capV_len hcv) (by lia), e2⟩
end
/-! the contract of give -/
noncomputable abbrev giveFn (cl : List (Str × Addr)) (doc pm : Value) (c' : Addr) (ctv : Value) : Obj := fnMade "give" "_law_told.<locals>.give" (parOf giveDef) (bodyOf giveDef) (scoOf giveDef) cl doc pm c' ctv
/-- the table of give's code: empty, or with the code of held -/
inductive GT (PG : Addr) : Led → Prop
  | fresh : GT PG [(PG, tabObj #[])]
  | made (cH PH : Addr) (ocH : Obj) : CodeO ocH cH PH "_law_told.<locals>.give.<locals>.held" → GT PG [(cH, ocH), (PH, tabObj #[]), (PG, tabObj #[rawInt (posOf heldDef).line, rawInt (posOf heldDef).col, .ref cH])]
section
variable {w : World} {mean : ExcName → Option Value} {mg mb : Str → Option Value} {P : MP}
theorem c_give {x : MX} {news : List UInt8} {s e : Int} {ts te tt tn : Tok} {mat gt fix : Led} {dep : Int} {ps : Array Value} {aT aN aM fG cG PG : Addr} {oT oN oM ocG : Obj} {doc pm ctv : Value} (ok : P.Ok) (h16 : P.text.length ≤ 16) (hz : news.length ≤ 16)
    (hI : P.Is w dep x.lev x.st x.ln mat) (hGT : GT PG gt) (hap : Apart mat (gt ++ fix)) (hap2 : Apart gt fix) (hc : CapsOk x) (h350 : (350, tabObj ps) ∈ fix)
    (hF : (fG, giveFn [("text", aT), ("news", aN), ("matcher", aM)] doc pm cG ctv) ∈ fix) (hcG : (cG, ocG) ∈ fix) (hco : CodeO ocG cG PG "_law_told.<locals>.give")
    (hT : (aT, oT) ∈ fix) (hTd : cellO oT (.bytes P.text.toArray tt)) (hN : (aN, oN) ∈ fix) (hNd : cellO oN (.bytes news.toArray tn)) (hM : (aM, oM) ∈ fix) (hMd : cellO oM (.ref P.M)) :
    ConC w mean mg mb (.ref fG) [.int s ts, .int e te] (mat ++ (gt ++ fix)) 60 500
      (fun v own' => (∃ gt', GT PG gt' ∧ own' = mat ++ (gt' ++ fix) ∧ Apart mat (gt' ++ fix) ∧ Apart gt' fix) ∧ E2 fun b u => A3 (expandM (heldV P.text x s e) news 20 0 [] = some b) (b.length ≤ 1100) (v = .bytes b.toArray u))
      (expandM (heldV P.text x s e) news 20 0 [] = none) := by
  refine conX2_jr (K := 59) (U := 497) (n1 := "begin") (n2 := "end") (v1 := .int s ts) (v2 := .int e te) ["held"] [("expanded", .ref 35)] [] (List.mem_append_right _ (List.mem_append_right _ hF)) (List.mem_append_right _ (List.mem_append_right _ hcG)) hco (by rfl) (by rfl) (by decide) (by decide) (by kernel_rfl) (by end_is "j gl") (by end_is "j bl") ?_
  intro cx Pq e1 e2 e3 e4 hK hU hP hN'
  subst e1 e2 e3 e4
  dsimp only [List.map]
  intro o1 o2 hd1 hd2 hlt
  have hmatL : ∀ p ∈ mat, (p.1 : Nat) < cx.L := fun p hp => hlt p (List.mem_append_left _ hp)
  have hPG : ∀ o, (PG, o) ∈ gt → (PG : Nat) < cx.L := fun o h => hlt _ (List.mem_append_right _ (List.mem_append_left _ h))
  refine jr_jsI (fun l n => E8 fun (gt' : Led) (fH cH PH : Addr) (ocH : Obj) (doc ctv mod : Value) => A8 (l = ([("held", some (.ref fH))] : Lm)) (GT PG gt') ((cH, ocH) ∈ gt') (CodeO ocH cH PH "_law_told.<locals>.give.<locals>.held") (Apart mat gt') (Apart gt' fix) (∀ p ∈ mat, fH ≠ p.1)
    (∀ p ∈ (fH, heldFn [("text", aT), ("matcher", aM), ("end", cx.L + 2), ("begin", cx.L + 1)] doc mod cH ctv) :: (gt' ++ (cx.L + 1, o1) :: (cx.L + 2, o2) :: (mat ++ fix)), p ∈ n)) ?_ ?_
  · cases hGT with
    | fresh =>
      have hL := hPG _ (.head _)
      refine JG.sub (nw' := (PG, tabObj #[]) :: (cx.L + 1, o1) :: (cx.L + 2, o2) :: (mat ++ fix)) (js_nest_miss (by end_is "j set") (fun h X N => hco.hd (N _ (.tail _ (.tail _ (.tail _ (List.mem_append_right _ hcG))))).1) rfl ?_ trivial rfl rfl (by exact List.cons_ne_nil _ _) ?_) ?_
      · refine List.forall_mem_cons.mpr ⟨Nat.ne_of_gt (Nat.lt_succ_of_lt hL), List.forall_mem_cons.mpr ⟨Nat.ne_of_gt (Nat.lt_succ_of_lt (Nat.lt_succ_of_lt hL)), fun q hq => (List.mem_append.mp hq).elim (fun hq e => hap q hq _ (List.mem_append_left _ (.head _)) e.symm) fun hq => hap2 _ (.head _) q hq⟩⟩
      · intro f c' oc P' ctv doc hco' hfr n1 n2 n3
        have hfm : ∀ p ∈ mat, p.1 ≠ c' ∧ p.1 ≠ P' ∧ p.1 ≠ f := fun p hp => hfr p (.tail _ (.tail _ (.tail _ (List.mem_append_left _ hp))))
        have hff : ∀ p ∈ fix, p.1 ≠ c' ∧ p.1 ≠ P' ∧ p.1 ≠ f := fun p hp => hfr p (.tail _ (.tail _ (.tail _ (List.mem_append_right _ hp))))
        exact js_nil ⟨rfl, [(c', oc), (P', tabObj #[]), (PG, tabObj #[rawInt (posOf heldDef).line, rawInt (posOf heldDef).col, .ref c'])], f, c', P', oc, doc, ctv, _, rfl, GT.made c' P' oc hco', .head _, hco',
          .cons (fun p hp => (hfm p hp).1.symm) (.cons (fun p hp => (hfm p hp).2.1.symm) (.cons (fun p hp => hap p hp (PG, tabObj #[]) (List.mem_append_left _ (.head _))) .nil)), .consL (fun p hp => (hff p hp).1) (.consL (fun p hp => (hff p hp).2.1) (.consL (fun p hp => hap2 (PG, tabObj #[]) (.head _) p hp) .nilL)), fun p hp => (hfm p hp).2.2.symm, sub_id⟩
      · exact sub_cons (.tail _ (.tail _ (List.mem_append_right _ (.head _)))) (sub_cons (.head _) (sub_cons (.tail _ (.head _)) (sub_app (sub_tail (sub_tail (sub_left sub_id))) (sub_tail (sub_tail (sub_right (sub_tail sub_id)))))))
    | made cH PH ocH hcoH =>
      refine js_nest_hit (TP := PG) (c' := cH) (ps := #[rawInt (posOf heldDef).line, rawInt (posOf heldDef).col, .ref cH]) (by end_is "j set") (.tail _ (.tail _ (List.mem_append_right _ (List.mem_append_left _ (.tail _ (.tail _ (.head _))))))) (fun h X N => hco.hd (N _ (.tail _ (.tail _ (List.mem_append_right _ (List.mem_append_right _ hcG))))).1) rfl (by simp [TriplesOk, rawInt]) (by rfl) rfl ?_
      intro f ctv doc hfr
      exact js_nil ⟨rfl, _, f, cH, PH, ocH, doc, ctv, _, rfl, GT.made cH PH ocH hcoH, .head _, hcoH, hap.sub (sub_left sub_id), hap2, fun p hp => (hfr p (.tail _ (.tail _ (List.mem_append_left _ hp)))).symm,
        sub_cons (.head _) (sub_app (sub_tail (sub_tail (sub_tail (sub_right (sub_left sub_id))))) (sub_cons (.tail _ (.head _)) (sub_cons (.tail _ (.tail _ (.head _))) (sub_app (sub_tail (sub_tail (sub_tail (sub_left sub_id)))) (sub_tail (sub_tail (sub_tail (sub_right (sub_right sub_id)))))))))⟩
  · rintro _ n ⟨gt', fH, cH, PH, ocH, doc', ctv', mod, rfl, hGT', hcH, hcoH, a4, a5, a6, hs⟩
    have hfix : ∀ p ∈ fix, p ∈ n := fun p hp => hs p (sub_tail (sub_right (sub_tail (sub_tail (sub_right sub_id)))) p hp)
    have hapT : Apart mat ((fH, heldFn [("text", aT), ("matcher", aM), ("end", cx.L + 2), ("begin", cx.L + 1)] doc' mod cH ctv') :: (gt' ++ (cx.L + 1, o1) :: (cx.L + 2, o2) :: fix)) :=
      .cons a6 (.app a4 (.cons (fun p hp => Nat.ne_of_gt (Nat.lt_succ_of_lt (hmatL p hp))) (.cons (fun p hp => Nat.ne_of_gt (Nat.lt_succ_of_lt (Nat.lt_succ_of_lt (hmatL p hp)))) (hap.sub (sub_right sub_id)))))
    refine jr_retS (JXC.mono (jxc_name (Rv := fun vs m => m = n ∧ ∃ t, vs = [.bytes news.toArray t, .ref fH]) (ja_glb (by end_is "j in")) (kp_35 _) rfl (.ofX (JX.mono (jargs_cons (jb_free (by kernel_rfl) rfl (hfix _ hN) hNd) rfl (jargs_cons (ja_loc (by end_is "j in")) rfl jargs0)) ?_)) (R := fun v m => (∀ p ∈ mat ++ (gt' ++ fix), p ∈ m) ∧ E2 fun b u => A3 (expandM (heldV P.text x s e) news 20 0 [] = some b) (b.length ≤ 1100) (v = .bytes b.toArray u)) ?_) ?_)
    · rintro vs m ⟨rfl, t, _, rfl, _, _, rfl, rfl⟩
      exact ⟨rfl, t, rfl⟩
    · rintro vs m ⟨rfl, t, rfl⟩
      refine JXC.mono (jxc_conC (own := mat ++ ((fH, heldFn [("text", aT), ("matcher", aM), ("end", cx.L + 2), ("begin", cx.L + 1)] doc' mod cH ctv') :: (gt' ++ (cx.L + 1, o1) :: (cx.L + 2, o2) :: fix))) (rest := [])
        (c_expanded (hv := heldV P.text x s e) (ck := 40) (uk := 300) hz (fun k u h0 h9 => c_held (x := x) (s := s) (e := e) (k := k) ok h16 hI hapT hc h0 (ps := ps) (.tail _ (List.mem_append_right _ (.tail _ (.tail _ h350)))) (.head _) (.tail _ (List.mem_append_left _ hcH)) hcoH (.tail _ (List.mem_append_right _ (.tail _ (.tail _ hT)))) hTd (.tail _ (List.mem_append_right _ (.tail _ (.tail _ hM)))) hMd (.tail _ (List.mem_append_right _ (.tail _ (.head _)))) hd2 (.tail _ (List.mem_append_right _ (.head _))) hd1) ⟨_, _, _, _, List.mem_append_right _ (.head _)⟩)
        (fun hx => hx) (hK _ (by decide)) (hU _ (by decide)) ?_ (fun p hp => nomatch hp) fun p hp => nomatch hp) fun v m ⟨o, ⟨e1, r⟩, e2, _⟩ => ⟨?_, r⟩
      · exact fun p hp => hs p (sub_app (sub_tail (sub_right (sub_tail (sub_tail (sub_left sub_id))))) (sub_cons (.head _) (sub_tail (sub_app (sub_left sub_id) (sub_right (sub_cons (.head _) (sub_cons (.tail _ (.head _)) (sub_tail (sub_tail (sub_right sub_id)))))))))  p hp)
      · rw [e2, e1, List.append_nil]
        exact sub_app (sub_left sub_id) (sub_right (sub_tail (sub_app (sub_left sub_id) (sub_right (sub_tail (sub_tail sub_id))))))
    · rintro v m ⟨hsub, r⟩
      exact ⟨_, hsub, hP _ _ _ ⟨⟨gt', hGT', rfl, .app a4 (hap.sub (sub_right sub_id)), a5⟩, r⟩⟩
end
/-! the contract of _law_told -/
noncomputable def preP (bound : Bool) : List UInt8 := if bound = true then [94] else []
noncomputable abbrev tripE (cE : Addr) : List Value := [rawInt (posOf endsDef).line, rawInt (posOf endsDef).col, .ref cE]
noncomputable abbrev tripG (cG : Addr) : List Value := [rawInt (posOf giveDef).line, rawInt (posOf giveDef).col, .ref cG]
/-- the code's table of _law_told and what hangs on it -/
inductive Tabs : Led → Prop
  | fresh : Tabs [(350, tabObj #[])]
  | made (cE PE cG PG : Addr) (ocE ocG : Obj) (gt : Led) : CodeO ocE cE PE "_law_told.<locals>.ends_at" → CodeO ocG cG PG "_law_told.<locals>.give" → GT PG gt →
      Apart gt [(cE, ocE), (PE, tabObj #[]), (cG, ocG), (350, tabObj (tripE cE ++ tripG cG).toArray)] →
      Tabs ([(cE, ocE), (PE, tabObj #[]), (cG, ocG), (350, tabObj (tripE cE ++ tripG cG).toArray)] ++ gt)
theorem told_code {w : World} {h : Heap} (X : (hd.heap_39 w.params).In h) : CodeHd h 354 350 := ⟨_, _, _, _, _, _, _, _, _, X 354 _ (by k_is), rfl, rfl, rfl, rfl, rfl, rfl, rfl, rfl, by decide⟩
section
variable {w : World} {mean : ExcName → Option Value} {mg mb : Str → Option Value}
noncomputable def mtV (text pat : List UInt8) (bound : Bool) (at_ : Int) : Option Int × MX := (mHere text (preP bound ++ pat) 60 1 at_ (bI bound) ⟨0, [], []⟩).getD (none, ⟨0, [], []⟩)
/-- a pattern whose matches this text's places all answer -/
noncomputable def MtOk (text pat : List UInt8) (bound : Bool) : Prop := ∀ at_, 0 ≤ at_ → at_ ≤ (text.length : Int) → mHere text (preP bound ++ pat) 60 1 at_ (bI bound) ⟨0, [], []⟩ = some (mtV text pat bound at_) ∧ CapsOk (mtV text pat bound at_).2 ∧
  ∀ e, (mtV text pat bound at_).1 = some e → at_ ≤ e ∧ e ≤ (text.length : Int)
noncomputable def endsM (text pat : List UInt8) (bound : Bool) (at_ : Int) : Option Int := if 0 ≤ at_ ∧ at_ ≤ (text.length : Int) then (mtV text pat bound at_).1 else none
noncomputable def giveM (text pat : List UInt8) (bound : Bool) (news : List UInt8) (at_ e : Int) : Option (List UInt8) := expandM (heldV text (mtV text pat bound at_).2 at_ e) news 20 0 []
noncomputable def toldM (text pat : List UInt8) (bound : Bool) (news : List UInt8) (most : Int) : Option (List UInt8 × Int) := replM text most bound (endsM text pat bound) (giveM text pat bound news) 20 0 0 []
/-- the frame's cells; the two closures and their codes -/
noncomputable abbrev cells4 (L : Addr) (oM oB oN oT : Obj) : Led := [(L + 4, oM), (L + 3, oB), (L + 2, oN), (L + 1, oT)]
noncomputable def toldFix (L fE fG cE PE cG : Addr) (oM oB oN oT ocE ocG : Obj) (doc mod ctv docG modG ctvG : Value) : Led :=
  (fE, endsFn [("matcher", L + 4), ("is_bound", L + 3)] doc mod cE ctv) :: (fG, giveFn [("text", L + 1), ("news", L + 2), ("matcher", L + 4)] docG modG cG ctvG) :: (cells4 L oM oB oN oT ++ [(cE, ocE), (PE, tabObj #[]), (cG, ocG), (350, tabObj (tripE cE ++ tripG cG).toArray)])
/-- both closures stand -/
inductive Stand (L fE fG cE PE cG PG : Addr) (oM oB oN oT ocE ocG : Obj) (mat gt : Led) (n : Led) : Prop
  | mk (doc mod ctv docG modG ctvG : Value) (hcE : CodeO ocE cE PE "_law_told.<locals>.ends_at") (hcG : CodeO ocG cG PG "_law_told.<locals>.give") (hGT : GT PG gt)
    (hs : ∀ p ∈ mat ++ (gt ++ toldFix L fE fG cE PE cG oM oB oN oT ocE ocG doc mod ctv docG modG ctvG), p ∈ n)
    (hM : Apart mat (gt ++ toldFix L fE fG cE PE cG oM oB oN oT ocE ocG doc mod ctv docG modG ctvG)) (hG : Apart gt (toldFix L fE fG cE PE cG oM oB oN oT ocE ocG doc mod ctv docG modG ctvG)) : Stand L fE fG cE PE cG PG oM oB oN oT ocE ocG mat gt n
theorem fa_app {α : Type} {P : α → Prop} {a b : List α} (h : ∀ p ∈ a, P p) (t : ∀ p ∈ b, P p) : ∀ p ∈ a ++ b, P p := fun p hp => (List.mem_append.mp hp).elim (h p) (t p)
theorem cells4_le {L a : Addr} {oM oB oN oT : Obj} (h : (a : Nat) ≤ L) : ∀ p ∈ cells4 L oM oB oN oT, p.1 ≠ a := by
  have k : ∀ i : Nat, 0 < i → ((L + i : Nat) : Nat) ≠ a := fun i hi => Nat.ne_of_gt (Nat.lt_of_le_of_lt h (Nat.lt_add_of_pos_right hi))
  exact List.forall_mem_cons.mpr ⟨k 4 (by decide), List.forall_mem_cons.mpr ⟨k 3 (by decide), List.forall_mem_cons.mpr ⟨k 2 (by decide), List.forall_mem_cons.mpr ⟨k 1 (by decide), fun _ h => nomatch h⟩⟩⟩⟩
noncomputable abbrev toldGl : List (Str × Value) := [("Matcher", .ref 274), ("replaced", .ref 42)]
noncomputable abbrev toldF (f : Addr) (L : Addr) : FD := ⟨"_law_told", scoOf toldDef, f, .ref 354, cellsFrom (L + 1) (scoOf toldDef).names [], ["pattern", "most", "ends_at", "give"], toldGl, []⟩
theorem told_ret {c : Cx} {Pq : Flow → Lm → Led → Prop} {P : MP} {text pat news : List UInt8} {most : Int} {bound : Bool} {tt tp tn tm : Tok} {mat gt n : Led} {fE fG cE PE cG PG : Addr} {oM oB oN oT ocE ocG : Obj} (hK : ∀ n, n ≤ 599 → n ≤ c.K) (hU : ∀ n, n ≤ 6997 → n ≤ c.U)
    (hP : ∀ v l n, (E6 fun (T : Addr) (r : List UInt8) (k : Int) (u u' : Tok) (own0 : Led) => A4 (toldM text pat bound news most = some (r, k)) (v = .ref T) (Tabs own0) (n = (T, tupO [.bytes r.toArray u, .int k u']) :: own0)) → Pq (.ret v) l n)
    (h16 : text.length ≤ 16) (hnz : news.length ≤ 16) (hmt : MtOk text pat bound) (ok : P.Ok) (ht : P.text = text) (hp : P.pat = preP bound ++ pat) (hI : P.Is c.w 0 0 [] [] mat)
    (hMd : cellO oM (.ref P.M)) (hB : cellO oB (.bool bound)) (hN : cellO oN (.bytes news.toArray tn)) (hT : cellO oT (.bytes text.toArray tt)) (S : Stand c.L fE fG cE PE cG PG oM oB oN oT ocE ocG mat gt n) :
    JR c (toldF 355 c.L) (toldM text pat bound news most = none) ([("pattern", some (.bytes pat.toArray tp)), ("most", some (.int most tm)), ("ends_at", some (.ref fE)), ("give", some (.ref fG))] : Lm) n ((bodyOf toldDef).drop 3) Pq := by
  subst ht
  obtain ⟨doc, mod, ctv, docG, modG, ctvG, hcE, hcG, hGT, hs, hMap, hGap⟩ := S
  generalize hbd : (bodyOf toldDef).drop 3 = bd
  conv at hbd => lhs; whnf
  subst hbd
  have mE : (fE, endsFn [("matcher", c.L + 4), ("is_bound", c.L + 3)] doc mod cE ctv) ∈ toldFix c.L fE fG cE PE cG oM oB oN oT ocE ocG doc mod ctv docG modG ctvG := .head _
  have mG : (fG, giveFn [("text", c.L + 1), ("news", c.L + 2), ("matcher", c.L + 4)] docG modG cG ctvG) ∈ toldFix c.L fE fG cE PE cG oM oB oN oT ocE ocG doc mod ctv docG modG ctvG := .tail _ (.head _)
  have mM : (c.L + 4, oM) ∈ toldFix c.L fE fG cE PE cG oM oB oN oT ocE ocG doc mod ctv docG modG ctvG := .tail _ (.tail _ (.head _))
  have mB : (c.L + 3, oB) ∈ toldFix c.L fE fG cE PE cG oM oB oN oT ocE ocG doc mod ctv docG modG ctvG := .tail _ (.tail _ (.tail _ (.head _)))
  have mN : (c.L + 2, oN) ∈ toldFix c.L fE fG cE PE cG oM oB oN oT ocE ocG doc mod ctv docG modG ctvG := .tail _ (.tail _ (.tail _ (.tail _ (.head _))))
  have mT : (c.L + 1, oT) ∈ toldFix c.L fE fG cE PE cG oM oB oN oT ocE ocG doc mod ctv docG modG ctvG := .tail _ (.tail _ (.tail _ (.tail _ (.tail _ (.head _)))))
  have mcE : (cE, ocE) ∈ toldFix c.L fE fG cE PE cG oM oB oN oT ocE ocG doc mod ctv docG modG ctvG := .tail _ (.tail _ (.tail _ (.tail _ (.tail _ (.tail _ (.head _))))))
  have mSub : ∀ p ∈ [(cE, ocE), (PE, tabObj #[]), (cG, ocG), (350, tabObj (tripE cE ++ tripG cG).toArray)], p ∈ toldFix c.L fE fG cE PE cG oM oB oN oT ocE ocG doc mod ctv docG modG ctvG := fun p hp => .tail _ (.tail _ (.tail _ (.tail _ (.tail _ (.tail _ hp)))))
  generalize toldFix c.L fE fG cE PE cG oM oB oN oT ocE ocG doc mod ctv docG modG ctvG = fix at *
  have mcG : (cG, ocG) ∈ fix := mSub _ (.tail _ (.tail _ (.head _)))
  have m350 := mSub _ (.tail _ (.tail _ (.tail _ (.head _))))
  have hfix : ∀ p ∈ fix, p ∈ n := fun p hp => hs p (List.mem_append_right _ (List.mem_append_right _ hp))
  refine jr_retS (JXC.mono (jxc_name (Rv := fun vs m => m = n ∧ ∃ a b, vs = [.bytes P.text.toArray a, .int most b, .bool bound, .ref fE, .ref fG]) (ja_glb (by end_is "j in")) (kp_42 _) rfl (.ofX (JX.mono (jargs5 (ja_cell (by kernel_rfl) (C := c.L + 1) (by kernel_rfl) (hfix _ mT) hT) (ja_loc (by end_is "j in")) (ja_cell (by kernel_rfl) (C := c.L + 3) (by kernel_rfl) (hfix _ mB) hB) (ja_loc (by end_is "j in")) (ja_loc (by end_is "j in"))) ?_))
    (R := fun v m => ∃ o, (∀ p ∈ o, p ∈ m) ∧ E5 fun (T : Addr) (r : List UInt8) (k : Int) (u u' : Tok) => toldM P.text pat bound news most = some (r, k) ∧ v = .ref T ∧ E3 fun (mat' gt' : Led) (q : Unit) => A4 (o = (T, tupO [.bytes r.toArray u, .int k u']) :: (mat' ++ (gt' ++ fix))) (GT PG gt') (Apart gt' fix) True) ?_) ?_)
  · rintro vs m ⟨rfl, a, b, _, _, _, rfl⟩
    exact ⟨rfl, _, _, rfl⟩
  · rintro vs m ⟨rfl, a, b, rfl⟩
    refine JXC.mono (jxc_conC (own := mat ++ (gt ++ fix)) (rest := []) (c_replaced (EA := fE) (GV := fG) (ends := endsM P.text pat bound) (gv := giveM P.text pat bound news)
      (I := fun o => E6 fun (mat gt : Led) (dep lev : Int) (st ln : List Int) => A5 (o = mat ++ (gt ++ fix)) (P.Is c.w dep lev st ln mat) (GT PG gt) (Apart mat (gt ++ fix)) (Apart gt fix))
      (J := fun at_ e o => (0 ≤ at_ ∧ at_ ≤ (P.text.length : Int)) ∧ E2 fun (mat gt : Led) => A5 (o = mat ++ (gt ++ fix)) (P.Is c.w 0 (mtV P.text pat bound at_).2.lev (mtV P.text pat bound at_).2.st (mtV P.text pat bound at_).2.ln mat) (GT PG gt) (Apart mat (gt ++ fix)) (Apart gt fix))
      (ce := 400) (ue := 6600) (cg := 60) (ug := 500) (c := 404) (uc := 6660) h16 ⟨mat, gt, 0, 0, [], [], rfl, hI, hGT, hMap, hGap⟩ ?_ ?_ ?_ ?_ ?_ (by decide) (by decide) (by decide) (by decide)) (fun hx => hx) (hK _ (by decide)) (hU _ (by decide)) hs (fun p hp => nomatch hp) fun p hp => nomatch hp) ?_
    · intro at_ e h
      unfold endsM at h
      split at h
      · rename_i hin
        exact (hmt at_ hin.1 hin.2).2.2 e h
      · cases h
    · rintro at_ u o h0 h1 ⟨mat, gt, dep, lev, st, ln, rfl, hI, hGT, hM2, hG2⟩
      obtain ⟨m1, m2, m3⟩ := hmt at_ h0 h1
      refine (c_ends (r := (mtV P.text pat bound at_).1) (x := (mtV P.text pat bound at_).2) (tail := gt ++ fix) ok (List.mem_append_right _ mE) (List.mem_append_right _ mcE) hcE (List.mem_append_right _ mM) hMd (List.mem_append_right _ mB) hB hI hM2 (by rw [hp]; exact m1)).mono (fun v o' h => ?_) (fun h => h) (by decide) (by decide)
      obtain ⟨hr, mat', rfl, hI', hap'⟩ := h
      exact ⟨by unfold endsM; rw [if_pos ⟨h0, h1⟩]; exact hr, ⟨mat', gt, _, _, _, _, rfl, hI', hGT, hap', hG2⟩, fun e he => ⟨⟨h0, h1⟩, mat', gt, rfl, hI', hGT, hap', hG2⟩⟩
    · rintro at_ e u u' o ⟨⟨h0, h1⟩, mat, gt, rfl, hI, hGT, hM2, hG2⟩
      refine (c_give (x := (mtV P.text pat bound at_).2) ok h16 hnz hI hGT hM2 hG2 (hmt at_ h0 h1).2.1 m350 mG mcG hcG mT hT mN hN mM hMd).mono (fun v o' h => ?_) (fun h => h) (by decide) (by decide)
      obtain ⟨⟨gt', hGT', rfl, hM3, hG3⟩, bt, ub, hbt, hbl, rfl⟩ := h
      exact ⟨⟨mat, gt', _, _, _, _, rfl, hI, hGT', hM3, hG3⟩, bt, ub, hbt, hbl, rfl⟩
    · rintro o ⟨mat, gt, dep, lev, st, ln, rfl, -⟩
      exact ⟨_, _, _, _, List.mem_append_right _ (List.mem_append_right _ mE)⟩
    · rintro at_ e o ⟨-, mat, gt, rfl, -⟩
      exact ⟨_, _, _, _, List.mem_append_right _ (List.mem_append_right _ mG)⟩
    · rintro v m ⟨o, ⟨T, r, k, u, u', own0, hr, rfl, ⟨mat', gt', dep, lev, st, ln, rfl, hI', hGT', hM3, hG3⟩, rfl⟩, rfl, -⟩
      exact ⟨_, sub_left sub_id, T, r, k, u, u', hr, rfl, mat', gt', (), rfl, hGT', hG3, True.intro⟩
  · rintro v m ⟨_, hsub, T, r, k, u, u', hr, rfl, mat', gt', -, rfl, hGT', hG3, -⟩
    exact ⟨_, fun p hp => hsub p (sub_cons (.head _) (sub_tail (sub_app (sub_right (sub_right mSub)) (sub_right (sub_left sub_id)))) p hp), hP _ _ _ ⟨T, r, k, u, u', _, hr, rfl, Tabs.made cE PE cG PG ocE ocG gt' hcE hcG hGT' (hG3.sub mSub), rfl⟩⟩
theorem c_told {text pat news : List UInt8} {most : Int} {bound : Bool} {tt tp tn tm : Tok} {own : Led} (hpat : (0 : UInt8) ∉ pat) (hz : pat.length ≤ 60) (h16 : text.length ≤ 16) (hnz : news.length ≤ 16) (hTabs : Tabs own) (hmt : MtOk text pat bound) :
    ConC w mean mg mb (.ref 355) [.bytes text.toArray tt, .bytes pat.toArray tp, .bytes news.toArray tn, .int most tm, .bool bound] own 600 7000
      (fun v own' => E6 fun (T : Addr) (r : List UInt8) (k : Int) (u u' : Tok) (own0 : Led) => A4 (toldM text pat bound news most = some (r, k)) (v = .ref T) (Tabs own0) (own' = (T, tupO [.bytes r.toArray u, .int k u']) :: own0)) (toldM text pat bound news most = none) := by
  refine conCells_jr (K := 599) (U := 6997) (binds := [("text", .bytes text.toArray tt), ("pattern", .bytes pat.toArray tp), ("news", .bytes news.toArray tn), ("most", .int most tm), ("is_bound", .bool bound)]) ([("pattern", some (.bytes pat.toArray tp)), ("most", some (.int most tm)), ("ends_at", none), ("give", none)] : Lm) toldGl [] (by k_dflt k_is) (by k_dflt k_is) (by exact fun _ _ => BindsTo.of_eq rfl) (by intro n x hx; simp only [List.mem_cons, List.not_mem_nil, or_false] at hx; rcases hx with rfl | rfl | rfl | rfl | rfl <;> first | exact .inl rfl | exact .inr ⟨rfl, rfl⟩) (by decide) (by kernel_rfl) ?_ (by end_is "j gl") (by end_is "j bl") ?_
  · intro L x v hx
    simp only [List.mem_cons, List.not_mem_nil, or_false, Prod.mk.injEq] at hx
    rcases hx with ⟨rfl, e⟩ | ⟨rfl, e⟩ | ⟨rfl, e⟩ | ⟨rfl, e⟩ <;> first | (cases e; rfl) | cases e
  intro cx Pq e1 e2 e3 e4 hK hU hP hN0
  subst e1 e2 e3 e4
  dsimp only [List.map]
  intro cells Y hlt
  obtain ⟨oM, oB, oN, oT, rfl, hM, hB, hN, hT⟩ : ∃ oM oB oN oT, cells = [(cx.L + 4, oM), (cx.L + 3, oB), (cx.L + 2, oN), (cx.L + 1, oT)] ∧ oM.data = .cell none ∧ oB.data = .cell (some (.bool bound)) ∧ oN.data = .cell (some (.bytes news.toArray tn)) ∧ oT.data = .cell (some (.bytes text.toArray tt)) := by
    cases Y with
    | cons h1 Y =>
      cases Y with
      | cons h2 Y =>
        cases Y with
        | cons h3 Y =>
          cases Y with
          | cons h4 Y =>
            cases Y with
            | nil => exact ⟨_, _, _, _, rfl, h1, h2, h3, h4⟩
  clear Y
  have hz0 : (0 : UInt8) ∉ preP bound ++ pat := by unfold preP; cases bound <;> simp [hpat]
  have hpl : (preP bound).length ≤ 1 := by unfold preP; cases bound <;> simp
  refine jr_js (js_asgCell (C := cx.L + 4) (by kernel_rfl) (by kernel_rfl) hM (jx_make (by end_is "j in") (JQ.as (ja_cell (by kernel_rfl) (C := cx.L + 1) (by kernel_rfl) (.tail _ (.tail _ (.tail _ (.head _)))) hT) fun _ => ⟨tt, rfl⟩) (jb_add (ja_ite (g := Value.bytes (preP bound).toArray) (jt_c (ja_cell (by kernel_rfl) (C := cx.L + 3) (by kernel_rfl) (.tail _ (.head _)) hB)) (fun h => by subst h; exact jb_lit) fun h => by subst h; exact jb_lit) (by end_is "j") (by lia)) hz0 (by rw [List.length_append]; lia) (by lia) (hK _ (by decide)) (hU _ (by decide))) ?_)
  rintro _ _ ⟨P, mat, rfl, rfl, hPt, hPp, hI, hap⟩
  have hcells : ∀ p ∈ own, (p.1 : Nat) ≤ cx.L := fun p hp => Nat.le_of_lt (hlt p hp)
  refine ⟨(cx.L + 3, oB) :: (cx.L + 2, oN) :: (cx.L + 1, oT) :: (mat ++ own), sub_cons (List.mem_append_right _ (.head _)) (sub_cons (List.mem_append_right _ (.tail _ (.head _))) (sub_cons (List.mem_append_right _ (.tail _ (.tail _ (.head _)))) (sub_cons (List.mem_append_right _ (.tail _ (.tail _ (.tail _ (.head _))))) (sub_app (sub_left sub_id) (sub_right (sub_tail (sub_tail (sub_tail (sub_tail sub_id))))))))),
    List.forall_mem_cons.mpr ⟨Nat.ne_of_lt (Nat.lt_succ_self _), List.forall_mem_cons.mpr ⟨Nat.ne_of_lt (Nat.lt_succ_of_lt (Nat.lt_succ_self _)), List.forall_mem_cons.mpr ⟨Nat.ne_of_lt (Nat.lt_succ_of_lt (Nat.lt_succ_of_lt (Nat.lt_succ_self _))), fun p hp => (List.mem_append.mp hp).elim (fun hp e => hap p hp _ (.head _) e.symm) fun hp => Nat.ne_of_lt (Nat.lt_of_lt_of_le (hlt p hp) (Nat.le_add_right _ _))⟩⟩⟩, fun oM' hMd => jr_next ?_⟩
  have hap' : Apart mat (cells4 cx.L oM' oB oN oT ++ own) := fun p hp => List.forall_mem_cons.mpr ⟨hap p hp (cx.L + 4, oM) (.head _), fun q hq => hap p hp q (.tail _ hq)⟩
  have ok : P.Ok := ⟨by rw [hPt]; lia, by rw [hPp, List.length_append]; lia⟩
  clear hap hM hz0
  cases hTabs with
  | fresh =>
    have h350 : ((350 : Addr) : Nat) ≤ cx.L := hcells (350, tabObj #[]) (.head _)
    have hm350 : ∀ p ∈ mat, p.1 ≠ 350 := fun p hp e => hap' p hp (350, tabObj #[]) (List.mem_append_right _ (.head _)) e.symm
    refine JR.sub (nw' := (350, tabObj #[]) :: (cells4 cx.L oM' oB oN oT ++ mat)) (jr_js (js_nest_miss (by end_is "j set") (fun h X _ => told_code X) rfl (fun q hq => (List.mem_append.mp hq).elim (cells4_le h350 q) (hm350 q)) trivial rfl rfl (by exact List.cons_ne_nil _ _) ?_)) ?_
    rotate_left
    · exact sub_cons (.tail _ (.tail _ (.tail _ (.tail _ (List.mem_append_right _ (.head _)))))) (sub_app (sub_cons (.head _) (sub_cons (.tail _ (.head _)) (sub_cons (.tail _ (.tail _ (.head _))) (sub_cons (.tail _ (.tail _ (.tail _ (.head _)))) sub_nil)))) (sub_tail (sub_tail (sub_tail (sub_tail (sub_left sub_id))))))
    intro fE cE ocE PE ctv doc hcE hfr m1 m2 m3
    refine jr_next ?_
    have f350 := hfr _ (.head _)
    have fc : ∀ p ∈ cells4 cx.L oM' oB oN oT ++ mat, p.1 ≠ cE ∧ p.1 ≠ PE ∧ p.1 ≠ fE := fun p hp => hfr p (.tail _ hp)
    refine JR.sub (nw' := (350, tabObj (tripE cE).toArray) :: (fE, endsFn [("matcher", cx.L + 4), ("is_bound", cx.L + 3)] doc ((cx.mg "__name__").getD .none) cE ctv) :: (cE, ocE) :: (PE, tabObj #[]) :: (cells4 cx.L oM' oB oN oT ++ mat)) (jr_js (js_nest_miss (by end_is "j set") (fun h X _ => told_code X) rfl ?_ (by exact True.intro) (by rfl) rfl (by exact List.cons_ne_nil _ _) ?_)) ?_
    · exact List.forall_mem_cons.mpr ⟨f350.2.2.symm, List.forall_mem_cons.mpr ⟨f350.1.symm, List.forall_mem_cons.mpr ⟨f350.2.1.symm, fun q hq => (List.mem_append.mp hq).elim (cells4_le h350 q) (hm350 q)⟩⟩⟩
    · intro fG cG ocG PG ctvG docG hcG hfr2 n1 n2 n3
      have g350 := hfr2 _ (.head _)
      have gfE := hfr2 _ (.tail _ (.head _))
      have gcE := hfr2 _ (.tail _ (.tail _ (.head _)))
      have gPE := hfr2 _ (.tail _ (.tail _ (.tail _ (.head _))))
      have gc : ∀ p ∈ cells4 cx.L oM' oB oN oT ++ mat, p.1 ≠ cG ∧ p.1 ≠ PG ∧ p.1 ≠ fG := fun p hp => hfr2 p (.tail _ (.tail _ (.tail _ (.tail _ hp))))
      refine jr_next (told_ret (gt := [(PG, tabObj #[])]) hK hU hP h16 hnz hmt ok hPt hPp hI hMd hB hN hT ⟨doc, (cx.mg "__name__").getD .none, ctv, docG, (cx.mg "__name__").getD .none, ctvG, hcE, hcG, GT.fresh, ?_, ?_, ?_⟩)
      · exact sub_app (sub_tail (sub_tail (sub_tail (sub_tail (sub_tail (sub_tail (sub_tail (sub_right sub_id)))))))) (sub_cons (.tail _ (.tail _ (.head _))) (sub_cons (.tail _ (.tail _ (.tail _ (.tail _ (.head _))))) (sub_cons (.head _) (sub_app (sub_tail (sub_tail (sub_tail (sub_tail (sub_tail (sub_tail (sub_tail (sub_left sub_id)))))))) (sub_cons (.tail _ (.tail _ (.tail _ (.tail _ (.tail _ (.head _)))))) (sub_cons (.tail _ (.tail _ (.tail _ (.tail _ (.tail _ (.tail _ (.head _))))))) (sub_cons (.tail _ (.head _)) (sub_cons (.tail _ (.tail _ (.tail _ (.head _)))) sub_nil))))))))
      · exact .cons (fun p hp => (gc p (List.mem_append_right _ hp)).2.1.symm) (.cons (fun p hp => (fc p (List.mem_append_right _ hp)).2.2.symm) (.cons (fun p hp => (gc p (List.mem_append_right _ hp)).2.2.symm) (.app (hap'.sub (sub_left sub_id)) (.cons (fun p hp => (fc p (List.mem_append_right _ hp)).1.symm) (.cons (fun p hp => (fc p (List.mem_append_right _ hp)).2.1.symm) (.cons (fun p hp => (gc p (List.mem_append_right _ hp)).1.symm) (.cons (fun p hp => (hm350 p hp).symm) .nil)))))))
      · exact .consL (List.forall_mem_cons.mpr ⟨gfE.2.1, List.forall_mem_cons.mpr ⟨n3.symm, fa_app (fun p hp => (gc p (List.mem_append_left _ hp)).2.1) (List.forall_mem_cons.mpr ⟨gcE.2.1, List.forall_mem_cons.mpr ⟨gPE.2.1, List.forall_mem_cons.mpr ⟨n1, List.forall_mem_cons.mpr ⟨g350.2.1, fun _ h => nomatch h⟩⟩⟩⟩)⟩⟩) .nilL
    · exact sub_cons (.tail _ (.tail _ (.tail _ (.head _)))) (sub_cons (.head _) (sub_cons (.tail _ (.head _)) (sub_cons (.tail _ (.tail _ (.head _))) (sub_tail (sub_tail (sub_tail (sub_tail sub_id)))))))
  | made cE PE cG PG ocE ocG gt hcE hcG hGT hgt =>
    have hgtL : ∀ p ∈ gt, (p.1 : Nat) ≤ cx.L := fun p hp => hcells p (List.mem_append_right _ hp)
    refine jr_js (js_nest_hit (TP := 350) (c' := cE) (ps := (tripE cE ++ tripG cG).toArray) (by end_is "j set") (.tail _ (.tail _ (.tail _ (.tail _ (List.mem_append_right _ (.tail _ (.tail _ (.tail _ (.head _))))))))) (fun h X _ => told_code X) rfl (by exact True.intro) (by rfl) rfl ?_)
    intro fE ctv doc hfr
    refine jr_next ?_
    refine jr_js (js_nest_hit (TP := 350) (c' := cG) (ps := (tripE cE ++ tripG cG).toArray) (by end_is "j set") (.tail _ (.tail _ (.tail _ (.tail _ (.tail _ (List.mem_append_right _ (.tail _ (.tail _ (.tail _ (.head _)))))))))) (fun h X _ => told_code X) rfl (by exact True.intro) (by rfl) rfl ?_)
    intro fG ctvG docG hfr2
    have fm : ∀ p ∈ mat, p.1 ≠ fE := fun p hp => hfr p (.tail _ (.tail _ (.tail _ (.tail _ (List.mem_append_left _ hp)))))
    have fg : ∀ p ∈ gt, p.1 ≠ fE := fun p hp => hfr p (.tail _ (.tail _ (.tail _ (.tail _ (List.mem_append_right _ (.tail _ (.tail _ (.tail _ (.tail _ hp)))))))))
    have gm : ∀ p ∈ mat, p.1 ≠ fG := fun p hp => hfr2 p (.tail _ (.tail _ (.tail _ (.tail _ (.tail _ (List.mem_append_left _ hp))))))
    have gg : ∀ p ∈ gt, p.1 ≠ fG := fun p hp => hfr2 p (.tail _ (.tail _ (.tail _ (.tail _ (.tail _ (List.mem_append_right _ (.tail _ (.tail _ (.tail _ (.tail _ hp))))))))))
    refine jr_next (told_ret hK hU hP h16 hnz hmt ok hPt hPp hI hMd hB hN hT ⟨doc, (cx.mg "__name__").getD .none, ctv, docG, (cx.mg "__name__").getD .none, ctvG, hcE, hcG, hGT, ?_, ?_, ?_⟩)
    · exact sub_app (sub_tail (sub_tail (sub_tail (sub_tail (sub_tail (sub_tail (sub_left sub_id))))))) (sub_app (sub_tail (sub_tail (sub_tail (sub_tail (sub_tail (sub_tail (sub_right (sub_tail (sub_tail (sub_tail (sub_tail sub_id))))))))))) (sub_cons (.tail _ (.head _)) (sub_cons (.head _) (sub_app (sub_cons (.tail _ (.tail _ (.head _))) (sub_cons (.tail _ (.tail _ (.tail _ (.head _)))) (sub_cons (.tail _ (.tail _ (.tail _ (.tail _ (.head _))))) (sub_cons (.tail _ (.tail _ (.tail _ (.tail _ (.tail _ (.head _)))))) sub_nil)))) (sub_tail (sub_tail (sub_tail (sub_tail (sub_tail (sub_tail (sub_right (sub_left sub_id))))))))))))
    · exact .app (hap'.sub (sub_right (sub_right sub_id))) (.cons (fun p hp => (fm p hp).symm) (.cons (fun p hp => (gm p hp).symm) (.app (hap'.sub (sub_left sub_id)) (hap'.sub (sub_right (sub_left sub_id))))))
    · exact .cons (fun p hp => (fg p hp).symm) (.cons (fun p hp => (gg p hp).symm) (.app (fun p hp => cells4_le (hgtL p hp)) hgt))
end
/-! try / except over clean stacks -/
section
variable {prog : Program} {w : World} {A : Around} {E : Value → Shared → Prop} {s : Shared} {env : Env}
theorem wpC_attempt {α : Type} {m : Sem α} {Q : Except Value α → Shared → Prop} (h : wpC (model prog w) A m (fun a => Q (.ok a)) (fun e => Q (.error e)) s) :
    wpC (model prog w) A m.attempt Q E s := fun Γ p hΓ hc => by rw [Sem.wp_attempt]; exact h Γ p hΓ hc
theorem TryC {body orelse : List Stmt} {h₀ : ExceptHandler} {hs : List ExceptHandler} {pos : Pos} {Q : Flow → Shared → Prop}
    (h : wpC (model prog w) A (execs body env) (fun f s₁ => match f with | .next => wpC (model prog w) A (execs orelse env) Q E s₁ | f => Q f s₁)
      (fun e s₁ => wpAny (model prog w) A (noteFrame e env) (fun _ s₂ => wpAny (model prog w) A (setFlight e none) (fun _ s₃ => wpAny (model prog w) A (handleBy e env (h₀ :: hs)) Q E s₃) E s₂) E s₁) s) :
    wpC (model prog w) A (exec (.Try body (h₀ :: hs) orelse [] pos) env) Q E s := by
  rw [arm_exec_Try]
  refine wpC_anyBind (wpAny_standAt ?_)
  unfold tryStmt
  simp -iota only [List.isEmpty_nil, if_true, List.isEmpty_cons, Bool.false_and, Bool.false_eq_true, if_false]
  refine wpC_bind (wpC_attempt (wpC_mono h (fun f s₁ h₁ => ?_) fun e s₁ h₁ => ?_))
  · cases f <;> first | exact h₁ | exact wpC_pure h₁
  · exact wpC_anyBind (wpAny_mono h₁ (fun _ _ h₂ => wpC_anyBind (wpAny_mono h₂ (fun _ _ h₃ => .ofAny h₃) fun _ _ x => x)) fun _ _ x => x)
theorem ExprRC {e : PySem.Expr} {pos : Pos} {Q : Flow → Shared → Prop} (h : wpC (model prog w) A (eval e env) (fun _ s' => Q .next s') E s)
    (hi : interactive env = false := by rfl) (hs : swapsWith e none pos.line env = pure false := by rfl) : wpC (model prog w) A (exec (.Expr e pos) env) Q E s := by
  rw [exec_Expr env e pos hi hs]
  exact wpC_anyBind (wpAny_standAt (wpC_bind (wpC_mono h (fun v s' h' => .ofAny (wpAny_dropValue h')) fun _ _ x => x)))
end
section
variable {w : World} {mean : ExcName → Option Value} {mg mb : Str → Option Value} {A : Around} {E : Value → Shared → Prop} {s : Shared}
theorem name_of_base {base : Heap} {x cn : Str} {v : Value} {cs : Scope} {L a : Addr} {ccd : Value} {cl : List (Str × Addr)} {pos : Pos} {Q : Value → Shared → Prop} (X : (hd.heap_39 w.params).In base) (T : Top topProg gl mean mg mb base) (hst : base.StaysIn s.heap)
    (e : nsIn (hd.heap_39 w.params) mainGlobals x = some (some v)) (h : Q v s) (hk : cs.kind = .function) (hx : (envX cn cs L a ccd cl).kindOf x = some .globalImplicit) (hd' : (x == ("__debug__" : Str)) = false) :
    wpAny (model PySem.Challenge.rw_nt0643_01.row.prog w) A (eval (.Name x pos) (envX cn cs L a ccd cl)) Q E s :=
  Name_function_global hk hx (loadGlobal_global (env := envX cn cs L a ccd cl) (T.g.keeps fun b o e => hst b o e) (mg_of X T.g e) h) hd'
theorem catchX {base : Heap} {env : Env} {outer : List Env} {L : Addr} {e : Value} {t : PySem.Expr} {b₀ : Stmt} {suite : List Stmt} {pos : Pos} {Q : Flow → Shared → Prop} (fl : Flies base (env :: outer) e s.heap) (hfr : A.frames = some (env :: outer)) (hf : env.frame = some L) (X : (hd.heap_39 w.params).In base)
    (hname : ∀ (A' : Around) (s₁ : Shared) (Q' E' : Value → Shared → Prop), base.StaysIn s₁.heap → Q' (.ref 59) s₁ → wpAny (model PySem.Challenge.rw_nt0643_01.row.prog w) A' (eval t env) Q' E' s₁)
    (hsuite : ∀ (h' : Heap) (ps : Array Value) (E' : Value → Shared → Prop), base.StaysIn h' → h'.get? 350 = some (tabObj ps) → s.heap.UpToSlots h' → wpAny (model PySem.Challenge.rw_nt0643_01.row.prog w) (A.mark (some e)) (execs (b₀ :: suite) env) Q E' { s with heap := h' }) :
    wpAny (model PySem.Challenge.rw_nt0643_01.row.prog w) A (noteFrame e env) (fun _ s₂ => wpAny (model PySem.Challenge.rw_nt0643_01.row.prog w) A (setFlight e none) (fun _ s₃ => wpAny (model PySem.Challenge.rw_nt0643_01.row.prog w) A (handleBy e env [.ExceptHandler (some t) none (b₀ :: suite) pos]) Q E s₃) E s₂) E s := by
  obtain ⟨B, x, a0, rfl, hb, hfl, ps, hg⟩ := fl.out
  refine wpAny_looks_onW hfr hf hfl fun h1 x1 u1 => ?_
  refine wpAny_landsW x1 fun h2 x2 u2 => ?_
  obtain ⟨f1, f2, f3, f4⟩ := x2
  have hst : base.StaysIn h2 := fun b o q => f1 b o (hb b o q)
  refine wpAny_handleBy_cons (codeAny_handlers_test (hname _ _ _ _ hst ?_)) (by intro q; cases q)
  obtain ⟨ob, hob, hcb⟩ := Heap.FlyingW.there ⟨f1, f2, f3, f4⟩
  have hC := exc_cls (X.keeps hst)
  obtain ⟨hp, gg, dd, tt, os⟩ := s
  refine wpAny_excMatches_sub_self hC hob hcb (by decide +kernel) ?_
  refine codeAny_handlers_suite ?_
  refine wpAny_setFlight_noneW f1 f3 f4.at fun h3 k1 k2 k3 k4 => ?_
  exact hsuite h3 ps _ (fun b o q => k1 b o (hb b o q)) (k1 _ _ hg) ((u1.trans u2).trans fun b o q hn => ⟨o.slots, k4 b o q hn⟩)
end
section
variable {w : World} {mean : ExcName → Option Value} {mg mb : Str → Option Value}
theorem callC_def {f : Addr} {name qual : Str} {params : Arguments} {body : List Stmt} {scope : Scope} {dV kV doc pm cdv ct oc : Value} {an od : Option Addr} {osl : Array (Option Value)}
    {vs : List Value} {binds : List (Str × Value)} {dp un : Nat} {outer : List Env} {s : Shared} {Q E : Value → Shared → Prop}
    (ho : (hd.heap_39 w.params).lookup f = some ⟨oc, od, .func (fnOf name qual params body scope dV kV doc pm an cdv ct), osl⟩)
    (hcd : codeIn (hd.heap_39 w.params) cdv qual = true)
    (hbind : BindsTo s (fnOf name qual params body scope dV kV doc pm an cdv ct) ⟨vs, []⟩ binds)
    (hloc : ∀ y ∈ binds, scope.names.lookup y.1 = some .local) (K : (hd.heap_39 w.params).In s.heap) (hlim : s.heap.NoLimit) (hdp : dp < recursionLimit)
    (h : ∀ h₁, h₁.Ns s.heap.objs.size (fun x => binds.reverse.lookup x) → (∀ b o, s.heap.get? b = some o → h₁.get? b = some o) →
      wpC (model PySem.Challenge.rw_nt0643_01.row.prog w) ((cA dp un (some []) outer).deeper (envOf qual scope s.heap.objs.size f cdv)) (execs body (envOf qual scope s.heap.objs.size f cdv))
        (fun fl s' => Q (match fl with | .ret v => v | _ => .none) s')
        (fun e s' => wpAny (model PySem.Challenge.rw_nt0643_01.row.prog w) ((cA dp un (some []) outer).deeper (envOf qual scope s.heap.objs.size f cdv)) (leaving (envOf qual scope s.heap.objs.size f cdv) e) (fun _ s'' => E e s'') (fun e' s'' => E e' s'') s')
        { s with heap := h₁, toks := s.toks + binds.length })
    (hco : scope.isCoroutine = false) (hgen : scope.isGenerator = false) (hk : scope.kind = .function) (hcell : ∀ x ∈ scope.names, x.2 ≠ .cell) :
    wpC (model PySem.Challenge.rw_nt0643_01.row.prog w) (cA dp un (some []) outer) (call (.ref f) vs) Q E s :=
  wpC_call (codeC_call_def (fd := fnOf name qual params body scope dV kV doc pm an cdv ct) (body := body) (binds := binds) hdp (K _ _ ho) rfl hlim (codeRec_of K hcd) rfl hbind hcell hloc h hco hgen hk)
theorem Tabs.has {own : Led} (h : Tabs own) : ∃ ps, (350, tabObj ps) ∈ own := by
  cases h with
  | fresh => exact ⟨_, .head _⟩
  | made => exact ⟨_, List.mem_append_left _ (.tail _ (.tail _ (.tail _ (.head _))))⟩
theorem c_refused {text pat : List UInt8} {most : Int} {bound : Bool} {tt tp tm : Tok} {own : Led} (hpat : (0 : UInt8) ∉ pat) (hz : pat.length ≤ 60) (h16 : text.length ≤ 16) (hTabs : Tabs own) (hmt : MtOk text pat bound)
    {dp un : Nat} {outer : List Env} {base g : Heap} {s : Shared} {Q E : Value → Shared → Prop} (K₀ : (hd.heap_39 w.params).In base) (T₀ : Top topProg gl mean mg mb base) (hst : base.StaysIn g) (hff : g.FunFrames base outer) (O : Own g s.heap own)
    (hdp : dp + 620 < recursionLimit) (hu : un + 7100 < cLine)
    (hQ : ∀ (b : Bool) (ps : Array Value) (h' : Heap) (tk' : Nat), (b = true ↔ toldM text pat bound [37, 51] most = none) → base.StaysIn h' → h'.get? 350 = some (tabObj ps) → g.UpToSlots h' → Q (.bool b) { s with heap := h', toks := tk' }) :
    wpC (model PySem.Challenge.rw_nt0643_01.row.prog w) (cA dp un (some []) outer) (call (.ref 362) [.bytes text.toArray tt, .bytes pat.toArray tp, .int most tm, .bool bound]) Q E s := by
  have hFast : MeFast := MeFast.mk
  have X : (hd.heap_39 w.params).In g := K₀.keeps fun b o e => hst b o e
  have T : Top topProg gl mean mg mb g := T₀.keeps fun b o e => hst b o e
  refine callC_def (binds := [("text", .bytes text.toArray tt), ("pattern", .bytes pat.toArray tp), ("most", .int most tm), ("is_bound", .bool bound)]) (by k_dflt k_is) (by k_dflt k_is) (by exact BindsTo.of_eq rfl) (by exact locs rfl) (X.keeps O.keep) (T.nolimit.keeps O.keep) (by lia) (fun h₁ hns hk₁ => ?_) (by exact rfl) (by exact rfl) (by exact rfl) (by decide)
  have B : Below (cA dp un (some []) outer) base outer g := ⟨rfl, hst, hff⟩
  generalize hL : s.heap.objs.size = L'
  have F : Fr g L' h₁ (fun y => ([("text", Value.bytes text.toArray tt), ("pattern", .bytes pat.toArray tp), ("most", .int most tm), ("is_bound", .bool bound)] : List (Str × Value)).reverse.lookup y) := hL ▸ ⟨hns, fun b o e => hk₁ b o (O.keep b o e), O.size⟩
  have N : News g L' h₁ own := hL ▸ fun p hp => ⟨hk₁ _ _ (O.at_ p hp).1, Nat.ne_of_lt (Heap.lt_size (O.at_ p hp).1), (O.at_ p hp).2⟩
  show wpC _ _ (execs (_ :: _ :: []) _) _ _ _
  refine execsC_cons (TryC ?_)
  refine execsC_cons (ExprRC (CallC ?_))
  (try k_fold)
  repeat' ((fail_if_success (with_reducible show wpAny _ _ (exec (Stmt.While _ _ _ _) _) _ _ _)); (fail_if_success (with_reducible show wpAny _ _ (exec (Stmt.For _ _ _ _ _) _) _ _ _)); (fail_if_success (with_reducible show wpAny _ _ (exec (Stmt.Raise _ _ _) _) _ _ _)); (first | (k_unfold; (try dsimp only)) | walk1 | (dsimp only; walk1) | (leave1; try dsimp only)))
  (with_reducible rename Fr _ _ _ _ => F)
  (with_reducible rename News _ _ _ _ => N)
  refine callWithC (P := fun h => (hd.heap_39 w.params).In h) rfl (keeps_K (by k_is)) (argsC (argsC_cons (.ofAny ?_)))
  (try k_fold)
  repeat' ((fail_if_success (with_reducible show wpAny _ _ (exec (Stmt.While _ _ _ _) _) _ _ _)); (fail_if_success (with_reducible show wpAny _ _ (exec (Stmt.For _ _ _ _ _) _) _ _ _)); (fail_if_success (with_reducible show wpAny _ _ (exec (Stmt.Raise _ _ _) _) _ _ _)); (first | (k_unfold; (try dsimp only)) | walk1 | (dsimp only; walk1) | (leave1; try dsimp only)))
  refine argsC_cons (.ofAny ?_)
  (try k_fold)
  repeat' ((fail_if_success (with_reducible show wpAny _ _ (exec (Stmt.While _ _ _ _) _) _ _ _)); (fail_if_success (with_reducible show wpAny _ _ (exec (Stmt.For _ _ _ _ _) _) _ _ _)); (fail_if_success (with_reducible show wpAny _ _ (exec (Stmt.Raise _ _ _) _) _ _ _)); (first | (k_unfold; (try dsimp only)) | walk1 | (dsimp only; walk1) | (leave1; try dsimp only)))
  refine argsC_cons (.ofAny ?_)
  (try k_fold)
  repeat' ((fail_if_success (with_reducible show wpAny _ _ (exec (Stmt.While _ _ _ _) _) _ _ _)); (fail_if_success (with_reducible show wpAny _ _ (exec (Stmt.For _ _ _ _ _) _) _ _ _)); (fail_if_success (with_reducible show wpAny _ _ (exec (Stmt.Raise _ _ _) _) _ _ _)); (first | (k_unfold; (try dsimp only)) | walk1 | (dsimp only; walk1) | (leave1; try dsimp only)))
  refine argsC_cons (.ofAny ?_)
  (try k_fold)
  repeat' ((fail_if_success (with_reducible show wpAny _ _ (exec (Stmt.While _ _ _ _) _) _ _ _)); (fail_if_success (with_reducible show wpAny _ _ (exec (Stmt.For _ _ _ _ _) _) _ _ _)); (fail_if_success (with_reducible show wpAny _ _ (exec (Stmt.Raise _ _ _) _) _ _ _)); (first | (k_unfold; (try dsimp only)) | walk1 | (dsimp only; walk1) | (leave1; try dsimp only)))
  refine argsC_cons (.ofAny ?_)
  (try k_fold)
  repeat' ((fail_if_success (with_reducible show wpAny _ _ (exec (Stmt.While _ _ _ _) _) _ _ _)); (fail_if_success (with_reducible show wpAny _ _ (exec (Stmt.For _ _ _ _ _) _) _ _ _)); (fail_if_success (with_reducible show wpAny _ _ (exec (Stmt.Raise _ _ _) _) _ _ _)); (first | (k_unfold; (try dsimp only)) | walk1 | (dsimp only; walk1) | (leave1; try dsimp only)))
  (with_reducible rename Fr _ _ _ _ => F)
  (with_reducible rename News _ _ _ _ => N)
  refine argsC_nil ⟨X.keeps F.keep, ?_⟩
  (try dsimp only [List.nil_append])
  refine conC_use (own := own) (rest := []) (c_told (news := [37, 51]) hpat hz h16 (by decide) hTabs hmt) B F X N T rfl rfl (fun p hp => hp) (fun p hp => nomatch hp) (fun p hp => nomatch hp) (by first | omega | (dsimp only [Around.deeper, cA, Around.in1, Around.under]; omega)) (by first | omega | (dsimp only [Around.deeper, cA, Around.in1, Around.under]; omega)) ?_ ?_
  · clear F N
    rintro r own' h' tk' ⟨T', rr, k, u, u', own0, hr, rfl, hT0, rfl⟩ F N -
    obtain ⟨ps, hps⟩ := hT0.has
    refine execsC_nil ?_
    (try dsimp only)
    refine execsC_nil ?_
    (try dsimp only)
    refine execsC_any ?_
    (try k_fold)
    repeat' ((fail_if_success (with_reducible show wpAny _ _ (exec (Stmt.While _ _ _ _) _) _ _ _)); (fail_if_success (with_reducible show wpAny _ _ (exec (Stmt.For _ _ _ _ _) _) _ _ _)); (fail_if_success (with_reducible show wpAny _ _ (exec (Stmt.Raise _ _ _) _) _ _ _)); (first | (k_unfold; (try dsimp only)) | walk1 | (dsimp only; walk1) | (leave1; try dsimp only)))
    exact hQ false ps _ _ (by simp [hr]) (fun b o e => F.keep b o (hst b o e)) (N _ (List.mem_append_left _ (.tail _ hps))).1 (Heap.UpToSlots.of_keeps F.keep)
  · intro hx e3 h₃ tk₃ hfl hup
    refine catchX hfl rfl rfl K₀ (fun A' s₁ Q' E' hs q => name_of_base K₀ T₀ hs (by k_is) q rfl rfl (by decide)) ?_
    intro h' ps E' hs h350 up
    clear F N
    (try k_fold)
    repeat' ((fail_if_success (with_reducible show wpAny _ _ (exec (Stmt.While _ _ _ _) _) _ _ _)); (fail_if_success (with_reducible show wpAny _ _ (exec (Stmt.For _ _ _ _ _) _) _ _ _)); (fail_if_success (with_reducible show wpAny _ _ (exec (Stmt.Raise _ _ _) _) _ _ _)); (first | (k_unfold; (try dsimp only)) | walk1 | (dsimp only; walk1) | (leave1; try dsimp only)))
    (try dsimp only)
    (try k_unfold)
    (try dsimp only)
    exact hQ true ps _ _ (by simp [hx]) hs h350 (hup.trans up)
end
/-! the law's own small functions -/
noncomputable def eqB (x : List UInt8) : Value → Bool
  | .bytes b _ => decide (b.toList = x)
  | _ => false
theorem eqB_of {x y : List UInt8} {k : Tok} : eqB y (.bytes x.toArray k) = (y == x) := by
  show decide (x = y) = _
  by_cases h : y = x
  · subst h; simp
  · have h' : ¬ x = y := fun e => h e.symm
    simp [h, h']
section
variable {prog : Program} {w : World} {A : Around} {E : Value → Shared → Prop} {s : Shared} {h₀ : Heap} {L : Addr} {news : Led}
theorem in_bytes {x : List UInt8} {D : Addr} {vs : List Value} {t : Tok} {Q : Value → Shared → Prop} (N : News h₀ L s.heap news) (hm : (D, tupO vs) ∈ news) (hb : ∀ y ∈ vs, E2 fun b u => y = .bytes b u)
    (h : Q (.bool (vs.any (eqB x))) s) : wpAny (model prog w) A (compareOp .In (.bytes x.toArray t) (.ref D)) Q E s := by
  refine PySem.SeqAt.in_tupleAt (items := vs.toArray) (eqB x) ⟨_, (N _ hm).1, rfl, _, rfl⟩ (fun y hy => ?_) (by rw [List.any_toArray]; exact h)
  obtain ⟨b, u, rfl⟩ := hb y (by simpa using hy)
  intro prog w E Q hq
  exact eqBool_bytes hq
end
section
variable {c : Cx} {F : FD} {lm : Lm} {nw : Led} {pos apos xp tp : Pos} {e e1 e2 : PySem.Expr} {es : List PySem.Expr} {x : Str} {l : List UInt8} {k : Nat} {Rs : List Value → Prop} {r : Bool} {g1 : Tok → Value} {n m : Int}
/-- `e in (b'..', ..)` -/
theorem jc_in (h : JB c F lm nw e l) (ha : JArgs c F lm nw tp es Rs) (hb : ∀ vs, Rs vs → vs.length ≤ 1000 ∧ (∀ y ∈ vs, E2 fun b u => y = .bytes b u) ∧ vs.any (eqB l) = r) : JC c F lm nw (.Compare e [.In] [.Tuple es k tp] pos) r :=
  JX.bind2 (f := fun a b => compareOp .In a b) (t2 := fun _ => eval (.Tuple es k tp) (F.env c.L)) (R2 := fun a b n => (∃ t, a = .bytes l.toArray t) ∧ E2 fun T vs => A3 (Rs vs) (b = .ref T) (n = (T, tupO vs) :: nw)) (fun _ _ z => wpAny_Compare1 z rfl) h
    (fun a n ⟨e, t, e'⟩ => by subst e; exact JX.mono (jx_tup ha fun vs r => (hb vs r).1) fun b n' ⟨T, vs, r, e1, e2, _⟩ => ⟨⟨t, e'⟩, T, vs, r, e1, e2⟩)
    fun a b n ⟨⟨t, e⟩, T, vs, r, e1, e2⟩ => by
      subst e e1 e2
      obtain ⟨_, h2, h3⟩ := hb vs r
      intro s m Q ok hn Fm hm N hQ
      exact in_bytes N (.head _) h2 (by rw [h3]; exact hQ _ s.heap s.toks nw ⟨rfl, 0, rfl⟩ Fm fun p hp => N p (.tail _ hp))
/-- `[e, ..]` -/
theorem jx_list (ha : JArgs c F lm nw pos es Rs) (hz : ∀ vs, Rs vs → vs.length ≤ 1000) : JE c F lm nw (.List es pos) (fun v n' => E2 fun D vs => A4 (v = .ref D) (n' = (D, listOf (List.toArray vs) 0) :: nw) (Rs vs) (∀ p ∈ nw, p.1 ≠ D)) := fun s m Q ok hn Fm hm N hQ =>
  List_ (ha s m _ ok hn Fm hm N fun vs h' tk' n ⟨e, r⟩ F' N' => by
    subst e
    exact newList_K (s := { s with heap := h', toks := tk' }) F' N' (fun l h₂ F₂ N₂ ap => hQ _ h₂ tk' _ ⟨l, vs, rfl, rfl, r, fun p hp => Nat.ne_of_lt (ap p hp)⟩ F₂ N₂) (by rw [sizeLine_eq]; have := hz vs r; lia))
/-- `(e, [..])` -/
theorem jx_pair (h1 : JA c F lm nw e1 g1) (ha : JArgs c F lm nw tp es Rs) (hz : ∀ vs, Rs vs → vs.length ≤ 1000) (hs : simpE e1 = true := by rfl) : JE c F lm nw (.Tuple [e1, .List es tp] k pos) (fun v n => E4 fun T D t vs => A4 (v = .ref T) (n = (T, tupO [g1 t, .ref D]) :: (D, listOf (List.toArray vs) 0) :: nw) (Rs vs) (T ≠ D)) := fun s m Q ok hn Fm hm N hQ =>
  Tuple_ (args_cons (h1 s m _ ok hn Fm hm N fun v h' tk' n ⟨e, t, e'⟩ F' N' => args_cons (jx_list ha hz { s with heap := h', toks := tk' } m _ ok hn F' hm (e ▸ N') fun v₂ h₂ tk₂ n₂ ⟨D, vs, e1, e2, r, ap⟩ F₂ N₂ => args_nil (by
    subst e e' e1 e2
    exact newTuple_N (s := { s with heap := h₂, toks := tk₂ }) F₂ N₂ (fun h₃ F₃ N₃ => hQ _ h₃ tk₂ _ ⟨_, D, t, vs, rfl, rfl, r, Nat.ne_of_gt (Heap.lt_size (N₂ _ (.head _)).1)⟩ F₃ N₃) (by rw [sizeLine_eq]; simp))) rfl) (star_simp hs _ _))
/-- a def of a text and an int, called -/
theorem ja_fn2 {f : Value} {t : Tok} {g : Tok → Value} {k u : Nat} (hf : JV c F lm nw (.Name x xp) f) (hk : Kept c.w f) (h1 : JV c F lm nw e1 (.bytes l.toArray t)) (h2 : JI c F lm nw e2 n) (C : ∀ u', Con c.w c.mean c.mg c.mb f [.bytes l.toArray t, .int n u'] [] k u (fun r own' => own' = [] ∧ ∃ t, r = g t)) (a1 : k ≤ c.K := by end_is "j room") (a2 : u ≤ c.U := by end_is "j room")
    (hs : simpE e1 = true := by rfl) (hs2 : simpE e2 = true := by rfl) : JA c F lm nw (.Call (.Name x xp) [e1, e2] [] pos) g :=
  jx_name2 hf hk h1 h2 (fun _ u => jx_con0 (C u) a1 a2) hs hs2
end
noncomputable def isLet (text : List UInt8) (s : Int) : Bool := decide (0 ≤ s ∧ s < (text.length : Int)) && (sl text (some s) (some (s + 1)) == [97] || sl text (some s) (some (s + 1)) == [98] || sl text (some s) (some (s + 1)) == [120])
noncomputable def isFig (text : List UInt8) (s : Int) : Bool := decide (0 ≤ s ∧ s < (text.length : Int)) && (sl text (some s) (some (s + 1)) == [49] || sl text (some s) (some (s + 1)) == [50])
theorem let_in {text : List UInt8} {s : Int} (h : isLet text s = true) : 0 ≤ s ∧ s < (text.length : Int) := by
  unfold isLet at h; rw [Bool.and_eq_true] at h; exact of_decide_eq_true h.1
theorem fig_in {text : List UInt8} {s : Int} (h : isFig text s = true) : 0 ≤ s ∧ s < (text.length : Int) := by
  unfold isFig at h; rw [Bool.and_eq_true] at h; exact of_decide_eq_true h.1
section
variable {w : World} {mean : ExcName → Option Value} {mg mb : Str → Option Value}
theorem kp_292 (w : World) : Kept w (.ref 292) := kept_K (by k_dflt k_is)
theorem kp_299 (w : World) : Kept w (.ref 299) := kept_K (by k_dflt k_is)
theorem kp_306 (w : World) : Kept w (.ref 306) := kept_K (by k_dflt k_is)
theorem kp_313 (w : World) : Kept w (.ref 313) := kept_K (by k_dflt k_is)
theorem c_is_letter {text : List UInt8} {s : Int} {tt ts : Tok} (h16 : text.length ≤ 16) : Con w mean mg mb (.ref 292) [.bytes text.toArray tt, .int s ts] [] 6 40 (fun r own' => own' = [] ∧ r = .bool (isLet text s)) := by
  refine con_js ([("text", .bytes text.toArray tt), ("s", .int s ts)]) ([]) ([]) ([("len", .builtin "len")]) (by k_dflt k_is) (by k_dflt k_is) (by kernel_rfl) (by end_is "j gl") (by end_is "j bl") (by exact fun _ _ => BindsTo.of_eq rfl) ?_
  intro dp un gd outer base g L
  simp only [List.map, List.cons_append, List.nil_append]
  refine js_ret (jc_and (jc_lelt ji_lit (by end_is "j") (by end_is "j")) fun _ => jc_one (jc_in (r := sl text (some s) (some (s + 1)) == [97] || (sl text (some s) (some (s + 1)) == [98] || sl text (some s) (some (s + 1)) == [120])) (jb_slice (by end_is "j") (jp_some (by end_is "j")) (jp_some (by end_is "j")) (by lia)) (jargs_cons jb_lit rfl (jargs_cons jb_lit rfl (jargs_cons jb_lit rfl jargs0))) ?_)) ?_
  · rintro vs ⟨t1, _, rfl, t2, _, rfl, t3, _, rfl, rfl⟩
    refine ⟨by simp, fun y hy => ?_, ?_⟩
    · simp only [List.mem_cons, List.not_mem_nil, or_false] at hy
      rcases hy with rfl | rfl | rfl <;> exact ⟨_, _, rfl⟩
    · simp only [List.any_cons, List.any_nil, eqB_of, Bool.or_false]
  · exact fun _ => ⟨rfl, congrArg Value.bool (by rw [isLet, Bool.decide_and, Bool.or_assoc])⟩
theorem c_is_figure {text : List UInt8} {s : Int} {tt ts : Tok} (h16 : text.length ≤ 16) : Con w mean mg mb (.ref 299) [.bytes text.toArray tt, .int s ts] [] 6 40 (fun r own' => own' = [] ∧ r = .bool (isFig text s)) := by
  refine con_js ([("text", .bytes text.toArray tt), ("s", .int s ts)]) ([]) ([]) ([("len", .builtin "len")]) (by k_dflt k_is) (by k_dflt k_is) (by kernel_rfl) (by end_is "j gl") (by end_is "j bl") (by exact fun _ _ => BindsTo.of_eq rfl) ?_
  intro dp un gd outer base g L
  simp only [List.map, List.cons_append, List.nil_append]
  refine js_ret (jc_and (jc_lelt ji_lit (by end_is "j") (by end_is "j")) fun _ => jc_one (jc_in (r := sl text (some s) (some (s + 1)) == [49] || sl text (some s) (some (s + 1)) == [50]) (jb_slice (by end_is "j") (jp_some (by end_is "j")) (jp_some (by end_is "j")) (by lia)) (jargs_cons jb_lit rfl (jargs_cons jb_lit rfl jargs0)) ?_)) ?_
  · rintro vs ⟨t1, _, rfl, t2, _, rfl, rfl⟩
    refine ⟨by simp, fun y hy => ?_, ?_⟩
    · simp only [List.mem_cons, List.not_mem_nil, or_false] at hy
      rcases hy with rfl | rfl <;> exact ⟨_, _, rfl⟩
    · simp only [List.any_cons, List.any_nil, eqB_of, Bool.or_false]
  · exact fun _ => ⟨rfl, congrArg Value.bool (by rw [isFig, Bool.decide_and])⟩
end
/-! run -/
noncomputable def runGo (p : Int → Bool) : Nat → Int → Int
  | 0, s => s
  | n + 1, s => if p s = true then runGo p n (s + 1) else s
section
variable {w : World} {mean : ExcName → Option Value} {mg mb : Str → Option Value}
theorem c_run {text : List UInt8} {s : Int} {tt ts : Tok} {f : Addr} {p : Int → Bool} (hf : Kept w (.ref f)) (hp : ∀ s ts, Con w mean mg mb (.ref f) [.bytes text.toArray tt, .int s ts] [] 6 40 (fun r own' => own' = [] ∧ r = .bool (p s))) (hl : ∀ s, p s = true → s < (text.length : Int)) (h16 : text.length ≤ 16) (h0 : -1 ≤ s) :
    Con w mean mg mb (.ref 306) [.bytes text.toArray tt, .int s ts, .ref f] [] 12 100 (fun r own' => own' = [] ∧ ∃ t, r = .int (runGo p 18 s) t) := by
  refine con_js ([("text", .bytes text.toArray tt), ("s", .int s ts), ("is_it", .ref f)]) ([]) ([]) ([]) (by k_dflt k_is) (by k_dflt k_is) (by kernel_rfl) (by end_is "j gl") (by end_is "j bl") (by exact fun _ _ => BindsTo.of_eq rfl) ?_
  intro dp un gd outer base g L
  simp only [List.map, List.cons_append, List.nil_append]
  refine js_while (fun n lm nw => nw = [] ∧ E2 fun q u => A3 (lm = ([("text", some (.bytes text.toArray tt)), ("s", some (.int q u)), ("is_it", some (.ref f))] : Lm)) ((text.length : Int) - q < n) (runGo p n q = runGo p 18 s)) 18 ⟨rfl, _, _, rfl, by lia, rfl⟩ ?_
  rintro n _ _ ⟨rfl, q, u, rfl, hn, hr⟩
  refine ⟨_, jt_c (ja_fn2 (g := fun _ => .bool (p q)) (ja_loc (by end_is "j in")) hf (ja_loc (by end_is "j in")) (by end_is "j") fun u' => (hp q u').mono (fun r o h => ⟨h.1, 0, h.2⟩) (Nat.le_refl _) (Nat.le_refl _)), fun h => ?_, fun h => ?_⟩
  · have hlt := hl q h
    obtain ⟨n, rfl⟩ : ∃ n', n = n' + 1 := ⟨n - 1, by lia⟩
    rw [runGo, if_pos h] at hr
    refine js_asg (by end_is "j") (by end_is "j set") fun _ => ?_
    exact js_nil ⟨n, Nat.lt_succ_self n, rfl, _, _, rfl, by lia, hr⟩
  · have e : runGo p n q = q := by cases n <;> simp [runGo, h]
    rw [← hr, e]
    refine js_ret (by end_is "j") ?_
    exact fun t => ⟨rfl, t, rfl⟩
end
/-! balanced -/
noncomputable def balD (b : Int) : Int := if b = 40 then 1 else if b = 41 then -1 else 0
noncomputable def balGo (text : List UInt8) (s : Int) : Nat → Int → Int → Option Int
  | 0, _, _ => none
  | n + 1, place, deep =>
    if deep + balD (bi text place) ≤ 0 then (if s < place then some (place + 1) else none)
    else balGo text s n (place + 1) (deep + balD (bi text place))
noncomputable def balM (text : List UInt8) (s : Int) : Option Int := balGo text s ((text.length : Int) - s).toNat s 0
theorem range_size {a b : Int} : Builtin.Range.rangeSize a b 1 = ((b - a).toNat : Int) := by
  unfold Builtin.Range.rangeSize
  rw [if_pos (by decide), Int.ediv_one]
  by_cases h : a < b
  · rw [if_pos h, Int.toNat_of_nonneg (Int.sub_nonneg_of_le (Int.le_of_lt h)), show b - a - 1 + 1 = b - a from Int.sub_add_cancel _ _]
  · rw [if_neg h, Int.toNat_eq_zero.mpr (Int.sub_nonpos_of_le (Int.not_lt.mp h))]; rfl
theorem fits {i : Int} (h : -1000 ≤ i) (k : i ≤ 1000000) : Builtin.Range.rangeFitsLong i = true := by
  rw [Builtin.Range.rangeFitsLong, decide_eq_true (Int.le_trans (by decide) h), decide_eq_true (Int.lt_of_le_of_lt k (by decide))]; rfl
theorem range_small {a b : Int} (h1 : -1000 ≤ a) (h2 : a ≤ 1000000) (h3 : -1000 ≤ b) (h4 : b ≤ 1000) : Builtin.Range.small a b 1 = true := by
  have h5 : Builtin.Range.rangeSize a b 1 ≤ 1000000 := by rw [range_size]; lia
  unfold Builtin.Range.small
  rw [fits h1 h2, fits h3 (Int.le_trans h4 (by decide)), fits (i := 1) (by decide) (by decide), fits (Int.le_trans (b := 0) (by decide) (by rw [range_size]; exact Int.natCast_nonneg _)) h5, if_pos (by decide), Int.sub_self, Int.add_zero, fits h3 (Int.le_trans h4 (by decide)), Bool.or_true]
  rfl
theorem flat_int {v : Value} {n : Int} (h : PyProof.V.Flat v (PyData.int n)) : ∃ t, v = .int n t := by
  cases h default
  exact ⟨_, rfl⟩
theorem bal_look (b : Int) (t1 t2 t3 t4 : Tok) : (Spec.lookup (PyData.int b) (intData [(Value.int 40 t1, Value.int 1 t2), (Value.int 41 t3, Value.int (-1) t4)])).getD (PyData.int 0) = PyData.int (balD b) := by
  by_cases h : b = 40
  · subst h; rfl
  · by_cases h2 : b = 41
    · subst h2; rfl
    · have h' : Spec.same (PyData.int 40) (PyData.int b) = false := decide_eq_false fun e => h e.symm
      have h2' : Spec.same (PyData.int 41) (PyData.int b) = false := decide_eq_false fun e => h2 e.symm
      show (Spec.lookup (PyData.int b) [(PyData.int 40, PyData.int 1), (PyData.int 41, PyData.int (-1))]).getD (PyData.int 0) = _
      rw [balD, if_neg h, if_neg h2]
      rw [Spec.lookup, Spec.lookup, h', h2']
      rfl
section
variable {w : World} {mean : ExcName → Option Value} {mg mb : Str → Option Value}
theorem jx_bal {c : Cx} {F : FD} {lm : Lm} {nw : Led} {p1 p2 p3 p4 p5 p6 p7 p8 p9 bp zp : Pos} {x y : Str} {e0 : PySem.Expr} {a b : Int} (h0 : JI c F lm nw e0 a) (h : ∀ p, JI c F lm (p :: nw) (.Subscript (.Name x p1) (.Name y p2) p3) b) :
    JE c F lm nw (.BinOp e0 .Add (.Call (.Attribute (.Dict [some (.Constant (.int 40) 0 p4), some (.Constant (.int 41) 0 p5)] [.Constant (.int 1) 0 p6, .UnaryOp .USub (.Constant (.int 1) 0 p7) p8] p9) "get" ⟨353, 22, 353, 41⟩) [.Subscript (.Name x p1) (.Name y p2) p3, .Constant (.int 0) 0 zp] [] ⟨353, 22, 353, 57⟩) bp) (fun v n => E2 fun t p => v = .int (a + balD b) t ∧ n = p :: nw) := fun s m Q ok hn Fm hm N hQ =>
  wpAny_BinOp (h0 s m _ ok hn Fm hm N fun v h' tk' n ⟨e, t, e'⟩ F' N' => by
    subst e e'
    exact MethodCall_ (Dict_made_int rfl F' rfl rfl (List.cons_ne_nil _ _) (Nat.le_of_ble_eq_true rfl) fun F₁ => pairTrees_cons_walk (wpAny_Constant_int (wpAny_Constant_int (pairTrees_cons_walk (wpAny_Constant_int (UnaryOp_ (wpAny_Constant_int (neg_int (pairTrees_nil_walk (kdp_made_int F' N' (Top.nolimit ok.T) rfl (of_decide_eq_true rfl) rfl
      fun h₂ o F₂ N₂ _ lo hd hf _ => getMethod_intTab_get (TabAt.ofNews N₂ (.head _) lo hd hf) (callWith_method1 (args_cons (h (_, o) { s with heap := h₂, toks := _ } m _ ok hn F₂ hm N₂ fun v h₃ tk₃ n₃ ⟨e, t₃, e'⟩ F₃ N₃ => by
        subst e e'
        exact args_cons (wpAny_Constant_int (args_nil (call_get2_intTab (TabAt.ofNews N₃ (.head _) lo hd hf) (PyProof.V.Flat.int 0 _) fun v hv => by
          rw [bal_look] at hv
          obtain ⟨t₄, rfl⟩ := flat_int hv
          exact PyProof.Rows.add_int (hQ _ _ _ _ ⟨_, _, rfl, rfl⟩ F₃ N₃))))))))))))))))))
theorem c_balanced {text : List UInt8} {s : Int} {tt ts : Tok} (h16 : text.length ≤ 16) (h0 : 0 ≤ s) (h1000 : s ≤ 1000) : Con w mean mg mb (.ref 313) [.bytes text.toArray tt, .int s ts] [] 12 60 (fun r own' => own' = [] ∧ OptV (balM text s) r) := by
  refine con_jo ([("text", .bytes text.toArray tt), ("s", .int s ts)]) (["deep", "place"]) ([]) ([("range", .type "range"), ("len", .builtin "len")]) (by k_dflt k_is) (by k_dflt k_is) (by kernel_rfl) (by end_is "j gl") (by end_is "j bl") (by exact fun _ _ => BindsTo.of_eq rfl) ?_
  intro cx Pq e1 e2 e3 e4 hK hU hP hN
  subst e1 e2 e3 e4
  dsimp only [List.map, List.cons_append, List.nil_append]
  refine js_asg ji_lit (by end_is "j set") fun u0 => ?_
  rw [balM] at hP
  generalize hn : ((text.length : Int) - s).toNat = n at hP ⊢
  refine js_rng (n := n) (adr := []) (a := s) (b := (text.length : Int)) (S := fun n' => n' = [])
    (fun i lm nx => E3 fun (o : Option Value) (deep : Int) (u : Tok) => A3 (lm = ([("text", some (.bytes text.toArray tt)), ("s", some (.int s ts)), ("deep", some (.int deep u)), ("place", o)] : Lm)) (nx = []) (balGo text s (n - i) (s + (i : Int)) deep = balGo text s n s 0))
    (jx_range2 (by end_is "j in") (ji_loc (by end_is "j in")) (ji_len (ja_blt (by end_is "j in")) (jb_loc (by end_is "j in")) (by lia))) (range_small (by lia) (by lia) (by lia) (by lia)) (by rw [range_size, hn]) ?_ (by simp) ?_ ?_
  · rintro _ rfl
    exact ⟨⟨none, 0, u0, rfl, rfl, by rw [Nat.sub_zero, show s + ((0 : Nat) : Int) = s by lia]⟩, rfl⟩
  · rintro i t own T hi' ho hT _ _ hTr _ _ - ⟨o, deep, u, rfl, rfl, hr⟩
    obtain ⟨k, hk⟩ : ∃ k, n - i = k + 1 := ⟨n - i - 1, by lia⟩
    rw [hk, balGo] at hr
    refine ⟨_, (by end_is "j set"), ?_⟩
    refine js_asgX (jx_bal (a := deep) (b := bi text (s + (i : Int))) (ji_loc (by end_is "j in")) fun p => ji_item (jb_loc (by end_is "j in")) (ji_loc (by end_is "j in")) (by lia) (by lia) (by lia)) (by end_is "j set") ?_
    rintro _ _ ⟨u1, p, rfl, rfl⟩
    generalize deep + balD (bi text (s + (i : Int))) = d at hr ⊢
    refine js_when (b := decide (d ≤ 0)) (by end_is "j") (fun h => ?_) fun h => ?_
    · rw [if_pos (of_decide_eq_true h)] at hr
      refine JG.sub (nw' := []) ?_ sub_nil
      refine js_retX (jx_ite (p := decide (s < s + (i : Int))) (by end_is "j") (R := fun v m => m = [] ∧ OptV (balGo text s n s 0) v) (fun h => ?_) fun h => ?_) fun v m h => hTr _ _ _ (hP _ _ _ h)
      · rw [← hr, if_pos (of_decide_eq_true h)]
        exact ji_add (ji_loc (by end_is "j in")) ji_lit
      · rw [← hr, if_neg (of_decide_eq_false h)]
        exact ja_x jn_lit fun _ => ⟨rfl, rfl⟩
    · rw [if_neg (of_decide_eq_false h)] at hr
      refine js_nil (hT _ [] _ ⟨_, d, u1, rfl, rfl, ?_⟩ rfl (fun p hp => nomatch hp) fun p hp => .tail _ hp)
      rw [show n - (i + 1) = k by lia, show s + ((i + 1 : Nat) : Int) = s + (i : Int) + 1 by lia]
      exact hr
  · rintro _ _ ⟨o, deep, u, rfl, rfl, hr⟩
    refine js_ret jn_lit fun _ => hP _ _ _ ⟨rfl, ?_⟩
    rw [← hr, Nat.sub_self]
    rfl
end
/-! match -/
/-- a reading as Python holds it: none, or the end and the captures -/
noncomputable def ReadIs (x : Option (Int × List Cap)) (v : Value) (own' : Led) : Prop := match x with
  | none => v = .none ∧ own' = []
  | some (e, cs) => E5 fun (T Lr : Addr) (u : Tok) (vs : List Value) (c : Nat) => A5 (v = .ref T) (own' = [(T, tupO [.int e u, .ref Lr]), (Lr, listOf vs.toArray c)]) (T ≠ Lr) (vs.length = cs.length) (∀ (i : Nat) (cc : Cap), cs[i]? = some cc → ∃ v', vs[i]? = some v' ∧ cc.Is v')
noncomputable def lawM (kind : Int) (text : List UInt8) (s : Int) : Option (Int × List Cap) :=
  if kind = 0 then (balM text s).map fun e => (e, [])
  else if kind = 1 then (if isLet text s = true ∧ isLet text (s - 1) = false then some (runGo (isLet text) 18 s, []) else none)
  else if kind = 2 then (if isLet text s = true then some (runGo (isFig text) 18 (s + 1), [.txt (sl text (some s) (some (s + 1))), .txt (sl text (some (s + 1)) (some (runGo (isFig text) 18 (s + 1))))]) else none)
  else if kind = 3 then some (s + (if isLet text s = true then 1 else 0), [.pos (s + 1)])
  else if kind = 4 then (if (isLet text s = true ∨ isFig text s = true) ∧ sl text (some s) (some (s + 1)) = sl text (some (s + 1)) (some (s + 2)) then some (s + 2, [.txt (sl text (some s) (some (s + 1)))]) else none)
  else if kind = 5 then (if isLet text s = true ∧ isFig text (s + 1) = true then some (s + 2, [.txt (sl text (some s) (some (s + 2))), .txt (sl text (some s) (some (s + 1)))]) else none)
  else if kind = 6 then (if isFig text s = true ∧ isFig text (s - 1) = false then some (runGo (isFig text) 18 s, [.txt (sl text (some s) (some (runGo (isFig text) 18 s)))]) else none)
  else if kind = 7 then (if s = (text.length : Int) ∧ 0 < s then some (s, []) else none)
  else if kind = 8 then (if s = 0 ∧ ¬ text = [] then some (s, []) else none)
  else (if sl text (some s) (some (s + 1)) = [97] ∧ 0 ≤ findV text.toArray #[97] (s + 1).toNat then some (findV text.toArray #[97] (s + 1).toNat + 1, []) else none)
section
variable {w : World} {mean : ExcName → Option Value} {mg mb : Str → Option Value}
theorem readIs_some {e : Int} {cs : List Cap} {T Lr : Addr} {u : Tok} {vs : List Value} (hT : T ≠ Lr) (hl : vs.length = cs.length) (h : ∀ (i : Nat) (cc : Cap), cs[i]? = some cc → ∃ v', vs[i]? = some v' ∧ cc.Is v') : ReadIs (some (e, cs)) (.ref T) [(T, tupO [.int e u, .ref Lr]), (Lr, listOf vs.toArray 0)] :=
  ⟨T, Lr, u, vs, 0, rfl, rfl, hT, hl, h⟩
/-- `return (e, [..]) if t else None`, the captures' kinds known -/
theorem jx_read {c : Cx} {F : FD} {lm : Lm} {pos tp lp np : Pos} {t e1 : PySem.Expr} {es : List PySem.Expr} {k : Nat} {b : Bool} {e : Int} {Rs : List Value → Prop} {cs : List Cap} {r : Option (Int × List Cap)} (h : JT c F lm [] t b) (h1 : b = true → JI c F lm [] e1 e) (ha : b = true → JArgs c F lm [] lp es Rs)
    (hR : ∀ vs, Rs vs → vs.length ≤ 1000 ∧ vs.length = cs.length ∧ ∀ (i : Nat) (cc : Cap), cs[i]? = some cc → ∃ v', vs[i]? = some v' ∧ cc.Is v') (ht : b = true → r = some (e, cs)) (hf : b = false → r = none) (hs : simpE e1 = true := by rfl) :
    JE c F lm [] (.IfExp t (.Tuple [e1, .List es lp] k tp) (.Constant .none 0 np) pos) (ReadIs r) :=
  jx_ite h (fun hb => JX.mono (jx_pair (h1 hb) (ha hb) (fun vs r => (hR vs r).1) hs) fun v n ⟨T, D, u, vs, e1, e2, r, ne⟩ => by
    subst e1 e2
    rw [ht hb]
    exact readIs_some ne (hR vs r).2.1 (hR vs r).2.2) fun hb => by
    rw [hf hb]
    exact ja_x jn_lit fun _ => ⟨rfl, rfl⟩
theorem caps0 {vs : List Value} (h : vs = []) : vs.length ≤ 1000 ∧ vs.length = ([] : List Cap).length ∧ ∀ (i : Nat) (cc : Cap), ([] : List Cap)[i]? = some cc → ∃ v', vs[i]? = some v' ∧ cc.Is v' := by
  subst h; exact ⟨by simp, rfl, fun i cc h => by simp at h⟩
theorem caps1 {c : Cap} {g : Tok → Value} (hg : ∀ t, c.Is (g t)) {vs : List Value} (h : E2 fun t vs' => vs = g t :: vs' ∧ vs' = []) : vs.length ≤ 1000 ∧ vs.length = [c].length ∧ ∀ (i : Nat) (cc : Cap), [c][i]? = some cc → ∃ v', vs[i]? = some v' ∧ cc.Is v' := by
  obtain ⟨t, _, rfl, rfl⟩ := h
  refine ⟨by simp, rfl, fun i cc h => ?_⟩
  cases i with
  | zero => cases h; exact ⟨_, rfl, hg t⟩
  | succ i => simp at h
theorem caps2 {c d : Cap} {g g' : Tok → Value} (hg : ∀ t, c.Is (g t)) (hg' : ∀ t, d.Is (g' t)) {vs : List Value} (h : E2 fun t vs' => vs = g t :: vs' ∧ E2 fun u vs'' => vs' = g' u :: vs'' ∧ vs'' = []) : vs.length ≤ 1000 ∧ vs.length = [c, d].length ∧ ∀ (i : Nat) (cc : Cap), [c, d][i]? = some cc → ∃ v', vs[i]? = some v' ∧ cc.Is v' := by
  obtain ⟨t, _, rfl, u, _, rfl, rfl⟩ := h
  refine ⟨by simp, rfl, fun i cc h => ?_⟩
  rcases i with _ | _ | i
  · cases h; exact ⟨_, rfl, hg t⟩
  · cases h; exact ⟨_, rfl, hg' u⟩
  · simp at h
theorem capsT1 {a : List UInt8} {vs : List Value} (h : E2 fun t vs' => vs = Value.bytes a.toArray t :: vs' ∧ vs' = []) : vs.length ≤ 1000 ∧ vs.length = [Cap.txt a].length ∧ ∀ (i : Nat) (cc : Cap), [Cap.txt a][i]? = some cc → ∃ v', vs[i]? = some v' ∧ cc.Is v' := caps1 (c := .txt a) (fun t => ⟨t, rfl⟩) h
theorem capsT2 {a b : List UInt8} {vs : List Value} (h : E2 fun t vs' => vs = Value.bytes a.toArray t :: vs' ∧ E2 fun u vs'' => vs' = Value.bytes b.toArray u :: vs'' ∧ vs'' = []) : vs.length ≤ 1000 ∧ vs.length = [Cap.txt a, Cap.txt b].length ∧ ∀ (i : Nat) (cc : Cap), [Cap.txt a, Cap.txt b][i]? = some cc → ∃ v', vs[i]? = some v' ∧ cc.Is v' :=
  caps2 (c := .txt a) (d := .txt b) (fun t => ⟨t, rfl⟩) (fun t => ⟨t, rfl⟩) h
theorem jc_letter {c : Cx} {F : FD} {lm : Lm} {nw : Led} {pos xp : Pos} {e1 e2 : PySem.Expr} {l : List UInt8} {t : Tok} {n : Int} (h1 : JV c F lm nw e1 (.bytes l.toArray t)) (h2 : JI c F lm nw e2 n) (h16 : l.length ≤ 16) (hf : (Str.ofString "_law_is_letter", .ref 292) ∈ F.gl) (a1 : 6 ≤ c.K := by end_is "j room") (a2 : 40 ≤ c.U := by end_is "j room")
    (hs : simpE e1 = true := by rfl) (hs2 : simpE e2 = true := by rfl) : JC c F lm nw (.Call (.Name "_law_is_letter" xp) [e1, e2] [] pos) (isLet l n) :=
  ja_fn2 (ja_glb hf) (kp_292 _) h1 h2 (fun _ => (c_is_letter h16).mono (fun r o h => ⟨h.1, 0, h.2⟩) (Nat.le_refl _) (Nat.le_refl _)) a1 a2 hs hs2
theorem jc_figure {c : Cx} {F : FD} {lm : Lm} {nw : Led} {pos xp : Pos} {e1 e2 : PySem.Expr} {l : List UInt8} {t : Tok} {n : Int} (h1 : JV c F lm nw e1 (.bytes l.toArray t)) (h2 : JI c F lm nw e2 n) (h16 : l.length ≤ 16) (hf : (Str.ofString "_law_is_figure", .ref 299) ∈ F.gl) (a1 : 6 ≤ c.K := by end_is "j room") (a2 : 40 ≤ c.U := by end_is "j room")
    (hs : simpE e1 = true := by rfl) (hs2 : simpE e2 = true := by rfl) : JC c F lm nw (.Call (.Name "_law_is_figure" xp) [e1, e2] [] pos) (isFig l n) :=
  ja_fn2 (ja_glb hf) (kp_299 _) h1 h2 (fun _ => (c_is_figure h16).mono (fun r o h => ⟨h.1, 0, h.2⟩) (Nat.le_refl _) (Nat.le_refl _)) a1 a2 hs hs2
/-- `_law_run(text, s, f)` -/
theorem ji_run {c : Cx} {F : FD} {lm : Lm} {nw : Led} {pos xp : Pos} {e1 e2 e3 : PySem.Expr} {l : List UInt8} {t : Tok} {n : Int} {f : Addr} {p : Int → Bool} (h1 : JV c F lm nw e1 (.bytes l.toArray t)) (h2 : JI c F lm nw e2 n) (h3 : JV c F lm nw e3 (.ref f)) (hk : Kept c.w (.ref f)) (hp : ∀ s ts, Con c.w c.mean c.mg c.mb (.ref f) [.bytes l.toArray t, .int s ts] [] 6 40 (fun r own' => own' = [] ∧ r = .bool (p s))) (hl : ∀ s, p s = true → s < (l.length : Int)) (h16 : l.length ≤ 16) (h0 : -1 ≤ n)
    (hf : (Str.ofString "_law_run", .ref 306) ∈ F.gl) (a1 : 12 ≤ c.K := by end_is "j room") (a2 : 100 ≤ c.U := by end_is "j room") (hs : simpE e1 = true := by rfl) (hs2 : simpE e2 = true := by rfl) (hs3 : simpE e3 = true := by rfl) : JI c F lm nw (.Call (.Name "_law_run" xp) [e1, e2, e3] [] pos) (runGo p 18 n) :=
  jx_name3 (ja_glb hf) (kp_306 _) h1 h2 h3 (fun _ _ _ => jx_con0 (c_run hk hp hl h16 h0) a1 a2) hs hs2 hs3
theorem hm_find {c : Cx} {F : FD} {lm : Lm} {nw : Led} {b : Array UInt8} {t : Tok} : HasM c F lm nw (.bytes b t) "find" (.builtin "bytes.find") := fun _ s _ _ _ _ Fm _ N hQ => bf_method (hQ _ s.heap s.toks nw ⟨rfl, rfl⟩ Fm N)
section
variable {kind : Int} {text : List UInt8} {s : Int}
theorem lawM_0 (h : kind = 0) : lawM kind text s = (balM text s).map fun e => (e, []) := by subst h; rfl
theorem lawM_1 (h : kind = 1) : lawM kind text s = (if isLet text s = true ∧ isLet text (s - 1) = false then some (runGo (isLet text) 18 s, []) else none) := by subst h; rfl
theorem lawM_2 (h : kind = 2) : lawM kind text s = (if isLet text s = true then some (runGo (isFig text) 18 (s + 1), [.txt (sl text (some s) (some (s + 1))), .txt (sl text (some (s + 1)) (some (runGo (isFig text) 18 (s + 1))))]) else none) := by subst h; rfl
theorem lawM_3 (h : kind = 3) : lawM kind text s = some (s + (if isLet text s = true then 1 else 0), [.pos (s + 1)]) := by subst h; rfl
theorem lawM_4 (h : kind = 4) : lawM kind text s = (if (isLet text s = true ∨ isFig text s = true) ∧ sl text (some s) (some (s + 1)) = sl text (some (s + 1)) (some (s + 2)) then some (s + 2, [.txt (sl text (some s) (some (s + 1)))]) else none) := by subst h; rfl
theorem lawM_5 (h : kind = 5) : lawM kind text s = (if isLet text s = true ∧ isFig text (s + 1) = true then some (s + 2, [.txt (sl text (some s) (some (s + 2))), .txt (sl text (some s) (some (s + 1)))]) else none) := by subst h; rfl
theorem lawM_6 (h : kind = 6) : lawM kind text s = (if isFig text s = true ∧ isFig text (s - 1) = false then some (runGo (isFig text) 18 s, [.txt (sl text (some s) (some (runGo (isFig text) 18 s)))]) else none) := by subst h; rfl
theorem lawM_7 (h : kind = 7) : lawM kind text s = (if s = (text.length : Int) ∧ 0 < s then some (s, []) else none) := by subst h; rfl
theorem lawM_8 (h : kind = 8) : lawM kind text s = (if s = 0 ∧ ¬ text = [] then some (s, []) else none) := by subst h; rfl
theorem lawM_9 (h : kind = 9) : lawM kind text s = (if sl text (some s) (some (s + 1)) = [97] ∧ 0 ≤ findV text.toArray #[97] (s + 1).toNat then some (findV text.toArray #[97] (s + 1).toNat + 1, []) else none) := by subst h; rfl
theorem rd {r r' : Option (Int × List Cap)} {v : Value} {n : Led} (e : r = r') (h : ReadIs r' v n) : ReadIs r v n := e ▸ h
end
theorem c_match_all {kind : Int} {text : List UInt8} {s : Int} {tk tt ts : Tok} (hk0 : 0 ≤ kind) (hk9 : kind ≤ 9) (h16 : text.length ≤ 16) (h0 : 0 ≤ s) (h1 : s ≤ 900) :
    Con w mean mg mb (.ref 320) [.int kind tk, .bytes text.toArray tt, .int s ts] [] 30 200 (ReadIs (lawM kind text s)) := by
  refine con_jo ([("kind", .int kind tk), ("text", .bytes text.toArray tt), ("s", .int s ts)]) (["end", "begins", "is_sign", "is_pair"]) ([("_law_balanced", .ref 313), ("_law_is_letter", .ref 292), ("_law_is_figure", .ref 299), ("_law_run", .ref 306)]) ([("len", .builtin "len"), ("int", .type "int")]) (by k_dflt k_is) (by k_dflt k_is) (by kernel_rfl) (by end_is "j gl") (by end_is "j bl") (by exact fun _ _ => BindsTo.of_eq rfl) ?_
  intro cx Pq e1 e2 e3 e4 hK hU hP hN
  subst e1 e2 e3 e4
  dsimp only [List.map, List.cons_append, List.nil_append]
  refine js_when (by end_is "j") (fun h => ?_) fun k0 => ?_
  · have hk := of_decide_eq_true h
    refine js_asgX (jx_name2 (ja_glb (by end_is "j in")) (kp_313 _) (ja_loc (by end_is "j in")) (by end_is "j") fun _ _ => jx_con0 (c_balanced h16 h0 (by lia)) (by end_is "j room") (by end_is "j room")) (by end_is "j set") ?_
    rintro v _ ⟨rfl, hv⟩
    rcases hb : balM text s with _ | e
    · rw [hb] at hv
      cases hv
      refine js_retX (jx_ite (p := true) (jn_is (ja_loc (by end_is "j in"))) (R := ReadIs none) (fun _ => ja_x jn_lit fun _ => ⟨rfl, rfl⟩) fun h => nomatch h) fun v n h => hP _ _ _ (rd ((lawM_0 hk).trans (by rw [hb]; rfl)) h)
    · rw [hb] at hv
      obtain ⟨t, rfl⟩ := hv
      refine js_retX (jx_ite (p := false) (jn_is (ja_loc (by end_is "j in"))) (R := ReadIs (some (e, []))) (fun h => nomatch h) fun _ => ?_) fun v n h => hP _ _ _ (rd ((lawM_0 hk).trans (by rw [hb]; rfl)) h)
      refine JX.mono (jx_pair (by end_is "j") jargs0 (fun vs r => (caps0 r).1)) ?_
      rintro v n ⟨T, D, u, vs, rfl, rfl, r, ne⟩
      exact readIs_some ne (caps0 r).2.1 (caps0 r).2.2
  refine js_when (by end_is "j") (fun h => ?_) fun k7 => ?_
  · have hk := of_decide_eq_true h
    refine js_retX (jx_read (r := if s = (text.length : Int) ∧ 0 < s then some (s, []) else none) (jt_and (by end_is "j") fun _ => jt_and (by end_is "j") fun _ => jt_and0) (fun _ => (by end_is "j")) (fun _ => jargs0) (fun vs h => caps0 h) (fun h => ?_) fun h => ?_) fun v n h => hP _ _ _ (rd (lawM_7 hk) h)
    · exact if_pos (by simpa using h)
    · exact if_neg (by simpa using h)
  refine js_when (by end_is "j") (fun h => ?_) fun k8 => ?_
  · have hk := of_decide_eq_true h
    refine js_retX (jx_read (r := if s = 0 ∧ ¬ text = [] then some (s, []) else none) (jt_and (by end_is "j") fun _ => jt_and (jb_ne (by end_is "j") (by end_is "j")) fun _ => jt_and0) (fun _ => (by end_is "j")) (fun _ => jargs0) (fun vs h => caps0 h) (fun h => ?_) fun h => ?_) fun v n h => hP _ _ _ (rd (lawM_8 hk) h)
    · exact if_pos (by simpa using h)
    · exact if_neg (by simpa using h)
  refine js_when (by end_is "j") (fun h => ?_) fun k9 => ?_
  · have hk := of_decide_eq_true h
    refine js_asg (jx_meth2 (ja_loc (by end_is "j in")) hm_find kept_builtin (by end_is "j") (by end_is "j") fun _ _ => JQ.rule fun _ _ _ _ _ _ _ hQ => call_find2 (Int.toNat_of_nonneg (by lia)).symm fun _ _ => hQ _ _) (by end_is "j set") fun _ => ?_
    refine js_retX (jx_read (r := if sl text (some s) (some (s + 1)) = [97] ∧ 0 ≤ findV text.toArray #[97] (s + 1).toNat then some (findV text.toArray #[97] (s + 1).toNat + 1, []) else none) (jt_and (jb_eq (jb_slice (by end_is "j") (jp_some (by end_is "j")) (jp_some (by end_is "j")) (by lia)) (by end_is "j")) fun _ => jt_and (by end_is "j") fun _ => jt_and0) (fun _ => (by end_is "j")) (fun _ => jargs0) (fun vs h => caps0 h) (fun h => ?_) fun h => ?_) fun v n h => hP _ _ _ (rd (lawM_9 hk) h)
    · exact if_pos (by simpa using h)
    · exact if_neg (by simpa using h)
  refine js_when (by end_is "j") (fun h => ?_) fun k1 => ?_
  · have hk := of_decide_eq_true h
    refine js_asg (jc_and (jc_letter (ja_loc (by end_is "j in")) (by end_is "j") h16 (by end_is "j in")) fun _ => jc_one (jc_not (jc_letter (ja_loc (by end_is "j in")) (by end_is "j") h16 (by end_is "j in")))) (by end_is "j set") fun _ => ?_
    refine js_retX (jx_read (jt_c (ja_loc (by end_is "j in"))) (fun _ => ji_run (ja_loc (by end_is "j in")) (by end_is "j") (ja_glb (by end_is "j in")) (kp_292 _) (fun s ts => c_is_letter h16) (fun s h => (let_in h).2) h16 (by lia) (by end_is "j in")) (fun _ => jargs0) (fun vs h => caps0 h) (fun h => ?_) fun h => ?_) fun v n h => hP _ _ _ (rd (lawM_1 hk) h)
    · exact if_pos (by simpa using h)
    · exact if_neg (by simpa using h)
  refine js_when (by end_is "j") (fun h => ?_) fun k2 => ?_
  · have hk := of_decide_eq_true h
    refine js_asg (ji_run (ja_loc (by end_is "j in")) (by end_is "j") (ja_glb (by end_is "j in")) (kp_299 _) (fun s ts => c_is_figure h16) (fun s h => (fig_in h).2) h16 (by lia) (by end_is "j in")) (by end_is "j set") fun _ => ?_
    refine js_retX (jx_read (jt_c (jc_letter (ja_loc (by end_is "j in")) (by end_is "j") h16 (by end_is "j in"))) (fun _ => (by end_is "j")) (fun _ => jargs_cons (jb_slice (by end_is "j") (jp_some (by end_is "j")) (jp_some (by end_is "j")) (by lia)) rfl (jargs_cons (jb_slice (by end_is "j") (jp_some (by end_is "j")) (jp_some (by end_is "j")) (by lia)) rfl jargs0)) (fun vs h => capsT2 h) (fun h => ?_) fun h => ?_) fun v n h => hP _ _ _ (rd (lawM_2 hk) h)
    · exact if_pos (by simpa using h)
    · exact if_neg (by simpa using h)
  refine js_when (by end_is "j") (fun h => ?_) fun k3 => ?_
  · have hk := of_decide_eq_true h
    refine js_retX (JX.mono (jx_pair (ji_add (by end_is "j") (ji_int (by end_is "j in") (jc_letter (ja_loc (by end_is "j in")) (by end_is "j") h16 (by end_is "j in")))) (jargs_cons (g := Value.int (s + 1)) (by end_is "j") rfl jargs0) fun vs r => (caps1 (c := .pos (s + 1)) (fun t => ⟨t, rfl⟩) r).1) ?_) fun v n h => hP _ _ _ (rd (lawM_3 hk) h)
    rintro v n ⟨T, D, u, vs, rfl, rfl, r, ne⟩
    have r := caps1 (c := .pos (s + 1)) (fun t => ⟨t, rfl⟩) r
    exact readIs_some ne r.2.1 r.2.2
  refine js_asg (jc_or (jc_letter (ja_loc (by end_is "j in")) (by end_is "j") h16 (by end_is "j in")) fun _ => jc_one (jc_figure (ja_loc (by end_is "j in")) (by end_is "j") h16 (by end_is "j in"))) (by end_is "j set") fun _ => ?_
  refine js_when (by end_is "j") (fun h => ?_) fun k4 => ?_
  · have hk := of_decide_eq_true h
    refine js_retX (jx_read (jt_and (jt_c (ja_loc (by end_is "j in"))) fun _ => jt_and (jb_eq (jb_slice (by end_is "j") (jp_some (by end_is "j")) (jp_some (by end_is "j")) (by lia)) (jb_slice (by end_is "j") (jp_some (by end_is "j")) (jp_some (by end_is "j")) (by lia))) fun _ => jt_and0) (fun _ => (by end_is "j")) (fun _ => jargs_cons (jb_slice (by end_is "j") (jp_some (by end_is "j")) (jp_some (by end_is "j")) (by lia)) rfl jargs0) (fun vs h => capsT1 h) (fun h => ?_) fun h => ?_) fun v n h => hP _ _ _ (rd (lawM_4 hk) h)
    · exact if_pos (by simpa using h)
    · exact if_neg (by simpa using h)
  refine js_when (by end_is "j") (fun h => ?_) fun k5 => ?_
  · have hk := of_decide_eq_true h
    refine js_asg (jc_and (jc_letter (ja_loc (by end_is "j in")) (by end_is "j") h16 (by end_is "j in")) fun _ => jc_one (jc_figure (ja_loc (by end_is "j in")) (by end_is "j") h16 (by end_is "j in"))) (by end_is "j set") fun _ => ?_
    refine js_retX (jx_read (jt_c (ja_loc (by end_is "j in"))) (fun _ => (by end_is "j")) (fun _ => jargs_cons (jb_slice (by end_is "j") (jp_some (by end_is "j")) (jp_some (by end_is "j")) (by lia)) rfl (jargs_cons (jb_slice (by end_is "j") (jp_some (by end_is "j")) (jp_some (by end_is "j")) (by lia)) rfl jargs0)) (fun vs h => capsT2 h) (fun h => ?_) fun h => ?_) fun v n h => hP _ _ _ (rd (lawM_5 hk) h)
    · exact if_pos (by simpa using h)
    · exact if_neg (by simpa using h)
  have hk : kind = 6 := by
    have := of_decide_eq_false k0; have := of_decide_eq_false k1; have := of_decide_eq_false k2; have := of_decide_eq_false k3; have := of_decide_eq_false k4; have := of_decide_eq_false k5; have := of_decide_eq_false k7; have := of_decide_eq_false k8; have := of_decide_eq_false k9
    lia
  refine js_asg (jc_and (jc_figure (ja_loc (by end_is "j in")) (by end_is "j") h16 (by end_is "j in")) fun _ => jc_one (jc_not (jc_figure (ja_loc (by end_is "j in")) (by end_is "j") h16 (by end_is "j in")))) (by end_is "j set") fun _ => ?_
  refine js_asg (ji_run (ja_loc (by end_is "j in")) (by end_is "j") (ja_glb (by end_is "j in")) (kp_299 _) (fun s ts => c_is_figure h16) (fun s h => (fig_in h).2) h16 (by lia) (by end_is "j in")) (by end_is "j set") fun _ => ?_
  refine js_retX (jx_read (jt_c (ja_loc (by end_is "j in"))) (fun _ => (by end_is "j")) (fun _ => jargs_cons (jb_slice (by end_is "j") (jp_some (by end_is "j")) (jp_some (by end_is "j")) (by lia)) rfl jargs0) (fun vs h => capsT1 h) (fun h => ?_) fun h => ?_) fun v n h => hP _ _ _ (rd (lawM_6 hk) h)
  · exact if_pos (by simpa using h)
  · exact if_neg (by simpa using h)
end
/-! draw; items of any list -/
section
variable {c : Cx} {F : FD} {lm : Lm} {nw : Led} {pos apos xp : Pos} {e e1 i l r : PySem.Expr} {x : Str} {g : Tok → Value} {rest : List Stmt} {P : Flow → Lm → Led → Prop} {vs : List Value} {a : Addr} {k : Nat} {n y : Int} {v : Value}
theorem jv_litem (h : JV c F lm nw e (.ref a)) (hi : JI c F lm nw i n) (hm : (a, listOf vs.toArray k) ∈ nw) (h0 : 0 ≤ n) (hz : n ≤ 1000) (hv : vs[n.toNat]? = some v) (hs : noSl i = true := by rfl) : JV c F lm nw (.Subscript e i pos) v :=
  JQ.bind2 (fun _ _ => Subscript_) h hi fun _ _ => fun s m Q ok hn Fm hm' N hQ =>
    have hl : s.heap.IsList a vs.toArray := ⟨_, (N _ hm).1, rfl, k, rfl⟩
    tail_any hl.typeIs slot_list_getitem.lookup (wpAny_getItem_list hl h0 (by lia) (by rw [List.getElem?_toArray]; exact hv) (hQ _ s.heap s.toks nw ⟨rfl, 0, rfl⟩ Fm N)) (subscripted_noSl hs _ _)
theorem ji_llen (hf : (x, .builtin "len") ∈ F.bl) (h : JV c F lm nw e (.ref a)) (hm : (a, listOf vs.toArray k) ∈ nw) (hz : vs.length ≤ 1000) (hs : simpE e = true := by rfl) : JI c F lm nw (.Call (.Name x xp) [e] [] pos) (vs.length : Int) :=
  jx_name1 (ja_blt hf) kept_builtin h (fun _ => fun s m Q ok hn Fm hm' N hQ => call_len_list ⟨_, (N _ hm).1, rfl, k, rfl⟩ (by rw [List.size_toArray]; lia) (by rw [List.size_toArray]; exact hQ _ s.heap (s.toks + 1 + 1) nw ⟨rfl, _, rfl⟩ Fm N)) hs
theorem ji_fdiv (h1 : JI c F lm nw l n) (h2 : JI c F lm nw r y) (h : 0 < y) (hy : y < 1000) : JI c F lm nw (.BinOp l .FloorDiv r pos) (n.fdiv y) :=
  JQ.bind2 (fun _ _ => wpAny_BinOp) h1 h2 fun _ _ => JQ.rule fun _ _ _ _ _ _ _ hQ => floordiv_int (by lia) (hQ _ _) (Or.inl (PyProof.noPylong_small (by lia)))
/-- `l[i] = e`, any list of the ledger's -/
theorem js_setitemV {nf : Tok → Led} {q : Tok → List Value} (h : JA c F lm nw e1 g) (ho : JV c F lm nw e (.ref a)) (hi : JI c F lm nw i n) (hq : ∀ t, ki_setL vs n.toNat (g t) = some (q t)) (hU : ∀ t, Upd a (listOf vs.toArray k) (listOf (q t).toArray k) nw (nf t)) (h0 : 0 ≤ n) (hz : n ≤ 1000)
    (hr : ∀ t, JS c F lm (nf t) rest P) (hs : simpE e1 = true := by rfl) : JS c F lm nw (.Assign [.Subscript e i apos] e1 pos :: rest) P :=
  js_cons fun s m Q ok hn Fm hm N hQ => wpAny_Assign_Subscript (h s m _ ok hn Fm hm N fun v h' tk' n' ⟨e, t, e'⟩ F' N' => by
    subst e e'
    refine ho { s with heap := h', toks := tk' } m _ ok hn F' hm N' fun v₁ h₁ tk₁ n₁ ⟨e₁, _, e₁'⟩ F₁ N₁ => ?_
    subst e₁ e₁'
    refine hi { s with heap := h₁, toks := tk₁ } m _ ok hn F₁ hm N₁ fun v₂ h₂ tk₂ n₂ ⟨e₂, _, e₂'⟩ F₂ N₂ => ?_
    subst e₂ e₂'
    exact ki_set (s := { s with heap := h₂, toks := tk₂ }) F₂ N₂ h0 (by lia) (hq t) (hU t) fun h₃ F₃ N₃ => hQ .next h₃ tk₂ m lm _ (hr t) hn F₃ hm N₃) (swaps_simp hs _ _ _)
end
section
variable {w : World} {mean : ExcName → Option Value} {mg mb : Str → Option Value}
/-- the feed: numbers, how many are drawn, a seed -/
noncomputable abbrev feedO (NL : Addr) (k sd : Int) (tk ts : Tok) (c : Nat) : Obj := listOf #[.ref NL, .int k tk, .int sd ts] c
noncomputable def drawV (ns : List Int) (k sd many : Int) : Int := if k + 1 ≤ (ns.length : Int) then (gi ns k).fmod many else (5 * (k + 1) + (k + 1).fdiv 7 + sd).fmod many
theorem c_draw {FD NL : Addr} {ns : List Int} {vs : List Value} {k sd many : Int} {tk ts tm : Tok} {c c2 : Nat} (hi : IntsAre vs ns) (hne : FD ≠ NL) (hk : 0 ≤ k) (hm : 0 < many) (h24 : ns.length ≤ 24) (hk2 : k ≤ 1000) :
    Con w mean mg mb (.ref 285) [.ref FD, .int many tm] [(FD, feedO NL k sd tk ts c), (NL, listOf vs.toArray c2)] 6 60
      (fun r own' => E3 fun tk' ts' c' => own' = [(FD, feedO NL (k + 1) sd tk' ts' c'), (NL, listOf vs.toArray c2)] ∧ ∃ t, r = .int (drawV ns k sd many) t) := by
  have hlen : (vs.length : Int) = ns.length := congrArg Nat.cast hi.length
  unfold drawV
  refine con_js ([("feed", .ref FD), ("many", .int many tm)]) ([]) ([]) ([("len", .builtin "len")]) (by k_dflt k_is) (by k_dflt k_is) (by kernel_rfl) (by end_is "j gl") (by end_is "j bl") (by exact fun _ _ => BindsTo.of_eq rfl) ?_
  intro dp un gd outer base g L
  simp only [List.map, List.cons_append, List.nil_append]
  refine js_setitemV (vs := [.ref NL, .int k tk, .int sd ts]) (n := 1) (nf := fun t => [(FD, listOf (List.toArray [.ref NL, .int (k + 1) t, .int sd ts]) c), (NL, listOf vs.toArray c2)]) (ji_add (ja_x (jv_litem (ja_loc (by end_is "j in")) ji_lit List.mem_cons_self (by decide) (by decide) rfl) fun _ => ⟨rfl, tk, rfl⟩) ji_lit) (ja_loc (by end_is "j in")) ji_lit (fun _ => rfl) (fun _ => Upd.head (fun p hp => by rw [List.mem_singleton.mp hp]; exact fun e => hne e.symm)) (by decide) (by decide) fun t => ?_
  have h1 : ∀ {c' F lm nw pos e i}, (FD, listOf (List.toArray [.ref NL, .int (k + 1) t, .int sd ts]) c) ∈ nw → JV c' F lm nw e (.ref FD) → JI c' F lm nw i 1 → noSl i = true → JI c' F lm nw (.Subscript e i pos) (k + 1) :=
    fun hm he hi hs => ja_x (jv_litem he hi hm (by decide) (by decide) rfl hs) fun _ => ⟨rfl, t, rfl⟩
  have hN : ∀ {c' F lm nw pos e i}, (FD, listOf (List.toArray [.ref NL, .int (k + 1) t, .int sd ts]) c) ∈ nw → JV c' F lm nw e (.ref FD) → JI c' F lm nw i 0 → noSl i = true → JV c' F lm nw (.Subscript e i pos) (.ref NL) :=
    fun hm he hi hs => jv_litem he hi hm (by decide) (by decide) rfl hs
  refine js_when (ji_le (h1 List.mem_cons_self (ja_loc (by end_is "j in")) ji_lit rfl) (ji_llen (by end_is "j in") (hN List.mem_cons_self (ja_loc (by end_is "j in")) ji_lit rfl) (List.mem_cons_of_mem _ List.mem_cons_self) (by lia))) (fun h => ?_) fun h => ?_
  · have h := of_decide_eq_true h
    rw [if_pos (by lia)]
    refine js_ret (ji_mod (ji_litem (n := k) (hN List.mem_cons_self (ja_loc (by end_is "j in")) ji_lit rfl) (ja_x (ji_sub (h1 List.mem_cons_self (ja_loc (by end_is "j in")) ji_lit rfl) ji_lit) fun u => ⟨rfl, u, by rw [Int.add_sub_cancel]⟩) (List.mem_cons_of_mem _ List.mem_cons_self) hi hk (by lia) (by lia)) (by end_is "j") (by lia)) ?_
    exact fun u => ⟨_, _, _, rfl, u, rfl⟩
  · have h := of_decide_eq_false h
    rw [if_neg (by lia)]
    refine js_ret (ji_mod (ji_add (ji_add (ji_mul ji_lit (h1 List.mem_cons_self (ja_loc (by end_is "j in")) ji_lit rfl) (IntMulOk.of_le (intBits_le_64 (by lia) (by lia)) (intBits_le_64 (by lia) (by lia)) (by decide))) (ji_fdiv (h1 List.mem_cons_self (ja_loc (by end_is "j in")) ji_lit rfl) ji_lit (by lia) (by lia))) (ja_x (jv_litem (n := 2) (ja_loc (by end_is "j in")) ji_lit List.mem_cons_self (by decide) (by decide) rfl) fun _ => ⟨rfl, ts, rfl⟩)) (by end_is "j") (by lia)) ?_
    exact fun u => ⟨_, _, _, rfl, u, rfl⟩
end
/-! stands -/
section
variable {prog : Program} {w : World} {A : Around} {E : Value → Shared → Prop} {s : Shared} {h₀ : Heap} {L : Addr} {news : Led}
theorem eq_empty {l b : Addr} {vs : List Value} {c c' : Nat} {Q : Value → Shared → Prop} (N : News h₀ L s.heap news) (h1 : (l, listOf vs.toArray c) ∈ news) (h2 : (b, listOf #[] c') ∈ news) (hu : A.units < cLine)
    (h : Q (.bool vs.isEmpty) s) : wpAny (model prog w) A (compareOp .Eq (.ref l) (.ref b)) Q E s := by
  have hl : s.heap.IsList l vs.toArray := ⟨_, (N _ h1).1, rfl, _, rfl⟩
  have hb : s.heap.IsList b #[] := ⟨_, (N _ h2).1, rfl, _, rfl⟩
  cases vs with
  | nil => exact PySem.SeqAt.eq_listAt (e := fun _ => true) hl hb rfl hu (fun j h1 => absurd h1 (Nat.not_lt_zero _)) h
  | cons v vs => exact PySem.SeqAt.eq_list_lengthsAt hl hb (by simp) hu h
end
section
variable {c : Cx} {F : FD} {lm : Lm} {nw : Led} {pos lp : Pos} {e : PySem.Expr} {vs : List Value} {a : Addr} {k : Nat}
/-- `e == []` -/
theorem jt_empty (h : JV c F lm nw e (.ref a)) (hm : (a, listOf vs.toArray k) ∈ nw) : JT c F lm nw (.Compare e [.Eq] [.List [] lp] pos) vs.isEmpty := fun s m Q ok hn Fm hm' N hQ =>
  wpAny_isTrue_Compare1 (h s m _ ok hn Fm hm' N fun v h' tk' n ⟨e, u, e'⟩ F' N' => jx_list0 { s with heap := h', toks := tk' } m _ ok hn F' hm' (e ▸ N') fun v₂ h₂ tk₂ n₂ ⟨D, e1, e2, ap⟩ F₂ N₂ => by
    subst e' e1 e2
    exact eq_empty (s := { s with heap := h₂, toks := tk₂ }) N₂ (.tail _ hm) (.head _) (by have := ok.units; show c.un + 3 < cLine; lia) (wpAny_truthy_bool (hQ _ h₂ tk₂ nw ⟨rfl, 0, rfl⟩ F₂ fun p hp => N₂ p (.tail _ hp)))) (bim rfl _)
end
noncomputable def standsM (piece whole : List UInt8) (cs : List Cap) : List UInt8 :=
  if piece = [122] then [122]
  else if piece = [37, 37] ∨ piece = [37, 45] then sl piece (some 1) none
  else if piece = [37] then [0]
  else if piece = [37, 48] ∨ cs = [] then whole
  else (cs.getD (if piece = [37, 50] then 1 else 0) (.txt [])).oct
/-- the captures as the readings give them -/
inductive Shape : List Cap → List Value → Prop
  | nil : Shape [] []
  | pos (i : Int) (t : Tok) : 1 ≤ i → i ≤ 9 → Shape [.pos i] [.int i t]
  | one (b : List UInt8) (t : Tok) : Shape [.txt b] [.bytes b.toArray t]
  | two (a b : List UInt8) (t u : Tok) : Shape [.txt a, .txt b] [.bytes a.toArray t, .bytes b.toArray u]
theorem Shape.empty {cs : List Cap} {vs : List Value} (h : Shape cs vs) : vs.isEmpty = decide (cs = []) := by cases h <;> simp
theorem Shape.at {cs : List Cap} {vs : List Value} (h : Shape cs vs) (hne : ¬ cs = []) {n : Nat} (hn : n = 0 ∨ n = 1 ∧ cs.length ≠ 1) : ∃ v, vs[n]? = some v ∧ (cs.getD n (.txt [])).Is v ∧ ∀ i, cs.getD n (.txt []) = .pos i → 1 ≤ i ∧ i ≤ 9 := by
  cases h with
  | nil => exact absurd rfl hne
  | pos i t h1 h9 =>
    rcases hn with rfl | ⟨rfl, h⟩
    · exact ⟨_, rfl, ⟨t, rfl⟩, fun j e => by cases e; exact ⟨h1, h9⟩⟩
    · exact absurd rfl h
  | one b t =>
    rcases hn with rfl | ⟨rfl, h⟩
    · exact ⟨_, rfl, ⟨t, rfl⟩, fun j e => nomatch e⟩
    · exact absurd rfl h
  | two a b t u =>
    rcases hn with rfl | ⟨rfl, h⟩
    · exact ⟨_, rfl, ⟨t, rfl⟩, fun j e => nomatch e⟩
    · exact ⟨_, rfl, ⟨u, rfl⟩, fun j e => nomatch e⟩
section
variable {w : World} {mean : ExcName → Option Value} {mg mb : Str → Option Value}
theorem c_stands {piece whole : List UInt8} {Lr : Addr} {vs : List Value} {c : Nat} {tp tw : Tok} {cs : List Cap} (hp : piece.length ≤ 16) (hw : whole.length ≤ 16) (hs : Shape cs vs) (h2 : piece = [37, 50] → cs.length ≠ 1) :
    Con w mean mg mb (.ref 334) [.bytes piece.toArray tp, .bytes whole.toArray tw, .ref Lr] [(Lr, listOf vs.toArray c)] 12 60
      (fun r own' => own' = [(Lr, listOf vs.toArray c)] ∧ ∃ t, r = .bytes (standsM piece whole cs).toArray t) := by
  unfold standsM
  refine con_js ([("piece", .bytes piece.toArray tp), ("whole", .bytes whole.toArray tw), ("held", .ref Lr)]) (["told"]) ([]) ([("isinstance", .builtin "isinstance"), ("bytes", .type "bytes"), ("str", .type "str")]) (by k_dflt k_is) (by k_dflt k_is) (by kernel_rfl) (by end_is "j gl") (by end_is "j bl") (by exact fun _ _ => BindsTo.of_eq rfl) ?_
  intro dp un gd outer base g L
  simp only [List.map, List.cons_append, List.nil_append]
  refine js_when (jb_eq (by end_is "j") (by end_is "j")) (fun h => ?_) fun h => ?_
  · rw [if_pos (of_decide_eq_true h)]
    refine js_ret jb_lit ?_
    exact fun t => ⟨rfl, t, rfl⟩
  rw [if_neg (of_decide_eq_false h)]
  refine js_when (jt_or (jb_eq (by end_is "j") (by end_is "j")) fun _ => jt_or (jb_eq (by end_is "j") (by end_is "j")) fun _ => jt_or0) (fun h => ?_) fun h => ?_
  · rw [if_pos (by simpa using h)]
    refine js_ret (jb_slice (by end_is "j") (jp_some (by end_is "j")) jp_none (by lia)) ?_
    exact fun t => ⟨rfl, t, rfl⟩
  rw [if_neg (by simpa using h)]
  refine js_when (jb_eq (by end_is "j") (by end_is "j")) (fun h => ?_) fun h => ?_
  · rw [if_pos (of_decide_eq_true h)]
    refine js_ret jb_lit ?_
    exact fun t => ⟨rfl, t, rfl⟩
  rw [if_neg (of_decide_eq_false h)]
  refine js_when (jt_or (jb_eq (by end_is "j") (by end_is "j")) fun _ => jt_or (jt_empty (ja_loc (by end_is "j in")) List.mem_cons_self) fun _ => jt_or0) (fun h => ?_) fun h => ?_
  · rw [if_pos (by simpa [hs.empty] using h)]
    refine js_ret (jb_loc (by end_is "j in")) ?_
    exact fun t => ⟨rfl, t, rfl⟩
  have h : ¬ (piece = [37, 48] ∨ cs = []) := by simpa [hs.empty] using h
  rw [if_neg h]
  obtain ⟨v, hv, hc, h9⟩ := hs.at (fun q => h (.inr q)) (n := if piece = [37, 50] then 1 else 0) (by split <;> rename_i q; exact .inr ⟨rfl, h2 q⟩; exact .inl rfl)
  refine js_asg (jv_litem (n := if decide (piece = [37, 50]) = true then 1 else 0) (v := v) (ja_loc (by end_is "j in")) (ji_ite (jb_eq (by end_is "j") (by end_is "j")) (fun _ => ji_lit) fun _ => ji_lit) List.mem_cons_self (by split <;> decide) (by split <;> decide) (by rw [← hv]; by_cases q : piece = [37, 50] <;> simp [q])) (by end_is "j set") fun _ => ?_
  generalize cs.getD (if piece = [37, 50] then 1 else 0) (.txt []) = cap at hc h9 ⊢
  cases cap with
  | pos i =>
    obtain ⟨t, rfl⟩ := hc
    obtain ⟨h1, h9⟩ := h9 i rfl
    refine js_ret (ja_ite (p := false) (jt_c (jc_isB (by end_is "j in") (by end_is "j in") (ja_loc (by end_is "j in")) (.inr ⟨rfl, _, _, rfl⟩))) (fun h => nomatch h) fun _ => jx_methC0 (js_str (by end_is "j in") (by end_is "j") (by lia)) (fun _ => hm_enc) kept_builtin fun _ => JQ.rule fun _ _ _ _ _ _ _ hQ => call_enc_plain h1 h9 fun _ _ => hQ _ _) ?_
    exact fun t => ⟨rfl, t, rfl⟩
  | txt b =>
    obtain ⟨t, rfl⟩ := hc
    refine js_ret (ja_ite (p := true) (jt_c (jc_isB (by end_is "j in") (by end_is "j in") (ja_loc (by end_is "j in")) (.inl ⟨rfl, _, _, rfl⟩))) (fun _ => jb_loc (by end_is "j in")) fun h => nomatch h) ?_
    exact fun t => ⟨rfl, t, rfl⟩
end
/-! pieces -/
noncomputable def pieceOf (form : Int) : List UInt8 := if form = 0 then [122] else if form = 1 then [37, 48] else if form = 2 then [37, 49] else if form = 3 then [37, 37] else if form = 4 then [37, 50] else [37, 45]
noncomputable def formOf (form kind : Int) : Int := if form = 4 ∧ ¬ (kind = 2 ∨ kind = 5) then 0 else form
noncomputable def piecesGo (ns : List Int) (sd kind : Int) : Nat → Int → List (List UInt8) × Int
  | 0, k => ([], k)
  | n + 1, k => let r := piecesGo ns sd kind n (k + 1); (pieceOf (formOf (drawV ns k sd 6) kind) :: r.1, r.2)
/-- octets as Python holds them -/
inductive BytesAre : List (List UInt8) → List Value → Prop
  | nil : BytesAre [] []
  | cons (b : List UInt8) (t : Tok) {bs : List (List UInt8)} {vs : List Value} : BytesAre bs vs → BytesAre (b :: bs) (.bytes b.toArray t :: vs)
theorem BytesAre.len {bs : List (List UInt8)} {vs : List Value} (h : BytesAre bs vs) : vs.length = bs.length := by
  induction h with
  | nil => rfl
  | cons x u _ ih => exact congrArg Nat.succ ih
theorem BytesAre.snoc {bs : List (List UInt8)} {vs : List Value} (h : BytesAre bs vs) (b : List UInt8) (t : Tok) : BytesAre (bs ++ [b]) (vs ++ [.bytes b.toArray t]) := by
  induction h with
  | nil => exact .cons b t .nil
  | cons x u _ ih => exact .cons x u ih
theorem draw_in (ns : List Int) (k sd : Int) {many : Int} (h : 0 < many) : 0 ≤ drawV ns k sd many ∧ drawV ns k sd many < many := by
  unfold drawV
  split <;> exact ⟨Int.fmod_nonneg_of_pos _ h, Int.fmod_lt_of_pos _ h⟩
noncomputable def eqI (n : Int) : Value → Bool
  | .int y _ => y == n
  | _ => false
theorem ints_any {n : Int} {vs : List Value} {ns : List Int} (h : IntsAre vs ns) : vs.any (eqI n) = ns.any fun y => y == n := by
  induction h with
  | nil => rfl
  | cons a t _ ih => rw [List.any_cons, List.any_cons, ih]; rfl
theorem ints_eqAt {A : Around} {s : Shared} {n : Int} {t : Tok} {vs : List Value} {ns : List Int} (h : IntsAre vs ns) : ∀ y ∈ vs, PySem.SeqAt.EqAt A s y (.int n t) (eqI n y) := by
  induction h with
  | nil => intro y hy; cases hy
  | cons a t _ ih =>
    intro y hy
    rcases List.mem_cons.mp hy with rfl | hy
    · exact PySem.SeqAt.EqAt.int_int _ _ _ _
    · exact ih y hy
section
variable {c : Cx} {F : FD} {lm : Lm} {nw : Led} {pos lp xp apos : Pos} {e i e1 : PySem.Expr} {es : List PySem.Expr} {x : Str} {g : Tok → Value} {Rs : List Value → Prop} {n : Int} {R : Addr} {its : List Value} {k : Nat}
/-- `[..][i]` -/
theorem ja_menu (ha : JArgs c F lm nw lp es Rs) (hi : ∀ nw, JI c F lm nw i n) (h0 : 0 ≤ n) (hz : n ≤ 1000) (hr : ∀ vs, Rs vs → vs.length ≤ 1000 ∧ ∃ t, vs[n.toNat]? = some (g t)) (hs : noSl i = true := by rfl) : JA c F lm nw (.Subscript (.List es lp) i pos) g :=
  JX.bind2 (t2 := fun _ => eval i (F.env c.L)) (R2 := fun a b n' => (∃ t, b = .int n t) ∧ E2 fun D vs => A3 (a = .ref D) (n' = (D, listOf (List.toArray vs) 0) :: nw) (Rs vs)) (fun _ _ z => Subscript_ z) (jx_list ha fun vs r => (hr vs r).1) (fun v n' ⟨D, vs, e1, e2, r, _⟩ => by subst e1 e2; exact JX.mono (hi _) fun b n'' ⟨e, t, e'⟩ => ⟨⟨t, e'⟩, D, vs, rfl, e, r⟩)
    fun v b n' ⟨⟨u, e⟩, D, vs, e1, e2, r⟩ => by
      subst e e1 e2
      intro s m Q ok hn Fm hm N hQ
      obtain ⟨t, ht⟩ := (hr vs r).2
      have hl : s.heap.IsList D vs.toArray := ⟨_, (N _ (.head _)).1, rfl, 0, rfl⟩
      exact tail_any hl.typeIs slot_list_getitem.lookup (wpAny_getItem_list hl h0 (by lia) (by rw [List.getElem?_toArray]; exact ht) (hQ _ s.heap s.toks nw ⟨rfl, t, rfl⟩ Fm fun p hp => N p (.tail _ hp))) (subscripted_noSl hs _ _)
/-- `e not in (2, 5)` -/
theorem jt_notin {es : List PySem.Expr} {r : Bool} (h : JI c F lm nw e n) (ha : JArgs c F lm nw lp es Rs) (hb : ∀ vs, Rs vs → ∃ ns, vs.length ≤ 1000 ∧ IntsAre vs ns ∧ (!(ns.any fun y => y == n)) = r) : JT c F lm nw (.Compare e [.NotIn] [.Tuple es k lp] pos) r := fun s m Q ok hn Fm hm N hQ =>
  wpAny_isTrue_Compare1 (h s m _ ok hn Fm hm N fun v h' tk' n' ⟨e, u, e'⟩ F' N' => jx_tup ha (fun vs r => by obtain ⟨ns, h, _⟩ := hb vs r; exact h) { s with heap := h', toks := tk' } m _ ok hn F' hm (e ▸ N') fun v₂ h₂ tk₂ n₂ ⟨T, vs, rs, e1, e2, _⟩ F₂ N₂ => by
    subst e' e1 e2
    obtain ⟨ns, _, hI, hr⟩ := hb vs rs
    refine PySem.SeqAt.notIn_tupleAt (s := { s with heap := h₂, toks := tk₂ }) (items := vs.toArray) (eqI n) ⟨_, (N₂ _ (.head _)).1, rfl, _, rfl⟩ (fun y hy => ints_eqAt hI y (by simpa using hy)) (wpAny_truthy_bool ?_)
    rw [List.any_toArray, ints_any hI, hr]
    exact hQ _ h₂ tk₂ nw ⟨rfl, 0, rfl⟩ F₂ fun p hp => N₂ p (.tail _ hp)) rfl
theorem hm_append (hm : (R, listOf its.toArray k) ∈ nw) : HasM c F lm nw (.ref R) "append" (.builtin "list.append") := fun _ s _ _ _ _ Fm _ N hQ => Calls.getMethod_list_append (N _ hm).1 rfl rfl (hQ _ s.heap s.toks nw ⟨rfl, rfl⟩ Fm N)
/-- `x.append(e)`, a statement -/
theorem js_append {rest : List Stmt} {P : Flow → Lm → Led → Prop} {nf : Tok → Led} {p2 : Pos} (hx : (x, some (.ref R)) ∈ lm) (hm : (R, listOf its.toArray k) ∈ nw) (h : JA c F lm nw e g) (hU : ∀ t, Upd R (listOf its.toArray k) (listOf (its ++ [g t]).toArray (k + 1)) nw (nf t)) (hz : its.length ≤ 1000) (hr : ∀ t, JS c F lm (nf t) rest P)
    (hl : (apos.endLine == pos.line) = true := by rfl) (hs : simpE e = true := by rfl) : JS c F lm nw (.Expr (.Call (.Attribute (.Name x xp) "append" apos) [e] [] pos) p2 :: rest) P :=
  js_expr (R := fun v n => v = .none ∧ ∃ t, n = nf t) (jx_meth1 (ja_loc hx) (hm_append hm) kept_builtin h (fun t s m Q ok hn Fm hm' N hQ => append_K Fm N (by rw [List.push_toArray]; exact hU t) (fun h' F' N' => hQ _ h' s.toks _ ⟨rfl, t, rfl⟩ F' N') (by rw [List.size_toArray, sizeLine_eq]; lia)) hl hs) (fun v n ⟨e, t, e'⟩ => by subst e e'; exact ⟨fun a => nofun, hr t⟩) rfl
theorem kp_285 (w : World) : Kept w (.ref 285) := kept_K (by k_dflt k_is)
/-- `_law_draw(feed, e)` -/
theorem jx_draw {FD NL : Addr} {ns : List Int} {vs : List Value} {kk sd many : Int} {tk ts : Tok} {cc c2 : Nat} {rest : Led} (hf : (Str.ofString "_law_draw", .ref 285) ∈ F.gl) (hx : JV c F lm ((FD, feedO NL kk sd tk ts cc) :: (NL, listOf vs.toArray c2) :: rest) (.Name x lp) (.ref FD)) (h : JI c F lm ((FD, feedO NL kk sd tk ts cc) :: (NL, listOf vs.toArray c2) :: rest) e many) (hi : IntsAre vs ns) (hne : FD ≠ NL) (hk : 0 ≤ kk) (hm : 0 < many) (h24 : ns.length ≤ 24) (hk2 : kk ≤ 1000)
    (hr : ∀ p ∈ rest, p.1 ≠ FD ∧ p.1 ≠ NL) (a1 : 6 ≤ c.K := by end_is "j room") (a2 : 60 ≤ c.U := by end_is "j room") (hs : simpE e = true := by rfl) :
    JE c F lm ((FD, feedO NL kk sd tk ts cc) :: (NL, listOf vs.toArray c2) :: rest) (.Call (.Name "_law_draw" xp) [.Name x lp, e] [] pos) (fun v n => (∃ t, v = .int (drawV ns kk sd many) t) ∧ E3 fun tk' ts' c' => n = (FD, feedO NL (kk + 1) sd tk' ts' c') :: (NL, listOf vs.toArray c2) :: rest) :=
  jx_name2 (ja_glb hf) (kp_285 _) hx h (fun _ u => JX.mono (jx_con (rest := rest) (c_draw (k := kk) (sd := sd) (many := many) (tk := tk) (ts := ts) (tm := u) (c := cc) (c2 := c2) hi hne hk hm h24 hk2) a1 a2 (fun p hp => by
    rcases List.mem_cons.mp hp with rfl | hp
    · exact .head _
    · rw [List.mem_singleton.mp hp]; exact .tail _ (.head _)) (fun p hp => .tail _ (.tail _ hp)) (fun p hp q => by
    rcases List.mem_cons.mp q with q | q
    · exact (hr p hp).1 q
    · exact (hr p hp).2 (List.mem_singleton.mp q))) fun v n ⟨own', ⟨tk', ts', c', e1, t, e2⟩, e3, _⟩ => by subst e1 e2 e3; exact ⟨⟨t, rfl⟩, tk', ts', c', rfl⟩) rfl hs
end
theorem any25 {kind : Int} : ([2, 5].any fun x => x == kind) = decide (kind = 2 ∨ kind = 5) := by
  by_cases h2 : kind = 2
  · subst h2; rfl
  · by_cases h5 : kind = 5
    · subst h5; rfl
    · have h2' : ¬ (2 : Int) = kind := fun e => h2 e.symm
      have h5' : ¬ (5 : Int) = kind := fun e => h5 e.symm
      simp [h2, h5, h2', h5']
theorem formOf_in {f kind : Int} (h0 : 0 ≤ f) (h6 : f < 6) : 0 ≤ formOf f kind ∧ formOf f kind < 6 := by unfold formOf; split <;> lia
theorem piece_at {f : Int} (h0 : 0 ≤ f) (h6 : f < 6) (t0 t1 t2 t3 t4 t5 : Tok) : ∃ t, [Value.bytes [122].toArray t0, .bytes [37, 48].toArray t1, .bytes [37, 49].toArray t2, .bytes [37, 37].toArray t3, .bytes [37, 50].toArray t4, .bytes [37, 45].toArray t5][f.toNat]? = some (.bytes (pieceOf f).toArray t) := by
  have : f = 0 ∨ f = 1 ∨ f = 2 ∨ f = 3 ∨ f = 4 ∨ f = 5 := int6 (by lia) (by lia)
  rcases this with rfl | rfl | rfl | rfl | rfl | rfl <;> exact ⟨_, rfl⟩
section
variable {w : World} {mean : ExcName → Option Value} {mg mb : Str → Option Value}
theorem c_pieces {FD NL : Addr} {ns : List Int} {vs : List Value} {k sd kind : Int} {tk ts tm : Tok} {c c2 : Nat} (hi : IntsAre vs ns) (hne : FD ≠ NL) (hk : 0 ≤ k) (h24 : ns.length ≤ 24) (hk2 : k ≤ 900) (hk0 : 0 ≤ kind) (hk9 : kind ≤ 9) :
    Con w mean mg mb (.ref 327) [.ref FD, .int kind tm] [(FD, feedO NL k sd tk ts c), (NL, listOf vs.toArray c2)] 12 100
      (fun r own' => E6 fun (R : Addr) (tk' ts' : Tok) (c' cr : Nat) (bs : List Value) => A3 (own' = [(R, listOf bs.toArray cr), (FD, feedO NL (piecesGo ns sd kind (1 + drawV ns k sd 3).toNat (k + 1)).2 sd tk' ts' c'), (NL, listOf vs.toArray c2)]) (r = .ref R) (BytesAre (piecesGo ns sd kind (1 + drawV ns k sd 3).toNat (k + 1)).1 bs)) := by
  obtain ⟨hd0, hd3⟩ := draw_in ns k sd (many := 3) (by decide)
  refine con_jo ([("feed", .ref FD), ("kind", .int kind tm)]) (["found", "turn", "form"]) ([("_law_draw", .ref 285)]) ([("range", .type "range")]) (by k_dflt k_is) (by k_dflt k_is) (by kernel_rfl) (by end_is "j gl") (by end_is "j bl") (by exact fun _ _ => BindsTo.of_eq rfl) ?_
  intro cx Pq e1 e2 e3 e4 hK hU hP hN
  subst e1 e2 e3 e4
  dsimp only [List.map, List.cons_append, List.nil_append]
  refine js_asgX jx_list0 (by end_is "j set") ?_
  rintro _ _ ⟨R, rfl, rfl, hap⟩
  have hFR : FD ≠ R := hap _ (.head _)
  have hNR : NL ≠ R := hap _ (.tail _ (.head _))
  refine JG.sub (nw' := [(FD, feedO NL k sd tk ts c), (NL, listOf vs.toArray c2), (R, listOf (List.toArray []) 0)]) ?_ (sub_cons (.tail _ (.head _)) (sub_cons (.tail _ (.tail _ (.head _))) (sub_cons (.head _) sub_nil)))
  generalize hTn : (1 + drawV ns k sd 3).toNat = turns at hP ⊢
  refine js_rng (n := turns) (adr := [FD, NL, R]) (a := 0) (b := 1 + drawV ns k sd 3) (S := fun n' => E3 fun tk' ts' c' => n' = [(FD, feedO NL (k + 1) sd tk' ts' c'), (NL, listOf vs.toArray c2), (R, listOf (List.toArray []) 0)])
    (fun i lm nx => E8 fun (o f : Option Value) (tk' ts' : Tok) (c' cr : Nat) (bs : List Value) (dn : List (List UInt8)) => A6 (lm = ([("feed", some (.ref FD)), ("kind", some (.int kind tm)), ("found", some (.ref R)), ("turn", o), ("form", f)] : Lm)) (nx = [(FD, feedO NL (k + 1 + (i : Int)) sd tk' ts' c'), (NL, listOf vs.toArray c2), (R, listOf bs.toArray cr)]) (BytesAre dn bs) (dn.length = i) (dn ++ (piecesGo ns sd kind (turns - i) (k + 1 + (i : Int))).1 = (piecesGo ns sd kind turns (k + 1)).1) ((piecesGo ns sd kind (turns - i) (k + 1 + (i : Int))).2 = (piecesGo ns sd kind turns (k + 1)).2))
    (jx_range1 (by end_is "j in") (JX.bind2 (t2 := fun _ => eval _ _) (R2 := fun a b n => (∃ t, a = .int 1 t) ∧ (∃ t, b = .int (drawV ns k sd 3) t) ∧ (E3 fun tk' ts' c' => n = [(FD, feedO NL (k + 1) sd tk' ts' c'), (NL, listOf vs.toArray c2), (R, listOf (List.toArray []) 0)])) (fun _ _ => wpAny_BinOp) ji_lit (fun a n ⟨e, t, e'⟩ => by subst e; exact JX.mono (jx_draw (by end_is "j in") (ja_loc (by end_is "j in")) ji_lit hi hne hk (by decide) h24 (by lia) (fun p hp => by rw [List.mem_singleton.mp hp]; exact ⟨hFR.symm, hNR.symm⟩)) fun v n r => ⟨⟨t, e'⟩, r⟩)
      fun a b n ⟨⟨t, e⟩, ⟨u, e'⟩, r⟩ => by subst e e'; exact fun s m Q ok hn Fm hm N hQ => PyProof.Rows.add_int (hQ _ _ _ _ ⟨⟨_, rfl⟩, r⟩ Fm N)))
    (range_small (by lia) (by lia) (by lia) (by lia)) (by rw [range_size]; lia) ?_ (by simp) ?_ ?_
  · rintro _ ⟨tk', ts', c', rfl⟩
    exact ⟨⟨none, none, tk', ts', c', 0, [], [], rfl, by rw [show k + 1 + ((0 : Nat) : Int) = k + 1 by lia], .nil, rfl, by simp, by simp⟩, rfl⟩
  · rintro i t own T hi' ho hT _ _ _ _ _ - ⟨o, f, tk', ts', c', cr, bs, dn, rfl, rfl, hbs, hdl, hr1, hr2⟩
    obtain ⟨j, hj⟩ : ∃ j, turns - i = j + 1 := ⟨turns - i - 1, by lia⟩
    rw [hj, piecesGo] at hr1 hr2
    obtain ⟨hf0, hf6⟩ := draw_in ns (k + 1 + (i : Int)) sd (many := 6) (by decide)
    obtain ⟨hg0, hg6⟩ := formOf_in (kind := kind) hf0 hf6
    refine ⟨_, (by end_is "j set"), ?_⟩
    refine js_asgX (jx_draw (rest := (R, listOf bs.toArray cr) :: own) (by end_is "j in") (ja_loc (by end_is "j in")) ji_lit hi hne (by lia) (by decide) h24 (by lia) ?_) (by end_is "j set") ?_
    · intro p hp
      rcases List.mem_cons.mp hp with rfl | hp
      · exact ⟨hFR.symm, hNR.symm⟩
      · exact ⟨ho p hp FD (by simp), ho p hp NL (by simp)⟩
    rintro _ _ ⟨⟨tf, rfl⟩, tk₂, ts₂, c₂, rfl⟩
    generalize hfV : drawV ns (k + 1 + (i : Int)) sd 6 = fv at *
    refine js_whenJ (fun lm nw => ∃ u, lm = ([("feed", some (.ref FD)), ("kind", some (.int kind tm)), ("found", some (.ref R)), ("turn", some (.int (0 + (i : Int)) t)), ("form", some (.int (formOf fv kind) u))] : Lm) ∧ nw = (FD, feedO NL (k + 1 + (i : Int) + 1) sd tk₂ ts₂ c₂) :: (NL, listOf vs.toArray c2) :: (R, listOf bs.toArray cr) :: own) (jt_and (by end_is "j") fun _ => jt_and (jt_notin (r := decide (¬ (kind = 2 ∨ kind = 5))) (by end_is "j") (jargs_cons ji_lit rfl (jargs_cons ji_lit rfl jargs0)) ?_) fun _ => jt_and0) (fun h => ?_) (fun h => ?_) ?_
    · rintro vs ⟨t1, _, rfl, t2, _, rfl, rfl⟩
      exact ⟨[2, 5], by simp, .cons 2 t1 (.cons 5 t2 .nil), by rw [any25, decide_not]⟩
    · have h : fv = 4 ∧ ¬ (kind = 2 ∨ kind = 5) := by simpa using h
      refine js_asg ji_lit (by end_is "j set") fun u => ?_
      exact js_nil ⟨u, by rw [formOf, if_pos h], rfl⟩
    · have h : ¬ (fv = 4 ∧ ¬ (kind = 2 ∨ kind = 5)) := by simpa using h
      exact ⟨tf, by rw [formOf, if_neg h], rfl⟩
    · rintro _ _ ⟨u, rfl, rfl⟩
      have hbl := hbs.len
      refine js_append (R := R) (its := bs) (k := cr) (by end_is "j in") (.tail _ (.tail _ (.head _))) (ja_menu (g := .bytes (pieceOf (formOf fv kind)).toArray) (jargs_cons jb_lit rfl (jargs_cons jb_lit rfl (jargs_cons jb_lit rfl (jargs_cons jb_lit rfl (jargs_cons jb_lit rfl (jargs_cons jb_lit rfl jargs0)))))) (fun _ => ji_loc (by end_is "j in")) hg0 (by lia) ?_) (fun t => Upd.tail hFR (Upd.tail hNR (Upd.head fun p hp => ho p hp R (by simp)))) (by lia) fun tq => ?_
      · rintro vs ⟨t1, _, rfl, t2, _, rfl, t3, _, rfl, t4, _, rfl, t5, _, rfl, t6, _, rfl, rfl⟩
        exact ⟨by simp, piece_at hg0 hg6 _ _ _ _ _ _⟩
      refine js_nil (hT _ [(FD, feedO NL (k + 1 + (i : Int) + 1) sd tk₂ ts₂ c₂), (NL, listOf vs.toArray c2), (R, listOf (bs ++ [Value.bytes (pieceOf (formOf fv kind)).toArray tq]).toArray (cr + 1))] _ ⟨_, _, tk₂, ts₂, c₂, cr + 1, bs ++ [Value.bytes (pieceOf (formOf fv kind)).toArray tq], dn ++ [pieceOf (formOf fv kind)], rfl, ?_, hbs.snoc _ _, by simp [hdl], ?_, ?_⟩ rfl ?_ fun p hp => .tail _ (.tail _ (.tail _ hp)))
      · rw [show k + 1 + ((i + 1 : Nat) : Int) = k + 1 + (i : Int) + 1 by lia]
      · rw [show turns - (i + 1) = j by lia, show k + 1 + ((i + 1 : Nat) : Int) = k + 1 + (i : Int) + 1 by lia, List.append_assoc]; exact hr1
      · rw [show turns - (i + 1) = j by lia, show k + 1 + ((i + 1 : Nat) : Int) = k + 1 + (i : Int) + 1 by lia]; exact hr2
      · exact sub_cons (.head _) (sub_cons (.tail _ (.head _)) (sub_cons (.tail _ (.tail _ (.head _))) sub_nil))
  · rintro _ _ ⟨o, f, tk', ts', c', cr, bs, dn, rfl, rfl, hbs, hdl, hr1, hr2⟩
    rw [Nat.sub_self, piecesGo] at hr1 hr2
    refine JG.sub (nw' := [(R, listOf bs.toArray cr), (FD, feedO NL (k + 1 + (turns : Int)) sd tk' ts' c'), (NL, listOf vs.toArray c2)]) ?_ (sub_cons (.tail _ (.tail _ (.head _))) (sub_cons (.head _) (sub_cons (.tail _ (.head _)) sub_nil)))
    refine js_ret (ja_loc (by end_is "j in")) ?_
    exact fun _ => hP _ _ _ ⟨R, tk', ts', c', cr, bs, by rw [← hr2], rfl, by rw [← hr1, List.append_nil]; exact hbs⟩
end
/-! the readings as one; spans -/
/-- the captures of a reading at s -/
inductive ShapeC (s : Int) : List Cap → Prop
  | nil : ShapeC s []
  | pos : ShapeC s [.pos (s + 1)]
  | one (b : List UInt8) : ShapeC s [.txt b]
  | two (a b : List UInt8) : ShapeC s [.txt a, .txt b]
/-- a reading's captures are so, if there is one -/
noncomputable def OkP (p : List Cap → Prop) (r : Option (Int × List Cap)) : Prop := ∀ e cs, r = some (e, cs) → p cs
section
variable {p : List Cap → Prop}
theorem OkP.ite {c : Prop} {i : Decidable c} {a b : Option (Int × List Cap)} (h1 : OkP p a) (h2 : OkP p b) : OkP p (@ite _ c i a b) := by
  intro e cs h
  by_cases hc : c
  · exact h1 e cs (ite_t hc h)
  · exact h2 e cs (ite_f hc h)
theorem OkP.some {e : Int} {cs : List Cap} (h : p cs) : OkP p (some (e, cs)) := fun _ _ q => (Prod.mk.inj (Option.some.inj q)).2 ▸ h
theorem OkP.none : OkP p none := fun _ _ h => nomatch h
theorem OkP.map {r : Option Int} (h : p []) : OkP p (r.map fun e => (e, [])) := fun e cs q => by
  obtain ⟨e', -, q⟩ := Option.map_eq_some_iff.mp q; cases q; exact h
/-- every reading's captures -/
theorem lawM_ok {kind : Int} {text : List UInt8} {s : Int} (n : p []) (h1 : ∀ a b, p [.txt (sl text a b)]) (h2 : ∀ a b c d, p [.txt (sl text a b), .txt (sl text c d)]) (hp : p [.pos (s + 1)]) : OkP p (lawM kind text s) := by
  unfold lawM
  exact .ite (.map n) (.ite (.ite (.some n) .none) (.ite (.ite (.some (h2 _ _ _ _)) .none) (.ite (.some hp) (.ite (.ite (.some (h1 _ _)) .none) (.ite (.ite (.some (h2 _ _ _ _)) .none) (.ite (.ite (.some (h1 _ _)) .none) (.ite (.ite (.some n) .none) (.ite (.ite (.some n) .none) (.ite (.some n) .none)))))))))
end
theorem lawM_shape {kind : Int} {text : List UInt8} {s e : Int} {cs : List Cap} (h : lawM kind text s = some (e, cs)) : ShapeC s cs :=
  lawM_ok .nil (fun _ _ => .one _) (fun _ _ _ _ => .two _ _) .pos e cs h
theorem len_two {α : Type} {l : List α} (h : l.length = 2) : ∃ a b, l = [a, b] := by
  cases l with
  | nil => cases h
  | cons a l =>
    obtain ⟨b, rfl⟩ := List.length_eq_one_iff.mp (Nat.succ.inj h)
    exact ⟨a, b, rfl⟩
theorem ShapeC.vals {s : Int} {cs : List Cap} {vs : List Value} (h : ShapeC s cs) (h0 : 0 ≤ s) (h8 : s ≤ 8) (hl : vs.length = cs.length) (hv : ∀ (i : Nat) (cc : Cap), cs[i]? = some cc → ∃ v', vs[i]? = some v' ∧ cc.Is v') : Shape cs vs := by
  cases h with
  | nil =>
    cases List.length_eq_zero_iff.mp hl
    exact .nil
  | pos =>
    obtain ⟨v, rfl⟩ := List.length_eq_one_iff.mp hl
    obtain ⟨v', e, t, rfl⟩ := hv 0 _ rfl
    cases e; exact .pos _ _ (by lia) (by lia)
  | one b =>
    obtain ⟨v, rfl⟩ := List.length_eq_one_iff.mp hl
    obtain ⟨v', e, t, rfl⟩ := hv 0 _ rfl
    cases e; exact .one _ _
  | two a b =>
    obtain ⟨v, u, rfl⟩ := len_two hl
    obtain ⟨v', e, t, rfl⟩ := hv 0 _ rfl
    obtain ⟨u', e', t', rfl⟩ := hv 1 _ rfl
    cases e; cases e'; exact .two _ _ _ _
section
variable {w : World} {mean : ExcName → Option Value} {mg mb : Str → Option Value}
theorem c_match_none {kind : Int} {text : List UInt8} {s : Int} {tk tt ts : Tok} (hk0 : 0 ≤ kind) (hk9 : kind ≤ 9) (h8 : text.length ≤ 8) (h0 : 0 ≤ s) (h1 : s ≤ 8) (hm : lawM kind text s = none) :
    Con w mean mg mb (.ref 320) [.int kind tk, .bytes text.toArray tt, .int s ts] [] 30 200 (fun r own' => own' = [] ∧ r = .none) :=
  (c_match_all hk0 hk9 (by lia) h0 (by lia)).mono (fun r o h => by rw [hm] at h; exact ⟨h.2, h.1⟩) (Nat.le_refl _) (Nat.le_refl _)
theorem c_match_some {kind : Int} {text : List UInt8} {s e : Int} {cs : List Cap} {tk tt ts : Tok} (hk0 : 0 ≤ kind) (hk9 : kind ≤ 9) (h8 : text.length ≤ 8) (h0 : 0 ≤ s) (h1 : s ≤ 8) (hm : lawM kind text s = some (e, cs)) :
    Con w mean mg mb (.ref 320) [.int kind tk, .bytes text.toArray tt, .int s ts] [] 30 200 (fun r own' => E5 fun (T Lr : Addr) (u : Tok) (vs : List Value) (c : Nat) => A4 (r = .ref T) (own' = [(T, tupO [.int e u, .ref Lr]), (Lr, listOf vs.toArray c)]) (T ≠ Lr) (Shape cs vs)) :=
  (c_match_all hk0 hk9 (by lia) h0 (by lia)).mono (fun r o h => by
    rw [hm] at h
    obtain ⟨T, Lr, u, vs, c, h1', h2', h3', h4', h5'⟩ := h
    exact ⟨T, Lr, u, vs, c, h1', h2', h3', (lawM_shape hm).vals h0 h1 h4' h5'⟩) (Nat.le_refl _) (Nat.le_refl _)
end
noncomputable abbrev Span := Int × Int × List Cap
noncomputable def spansGo (kind : Int) (text : List UInt8) (most : Int) (bound : Bool) : Nat → Int → Int → List Span
  | 0, _, _ => []
  | n + 1, s, k =>
    if s ≤ (text.length : Int) ∧ k < most then
      match lawM kind text s with
      | none => spansGo kind text most bound n (if bound = true then (text.length : Int) + 1 else s + 1) k
      | some (e, cs) => (s, e, cs) :: spansGo kind text most bound n (if bound = true then (text.length : Int) + 1 else if e = s then s + 1 else e) (k + 1)
    else []
section
variable {kind : Int} {text : List UInt8} {most : Int} {bound : Bool} {n : Nat} {s e : Int} {cs : List Cap} {dn tot : List Span}
theorem sp_none (hc : s ≤ (text.length : Int) ∧ (dn.length : Int) < most) (hm : lawM kind text s = none) (hr : dn ++ spansGo kind text most bound (n + 1) s (dn.length : Int) = tot) : dn ++ spansGo kind text most bound n (if bound = true then (text.length : Int) + 1 else s + 1) (dn.length : Int) = tot := by
  rw [spansGo, if_pos hc] at hr
  simpa only [hm] using hr
theorem sp_some (hc : s ≤ (text.length : Int) ∧ (dn.length : Int) < most) (hm : lawM kind text s = some (e, cs)) (hr : dn ++ spansGo kind text most bound (n + 1) s (dn.length : Int) = tot) :
    (dn ++ [(s, e, cs)]) ++ spansGo kind text most bound n (if bound = true then (text.length : Int) + 1 else if e = s then s + 1 else e) (((dn ++ [(s, e, cs)]).length : Nat) : Int) = tot := by
  rw [spansGo, if_pos hc] at hr
  simp only [hm] at hr
  have hlen : (((dn ++ [(s, e, cs)]).length : Nat) : Int) = (dn.length : Int) + 1 := by simp
  rw [hlen, List.append_assoc]
  exact hr
theorem sp_t {a b k : Int} (h : bound = true) (hr : dn ++ spansGo kind text most bound n (if bound = true then a else b) k = tot) : dn ++ spansGo kind text most bound n a k = tot := by rwa [if_pos h] at hr
theorem sp_f {a b k : Int} (h : bound = false) (hr : dn ++ spansGo kind text most bound n (if bound = true then a else b) k = tot) : dn ++ spansGo kind text most bound n b k = tot := by rwa [if_neg (by simp [h])] at hr
theorem sp_end (hc : ¬ (s ≤ (text.length : Int) ∧ (dn.length : Int) < most)) (hr : dn ++ spansGo kind text most bound (n + 1) s (dn.length : Int) = tot) : dn = tot := by
  rw [spansGo, if_neg hc, List.append_nil] at hr; exact hr
theorem sp_q : s ≤ e → e ≤ (text.length : Int) → s ≤ (text.length : Int) → s + 1 ≤ (if e = s then s + 1 else e) ∧ (if e = s then s + 1 else e) ≤ (text.length : Int) + 1 := by intro a b d; split <;> lia
theorem sp_if : (if (false || (decide (e = s) || false)) = true then s + 1 else e) = if e = s then s + 1 else e := by simp
end
/-- spans as the heap holds them -/
inductive SpansAre : List Span → List Value → Led → Prop
  | nil : SpansAre [] [] []
  | cons (s e : Int) (cs : List Cap) (t u : Tok) (T Lr : Addr) (vs : List Value) (c : Nat) {sp : List Span} {vals : List Value} {led : Led} : Shape cs vs → SpansAre sp vals led →
      SpansAre ((s, e, cs) :: sp) (.ref T :: vals) ((T, tupO [.int s t, .int e u, .ref Lr]) :: (Lr, listOf vs.toArray c) :: led)
theorem SpansAre.snoc {sp : List Span} {vals : List Value} {led : Led} (h : SpansAre sp vals led) (s e : Int) (cs : List Cap) (t u : Tok) (T Lr : Addr) (vs : List Value) (c : Nat) (hs : Shape cs vs) :
    SpansAre (sp ++ [(s, e, cs)]) (vals ++ [.ref T]) (led ++ [(T, tupO [.int s t, .int e u, .ref Lr]), (Lr, listOf vs.toArray c)]) := by
  induction h with
  | nil => exact .cons s e cs t u T Lr vs c hs .nil
  | cons a b d t' u' T' L' vs' c' hs' _ ih => exact .cons a b d t' u' T' L' vs' c' hs' ih
theorem SpansAre.len {sp : List Span} {vals : List Value} {led : Led} (h : SpansAre sp vals led) : vals.length = sp.length := by
  induction h with
  | nil => rfl
  | cons a b d t' u' T' L' vs' c' hs' _ ih => exact congrArg Nat.succ ih
theorem span_sub {R DT T Lr : Addr} {oR o1 o2 o3 : Obj} {led : Led} : ∀ p ∈ (R, oR) :: (led ++ [(DT, o1), (Lr, o3)]), p ∈ (DT, o1) :: (T, o2) :: (Lr, o3) :: (R, oR) :: led := by
  intro p hp
  rcases List.mem_cons.mp hp with rfl | hp
  · exact .tail _ (.tail _ (.tail _ (.head _)))
  · rcases List.mem_append.mp hp with hp | hp
    · exact .tail _ (.tail _ (.tail _ (.tail _ hp)))
    · rcases List.mem_cons.mp hp with rfl | hp
      · exact .head _
      · rw [List.mem_singleton.mp hp]; exact .tail _ (.tail _ (.head _))
theorem span_ap {R DT Lr : Addr} {o1 o3 : Obj} {led : Led} (hap : ∀ p ∈ led, p.1 ≠ R) (h1 : DT ≠ R) (h2 : R ≠ Lr) : ∀ p ∈ led ++ [(DT, o1), (Lr, o3)], p.1 ≠ R := by
  intro p hp
  rcases List.mem_append.mp hp with hp | hp
  · exact hap p hp
  · rcases List.mem_cons.mp hp with rfl | hp
    · exact h1
    · rw [List.mem_singleton.mp hp]; exact h2.symm
section
variable {c : Cx} {F : FD} {lm : Lm} {nw : Led} {pos lp xp yp tp vp apos : Pos} {e i e1 e2 e3 : PySem.Expr} {x y name : Str} {g1 g2 : Tok → Value} {vs its : List Value} {n : Int} {T R : Addr} {v ov f : Value} {k k1 k2 : Nat} {rest : List Stmt} {P : Flow → Lm → Led → Prop} {R1 S : Value → Led → Prop}
/-- an item of a tuple of the ledger's -/
theorem jv_titem (h : JV c F lm nw (.Name x xp) (.ref T)) (hi : JI c F lm nw i n) (hm : (T, tupO vs) ∈ nw) (h0 : 0 ≤ n) (h1 : n < (vs.length : Int)) (hz : n ≤ 1000) (hv : vs[n.toNat]? = some v) (hs : noSl i = true := by rfl) : JV c F lm nw (.Subscript (.Name x xp) i pos) v :=
  JQ.bind2 (fun _ _ => Subscript_) h hi fun _ _ => fun s m Q ok hn Fm hm' N hQ =>
    item_tupleL (News.isTup N hm) (by lia) (by lia) (seqIndex_of h0 h1) hv (hQ _ s.heap s.toks nw ⟨rfl, 0, rfl⟩ Fm N) (subscripted_noSl hs _ _) (fun _ => rfl)
/-- `a, b = ([], e)` -/
theorem js_asg2L {k : Value → Lm} {k' : Value → Value → Lm} (h2 : ∀ n, JA c F lm n e2 g2) (hy : SetK y lm k) (hx : ∀ v, SetK x (k v) (k' v)) (hr : ∀ D u, (∀ p ∈ nw, p.1 ≠ D) → JS c F (k' (g2 u) (.ref D)) ((D, listOf (List.toArray []) 0) :: nw) rest P)
    (hw : swappedStores [.Tuple [.Name x xp, .Name y yp] k1 tp] (.Tuple [.List [] lp, e2] k2 vp) (F.env c.L) = pure (some [x, y]) := by rfl) (hs2 : simpE e2 = true := by rfl) :
    JS c F lm nw (.Assign [.Tuple [.Name x xp, .Name y yp] k1 tp] (.Tuple [.List [] lp, e2] k2 vp) pos :: rest) P :=
  js_cons fun s m Q ok hn Fm hm N hQ => Assign_Tuple_swapped (names := [x, y]) (Tuple_ (args_cons (jx_list0 s m _ ok hn Fm hm N fun v h' tk' n ⟨D, e1, e2, ap⟩ F' N' => args_cons (h2 _ { s with heap := h', toks := tk' } m _ ok hn F' hm N' fun v₂ h₂ tk₂ n₂ ⟨e3, u, e4⟩ F₂ N₂ => args_nil (by
    subst e1 e2 e3 e4
    refine newTuple_N (s := { s with heap := h₂, toks := tk₂ }) F₂ N₂ (fun h₃ F₃ N₃ => ?_) (by rw [sizeLine_eq]; simp)
    refine unpackItemsN_ (s := { s with heap := h₃, toks := tk₂ }) (items := #[.ref D, g2 u]) F₃ N₃ (News.isTup N₃ (.head _)) rfl rfl fun h₄ F₄ N₄ => ?_
    exact store2 (s := { s with heap := h₄, toks := tk₂ }) hy hx ok hn F₄ hm (fun p hp => N₄ p (.tail _ hp)) fun h₅ tk₅ m₅ hn₅ F₅ hm₅ N₅ => hQ .next h₅ tk₅ m₅ _ _ (hr D u ap) hn₅ F₅ hm₅ N₅)) (star_simp hs2 _ _)) rfl)) rfl hw
/-- a method with an argument that turns the ledger -/
theorem jx_meth1X (ho : JV c F lm nw (.Name x xp) ov) (hm : HasM c F lm nw ov name f) (hk : Kept c.w f) (h1 : JE c F lm nw e1 R1) (hc : ∀ v n, R1 v n → JX c F lm n (call f [ov, v]) S)
    (hl : (apos.endLine == pos.line) = true := by rfl) (hs : simpE e1 = true := by rfl) : JE c F lm nw (.Call (.Attribute (.Name x xp) name apos) [e1] [] pos) S :=
  JX.bind2 (t2 := fun v => getMethod v name _) (f := fun _ fx => callWith pos fx.1 fx.2 (backTo pos (starEach [e1] (F.env c.L))) []) (R2 := fun _ r n => n = nw ∧ r = (f, [ov])) (fun _ _ z => MethodCall_ z (eval_Method rfl hl (by simp [hs]) (by simp) _)) ho (fun a n ⟨e, _, e'⟩ => by subst e e'; exact hm _)
    fun a b n ⟨e, e'⟩ => by subst e e'; exact jx_callWithX (first := [ov]) (Rv := fun vs n => ∃ v, vs = [v] ∧ R1 v n) hk (by simp [hs]) (fun s m Q ok hn Fm hm N hQ => args_cons (h1 s m _ ok hn Fm hm N fun v h' tk' n r F' N' => args_nil (hQ [v] h' tk' n ⟨v, rfl, r⟩ F' N')) (star_simp hs _ _)) fun vs n ⟨v, e, r⟩ => by subst e; exact hc v n r
theorem js_appendX {nf : Value → Led → Led} {p2 : Pos} (hx : (x, some (.ref R)) ∈ lm) (hm : (R, listOf its.toArray k) ∈ nw) (h : JE c F lm nw e R1) (hU : ∀ v n, R1 v n → Upd R (listOf its.toArray k) (listOf (its ++ [v]).toArray (k + 1)) n (nf v n)) (hz : its.length ≤ 1000) (hr : ∀ v n, R1 v n → JS c F lm (nf v n) rest P)
    (hl : (apos.endLine == pos.line) = true := by rfl) (hs : simpE e = true := by rfl) : JS c F lm nw (.Expr (.Call (.Attribute (.Name x xp) "append" apos) [e] [] pos) p2 :: rest) P :=
  js_expr (R := fun v n => v = .none ∧ E2 fun u n' => R1 u n' ∧ n = nf u n') (jx_meth1X (ja_loc hx) (hm_append hm) kept_builtin h (fun v n r s m Q ok hn Fm hm' N hQ => append_K Fm N (by rw [List.push_toArray]; exact hU v n r) (fun h' F' N' => hQ _ h' s.toks _ ⟨rfl, v, n, r, rfl⟩ F' N') (by rw [List.size_toArray, sizeLine_eq]; lia)) hl hs) (fun v n ⟨e, u, n', r, e'⟩ => by subst e e'; exact ⟨fun a => nofun, hr u n' r⟩) rfl
end
section
variable {w : World} {mean : ExcName → Option Value} {mg mb : Str → Option Value}
theorem kp_320 (w : World) : Kept w (.ref 320) := kept_K (by k_dflt k_is)
theorem c_spans {kind : Int} {text : List UInt8} {most : Int} {bound : Bool} {tkk tt tm : Tok} (hk0 : 0 ≤ kind) (hk9 : kind ≤ 9) (h8 : text.length ≤ 8) (hm0 : -1000 ≤ most) (hm1 : most ≤ 1000)
    (hrd : ∀ s e cs, 0 ≤ s → s ≤ (text.length : Int) → lawM kind text s = some (e, cs) → s ≤ e ∧ e ≤ (text.length : Int)) :
    Con w mean mg mb (.ref 341) [.int kind tkk, .bytes text.toArray tt, .int most tm, .bool bound] [] 60 500
      (fun r own' => E4 fun (R : Addr) (vals : List Value) (led : Led) (cr : Nat) => A3 (r = .ref R) (own' = (R, listOf vals.toArray cr) :: led) (SpansAre (spansGo kind text most bound 20 0 0) vals led)) := by
  refine con_jo ([("kind", .int kind tkk), ("text", .bytes text.toArray tt), ("most", .int most tm), ("is_bound", .bool bound)]) (["found", "s", "told"]) ([("_law_match", .ref 320)]) ([("len", .builtin "len")]) (by k_dflt k_is) (by k_dflt k_is) (by kernel_rfl) (by end_is "j gl") (by end_is "j bl") (by exact fun _ _ => BindsTo.of_eq rfl) ?_
  intro cx Pq e1 e2 e3 e4 hK hU hP hN
  subst e1 e2 e3 e4
  dsimp only [List.map, List.cons_append, List.nil_append]
  generalize hfin : spansGo kind text most bound 20 0 0 = tot at hP
  refine js_asg2L (fun _ => ji_lit) (by end_is "j set") (fun _ => (by end_is "j set")) fun R t0 _ => ?_
  refine js_wh (fun n lm nw => E7 fun (o : Option Value) (cr : Nat) (vals : List Value) (led : Led) (dn : List Span) (s : Int) (ts : Tok) => A10 (lm = ([("kind", some (.int kind tkk)), ("text", some (.bytes text.toArray tt)), ("most", some (.int most tm)), ("is_bound", some (.bool bound)), ("found", some (.ref R)), ("s", some (.int s ts)), ("told", o)] : Lm)) (nw = (R, listOf vals.toArray cr) :: led) (SpansAre dn vals led) ((∀ p ∈ led, p.1 ≠ R)) (0 ≤ s) (s ≤ (text.length : Int) + 1) ((text.length : Int) + 1 - s < n) (n ≤ 20) ((dn.length : Int) ≤ s) (dn ++ spansGo kind text most bound n s (dn.length : Int) = tot)) 20
      ⟨none, 0, [], [], [], 0, t0, rfl, rfl, .nil, (fun _ h => nomatch h), by lia, by lia, by lia, by lia, by simp, by rw [List.nil_append, show (([] : List Span).length : Int) = 0 from rfl]; exact hfin⟩ ?_
  clear hfin
  rintro n T hT hTc hTb hTr _ _ ⟨o, cr, vals, led, dn, s, ts, rfl, rfl, hsp, hap, h0, h1, hn, hn20, hdl, hr⟩
  have hvl := hsp.len
  obtain ⟨n, rfl⟩ : ∃ n', n = n' + 1 := ⟨n - 1, by lia⟩
  refine ⟨_, jt_and (ji_le (by end_is "j") (ji_len (ja_blt (by end_is "j in")) (by end_is "j") (by lia))) fun h => jt_and (ji_lt (ji_llen (by end_is "j in") (ja_loc (by end_is "j in")) (.head _) (by have := of_decide_eq_true h; lia)) (by end_is "j")) fun _ => jt_and0, fun hc => ?_, fun hc => ?_⟩
  · have hc : s ≤ (text.length : Int) ∧ (dn.length : Int) < most := by rw [← hvl]; simpa using hc
    obtain ⟨hc1, hc2⟩ := id hc
    rcases hm : lawM kind text s with _ | ⟨e, cs⟩
    · replace hr := sp_none hc hm hr
      refine js_asgX (jx_name3 (ja_glb (by end_is "j in")) (kp_320 _) (ja_loc (by end_is "j in")) (ja_loc (by end_is "j in")) (ja_loc (by end_is "j in")) fun _ _ _ => jx_con0 (c_match_none hk0 hk9 h8 h0 (by lia) hm) (by end_is "j room") (by end_is "j room")) (by end_is "j set") ?_
      rintro _ _ ⟨rfl, rfl⟩
      refine js_when (b := false) (jn_isnot (ja_loc (by end_is "j in"))) (fun h => nomatch h) fun _ => ?_
      refine js_asg (g := Value.int (s + 1)) (ja_ite (p := true) (jt_or (p := true) (q := true) (jn_is (ja_loc (by end_is "j in"))) fun h => nomatch h) (fun _ => (by end_is "j")) fun h => nomatch h) (by end_is "j set") fun t => ?_
      refine js_when (jt_c (ja_loc (by end_is "j in"))) (fun h => ?_) fun h => ?_
      · refine js_asg (ji_add (ji_len (ja_blt (by end_is "j in")) (by end_is "j") (by lia)) ji_lit) (by end_is "j set") fun t => ?_
        replace hr := sp_t h hr
        exact js_nil (js_nil (hT n _ _ (Nat.lt_succ_self n) ⟨_, cr, vals, led, dn, _, _, rfl, rfl, hsp, hap, by lia, by lia, by lia, by lia, by lia, hr⟩))
      · replace hr := sp_f h hr
        exact js_nil (hT n _ _ (Nat.lt_succ_self n) ⟨_, cr, vals, led, dn, _, _, rfl, rfl, hsp, hap, by lia, by lia, by lia, by lia, by lia, hr⟩)
    · replace hr := sp_some hc hm hr
      obtain ⟨he1, he2⟩ := hrd s e cs h0 hc1 hm
      refine js_asgX (jx_name3 (ja_glb (by end_is "j in")) (kp_320 _) (ja_loc (by end_is "j in")) (ja_loc (by end_is "j in")) (ja_loc (by end_is "j in")) fun _ _ _ => jx_con (rest := (R, listOf vals.toArray cr) :: led) (c_match_some hk0 hk9 h8 h0 (by lia) hm) (by end_is "j room") (by end_is "j room") (fun _ h => nomatch h) (fun _ h => h) (fun _ _ h => nomatch h)) (by end_is "j set") ?_
      rintro _ _ ⟨_, ⟨T, Lr, u, vs, c, rfl, rfl, hTL, hsh⟩, rfl, hne⟩
      have hRT : R ≠ T := hne (T, _) (.head _) (R, _) (.head _)
      have hRL : R ≠ Lr := hne (Lr, _) (.tail _ (.head _)) (R, _) (.head _)
      refine js_when (b := true) (jn_isnot (ja_loc (by end_is "j in"))) (fun _ => ?_) fun h => nomatch h
      refine js_appendX (R := R) (its := vals) (k := cr) (nf := fun v n => match v with | .ref DT => (DT, tupO [.int s ts, .int e u, .ref Lr]) :: (T, tupO [.int e u, .ref Lr]) :: (Lr, listOf vs.toArray c) :: (R, listOf (vals ++ [Value.ref DT]).toArray (cr + 1)) :: led | _ => [])
        (R1 := fun v n => ∃ DT, v = .ref DT ∧ n = (DT, tupO [.int s ts, .int e u, .ref Lr]) :: (T, tupO [.int e u, .ref Lr]) :: (Lr, listOf vs.toArray c) :: (R, listOf vals.toArray cr) :: led ∧ R ≠ DT) (by end_is "j in") (.tail _ (.tail _ (.head _)))
        (JX.mono (jx_tup (jargs3 (ja_loc (by end_is "j in")) (jv_titem (n := 0) (ja_loc (by end_is "j in")) ji_lit (.head _) (by decide) (by simp) (by decide) rfl) (jv_titem (n := 1) (ja_loc (by end_is "j in")) ji_lit (.head _) (by decide) (by simp) (by decide) rfl)) ?_) ?_) ?_ (by lia) ?_
      · rintro vs ⟨_, _, _, rfl⟩; simp
      · rintro v n ⟨DT, vs, ⟨_, _, _, rfl⟩, rfl, rfl, hD⟩
        exact ⟨DT, rfl, rfl, hD _ (.tail _ (.tail _ (.head _)))⟩
      · rintro _ _ ⟨DT, rfl, rfl, hD⟩
        exact Upd.tail hD.symm (Upd.tail hRT.symm (Upd.tail hRL.symm (Upd.head hap)))
      rintro _ _ ⟨DT, rfl, rfl, hD⟩
      refine js_nil ?_
      refine js_asg (ji_ite (jt_or (p := false) (jn_is (ja_loc (by end_is "j in"))) fun _ => jt_or (ji_eq (x := e) (ja_x (jv_titem (n := 0) (ja_loc (by end_is "j in")) ji_lit (.tail _ (.head _)) (by decide) (by simp) (by decide) rfl) fun _ => ⟨rfl, u, rfl⟩) (by end_is "j")) fun _ => jt_or0) (fun _ => (by end_is "j")) fun _ => ja_x (jv_titem (n := 0) (ja_loc (by end_is "j in")) ji_lit (.tail _ (.head _)) (by decide) (by simp) (by decide) rfl) fun _ => ⟨rfl, u, rfl⟩) (by end_is "j set") fun t => ?_
      rw [sp_if]
      have hsn := hsp.snoc s e cs ts u DT Lr vs c hsh
      have hsa := span_ap (o1 := tupO [.int s ts, .int e u, .ref Lr]) (o3 := listOf vs.toArray c) hap hD.symm hRL
      have hq := sp_q he1 he2 hc1
      have hlen : (((dn ++ [(s, e, cs)]).length : Nat) : Int) = (dn.length : Int) + 1 := by simp
      generalize (if e = s then s + 1 else e) = q at hr hq ⊢
      refine js_when (jt_c (ja_loc (by end_is "j in"))) (fun h => ?_) fun h => ?_
      · refine js_asg (ji_add (ji_len (ja_blt (by end_is "j in")) (by end_is "j") (by lia)) ji_lit) (by end_is "j set") fun t => ?_
        replace hr := sp_t h hr
        exact JG.sub (nw' := (R, listOf (vals ++ [Value.ref DT]).toArray (cr + 1)) :: (led ++ [(DT, tupO [.int s ts, .int e u, .ref Lr]), (Lr, listOf vs.toArray c)])) (js_nil (js_nil (hT n _ _ (Nat.lt_succ_self n) ⟨_, _, _, _, _, _, _, rfl, rfl, hsn, hsa, by lia, by lia, by lia, by lia, by lia, hr⟩))) span_sub
      · replace hr := sp_f h hr
        exact JG.sub (nw' := (R, listOf (vals ++ [Value.ref DT]).toArray (cr + 1)) :: (led ++ [(DT, tupO [.int s ts, .int e u, .ref Lr]), (Lr, listOf vs.toArray c)])) (js_nil (hT n _ _ (Nat.lt_succ_self n) ⟨_, _, _, _, _, _, _, rfl, rfl, hsn, hsa, by lia, by lia, by lia, by lia, by lia, hr⟩)) span_sub
  · have hc : ¬ (s ≤ (text.length : Int) ∧ (dn.length : Int) < most) := by rw [← hvl]; simpa using hc
    refine js_ret (ja_loc (by end_is "j in")) ?_
    exact fun _ => hP _ _ _ ⟨R, vals, led, cr, rfl, rfl, sp_end hc hr ▸ hsp⟩
end
/-! due -/
noncomputable def piecesM (whole : List UInt8) (cs : List Cap) : List (List UInt8) → List UInt8
  | [] => []
  | p :: ps => standsM p whole cs ++ piecesM whole cs ps
noncomputable def dueM (text : List UInt8) (pieces : List (List UInt8)) : Int → List Span → List UInt8
  | at_, [] => sl text (some at_) none
  | at_, (b, e, cs) :: sp => sl text (some at_) (some b) ++ (piecesM (sl text (some b) (some e)) cs pieces ++ dueM text pieces e sp)
theorem SpansAre.get {sp : List Span} {vals : List Value} {led : Led} (h : SpansAre sp vals led) : ∀ (i : Nat) v, vals[i]? = some v → E9 fun (b e : Int) (cs : List Cap) (t u : Tok) (T Lr : Addr) (vs : List Value) (c : Nat) => A5 (v = .ref T) (sp[i]? = some (b, e, cs)) (Shape cs vs) ((T, tupO [.int b t, .int e u, .ref Lr]) ∈ led) ((Lr, listOf vs.toArray c) ∈ led) := by
  induction h with
  | nil => intro i v h; simp at h
  | cons a b d t' u' T' L' vs' c' hs' _ ih =>
    intro i v h
    cases i with
    | zero => cases h; exact ⟨a, b, d, t', u', T', L', vs', c', rfl, rfl, hs', .head _, .tail _ (.head _)⟩
    | succ i =>
      obtain ⟨b, e, cs, t, u, T, Lr, vs, c, h1, h2, h3, h4, h5⟩ := ih i v (by simpa using h)
      exact ⟨b, e, cs, t, u, T, Lr, vs, c, h1, by simpa using h2, h3, .tail _ (.tail _ h4), .tail _ (.tail _ h5)⟩
theorem BytesAre.get {bs : List (List UInt8)} {vs : List Value} (h : BytesAre bs vs) : ∀ (i : Nat) v, vs[i]? = some v → E2 fun b t => v = .bytes b.toArray t ∧ bs[i]? = some b := by
  induction h with
  | nil => intro i v h; simp at h
  | cons x u _ ih =>
    intro i v h
    cases i with
    | zero => cases h; exact ⟨x, u, rfl, rfl⟩
    | succ i => obtain ⟨b, t, h1, h2⟩ := ih i v (by simpa using h); exact ⟨b, t, h1, by simpa using h2⟩
theorem standsM_len {p whole : List UInt8} {cs : List Cap} (h2 : p.length ≤ 2) (hw : whole.length ≤ 8) (hc : ∀ c ∈ cs, c.oct.length ≤ 8) : (standsM p whole cs).length ≤ 8 := by
  unfold standsM
  split
  · simp
  split
  · exact Nat.le_trans (sl_len _ _ _) (by lia)
  split
  · simp
  split
  · exact hw
  · rw [List.getD_eq_getElem?_getD]
    cases h : cs[if p = [37, 50] then 1 else 0]? with
    | none => simp [Cap.oct]
    | some c => exact hc c (List.mem_of_getElem? h)
theorem piecesM_len {whole : List UInt8} {cs : List Cap} (hw : whole.length ≤ 8) (hc : ∀ c ∈ cs, c.oct.length ≤ 8) : ∀ {ps : List (List UInt8)}, (∀ p ∈ ps, p.length ≤ 2) → (piecesM whole cs ps).length ≤ 8 * ps.length
  | [], _ => by simp [piecesM]
  | p :: ps, h => by
    have h1 := standsM_len (cs := cs) (h p (.head _)) hw hc
    have h2 := piecesM_len hw hc (ps := ps) fun q hq => h q (.tail _ hq)
    rw [piecesM, List.length_append, List.length_cons]; lia
theorem piecesM_snoc {whole : List UInt8} {cs : List Cap} {p : List UInt8} : ∀ {ps : List (List UInt8)}, piecesM whole cs (ps ++ [p]) = piecesM whole cs ps ++ standsM p whole cs
  | [] => by simp [piecesM]
  | q :: ps => by rw [List.cons_append, piecesM, piecesM, piecesM_snoc, List.append_assoc]
theorem take_snoc {α : Type} {l : List α} {i : Nat} {x : α} (h : l[i]? = some x) : l.take (i + 1) = l.take i ++ [x] := by
  rw [List.take_add_one, h]; rfl
section
variable {w : World} {mean : ExcName → Option Value} {mg mb : Str → Option Value}
/-- a contract that hands back what it was given: the ledger stands as it stood -/
theorem con_keep {f : Value} {vs : List Value} {own : Led} {cost ucost : Nat} {R : Value → Prop} (C : Con w mean mg mb f vs own cost ucost (fun r own' => own' = own ∧ R r))
    {dp un : Nat} {gd : Option (List Code)} {env : Env} {outer : List Env} {A₀ : Around} {base h₀ : Heap} {L : Addr} {m : Str → Option Value} {news : Led} {s : Shared} {Q E : Value → Shared → Prop}
    (B : Below A₀ base outer h₀) (F : Fr h₀ L s.heap m) (X : (hd.heap_39 w.params).In h₀) (N : News h₀ L s.heap news) (T : Top topProg gl mean mg mb h₀)
    (hf : env.frame = some L) (hk : env.scope.kind = .function) (hown : ∀ p ∈ own, p ∈ news) (hdp : dp + cost < recursionLimit) (hu : un + ucost < cLine)
    (h : ∀ r h' tk', R r → Fr h₀ L h' m → News h₀ L h' news → Q r { s with heap := h', toks := tk' }) :
    wpAny (model PySem.Challenge.rw_nt0643_01.row.prog w) (cA dp un gd (env :: outer)) (call f vs) Q E s := by
  refine con_use C (rest := news.filter fun p => decide (p.1 ∉ own.map (·.1))) B F X N T hf hk hown (fun p hp => (List.mem_filter.mp hp).1) (fun p hp => of_decide_eq_true (List.mem_filter.mp hp).2) hdp hu fun r own' h' tk' hR F' N' _ => ?_
  obtain ⟨rfl, hr⟩ := hR
  refine h r h' tk' hr F' fun p hp => ?_
  by_cases hm : p.1 ∈ own'.map (·.1)
  · obtain ⟨q, hq, e⟩ := List.mem_map.mp hm
    have h1 := (N q (hown q hq)).1
    rw [e, (N p hp).1] at h1
    have : p = q := Prod.ext e.symm (Option.some.inj h1)
    exact this ▸ N' q (List.mem_append_left _ hq)
  · exact N' p (List.mem_append_right _ (List.mem_filter.mpr ⟨hp, decide_eq_true hm⟩))
end
section
variable {c : Cx} {F : FD} {lm : Lm} {nw : Led} {xp yp zp tp : Pos} {x y z : Str} {T : Addr} {a b d : Value} {n : Nat}
/-- `x, y, z = a tuple of the ledger's` -/
theorem jg_tup3 {kx : Value → Lm} {ky : Value → Value → Lm} {kz : Value → Value → Value → Lm} {P : Unit → Lm → Led → Prop} (hm : (T, tupO [a, b, d]) ∈ nw) (hx : SetK x lm kx) (hy : ∀ v, SetK y (kx v) (ky v)) (hz : ∀ v w, SetK z (ky v w) (kz v w)) (h : P () (kz a b d) nw) :
    JG c F lm nw (assign (.Tuple [.Name x xp, .Name y yp, .Name z zp] n tp) (F.env c.L) (.ref T)) P := fun s m Q ok hn Fm hm' N hQ =>
  unpackN_ (items := #[a, b, d]) Fm N (News.isTup N hm) rfl rfl rfl fun h₂ F₂ N₂ => assignInOrder_cons (assign_Name (store_loc (s := { s with heap := h₂ }) hx ok hn F₂ hm' N₂ fun h₁ tk₁ _ hn₁ F₁ hm₁ N₁ => assignInOrder_cons (assign_Name (store_loc (s := { s with heap := h₁, toks := tk₁ }) (hy a) ok hn₁ F₁ hm₁ N₁ fun h₃ tk₃ _ hn₃ F₃ hm₃ N₃ =>
    assignInOrder_cons (assign_Name (store_loc (s := { s with heap := h₃, toks := tk₃ }) (hz a b) ok hn₃ F₃ hm₃ N₃ fun h₄ tk₄ m₄ hn₄ F₄ hm₄ N₄ => assignInOrder_nil (hQ () h₄ tk₄ m₄ _ nw h hn₄ F₄ hm₄ N₄)))))))
/-- a def that hands back what it was given -/
theorem jx_conK {f : Value} {vs : List Value} {own : Led} {k u : Nat} {S : Value → Prop} (C : Con c.w c.mean c.mg c.mb f vs own k u (fun r own' => own' = own ∧ S r)) (hk : k ≤ c.K) (hu : u ≤ c.U) (hown : ∀ p ∈ own, p ∈ nw) : JX c F lm nw (call f vs) (fun v n => n = nw ∧ S v) := fun s m Q ok hn Fm hm N hQ =>
  con_keep (outer := c.outer) (env := F.env c.L) (gd := c.gd) C ok.B Fm ok.X N ok.T rfl ok.fok.kind hown (by have := ok.room; lia) (by have := ok.units; lia)
    fun r h' tk' hr F' N' => hQ r h' tk' nw ⟨rfl, hr⟩ F' N'
end
section
variable {w : World} {mean : ExcName → Option Value} {mg mb : Str → Option Value}
theorem kp_334 (w : World) : Kept w (.ref 334) := kept_K (by k_dflt k_is)
theorem c_due {text : List UInt8} {sp : List Span} {vals : List Value} {led : Led} {pieces : List (List UInt8)} {pv : List Value} {R PL : Addr} {cr cp : Nat} {tt : Tok} (h8 : text.length ≤ 8) (hsp : SpansAre sp vals led) (hpc : BytesAre pieces pv)
    (hns : sp.length ≤ 9) (hnp : pieces.length ≤ 4)
    (hin : ∀ (i : Nat) b e cs, sp[i]? = some (b, e, cs) → 0 ≤ b ∧ b ≤ e ∧ e ≤ (text.length : Int) ∧ (∀ c ∈ cs, c.oct.length ≤ 8) ∧ ∀ p ∈ pieces, p = [37, 50] → cs.length ≠ 1) (hp2 : ∀ p ∈ pieces, p.length ≤ 2) :
    Con w mean mg mb (.ref 348) [.bytes text.toArray tt, .ref R, .ref PL] ((R, listOf vals.toArray cr) :: (PL, listOf pv.toArray cp) :: led) 30 200
      (fun r own' => own' = (R, listOf vals.toArray cr) :: (PL, listOf pv.toArray cp) :: led ∧ ∃ t, r = .bytes (dueM text pieces 0 sp).toArray t) := by
  refine con_jo ([("text", .bytes text.toArray tt), ("spans", .ref R), ("pieces", .ref PL)]) (["found", "at", "begin", "end", "held", "piece"]) ([("_law_stands", .ref 334)]) ([]) (by k_dflt k_is) (by k_dflt k_is) (by kernel_rfl) (by end_is "j gl") (by end_is "j bl") (by exact fun _ _ => BindsTo.of_eq rfl) ?_
  intro cx Pq e1 e2 e3 e4 hK hU hP hN
  subst e1 e2 e3 e4
  dsimp only [List.map, List.cons_append, List.nil_append]
  have hvl := hsp.len
  have hpl := hpc.len
  generalize hnw : (R, listOf vals.toArray cr) :: (PL, listOf pv.toArray cp) :: led = nw0 at hP ⊢
  have hRm : (R, listOf vals.toArray cr) ∈ nw0 := hnw ▸ .head _
  have hPm : (PL, listOf pv.toArray cp) ∈ nw0 := hnw ▸ .tail _ (.head _)
  have hLm : ∀ p ∈ led, p ∈ nw0 := fun p hp => hnw ▸ .tail _ (.tail _ hp)
  clear hnw
  refine js_unpack2 (S := fun a b n' => A3 ((∃ t, a = .bytes (List.toArray []) t)) ((∃ t, b = .int 0 t)) (nw0 = n')) (JX.mono (jx_tup2 jb_lit ji_lit) fun v n ⟨T, t, u, e1, e2, _⟩ => ⟨T, _, _, nw0, e1, e2, ⟨t, rfl⟩, ⟨u, rfl⟩, rfl⟩) (by end_is "j set") (fun _ => (by end_is "j set")) ?_
  rintro _ _ _ ⟨⟨t0, rfl⟩, ⟨u0, rfl⟩, rfl⟩
  refine js_frG (R := R) (k := cr) (fun i lm nx => E8 fun (o1 o2 o3 o4 : Option Value) (fnd : List UInt8) (a : Int) (t u : Tok) => A6 (lm = ([("text", some (.bytes text.toArray tt)), ("spans", some (.ref R)), ("pieces", some (.ref PL)), ("found", some (.bytes fnd.toArray t)), ("at", some (.int a u)), ("begin", o1), ("end", o2), ("held", o3), ("piece", o4)] : Lm)) (nw0 = nx) (0 ≤ a) (a ≤ (text.length : Int)) (fnd.length ≤ 50 * i) (fnd ++ dueM text pieces a (sp.drop i) = dueM text pieces 0 sp))
    (ja_loc (by end_is "j in")) hRm ⟨none, none, none, none, [], 0, t0, u0, rfl, rfl, by lia, by lia, by simp, by simp⟩ ?_ ?_ ?_ ?_
  · rintro i _ _ ⟨_, _, _, _, _, _, _, _, _, rfl, -⟩; exact hRm
  · rintro i v hv w A I s j Q E hI hQ
    obtain ⟨b, e, cs, t, u, T, Lr, vs, c, rfl, -⟩ := hsp.get i v hv
    exact wpAny_letOwnedTupleGo_listiter hI hQ
  · rintro i v own T hv ho hN1 _ _ _ _ _ - ⟨o1, o2, o3, o4, fnd, a, t, u, rfl, rfl, ha0, ha1, hfl, hr⟩
    obtain ⟨b, e, cs, tb, te, TT, Lr, vs, c, rfl, hsi, hsh, hT, hL⟩ := hsp.get i v hv
    obtain ⟨hb0, hbe, hel, hcl, hpc2⟩ := hin i b e cs hsi
    have hi9 : i < sp.length := by
      rw [List.getElem?_eq_some_iff] at hsi; exact hsi.1
    have hfl2 : fnd.length ≤ 400 := by lia
    have hsl1 := sl_len text (some a) (some b)
    have hsl2 := sl_len text (some b) (some e)
    have hcut := piecesM_len (whole := sl text (some b) (some e)) (cs := cs) (by lia) hcl hp2
    refine jg_tup3 (List.mem_append_left _ (hLm _ hT)) (by end_is "j set") (fun _ => (by end_is "j set")) (fun _ _ => (by end_is "j set")) ?_
    refine js_asg (jb_add (by end_is "j") (jb_slice (by end_is "j") (jp_some (by end_is "j")) (jp_some (by end_is "j")) (by lia)) (by lia)) (by end_is "j set") fun t1 => ?_
    refine js_fr (R := PL) (k := cp) (fun j lm nx => E2 fun (o4 : Option Value) (t : Tok) => lm = ([("text", some (.bytes text.toArray tt)), ("spans", some (.ref R)), ("pieces", some (.ref PL)), ("found", some (.bytes (fnd ++ sl text (some a) (some b) ++ piecesM (sl text (some b) (some e)) cs (pieces.take j)).toArray t)), ("at", some (.int a u)), ("begin", some (.int b tb)), ("end", some (.int e te)), ("held", some (.ref Lr)), ("piece", o4)] : Lm) ∧ nw0 ++ own = nx)
      (ja_loc (by end_is "j in")) (List.mem_append_left _ hPm) ⟨o4, t1, by rw [List.take_zero, piecesM, List.append_nil], rfl⟩ ?_ ?_ ?_
    · rintro i _ _ ⟨_, _, _, rfl⟩; exact List.mem_append_left _ hPm
    · rintro j v own2 T2 hv2 - hT2 _ _ _ _ _ - ⟨o4, tf, rfl, rfl⟩
      obtain ⟨pb, tp, rfl, hpj⟩ := hpc.get j v hv2
      have hpm := List.mem_of_getElem? hpj
      have hpl2 := hp2 pb hpm
      have hjl : (piecesM (sl text (some b) (some e)) cs (pieces.take j)).length ≤ 8 * (pieces.take j).length := piecesM_len (by lia) hcl fun q hq => hp2 q (List.mem_of_mem_take hq)
      rw [List.length_take] at hjl
      have hst := standsM_len (p := pb) (whole := sl text (some b) (some e)) (cs := cs) hpl2 (by lia) hcl
      refine ⟨_, (by end_is "j set"), ?_⟩
      refine js_asg (jb_add (by end_is "j") (jx_name3 (ja_glb (by end_is "j in")) (kp_334 _) (ja_loc (by end_is "j in")) (jb_slice (by end_is "j") (jp_some (by end_is "j")) (jp_some (by end_is "j")) (by lia)) (ja_loc (by end_is "j in")) fun _ _ _ => jx_conK (c_stands (by lia) (by lia) hsh (hpc2 pb hpm)) (by end_is "j room") (by end_is "j room") fun p hp => by
        rw [List.mem_singleton.mp hp]; exact List.mem_append_left _ (List.mem_append_left _ (hLm _ hL))) (by simp only [List.length_append]; lia)) (by end_is "j set") fun t2 => ?_
      exact js_nil (hT2 _ (nw0 ++ own) _ ⟨_, t2, by rw [take_snoc hpj, piecesM_snoc, ← List.append_assoc], rfl⟩ rfl (fun p hp => List.mem_append_left _ hp) fun p hp => List.mem_append_right _ hp)
    · rintro _ _ ⟨o4, tf, rfl, rfl⟩
      rw [hpl, List.take_length]
      refine js_asg (by end_is "j") (by end_is "j set") fun t3 => ?_
      refine js_nil (hN1 _ nw0 _ ⟨_, _, _, _, _, e, _, _, rfl, rfl, by lia, by lia, ?_, ?_⟩ rfl (fun p hp => List.mem_append_left _ hp) fun p hp => List.mem_append_right _ hp)
      · simp only [List.length_append]; lia
      · rw [List.drop_eq_getElem_cons hi9] at hr
        have hget : sp[i] = (b, e, cs) := (List.getElem?_eq_some_iff.mp hsi).2
        rw [hget, dueM] at hr
        rw [List.append_assoc, List.append_assoc]; exact hr
  · rintro _ _ ⟨o1, o2, o3, o4, fnd, a, t, u, rfl, rfl, ha0, ha1, hfl, hr⟩
    rw [hvl] at hfl hr
    rw [List.drop_length, dueM] at hr
    have hsl1 := sl_len text (some a) none
    refine js_ret (jb_add (by end_is "j") (jb_slice (by end_is "j") (jp_some (by end_is "j")) jp_none (by lia)) (by lia)) ?_
    exact fun t => hP _ _ _ ⟨rfl, t, congrArg (fun x => Value.bytes (List.toArray x) t) hr⟩
end
/-! statements over clean stacks; arguments that turn the ledger -/
/-- as JS, over clean stacks -/
noncomputable def JSC (c : Cx) (F : FD) (lm : Lm) (nw : Led) (ss : List Stmt) (P : Flow → Lm → Led → Prop) : Prop :=
  ∀ (s : Shared) (m : Str → Option Value) (Q : Flow → Shared → Prop), COk c F → lm.map (·.1) = F.names → Fr c.g c.L s.heap m → (∀ x v, (x, some v) ∈ lm → m x = some v) → News c.g c.L s.heap nw →
    (∀ fl h' tk' m' lm' nw', P fl lm' nw' → lm'.map (·.1) = F.names → Fr c.g c.L h' m' → (∀ x v, (x, some v) ∈ lm' → m' x = some v) → News c.g c.L h' nw' → Q fl { s with heap := h', toks := tk' }) →
    wpC (model PR c.w) (c.A F) (execs ss (F.env c.L)) Q (fun _ _ => False) s
noncomputable def ThenC (c : Cx) (F : FD) (rest : List Stmt) (P : Flow → Lm → Led → Prop) : Flow → Lm → Led → Prop
  | .next, lm, nw => JSC c F lm nw rest P
  | fl, lm, nw => P fl lm nw
section
variable {c : Cx} {F : FD} {lm : Lm} {nw nw' : Led} {pos xp yp zp tp vp : Pos} {e e1 e2 e3 : PySem.Expr} {es : List PySem.Expr} {x y z : Str} {st : Stmt} {rest : List Stmt} {P : Flow → Lm → Led → Prop} {R1 : Value → Led → Prop} {Rv : List Value → Led → Prop} {k1 k2 : Nat}
theorem JSC.sub (h : JSC c F lm nw' rest P) (hs : ∀ p ∈ nw', p ∈ nw) : JSC c F lm nw rest P := fun s m Q ok hn Fm hm N hQ => h s m Q ok hn Fm hm (fun p hp => N p (hs p hp)) hQ
theorem jsc_js (h : JS c F lm nw [st] (ThenC c F rest P)) : JSC c F lm nw (st :: rest) P := fun s m Q ok hn Fm hm N hQ => by
  have e : execs (st :: rest) (F.env c.L) = (execs [st] (F.env c.L) >>= fun fl => match fl with | .next => execs rest (F.env c.L) | f => pure f) := by
    rw [execs_cons, execs_cons, bind_assoc]
    congr 1
    funext fl
    cases fl <;> rfl
  rw [e]
  refine wpC_anyBind (h s m _ ok hn Fm hm N fun fl h' tk' m' lm' nw' r hn' F' hm' N' => ?_)
  cases fl with
  | next => exact r { s with heap := h', toks := tk' } m' Q ok hn' F' hm' N' fun fl h₂ tk₂ m₂ l₂ n₂ r₂ => hQ fl h₂ tk₂ m₂ l₂ n₂ r₂
  | brk => exact wpC_pure (hQ _ h' tk' m' lm' nw' r hn' F' hm' N')
  | cont => exact wpC_pure (hQ _ h' tk' m' lm' nw' r hn' F' hm' N')
  | ret v => exact wpC_pure (hQ _ h' tk' m' lm' nw' r hn' F' hm' N')
theorem jsc_next (h : JSC c F lm nw rest P) : JS c F lm nw [] (ThenC c F rest P) := js_nil h
/-- arguments that turn the ledger -/
noncomputable abbrev JArgsX (c : Cx) (F : FD) (lm : Lm) (nw : Led) (pos : Pos) (es : List PySem.Expr) (Rv : List Value → Led → Prop) : Prop := JX c F lm nw (spliced (backTo pos (starEach es (F.env c.L)))) Rv
theorem jargsX0 (h : Rv [] nw) : JArgsX c F lm nw pos [] Rv := fun s _ _ _ _ Fm _ N hQ => args_nil (hQ [] s.heap s.toks nw h Fm N)
theorem jargsX_cons (h : JE c F lm nw e R1) (h2 : ∀ v n, R1 v n → JArgsX c F lm n pos es (fun vs n' => Rv (v :: vs) n')) (hs : simpE e = true := by rfl) : JArgsX c F lm nw pos (e :: es) Rv := fun s m Q ok hn Fm hm N hQ =>
  args_cons (h s m _ ok hn Fm hm N fun v h' tk' n r F' N' => h2 v n r { s with heap := h', toks := tk' } m _ ok hn F' hm N' fun vs h₂ tk₂ n₂ r₂ F₂ N₂ => hQ _ h₂ tk₂ n₂ r₂ F₂ N₂) (star_simp hs _ _)
theorem jargsX_of {Rs : List Value → Prop} (h : JArgs c F lm nw pos es Rs) : JArgsX c F lm nw pos es (fun vs n => n = nw ∧ Rs vs) := h
theorem jx_tupX (ha : JArgsX c F lm nw pos es Rv) (hz : ∀ vs n, Rv vs n → vs.length ≤ 1000) : JE c F lm nw (.Tuple es k1 pos) (fun v n => E3 fun T vs n' => A3 (v = .ref T) (n = (T, tupO vs) :: n') (Rv vs n')) := fun s m Q ok hn Fm hm N hQ =>
  Tuple_ (ha s m _ ok hn Fm hm N fun vs h' tk' n r F' N' => newTuple_N (s := { s with heap := h', toks := tk' }) F' N' (fun h₂ F₂ N₂ => hQ _ h₂ tk' _ ⟨_, vs, n, rfl, rfl, r⟩ F₂ N₂) (by rw [sizeLine_eq]; have := hz vs n r; lia))
/-- `x, y, z = (e1, e2, e3)`, plain names -/
theorem js_asg3 {k : Value → Lm} {k' : Value → Value → Lm} {k'' : Value → Value → Value → Lm} {S : Value → Value → Value → Led → Prop} (h : JE c F lm nw (.Tuple [e1, e2, e3] k2 vp) (fun v n => E5 fun T a b d n' => A3 (v = .ref T) (n = (T, tupO [a, b, d]) :: n') (S a b d n'))) (hz : SetK z lm k) (hy : ∀ v, SetK y (k v) (k' v)) (hx : ∀ v w, SetK x (k' v w) (k'' v w)) (hr : ∀ a b d n', S a b d n' → JS c F (k'' d b a) n' rest P)
    (hw : swappedStores [.Tuple [.Name x xp, .Name y yp, .Name z zp] k1 tp] (.Tuple [e1, e2, e3] k2 vp) (F.env c.L) = pure (some [x, y, z]) := by rfl) :
    JS c F lm nw (.Assign [.Tuple [.Name x xp, .Name y yp, .Name z zp] k1 tp] (.Tuple [e1, e2, e3] k2 vp) pos :: rest) P :=
  js_cons fun s m Q ok hn Fm hm N hQ => Assign_Tuple_swapped (names := [x, y, z]) (h s m _ ok hn Fm hm N fun v h' tk' n ⟨T, a, b, d, n', ev, en, r⟩ F' N' => by
    subst ev en
    refine unpackItemsN_ (s := { s with heap := h', toks := tk' }) (items := #[a, b, d]) F' N' (News.isTup N' (.head _)) rfl rfl fun h₂ F₂ N₂ => ?_
    exact assignInOrder_cons (bindName_ (store_loc (s := { s with heap := h₂, toks := tk' }) hz ok hn F₂ hm (fun p hp => N₂ p (.tail _ hp)) fun h₁ tk₁ m₁ hn₁ F₁ hm₁ N₁ => assignInOrder_cons (bindName_ (store_loc (s := { s with heap := h₁, toks := tk₁ }) (hy d) ok hn₁ F₁ hm₁ N₁ fun h₃ tk₃ m₃ hn₃ F₃ hm₃ N₃ =>
      assignInOrder_cons (bindName_ (store_loc (s := { s with heap := h₃, toks := tk₃ }) (hx d b) ok hn₃ F₃ hm₃ N₃ fun h₄ tk₄ m₄ hn₄ F₄ hm₄ N₄ => assignInOrder_nil (hQ .next h₄ tk₄ m₄ _ n' (hr a b d n' r) hn₄ F₄ hm₄ N₄)))))))) rfl hw
/-- `[..][i]`, the index turns the ledger -/
theorem jx_menuX {lp : Pos} {i : PySem.Expr} {Rs : List Value → Prop} {n : Int} {g : Tok → Value} {S : Led → Prop} (ha : JArgs c F lm nw lp es Rs) (hi : ∀ D vs, (∀ p ∈ nw, p.1 ≠ D) → JE c F lm ((D, listOf (List.toArray vs) 0) :: nw) i (fun v n' => A3 ((∃ t, v = .int n t)) (S n') ((D, listOf (List.toArray vs) 0) ∈ n'))) (h0 : 0 ≤ n) (hz : n ≤ 1000) (hr : ∀ vs, Rs vs → vs.length ≤ 1000 ∧ ∃ t, vs[n.toNat]? = some (g t)) (hs : noSl i = true := by rfl) :
    JE c F lm nw (.Subscript (.List es lp) i pos) (fun v n' => (∃ t, v = g t) ∧ S n') :=
  JX.bind2 (t2 := fun _ => eval i (F.env c.L)) (R2 := fun a b n' => A3 ((∃ t, b = .int n t)) (S n') (E2 fun D vs => A3 (a = .ref D) ((D, listOf (List.toArray vs) 0) ∈ n') (Rs vs))) (fun _ _ z => Subscript_ z) (jx_list ha fun vs r => (hr vs r).1) (fun v n' ⟨D, vs, e1, e2, r, ap⟩ => by subst e1 e2; exact JX.mono (hi D vs ap) fun b n'' ⟨e, s, m⟩ => ⟨e, s, D, vs, rfl, m, r⟩)
    fun v b n' ⟨⟨u, e⟩, hS, D, vs, e1, hm, r⟩ => by
      subst e e1
      intro s m Q ok hn Fm _ N hQ
      obtain ⟨t, ht⟩ := (hr vs r).2
      have hl : s.heap.IsList D vs.toArray := ⟨_, (N _ hm).1, rfl, 0, rfl⟩
      exact tail_any hl.typeIs slot_list_getitem.lookup (wpAny_getItem_list hl h0 (by lia) (by rw [List.getElem?_toArray]; exact ht) (hQ _ s.heap s.toks n' ⟨⟨t, rfl⟩, hS⟩ Fm N)) (subscripted_noSl hs _ _)
/-- `(l + [..])[i]` -/
theorem ja_menu2 {lp bp ip : Pos} {es : List PySem.Expr} {Rs : List Value → Prop} {a : Addr} {ws : List Value} {k : Nat} {n : Int} {i : PySem.Expr} {g : Tok → Value} (h : JV c F lm nw (.Name x xp) (.ref a)) (hm : (a, listOf ws.toArray k) ∈ nw) (ha : JArgs c F lm nw lp es Rs) (hi : ∀ nw, JI c F lm nw i n) (h0 : 0 ≤ n) (hz : n ≤ 1000) (hr : ∀ vs, Rs vs → ws.length + vs.length ≤ 1000 ∧ ∃ t, (ws ++ vs)[n.toNat]? = some (g t)) (hs : noSl i = true := by rfl) :
    JA c F lm nw (.Subscript (.BinOp (.Name x xp) .Add (.List es lp) bp) i ip) g :=
  JX.bind2 (t2 := fun _ => eval i (F.env c.L)) (R2 := fun v b n' => (∃ t, b = .int n t) ∧ E2 fun D vs => A3 (v = .ref D) (n' = (D, listOf (ws ++ vs).toArray 0) :: nw) (Rs vs)) (fun _ _ z => Subscript_ z)
    (JX.bind2 (f := fun a b => binaryOp .Add a b) (t2 := fun _ => eval (.List es lp) (F.env c.L)) (R2 := fun v b n' => v = .ref a ∧ E2 fun D vs => A3 (b = .ref D) (n' = (D, listOf (List.toArray vs) 0) :: nw) (Rs vs)) (R3 := fun v n' => E2 fun D vs => A3 (v = .ref D) (n' = (D, listOf (ws ++ vs).toArray 0) :: nw) (Rs vs)) (fun _ _ z => wpAny_BinOp z) h
      (fun v n' ⟨e, t, e'⟩ => by subst e e'; exact JX.mono (jx_list ha fun vs r => by have := (hr vs r).1; lia) fun b n'' ⟨D, vs, e1, e2, r, _⟩ => ⟨rfl, D, vs, e1, e2, r⟩)
      fun v b n' ⟨e, D, vs, e1, e2, r⟩ => by
        subst e e1 e2
        intro s m Q ok hn Fm hm' N hQ
        exact add_lists (hsz := by rw [sizeLine_eq]; have := (hr vs r).1; lia) Fm (fun p hp => N p (.tail _ hp)) (News.isList N (.tail _ hm)) (News.isList N (.head _)) fun h' F' N' => hQ _ h' s.toks _ ⟨_, vs, rfl, rfl, r⟩ F' N')
    (fun v n' ⟨D, vs, e1, e2, r⟩ => by subst e1 e2; exact JX.mono (hi _) fun b n'' ⟨e, t, e'⟩ => ⟨⟨t, e'⟩, D, vs, rfl, e, r⟩)
    fun v b n' ⟨⟨u, e⟩, D, vs, e1, e2, r⟩ => by
      subst e e1 e2
      intro s m Q ok hn Fm _ N hQ
      obtain ⟨t, ht⟩ := (hr vs r).2
      have hl : s.heap.IsList D (ws ++ vs).toArray := ⟨_, (N _ (.head _)).1, rfl, 0, rfl⟩
      exact tail_any hl.typeIs slot_list_getitem.lookup (wpAny_getItem_list hl h0 (by lia) (by rw [List.getElem?_toArray]; exact ht) (hQ _ s.heap s.toks nw ⟨rfl, t, rfl⟩ Fm fun p hp => N p (.tail _ hp))) (subscripted_noSl hs _ _)
/-- a def called by name, arguments that turn the ledger -/
theorem jx_nameX {f : Value} {R : Value → Led → Prop} (hf : JV c F lm nw (.Name x xp) f) (hk : Kept c.w f) (hs : (e :: es).all simpE = true) (ha : JArgsX c F lm nw pos (e :: es) Rv) (hc : ∀ vs n, Rv vs n → JX c F lm n (call f vs) R) : JE c F lm nw (.Call (.Name x xp) (e :: es) [] pos) R :=
  JQ.bind1 (fun _ _ z => Call_ z (eval_CallName _ _ _ _ _)) hf fun _ => jx_callWithX (first := []) hk hs ha hc
/-- `x = f(..)` of a def that is walked over clean stacks, and that does not raise here -/
theorem jsc_asgC {f : Value} {own rest' : Led} {k u : Nat} {S : Value → Led → Prop} {X : Prop} {fn : Str} {fp ap : Pos} {kx : Value → Lm} (hgd : c.gd = some []) (hf : JV c F lm nw (.Name fn fp) f) (hk : Kept c.w f) (hs : (e :: es).all simpE = true) (ha : JArgsX c F lm nw ap (e :: es) Rv) (hkx : SetK x lm kx)
    (hc : ∀ vs n, Rv vs n → E2 fun own rest' => A5 (ConC c.w c.mean c.mg c.mb f vs own k u S X) ((∀ p ∈ own, p ∈ n)) ((∀ p ∈ rest', p ∈ n)) ((∀ p ∈ rest', p.1 ∉ own.map (·.1))) (∀ v own', S v own' → (∀ p ∈ own', ∀ q ∈ rest', q.1 ≠ p.1) → JSC c F (kx v) (own' ++ rest') rest P))
    (hX : ¬ X) (h1 : k ≤ c.K) (h2 : u ≤ c.U) : JSC c F lm nw (.Assign [.Name x xp] (.Call (.Name fn fp) (e :: es) [] ap) pos :: rest) P := fun s m Q ok hn Fm hm N hQ =>
  execsC_cons (AssignC (CallC (hf s m _ ok hn Fm hm N fun v h' tk' n ⟨e0, _, e'⟩ F' N' => by
    replace e' := e'.symm
    subst e0 e'
    have hs' := hs
    rw [List.all_cons, Bool.and_eq_true] at hs'
    have he := star_simp hs'.1 es (F.env c.L)
    have hst : (backTo ap (starEach es (F.env c.L))).any (·.1) = false := star_all hs'.2
    rw [show backTo ap (starEach (e :: es) (F.env c.L)) = (false, eval e (F.env c.L)) :: backTo ap (starEach es (F.env c.L)) by rw [he]; rfl]
    refine callWithC (P := (hd.heap_39 c.w.params).In) (by show (false || (backTo ap (starEach es (F.env c.L))).any (·.1)) = false; rw [hst]; rfl) hk (.ofAny (evalArgs_plain ?_))
    have key := ha { s with heap := h', toks := tk' } m (fun vs s₁ => (hd.heap_39 c.w.params).In s₁.heap ∧ wpC (model PR c.w) (c.A F) (call f vs) (fun v s₁ => wpAny (model PR c.w) (c.A F) (storeName (F.env c.L) x v) (fun _ s₂ => wpC (model PR c.w) (c.A F) (execs rest (F.env c.L)) Q (fun _ _ => False) s₂) (fun _ _ => False) s₁) (fun _ _ => False) s₁) ok hn F' hm N' fun vs h₂ tk₂ n₂ r₂ F₂ N₂ => by
      refine ⟨ok.X.keeps F₂.keep, ?_⟩
      obtain ⟨own, rest', C, ho, hr, hne, hend⟩ := hc vs n₂ r₂
      have hA : c.A F = cA (c.dp + 1) (c.un + 3) (some []) (F.env c.L :: c.outer) := by show cA _ _ c.gd _ = _; rw [hgd]
      have B := ok.B
      rw [hgd] at B
      rw [hA]
      refine conC_use (dp := c.dp + 1) (un := c.un + 3) C B F₂ ok.X N₂ ok.T rfl ok.fok.kind ho hr hne (by have := ok.room; lia) (by have := ok.units; lia) (fun v own' h₃ tk₃ hv F₃ N₃ ap => ?_) fun x => (hX x).elim
      have := store_loc (s := { s with heap := h₃, toks := tk₃ }) (v := v) hkx ok hn F₃ hm N₃ (Q := fun _ s₂ => wpC (model PR c.w) (c.A F) (execs rest (F.env c.L)) Q (fun _ _ => False) s₂) fun h₄ tk₄ m₄ hn₄ F₄ hm₄ N₄ =>
        hend v own' hv ap { s with heap := h₄, toks := tk₄ } m₄ Q ok hn₄ F₄ hm₄ N₄ fun fl h₅ tk₅ m₅ l₅ n₅ r₅ => hQ fl h₅ tk₅ m₅ l₅ n₅ r₅
      rw [hA] at this
      exact this
    rw [he] at key
    exact key) (eval_CallName _ _ _ _ _)) (swaps_simp rfl _ _ _))
end
section
variable {text pat : List UInt8} {n : Nat} {dep s p e : Int} {x : MX} {M H : MF}
structure GX (x : MX) : Prop where
  l0 : 0 ≤ x.lev
  l1 : x.lev ≤ (x.ln.length : Int)
  l2 : x.ln.length ≤ 100
  l3 : x.lev ≤ (x.st.length : Int)
  l4 : x.st.length ≤ 100
theorem mh (g : GX x) (h0 : 0 ≤ s) (h1 : s ≤ (text.length : Int)) (hp : 0 ≤ p) : mHere text pat (n + 1) dep s p x = mStep text pat (mM (mHere text pat n (dep + 1)) dep) (mHere text pat n dep) s p x := by
  show (if _ then _ else _) = _
  rw [if_pos ⟨h0, h1, hp, g.l0, g.l1, g.l2, g.l3, g.l4⟩]
theorem mm (h : dep + 1 ≤ 60) : mM H dep s p x = H s p x := if_pos h
theorem ms_end (h : (pat.length : Int) ≤ p) : mStep text pat M H s p x = some (some s, x) := if_neg (by lia)
theorem ms_open (h : p < (pat.length : Int)) (h40 : bi pat p = 40) (h41 : ¬ patAt pat (p + 1) = 41) : mStep text pat M H s p x = startCapture M s (p + 1) (-1) x := by
  unfold mStep; rw [if_pos h, if_pos h40, if_neg h41]
theorem ms_place (h : p < (pat.length : Int)) (h40 : bi pat p = 40) (h41 : patAt pat (p + 1) = 41) : mStep text pat M H s p x = startCapture M s (p + 2) (-2) x := by
  unfold mStep; rw [if_pos h, if_pos h40, if_pos h41]
theorem ms_close (h : p < (pat.length : Int)) (h41 : bi pat p = 41) : mStep text pat M H s p x = endCapture M s (p + 1) x := by
  unfold mStep; rw [if_pos h, if_neg (by lia), if_pos h41]
theorem ms_special (h : p < (pat.length : Int)) (h37 : bi pat p = 37) (hs : (patAt pat (p + 1) = 98 ∨ patAt pat (p + 1) = 102) ∨ isDigit (patAt pat (p + 1)) = true) : mStep text pat M H s p x =
    match matchSpecial text pat x s p (patAt pat (p + 1)) with
      | none => none
      | some (none, _) => some (none, x)
      | some (some s', p') => H s' p' x := by
  unfold mStep; rw [if_pos h, if_neg (by lia), if_neg (by lia), if_neg (by lia), if_pos ⟨h37, hs⟩]; try rfl
theorem ms_item (h : p < (pat.length : Int)) (h37 : bi pat p = 37) (hs : ¬ ((patAt pat (p + 1) = 98 ∨ patAt pat (p + 1) = 102) ∨ isDigit (patAt pat (p + 1)) = true)) (he : p + 1 < (pat.length : Int)) : mStep text pat M H s p x = mItem text pat M H (p + 2) s p x := by
  unfold mStep; rw [if_pos h, if_neg (by lia), if_neg (by lia), if_neg (by lia), if_neg (fun q => hs q.2)]
  have : classEnd pat p = some (p + 2) := by
    unfold classEnd patAt; rw [if_pos h, if_pos h37, if_neg (by lia)]
  rw [this]
theorem pat_bi (h : p < (pat.length : Int)) : patAt pat p = bi pat p := if_pos h
theorem single_pct {L : Int} (h37 : bi pat p = 37) (hL : bi pat (p + 1) = L) : isSingle text pat s p e = (decide (s < (text.length : Int)) && inClass (bi text s) L) := by
  unfold isSingle
  by_cases h : (text.length : Int) ≤ s
  · rw [if_pos h]; have : ¬ s < (text.length : Int) := by lia
    simp [this]
  · rw [if_neg h, if_neg (by lia), if_pos h37, hL]; have : s < (text.length : Int) := by lia
    simp [this]
theorem set_end (hl : p + 3 < (pat.length : Int)) (h91 : bi pat p = 91) (h37 : bi pat (p + 1) = 37) (h93 : bi pat (p + 3) = 93) : classEnd pat p = some (p + 4) := by
  unfold classEnd
  rw [pat_bi (by lia), if_neg (by lia), if_neg (by lia), pat_bi (by lia), if_neg (by lia), setEnd, if_pos (.inl rfl), if_neg (by lia), if_pos ⟨h37, by lia⟩, setEnd,
    pat_bi (by lia), show p + 1 + 1 + 1 = p + 3 by lia, if_neg (by simp [h93])]
  congr 1; lia
theorem set_in {L c : Int} (hl : p + 3 < (pat.length : Int)) (h37 : bi pat (p + 1) = 37) (hL : bi pat (p + 2) = L) : inSet pat c p (p + 3) = inClass c L := by
  unfold inSet
  have e2 : setHas pat c (p + 3) 79 (p + 1 + 1 + 1) = false := by rw [setHas, if_neg (by lia)]
  rw [pat_bi (by lia), if_neg (by lia), setHas, if_pos (by lia), if_pos h37, pat_bi (by lia), e2, show p + 1 + 1 = p + 2 by lia, hL]
  cases inClass c L <;> rfl
/-- a frontier's set says yes here, no behind -/
noncomputable def frB (text : List UInt8) (L s : Int) : Bool := !inClass (if s = 0 then 0 else bi text (s - 1)) L && inClass (if s < (text.length : Int) then bi text s else 0) L
theorem mh_frontier {L : Int} (g : GX x) (h0 : 0 ≤ s) (h1 : s ≤ (text.length : Int)) (hp : 0 ≤ p) (hl : p + 5 < (pat.length : Int)) (a0 : bi pat p = 37) (a1 : bi pat (p + 1) = 102) (a2 : bi pat (p + 2) = 91) (a3 : bi pat (p + 3) = 37) (a4 : bi pat (p + 4) = L) (a5 : bi pat (p + 5) = 93) :
    mHere text pat (n + 1) dep s p x = if frB text L s = true then mHere text pat n dep s (p + 6) x else some (none, x) := by
  rw [mh g h0 h1 hp, ms_special (by lia) a0 (by rw [pat_bi (by lia), a1]; exact .inl (.inr rfl))]
  unfold matchSpecial matchFrontier
  rw [pat_bi (p := p + 1) (by lia), if_neg (by lia), if_pos a1, pat_bi (by lia), if_neg (by lia), set_end (by lia) a2 (by rw [show p + 2 + 1 = p + 3 by lia]; exact a3) (by rw [show p + 2 + 3 = p + 5 by lia]; exact a5)]
  have e : frontierOk text pat s (p + 2) (p + 2 + 4) = frB text L s := by
    unfold frontierOk frB
    rw [show p + 2 + 4 - 1 = (p + 2) + 3 by lia, set_in (L := L) (by lia) (by rw [show p + 2 + 1 = p + 3 by lia]; exact a3) (by rw [show p + 2 + 2 = p + 4 by lia]; exact a4), set_in (L := L) (by lia) (by rw [show p + 2 + 1 = p + 3 by lia]; exact a3) (by rw [show p + 2 + 2 = p + 4 by lia]; exact a4)]
  simp only [Option.map_some, e]
  cases frB text L s
  · rfl
  · simp only [if_true]; rw [show p + 2 + 4 = p + 6 by lia]
/-- an item %L and what follows -/
theorem mh_item {L : Int} (g : GX x) (h0 : 0 ≤ s) (h1 : s ≤ (text.length : Int)) (hp : 0 ≤ p) (hl : p + 1 < (pat.length : Int)) (a0 : bi pat p = 37) (a1 : bi pat (p + 1) = L) (hL : ¬ ((L = 98 ∨ L = 102) ∨ isDigit L = true)) :
    mHere text pat (n + 1) dep s p x = mItem text pat (mM (mHere text pat n (dep + 1)) dep) (mHere text pat n dep) (p + 2) s p x := by
  rw [mh g h0 h1 hp, ms_item (by lia) a0 (by rw [pat_bi (by lia), a1]; exact hL) hl]
theorem mh_end (g : GX x) (h0 : 0 ≤ s) (h1 : s ≤ (text.length : Int)) (hp : 0 ≤ p) (h : (pat.length : Int) ≤ p) : mHere text pat (n + 1) dep s p x = some (some s, x) := by
  rw [mh g h0 h1 hp, ms_end h]
theorem mi_one {r : Int} (h42 : patAt pat e = r) (hr : r = 0 ∨ r = 37 ∨ r = 40 ∨ r = 41) : mItem text pat M H e s p x = if isSingle text pat s p e = true then H (s + 1) e x else some (none, x) := by
  unfold mItem; rw [if_neg (by lia), if_neg (by lia), if_neg (by lia), if_neg (by lia)]
end
/-! texts over the eight letters -/
noncomputable def Eight (text : List UInt8) : Prop := ∀ b ∈ text, b = 97 ∨ b = 98 ∨ b = 49 ∨ b = 50 ∨ b = 40 ∨ b = 41 ∨ b = 32 ∨ b = 120
section
variable {text pat : List UInt8} {n : Nat} {dep s p e a b : Int} {x : MX} {M H : MF}
theorem clip_nat (n : Nat) (h : 0 ≤ a) : clipAt n a = min a.toNat n := by
  obtain ⟨k, rfl⟩ := Int.eq_ofNat_of_zero_le h
  unfold clipAt
  rw [if_neg (Int.not_lt.mpr h), Int.toNat_natCast]
  rcases Nat.le_total k n with q | q
  · rw [Int.min_eq_left (Int.ofNat_le.mpr q), Int.max_eq_right h, Nat.min_eq_left q]; rfl
  · rw [Int.min_eq_right (Int.ofNat_le.mpr q), Int.max_eq_right (Int.natCast_nonneg n), Nat.min_eq_right q]; rfl
theorem sl_cut (h0 : 0 ≤ a) (h1 : 0 ≤ b) : sl text (some a) (some b) = (text.drop a.toNat).take (b.toNat - a.toNat) := by
  unfold sl
  simp only [Option.elim_some, clip_nat _ h0, clip_nat _ h1]
  by_cases ha : a.toNat ≤ text.length
  · rw [Nat.min_eq_left ha]
    by_cases hb : b.toNat ≤ text.length
    · rw [Nat.min_eq_left hb]
    · rw [Nat.min_eq_right (by lia), List.take_of_length_le (by rw [List.length_drop]; lia), List.take_of_length_le (by rw [List.length_drop]; lia)]
  · have e1 : text.drop (min a.toNat text.length) = [] := List.drop_eq_nil_of_le (by lia)
    have e2 : text.drop a.toNat = [] := List.drop_eq_nil_of_le (by lia)
    rw [e1, e2]; simp
theorem sl_from (h0 : 0 ≤ a) : sl text (some a) none = text.drop a.toNat := by
  unfold sl
  simp only [Option.elim_some, Option.elim_none, clip_nat _ h0]
  by_cases ha : a.toNat ≤ text.length
  · rw [Nat.min_eq_left ha, List.take_of_length_le (by rw [List.length_drop]; lia)]
  · rw [Nat.min_eq_right (by lia), List.drop_length, List.drop_eq_nil_of_le (by lia)]; simp
theorem drop_one {i : Nat} (h : i < text.length) : text.drop i = text.getD i 0 :: text.drop (i + 1) := by
  rw [List.drop_eq_getElem_cons h]; simp [List.getD_eq_getElem?_getD, h]
theorem sl_one (h0 : 0 ≤ s) (h1 : s < (text.length : Int)) : sl text (some s) (some (s + 1)) = [text.getD s.toNat 0] := by
  rw [sl_cut h0 (by lia), drop_one (by lia), show (s + 1).toNat - s.toNat = 1 by lia]; rfl
theorem sl_is {v : UInt8} (h0 : 0 ≤ s) (h1 : s < (text.length : Int)) : (sl text (some s) (some (s + 1)) == [v]) = decide (bi text s = (v.toNat : Int)) := by
  rw [sl_one h0 h1]
  unfold bi
  generalize text.getD s.toNat 0 = c
  by_cases h : c = v
  · subst h; simp
  · have : ¬ ((c.toNat : Int) = (v.toNat : Int)) := fun q => h (UInt8.toNat_inj.mp (by lia))
    simp [h, this]
theorem eight_bi (h : Eight text) (h0 : 0 ≤ s) (h1 : s < (text.length : Int)) : bi text s = 97 ∨ bi text s = 98 ∨ bi text s = 49 ∨ bi text s = 50 ∨ bi text s = 40 ∨ bi text s = 41 ∨ bi text s = 32 ∨ bi text s = 120 := by
  have hm : text.getD s.toNat 0 ∈ text := by
    rw [List.getD_eq_getElem?_getD, List.getElem?_eq_getElem (by lia)]; exact List.getElem_mem _
  unfold bi
  rcases h _ hm with q | q | q | q | q | q | q | q <;> rw [q] <;> decide
theorem isLet_bi (h0 : 0 ≤ s) (h1 : s < (text.length : Int)) : isLet text s = (decide (bi text s = 97) || decide (bi text s = 98) || decide (bi text s = 120)) := by
  unfold isLet
  rw [sl_is h0 h1, sl_is h0 h1, sl_is h0 h1, decide_eq_true (⟨h0, h1⟩ : 0 ≤ s ∧ s < (text.length : Int)), Bool.true_and]; rfl
theorem isFig_bi (h0 : 0 ≤ s) (h1 : s < (text.length : Int)) : isFig text s = (decide (bi text s = 49) || decide (bi text s = 50)) := by
  unfold isFig
  rw [sl_is h0 h1, sl_is h0 h1, decide_eq_true (⟨h0, h1⟩ : 0 ≤ s ∧ s < (text.length : Int)), Bool.true_and]; rfl
theorem isLet_out (h : ¬ (0 ≤ s ∧ s < (text.length : Int))) : isLet text s = false := by unfold isLet; rw [decide_eq_false h]; rfl
theorem isFig_out (h : ¬ (0 ≤ s ∧ s < (text.length : Int))) : isFig text s = false := by unfold isFig; rw [decide_eq_false h]; rfl
theorem isLet_in (h : isLet text s = true) : 0 ≤ s ∧ s < (text.length : Int) := by
  apply Decidable.byContradiction; intro q; rw [isLet_out q] at h; cases h
theorem isFig_in (h : isFig text s = true) : 0 ≤ s ∧ s < (text.length : Int) := by
  apply Decidable.byContradiction; intro q; rw [isFig_out q] at h; cases h
theorem cls_a (h : Eight text) (h0 : 0 ≤ s) : (decide (s < (text.length : Int)) && inClass (bi text s) 97) = isLet text s := by
  by_cases h1 : s < (text.length : Int)
  · rw [isLet_bi h0 h1, decide_eq_true h1, Bool.true_and]
    rcases eight_bi h h0 h1 with q | q | q | q | q | q | q | q <;> rw [q] <;> decide
  · rw [isLet_out (by lia), decide_eq_false h1]; rfl
theorem cls_d (h : Eight text) (h0 : 0 ≤ s) : (decide (s < (text.length : Int)) && inClass (bi text s) 100) = isFig text s := by
  by_cases h1 : s < (text.length : Int)
  · rw [isFig_bi h0 h1, decide_eq_true h1, Bool.true_and]
    rcases eight_bi h h0 h1 with q | q | q | q | q | q | q | q <;> rw [q] <;> decide
  · rw [isFig_out (by lia), decide_eq_false h1]; rfl
theorem cls_w (h : Eight text) (h0 : 0 ≤ s) : (decide (s < (text.length : Int)) && inClass (bi text s) 119) = (isLet text s || isFig text s) := by
  by_cases h1 : s < (text.length : Int)
  · rw [isFig_bi h0 h1, isLet_bi h0 h1, decide_eq_true h1, Bool.true_and]
    rcases eight_bi h h0 h1 with q | q | q | q | q | q | q | q <;> rw [q] <;> decide
  · rw [isFig_out (by lia), isLet_out (by lia), decide_eq_false h1]; rfl
theorem cl0 (h0 : 0 ≤ s) (h1 : s ≤ (text.length : Int)) {L : Int} (hz : inClass 0 L = false) {q : Int → Bool} (hq : ∀ s, 0 ≤ s → (decide (s < (text.length : Int)) && inClass (bi text s) L) = q s) (hm : q (-1) = false) : frB text L s = (!q (s - 1) && q s) := by
  unfold frB
  have e1 : inClass (if s = 0 then 0 else bi text (s - 1)) L = q (s - 1) := by
    by_cases hs : s = 0
    · subst hs; rw [if_pos rfl, hz]; exact hm.symm
    · rw [if_neg hs, ← hq (s - 1) (by lia), decide_eq_true (by lia), Bool.true_and]
  have e2 : inClass (if s < (text.length : Int) then bi text s else 0) L = q s := by
    rw [← hq s h0]
    by_cases hs : s < (text.length : Int)
    · rw [if_pos hs, decide_eq_true hs, Bool.true_and]
    · rw [if_neg hs, decide_eq_false hs, hz]; rfl
  rw [e1, e2]
theorem fr_a (h : Eight text) (h0 : 0 ≤ s) (h1 : s ≤ (text.length : Int)) : frB text 97 s = (!isLet text (s - 1) && isLet text s) := cl0 h0 h1 (by decide) (fun _ q => cls_a h q) (isLet_out (by lia))
theorem fr_d (h : Eight text) (h0 : 0 ≤ s) (h1 : s ≤ (text.length : Int)) : frB text 100 s = (!isFig text (s - 1) && isFig text s) := cl0 h0 h1 (by decide) (fun _ q => cls_d h q) (isFig_out (by lia))
/-- %f[%D]: behind a figure, none ahead -/
theorem fr_D (h : Eight text) (h0 : 0 ≤ s) (h1 : s ≤ (text.length : Int)) : frB text 68 s = (isFig text (s - 1) && !isFig text s) := by
  unfold frB
  have e1 : inClass (if s = 0 then 0 else bi text (s - 1)) 68 = !isFig text (s - 1) := by
    by_cases hs : s = 0
    · subst hs; rw [if_pos rfl, isFig_out (by lia)]; decide
    · rw [if_neg hs, isFig_bi (by lia) (by lia)]
      rcases eight_bi h (s := s - 1) (by lia) (by lia) with q | q | q | q | q | q | q | q <;> rw [q] <;> decide
  have e2 : inClass (if s < (text.length : Int) then bi text s else 0) 68 = !isFig text s := by
    by_cases hs : s < (text.length : Int)
    · rw [if_pos hs, isFig_bi (by lia) (by lia)]
      rcases eight_bi h h0 hs with q | q | q | q | q | q | q | q <;> rw [q] <;> decide
    · rw [if_neg hs, isFig_out (by lia)]; decide
  rw [e1, e2, Bool.not_not]
theorem fr_z (h : Eight text) (h0 : 0 ≤ s) (h1 : s ≤ (text.length : Int)) : frB text 122 s = decide (s = (text.length : Int) ∧ 0 < s) := by
  unfold frB
  have e1 : inClass (if s = 0 then 0 else bi text (s - 1)) 122 = decide (s = 0) := by
    by_cases hs : s = 0
    · subst hs; rw [if_pos rfl]; decide
    · rw [if_neg hs, decide_eq_false hs]
      rcases eight_bi h (s := s - 1) (by lia) (by lia) with q | q | q | q | q | q | q | q <;> rw [q] <;> decide
  have e2 : inClass (if s < (text.length : Int) then bi text s else 0) 122 = decide (s = (text.length : Int)) := by
    by_cases hs : s < (text.length : Int)
    · rw [if_pos hs, decide_eq_false (by lia)]
      rcases eight_bi h h0 hs with q | q | q | q | q | q | q | q <;> rw [q] <;> decide
    · rw [if_neg hs, decide_eq_true (by lia)]; decide
  rw [e1, e2]
  by_cases ha : s = 0
  · subst ha; simp
  · have : 0 < s := by lia
    simp [ha, this]
theorem fr_Z (h : Eight text) (h0 : 0 ≤ s) (h1 : s ≤ (text.length : Int)) : frB text 90 s = decide (s = 0 ∧ ¬ text = []) := by
  unfold frB
  have e1 : inClass (if s = 0 then 0 else bi text (s - 1)) 90 = decide (¬ s = 0) := by
    by_cases hs : s = 0
    · subst hs; rw [if_pos rfl]; decide
    · rw [if_neg hs, decide_eq_true hs]
      rcases eight_bi h (s := s - 1) (by lia) (by lia) with q | q | q | q | q | q | q | q <;> rw [q] <;> decide
  have e2 : inClass (if s < (text.length : Int) then bi text s else 0) 90 = decide (s < (text.length : Int)) := by
    by_cases hs : s < (text.length : Int)
    · rw [if_pos hs, decide_eq_true hs]
      rcases eight_bi h h0 hs with q | q | q | q | q | q | q | q <;> rw [q] <;> decide
    · rw [if_neg hs, decide_eq_false hs]; decide
  rw [e1, e2]
  by_cases ha : s = 0
  · subst ha; cases text <;> simp
  · simp [ha]
/-- runs -/
theorem run_le {q : Int → Bool} (hq : ∀ t, q t = true → t < (text.length : Int)) : ∀ (n : Nat) (s : Int), s ≤ (text.length : Int) → s ≤ runGo q n s ∧ runGo q n s ≤ (text.length : Int) := by
  intro n
  induction n with
  | zero => intro s h; exact ⟨Int.le_refl _, h⟩
  | succ n ih =>
    intro s h
    rw [runGo]
    split
    · rename_i hs; have := hq s hs; have := ih (s + 1) (by lia); lia
    · lia
theorem run_fuel {q : Int → Bool} (hq : ∀ t, q t = true → t < (text.length : Int)) : ∀ (n m : Nat) (s : Int), (text.length : Int) - s < n → (text.length : Int) - s < m → runGo q n s = runGo q m s := by
  intro n
  induction n with
  | zero =>
    intro m s h1 h2
    have hs : q s = false := by
      cases hs : q s
      · rfl
      · have := hq s hs; lia
    cases m with
    | zero => rfl
    | succ m => rw [runGo, runGo, if_neg (by rw [hs]; decide)]
  | succ n ih =>
    intro m s h1 h2
    cases m with
    | zero =>
      have hs : q s = false := by
        cases hs : q s
        · rfl
        · have := hq s hs; lia
      rw [runGo, runGo, if_neg (by rw [hs]; decide)]
    | succ m =>
      rw [runGo, runGo]
      split
      · exact ih m (s + 1) (by lia) (by lia)
      · rfl
theorem count_run {q : Int → Bool} (hs : ∀ t, 0 ≤ t → isSingle text pat t p e = q t) (h0 : 0 ≤ s) : ∀ (n : Nat) (m : Int), 0 ≤ m → s + countS text pat s p e n m = runGo q n (s + m) := by
  intro n
  induction n with
  | zero => intro m _; rfl
  | succ n ih =>
    intro m hm
    rw [countS, runGo, hs _ (by lia)]
    split
    · rw [ih _ (by lia)]; congr 1; lia
    · rfl
theorem count_ge : ∀ (n : Nat) (m : Int), m ≤ countS text pat s p e n m := by
  intro n
  induction n with
  | zero => intro m; exact Int.le_refl _
  | succ n ih =>
    intro m
    rw [countS]
    split
    · have := ih (m + 1); lia
    · exact Int.le_refl _
end
noncomputable def patK (kind : Int) : List UInt8 :=
  if kind = 0 then [37, 98, 40, 41] else if kind = 1 then [37, 102, 91, 37, 97, 93, 37, 97, 43] else if kind = 2 then [40, 37, 97, 41, 40, 37, 100, 42, 41] else if kind = 3 then [40, 41, 37, 97, 63]
  else if kind = 4 then [40, 37, 119, 41, 37, 49] else if kind = 5 then [40, 40, 37, 97, 41, 37, 100, 41] else if kind = 6 then [37, 102, 91, 37, 100, 93, 40, 37, 100, 45, 41, 37, 102, 91, 37, 68, 93]
  else if kind = 7 then [37, 102, 91, 37, 122, 93] else if kind = 8 then [37, 102, 91, 37, 90, 93] else [37, 98, 97, 97]
theorem law_1 {text : List UInt8} {s : Int} : lawM 1 text s = (if isLet text s = true ∧ isLet text (s - 1) = false then some (runGo (isLet text) 18 s, []) else none) := rfl
theorem law_2 {text : List UInt8} {s : Int} : lawM 2 text s = (if isLet text s = true then some (runGo (isFig text) 18 (s + 1), [.txt (sl text (some s) (some (s + 1))), .txt (sl text (some (s + 1)) (some (runGo (isFig text) 18 (s + 1))))]) else none) := rfl
theorem law_3 {text : List UInt8} {s : Int} : lawM 3 text s = some (s + (if isLet text s = true then 1 else 0), [.pos (s + 1)]) := rfl
theorem law_4 {text : List UInt8} {s : Int} : lawM 4 text s = (if (isLet text s = true ∨ isFig text s = true) ∧ sl text (some s) (some (s + 1)) = sl text (some (s + 1)) (some (s + 2)) then some (s + 2, [.txt (sl text (some s) (some (s + 1)))]) else none) := rfl
theorem law_5 {text : List UInt8} {s : Int} : lawM 5 text s = (if isLet text s = true ∧ isFig text (s + 1) = true then some (s + 2, [.txt (sl text (some s) (some (s + 2))), .txt (sl text (some s) (some (s + 1)))]) else none) := rfl
theorem law_6 {text : List UInt8} {s : Int} : lawM 6 text s = (if isFig text s = true ∧ isFig text (s - 1) = false then some (runGo (isFig text) 18 s, [.txt (sl text (some s) (some (runGo (isFig text) 18 s)))]) else none) := rfl
theorem law_7 {text : List UInt8} {s : Int} : lawM 7 text s = (if s = (text.length : Int) ∧ 0 < s then some (s, []) else none) := rfl
theorem law_8 {text : List UInt8} {s : Int} : lawM 8 text s = (if s = 0 ∧ ¬ text = [] then some (s, []) else none) := rfl
theorem law_9 {text : List UInt8} {s : Int} : lawM 9 text s = (if sl text (some s) (some (s + 1)) = [97] ∧ 0 ≤ findV text.toArray #[97] (s + 1).toNat then some (findV text.toArray #[97] (s + 1).toNat + 1, []) else none) := rfl
noncomputable def ReadOk (text pat : List UInt8) (bound : Bool) (at_ : Int) (rd : Option (Int × List Cap)) : Prop :=
  ∃ x, mHere text (preP bound ++ pat) 60 1 at_ (bI bound) ⟨0, [], []⟩ = some (rd.map (·.1), x) ∧ CapsOk x ∧ ∀ e cs, rd = some (e, cs) → at_ ≤ e ∧ e ≤ (text.length : Int) ∧ x.lev = (cs.length : Int) ∧ ∀ k : Nat, k < cs.length → capV text x k at_ e = cs[k]?
theorem gx0 : GX ⟨0, [], []⟩ := ⟨by decide, by decide, by decide, by decide, by decide⟩
theorem capsOk0 : CapsOk ⟨0, [], []⟩ := ⟨by decide, by decide, by decide, by decide, by decide, fun k a b => by simp at b; lia, fun k a b => by simp at b; lia⟩
section
variable {text pat : List UInt8} {n : Nat} {dep s p e a b : Int} {x : MX} {M H : MF}
theorem mi_plus (h43 : patAt pat e = 43) : mItem text pat M H e s p x = if isSingle text pat s p e = true then expandMost text pat M (s + 1) p e x else some (none, x) := by
  unfold mItem; rw [if_neg (by lia), if_pos h43]
theorem mi_star (h42 : patAt pat e = 42) : mItem text pat M H e s p x = expandMost text pat M s p e x := by
  unfold mItem; rw [if_pos h42]
theorem mi_minus (h45 : patAt pat e = 45) : mItem text pat M H e s p x = expandLeast text pat M p e 80 s x := by
  unfold mItem; rw [if_neg (by lia), if_neg (by lia), if_pos h45]
theorem mi_opt (h63 : patAt pat e = 63) : mItem text pat M H e s p x = if isSingle text pat s p e = true then
      match M (s + 1) (e + 1) x with
      | none => none
      | some (some r, x') => some (some r, x')
      | some (none, x') => H s (e + 1) x'
    else H s (e + 1) x := by
  unfold mItem; rw [if_neg (by lia), if_neg (by lia), if_neg (by lia), if_pos h63]; try rfl
/-- the greatest run is tried first: where what follows always serves, it is taken -/
theorem most_first {q : Int → Bool} {x' : MX} (h16 : text.length ≤ 16) (hs : ∀ t, 0 ≤ t → isSingle text pat t p e = q t) (hq : ∀ t, q t = true → t < (text.length : Int)) (h0 : 0 ≤ s) (h1 : s ≤ (text.length : Int))
    (hM : M (runGo q 18 s) (e + 1) x = some (some (runGo q 18 s), x')) : expandMost text pat M s p e x = some (some (runGo q 18 s), x') := by
  have hc := count_run (text := text) (p := p) hs h0 80 0 (Int.le_refl _)
  have hg := count_ge (text := text) (pat := pat) (s := s) (p := p) (e := e) 80 0
  rw [Int.add_zero, run_fuel hq 80 18 s (by lia) (by lia)] at hc
  unfold expandMost
  rw [tryMost, show s + ((countS text pat s p e 80 0).toNat : Int) = runGo q 18 s by lia, hM]
theorem mh_balance {B C : Int} (g : GX x) (h0 : 0 ≤ s) (h1 : s ≤ (text.length : Int)) (hp : 0 ≤ p) (hl : p + 3 < (pat.length : Int)) (a0 : bi pat p = 37) (a1 : bi pat (p + 1) = 98) (a2 : bi pat (p + 2) = B) (a3 : bi pat (p + 3) = C) :
    mHere text pat (n + 1) dep s p x = match (if (text.length : Int) ≤ s then none else if ¬ bi text s = B then none else balLoop text B C 80 (s + 1) 1) with
      | none => some (none, x)
      | some s' => mHere text pat n dep s' (p + 4) x := by
  rw [mh g h0 h1 hp, ms_special (by lia) a0 (by rw [pat_bi (by lia), a1]; exact .inl (.inl rfl))]
  unfold matchSpecial matchBalance
  rw [pat_bi (p := p + 1) (by lia), if_pos a1, if_neg (by lia), show p + 2 + 1 = p + 3 by lia, a2, a3]
  by_cases hs : (text.length : Int) ≤ s
  · rw [if_pos hs, if_pos hs]; rfl
  · rw [if_neg hs, if_neg hs]
    by_cases hb : bi text s = B
    · rw [if_neg (by simpa using hb), if_neg (by simpa using hb)]
      cases balLoop text B C 80 (s + 1) 1 <;> rfl
    · rw [if_pos hb, if_pos hb]; rfl
theorem bal_loop : ∀ (k n : Nat) (place deep : Int), s < place → 1 ≤ deep → (text.length : Int) - place = (k : Int) → (k : Int) < n → balLoop text 40 41 n place deep = balGo text s k place deep ∧ ∀ e, balGo text s k place deep = some e → place ≤ e ∧ e ≤ (text.length : Int) := by
  intro k
  induction k with
  | zero =>
    intro n place deep h1 h2 h3 h4
    obtain ⟨n, rfl⟩ : ∃ n', n = n' + 1 := ⟨n - 1, by lia⟩
    rw [balLoop, if_neg (by lia), balGo]
    exact ⟨rfl, fun e h => nomatch h⟩
  | succ k ih =>
    intro n place deep h1 h2 h3 h4
    obtain ⟨n, rfl⟩ : ∃ n', n = n' + 1 := ⟨n - 1, by lia⟩
    rw [balLoop, if_pos (by lia), balGo, balD]
    by_cases h41 : bi text place = 41
    · rw [if_pos h41, if_neg (show ¬ bi text place = 40 by lia), if_pos h41]
      by_cases hd : deep - 1 = 0
      · rw [if_pos hd, if_pos (by lia), if_pos h1]
        exact ⟨rfl, fun e h => by cases h; lia⟩
      · rw [if_neg hd, if_neg (by lia)]
        have := ih n (place + 1) (deep - 1) (by lia) (by lia) (by lia) (by lia)
        exact ⟨this.1, fun e h => by have := this.2 e h; lia⟩
    · rw [if_neg h41]
      by_cases h40 : bi text place = 40
      · rw [if_pos h40, if_pos h40, if_neg (by lia)]
        have := ih n (place + 1) (deep + 1) (by lia) (by lia) (by lia) (by lia)
        exact ⟨this.1, fun e h => by have := this.2 e h; lia⟩
      · rw [if_neg h40, if_neg h40, if_neg h41, if_neg (by lia), Int.add_zero]
        have := ih n (place + 1) deep (by lia) (by lia) (by lia) (by lia)
        exact ⟨this.1, fun e h => by have := this.2 e h; lia⟩
theorem bal_eq (h0 : 0 ≤ s) (h1 : s ≤ (text.length : Int)) (h16 : text.length ≤ 16) : (if (text.length : Int) ≤ s then none else if ¬ bi text s = 40 then none else balLoop text 40 41 80 (s + 1) 1) = balM text s ∧ ∀ e, balM text s = some e → s ≤ e ∧ e ≤ (text.length : Int) := by
  unfold balM
  by_cases hs : (text.length : Int) ≤ s
  · rw [if_pos hs, show ((text.length : Int) - s).toNat = 0 by lia, balGo]
    exact ⟨rfl, fun e h => nomatch h⟩
  · obtain ⟨k, hk⟩ : ∃ k, ((text.length : Int) - s).toNat = k + 1 := ⟨((text.length : Int) - s).toNat - 1, by lia⟩
    rw [if_neg hs, hk, balGo, balD]
    by_cases hb : bi text s = 40
    · rw [if_neg (by simpa using hb), if_pos hb, if_neg (by lia)]
      have := bal_loop (text := text) (s := s) k 80 (s + 1) 1 (by lia) (by lia) (by lia) (by lia)
      exact ⟨this.1, fun e h => by have := this.2 e h; lia⟩
    · rw [if_pos hb, if_neg hb, if_pos (by split <;> lia), if_neg (by lia)]
      exact ⟨rfl, fun e h => nomatch h⟩
theorem read0 (h0 : 0 ≤ s) (h1 : s ≤ (text.length : Int)) (h16 : text.length ≤ 16) (bound : Bool) : ReadOk text (patK 0) bound s (lawM 0 text s) := by
  have hb := bal_eq h0 h1 h16
  refine ⟨⟨0, [], []⟩, ?_, capsOk0, ?_⟩
  · have e1 : mHere text (preP bound ++ patK 0) 60 1 s (bI bound) ⟨0, [], []⟩ = _ := mh_balance (n := 59) (dep := 1) (B := 40) (C := 41) gx0 h0 h1 (by cases bound <;> decide) (by cases bound <;> decide) (by cases bound <;> decide) (by cases bound <;> decide) (by cases bound <;> decide) (by cases bound <;> decide)
    rw [e1, hb.1]
    show _ = some (Option.map _ (Option.map _ (balM text s)), _)
    rcases hm : balM text s with _ | e
    · rfl
    · have := hb.2 e hm
      exact mh_end (n := 58) gx0 (by lia) (by lia) (by cases bound <;> decide) (by cases bound <;> decide)
  · intro e cs h
    obtain ⟨e', hm, h⟩ := Option.map_eq_some_iff.mp (show Option.map (fun e => (e, [])) (balM text s) = some (e, cs) from h)
    cases h
    have := hb.2 e hm
    exact ⟨this.1, this.2, rfl, fun k hk => nomatch hk⟩
theorem fr_end {L : Int} (h0 : 0 ≤ s) (h1 : s ≤ (text.length : Int)) (hp : 0 ≤ p) (hl : p + 5 < (pat.length : Int)) (hl2 : (pat.length : Int) ≤ p + 6) (a0 : bi pat p = 37) (a1 : bi pat (p + 1) = 102) (a2 : bi pat (p + 2) = 91) (a3 : bi pat (p + 3) = 37) (a4 : bi pat (p + 4) = L) (a5 : bi pat (p + 5) = 93) :
    mHere text pat 60 1 s p ⟨0, [], []⟩ = some (if frB text L s = true then some s else none, ⟨0, [], []⟩) := by
  have e1 : mHere text pat 60 1 s p ⟨0, [], []⟩ = _ := mh_frontier (n := 59) (dep := 1) (L := L) gx0 h0 h1 hp hl a0 a1 a2 a3 a4 a5
  rw [e1]
  split
  · exact mh_end (n := 58) gx0 h0 h1 (by lia) (by lia)
  · rfl
theorem read7 (h8 : Eight text) (h0 : 0 ≤ s) (h1 : s ≤ (text.length : Int)) (bound : Bool) : ReadOk text (patK 7) bound s (lawM 7 text s) := by
  refine ⟨⟨0, [], []⟩, ?_, capsOk0, ?_⟩
  · rw [fr_end (pat := preP bound ++ patK 7) (p := bI bound) (L := 122) h0 h1 (by cases bound <;> decide) (by cases bound <;> decide) (by cases bound <;> decide) (by cases bound <;> decide) (by cases bound <;> decide) (by cases bound <;> decide) (by cases bound <;> decide) (by cases bound <;> decide) (by cases bound <;> decide), fr_z h8 h0 h1]
    rw [law_7]
    split
    · rename_i h; rw [if_pos (of_decide_eq_true h)]; rfl
    · rename_i h; rw [if_neg (fun q => h (decide_eq_true q))]; rfl
  · intro e cs h
    rw [law_7] at h
    split at h
    · cases h; exact ⟨Int.le_refl _, h1, rfl, fun k hk => nomatch hk⟩
    · cases h
theorem read8 (h8 : Eight text) (h0 : 0 ≤ s) (h1 : s ≤ (text.length : Int)) (bound : Bool) : ReadOk text (patK 8) bound s (lawM 8 text s) := by
  refine ⟨⟨0, [], []⟩, ?_, capsOk0, ?_⟩
  · rw [fr_end (pat := preP bound ++ patK 8) (p := bI bound) (L := 90) h0 h1 (by cases bound <;> decide) (by cases bound <;> decide) (by cases bound <;> decide) (by cases bound <;> decide) (by cases bound <;> decide) (by cases bound <;> decide) (by cases bound <;> decide) (by cases bound <;> decide) (by cases bound <;> decide), fr_Z h8 h0 h1]
    rw [law_8]
    split
    · rename_i h; rw [if_pos (of_decide_eq_true h)]; rfl
    · rename_i h; rw [if_neg (fun q => h (decide_eq_true q))]; rfl
  · intro e cs h
    rw [law_8] at h
    split at h
    · cases h; exact ⟨Int.le_refl _, h1, rfl, fun k hk => nomatch hk⟩
    · cases h
theorem read1 (h8 : Eight text) (h0 : 0 ≤ s) (h1 : s ≤ (text.length : Int)) (h16 : text.length ≤ 16) (bound : Bool) : ReadOk text (patK 1) bound s (lawM 1 text s) := by
  have hq : ∀ t, isLet text t = true → t < (text.length : Int) := fun t h => (isLet_in h).2
  have hr := run_le hq 18 s h1
  refine ⟨⟨0, [], []⟩, ?_, capsOk0, ?_⟩
  · have e1 : mHere text (preP bound ++ patK 1) 60 1 s (bI bound) ⟨0, [], []⟩ = _ := mh_frontier (n := 59) (dep := 1) (L := 97) gx0 h0 h1 (by cases bound <;> decide) (by cases bound <;> decide) (by cases bound <;> decide) (by cases bound <;> decide) (by cases bound <;> decide) (by cases bound <;> decide) (by cases bound <;> decide) (by cases bound <;> decide)
    rw [e1, fr_a h8 h0 h1]
    rw [law_1]
    by_cases hc : isLet text s = true ∧ isLet text (s - 1) = false
    · have hs := hq s hc.1
      have e18 : runGo (isLet text) 18 s = runGo (isLet text) 18 (s + 1) := by
        rw [run_fuel hq 18 19 s (by lia) (by lia), runGo, if_pos hc.1]
      have hsi : ∀ t, 0 ≤ t → isSingle text (preP bound ++ patK 1) t (bI bound + 6) (bI bound + 6 + 2) = isLet text t := fun t ht => (single_pct (L := 97) (by cases bound <;> decide) (by cases bound <;> decide)).trans (cls_a h8 ht)
      rw [if_pos (by rw [hc.1, hc.2]; rfl), if_pos hc, mh_item (n := 58) (L := 97) gx0 h0 h1 (by cases bound <;> decide) (by cases bound <;> decide) (by cases bound <;> decide) (by cases bound <;> decide) (by decide), mi_plus (by cases bound <;> decide), hsi s h0, if_pos hc.1,
        most_first (q := isLet text) (x' := ⟨0, [], []⟩) h16 hsi hq (by lia) (by lia) ?_, e18]; rfl
      rw [mm (by decide)]
      exact mh_end (n := 57) gx0 (by lia) (by lia) (by cases bound <;> decide) (by cases bound <;> decide)
    · rw [if_neg hc, if_neg (fun q => hc (by simp at q; exact ⟨q.2, q.1⟩))]; rfl
  · intro e cs h
    rw [law_1] at h
    split at h
    · cases h; exact ⟨hr.1, hr.2, rfl, fun k hk => nomatch hk⟩
    · cases h
end
section
variable {text pat : List UInt8} {n : Nat} {dep s p e a b : Int} {x x' : MX} {M H : MF} {r : Int}
theorem open_ok (g : GX x) (h0 : 0 ≤ s) (h1 : s ≤ (text.length : Int)) (hp : 0 ≤ p) (h : p < (pat.length : Int)) (h40 : bi pat p = 40) (h41 : ¬ patAt pat (p + 1) = 41) (hd : dep + 1 ≤ 60) (hl : x.lev < 32)
    (hi : mHere text pat n (dep + 1) s (p + 1) ⟨x.lev + 1, x.st.take x.lev.toNat ++ [s], x.ln.take x.lev.toNat ++ [-1]⟩ = some (some r, x')) : mHere text pat (n + 1) dep s p x = some (some r, x') := by
  rw [mh g h0 h1 hp, ms_open h h40 h41, startCapture, if_neg (by lia), mm hd, hi]
theorem open_no (g : GX x) (h0 : 0 ≤ s) (h1 : s ≤ (text.length : Int)) (hp : 0 ≤ p) (h : p < (pat.length : Int)) (h40 : bi pat p = 40) (h41 : ¬ patAt pat (p + 1) = 41) (hd : dep + 1 ≤ 60) (hl : x.lev < 32)
    (hi : mHere text pat n (dep + 1) s (p + 1) ⟨x.lev + 1, x.st.take x.lev.toNat ++ [s], x.ln.take x.lev.toNat ++ [-1]⟩ = some (none, x')) : mHere text pat (n + 1) dep s p x = some (none, ⟨x'.lev - 1, x'.st, x'.ln⟩) := by
  rw [mh g h0 h1 hp, ms_open h h40 h41, startCapture, if_neg (by lia), mm hd, hi]
theorem place_ok (g : GX x) (h0 : 0 ≤ s) (h1 : s ≤ (text.length : Int)) (hp : 0 ≤ p) (h : p < (pat.length : Int)) (h40 : bi pat p = 40) (h41 : patAt pat (p + 1) = 41) (hd : dep + 1 ≤ 60) (hl : x.lev < 32)
    (hi : mHere text pat n (dep + 1) s (p + 2) ⟨x.lev + 1, x.st.take x.lev.toNat ++ [s], x.ln.take x.lev.toNat ++ [-2]⟩ = some (some r, x')) : mHere text pat (n + 1) dep s p x = some (some r, x') := by
  rw [mh g h0 h1 hp, ms_place h h40 h41, startCapture, if_neg (by lia), mm hd, hi]
theorem close_ok {k : Int} (g : GX x) (h0 : 0 ≤ s) (h1 : s ≤ (text.length : Int)) (hp : 0 ≤ p) (h : p < (pat.length : Int)) (h41 : bi pat p = 41) (hd : dep + 1 ≤ 60) (hk : closeAt x.ln x.lev.toNat = some k)
    (hi : mHere text pat n (dep + 1) s (p + 1) ⟨x.lev, x.st, x.ln.set k.toNat (s - gi x.st k)⟩ = some (some r, x')) : mHere text pat (n + 1) dep s p x = some (some r, x') := by
  rw [mh g h0 h1 hp, ms_close h h41, endCapture, hk]; simp only [mm hd, hi]
theorem close_no {k : Int} (g : GX x) (h0 : 0 ≤ s) (h1 : s ≤ (text.length : Int)) (hp : 0 ≤ p) (h : p < (pat.length : Int)) (h41 : bi pat p = 41) (hd : dep + 1 ≤ 60) (hk : closeAt x.ln x.lev.toNat = some k) (hlen : k < (x'.ln.length : Int))
    (hi : mHere text pat n (dep + 1) s (p + 1) ⟨x.lev, x.st, x.ln.set k.toNat (s - gi x.st k)⟩ = some (none, x')) : mHere text pat (n + 1) dep s p x = some (none, ⟨x'.lev, x'.st, x'.ln.set k.toNat (-1)⟩) := by
  rw [mh g h0 h1 hp, ms_close h h41, endCapture, hk]; simp only [mm hd, hi, if_pos hlen]
theorem one_ok {L c : Int} (g : GX x) (h0 : 0 ≤ s) (h1 : s ≤ (text.length : Int)) (hp : 0 ≤ p) (hl : p + 1 < (pat.length : Int)) (a0 : bi pat p = 37) (a1 : bi pat (p + 1) = L) (hL : ¬ ((L = 98 ∨ L = 102) ∨ isDigit L = true)) (ha : patAt pat (p + 2) = c) (hc : c = 0 ∨ c = 37 ∨ c = 40 ∨ c = 41)
    (hs : (decide (s < (text.length : Int)) && inClass (bi text s) L) = true) : mHere text pat (n + 1) dep s p x = mHere text pat n dep (s + 1) (p + 2) x := by
  rw [mh_item g h0 h1 hp hl a0 a1 hL, mi_one ha hc, single_pct a0 a1, if_pos hs]
theorem one_no {L c : Int} (g : GX x) (h0 : 0 ≤ s) (h1 : s ≤ (text.length : Int)) (hp : 0 ≤ p) (hl : p + 1 < (pat.length : Int)) (a0 : bi pat p = 37) (a1 : bi pat (p + 1) = L) (hL : ¬ ((L = 98 ∨ L = 102) ∨ isDigit L = true)) (ha : patAt pat (p + 2) = c) (hc : c = 0 ∨ c = 37 ∨ c = 40 ∨ c = 41)
    (hs : (decide (s < (text.length : Int)) && inClass (bi text s) L) = false) : mHere text pat (n + 1) dep s p x = some (none, x) := by
  rw [mh_item g h0 h1 hp hl a0 a1 hL, mi_one ha hc, single_pct a0 a1, if_neg (by rw [hs]; decide)]
theorem capsOk1 {k : Int} (h1 : k ≠ -1) (h2 : k = -2 → 0 ≤ s ∧ s ≤ 8) : CapsOk ⟨1, [s], [k]⟩ :=
  ⟨by simp, by simp, by simp, by simp, by simp, fun i a b => by
    obtain rfl : i = 0 := by simp at b; lia
    exact h1, fun i a b h => by
    obtain rfl : i = 0 := by simp at b; lia
    exact h2 h⟩
theorem capsOk2 {k l t : Int} (h1 : k ≠ -1) (h2 : k ≠ -2) (h3 : l ≠ -1) (h4 : l ≠ -2) : CapsOk ⟨2, [s, t], [k, l]⟩ :=
  ⟨by simp, by simp, by simp, by simp, by simp, fun i a b => by
    have : i = 0 ∨ i = 1 := by simp at b; lia
    rcases this with rfl | rfl
    · exact h1
    · exact h3, fun i a b h => by
    have : i = 0 ∨ i = 1 := by simp at b; lia
    rcases this with rfl | rfl
    · exact absurd h h2
    · exact absurd h h4⟩
theorem capsz {st ln : List Int} (h1 : st.length ≤ 100) (h2 : ln.length ≤ 100) : CapsOk ⟨0, st, ln⟩ :=
  ⟨by simp, by simp, h2, by simp, h1, fun i a b => by simp at b; lia, fun i a b => by simp at b; lia⟩
theorem gx1 {k : Int} : GX ⟨1, [s], [k]⟩ := ⟨by simp, by simp, by simp, by simp, by simp⟩
theorem gx2 {k l t : Int} : GX ⟨2, [s, t], [k, l]⟩ := ⟨by simp, by simp, by simp, by simp, by simp⟩
theorem gi0 {k : Int} {l : List Int} : gi (k :: l) 0 = k := rfl
theorem capv_txt {k : Int} {number : Int} (hl : number < x.lev) (h1 : gi x.ln number = k) (h2 : k ≠ -1) (h3 : k ≠ -2) (hs : gi x.st number = s) (he : s + k = e) {a b : Int} : capV text x number a b = some (.txt (sl text (some s) (some e))) := by
  unfold capV; rw [if_neg (by lia), h1, if_neg h2, if_neg h3, hs, he]
theorem capv_pos {number : Int} (hl : number < x.lev) (h1 : gi x.ln number = -2) (hs : gi x.st number + 1 = e) {a b : Int} : capV text x number a b = some (.pos e) := by
  unfold capV; rw [if_neg (by lia), h1, if_neg (by decide), if_pos rfl, hs]
theorem read3 (h8 : Eight text) (h0 : 0 ≤ s) (h1 : s ≤ (text.length : Int)) (h16 : text.length ≤ 8) (bound : Bool) : ReadOk text (patK 3) bound s (lawM 3 text s) := by
  refine ⟨⟨1, [s], [-2]⟩, ?_, capsOk1 (by decide) (fun _ => by lia), ?_⟩
  · rw [law_3]
    refine place_ok (n := 59) gx0 h0 h1 (by cases bound <;> decide) (by cases bound <;> decide) (by cases bound <;> decide) (by cases bound <;> decide) (by decide) (by decide) ?_
    show mHere text (preP bound ++ patK 3) 59 2 s (bI bound + 2) ⟨1, [s], [-2]⟩ = _
    rw [mh_item (n := 58) (L := 97) gx1 h0 h1 (by cases bound <;> decide) (by cases bound <;> decide) (by cases bound <;> decide) (by cases bound <;> decide) (by decide), mi_opt (by cases bound <;> decide), single_pct (L := 97) (by cases bound <;> decide) (by cases bound <;> decide), cls_a h8 h0]
    by_cases hc : isLet text s = true
    · have := isLet_in hc
      rw [if_pos hc, if_pos hc, mm (by decide), mh_end (n := 57) gx1 (by lia) (by lia) (by cases bound <;> decide) (by cases bound <;> decide)]
    · rw [if_neg hc, if_neg hc, mh_end (n := 57) gx1 (by lia) (by lia) (by cases bound <;> decide) (by cases bound <;> decide), Int.add_zero]
  · intro e cs h
    rw [law_3] at h
    have hle : isLet text s = true → s < (text.length : Int) := fun q => (isLet_in q).2
    cases h
    refine ⟨by split <;> lia, by split <;> (try have := hle (by assumption)) <;> lia, rfl, fun k hk => ?_⟩
    obtain rfl : k = 0 := by simp at hk; lia
    exact capv_pos (by show (0 : Int) < 1; decide) rfl rfl
theorem read4 (h8 : Eight text) (h0 : 0 ≤ s) (h1 : s ≤ (text.length : Int)) (bound : Bool) : ReadOk text (patK 4) bound s (lawM 4 text s) := by
  rw [law_4]
  have hw := cls_w h8 h0
  by_cases hc : isLet text s = true ∨ isFig text s = true
  case neg =>
    rw [if_neg (fun q => hc q.1)]
    refine ⟨⟨0, [s], [-1]⟩, ?_, capsz (by simp) (by simp), fun e cs h => nomatch h⟩
    refine open_no (n := 59) (x' := ⟨1, [s], [-1]⟩) gx0 h0 h1 (by cases bound <;> decide) (by cases bound <;> decide) (by cases bound <;> decide) (by cases bound <;> decide) (by decide) (by decide) ?_
    exact one_no (n := 58) (L := 119) gx1 h0 h1 (by cases bound <;> decide) (by cases bound <;> decide) (by cases bound <;> decide) (by cases bound <;> decide) (by decide) (by cases bound <;> exact rfl) (.inr (.inr (.inr rfl))) (by rw [hw]; simp at hc; simp [hc])
  have hs : s < (text.length : Int) := hc.elim (fun h => (isLet_in h).2) (fun h => (isFig_in h).2)
  have hw' : (decide (s < (text.length : Int)) && inClass (bi text s) 119) = true := by rw [hw]; simpa using hc
  have inner : mHere text (preP bound ++ patK 4) 57 3 (s + 1) (bI bound + 4) ⟨1, [s], [s + 1 - s]⟩ = some (if sl text (some s) (some (s + 1)) = sl text (some (s + 1)) (some (s + 2)) then some (s + 2) else none, ⟨1, [s], [s + 1 - s]⟩) := by
    rw [mh (n := 56) gx1 (by lia) (by lia) (by cases bound <;> decide), ms_special (by cases bound <;> decide) (by cases bound <;> decide) (by cases bound <;> decide)]
    have e1 : patAt (preP bound ++ patK 4) (bI bound + 4 + 1) = 49 := by cases bound <;> decide
    have em : matchCapture text ⟨1, [s], [s + 1 - s]⟩ (s + 1) 49 = some (if sl text (some s) (some (s + 1)) = sl text (some (s + 1)) (some (s + 2)) then some (s + 2) else none) := by
      unfold matchCapture
      rw [show s + 1 - s = 1 by lia]
      simp only [show (49 : Int) - 49 = 0 by decide, gi0]
      rw [if_neg (by lia)]
      by_cases hl : (text.length : Int) - (s + 1) < 1
      · rw [if_pos (.inr hl), if_neg]
        rw [sl_one h0 hs, sl_cut (by lia) (by lia), List.drop_eq_nil_of_le (by lia)]; simp
      · rw [if_neg (by lia), show s + 1 + 1 = s + 2 by lia]
        split <;> rfl
    rw [e1]
    unfold matchSpecial
    rw [if_neg (by decide), if_neg (by decide), em]
    by_cases hq : sl text (some s) (some (s + 1)) = sl text (some (s + 1)) (some (s + 2))
    · have hs2 : s + 1 < (text.length : Int) := by
        apply Decidable.byContradiction; intro hn
        rw [sl_one h0 hs, sl_cut (by lia) (by lia), List.drop_eq_nil_of_le (by lia)] at hq; simp at hq
      rw [if_pos hq]
      exact mh_end (n := 55) gx1 (by lia) (by lia) (by cases bound <;> decide) (by cases bound <;> decide)
    · rw [if_neg hq]; rfl
  by_cases hq : sl text (some s) (some (s + 1)) = sl text (some (s + 1)) (some (s + 2))
  · have hs2 : s + 1 < (text.length : Int) := by
      apply Decidable.byContradiction; intro hn
      rw [sl_one h0 hs, sl_cut (by lia) (by lia), List.drop_eq_nil_of_le (by lia)] at hq; simp at hq
    rw [if_pos ⟨hc, hq⟩]
    rw [if_pos hq] at inner
    refine ⟨⟨1, [s], [s + 1 - s]⟩, ?_, capsOk1 (by lia) (by lia), ?_⟩
    · refine open_ok (n := 59) gx0 h0 h1 (by cases bound <;> decide) (by cases bound <;> decide) (by cases bound <;> decide) (by cases bound <;> decide) (by decide) (by decide) ?_
      refine (one_ok (n := 58) (L := 119) gx1 h0 h1 (by cases bound <;> decide) (by cases bound <;> decide) (by cases bound <;> decide) (by cases bound <;> decide) (by decide) (by cases bound <;> exact rfl) (.inr (.inr (.inr rfl))) hw').trans ?_
      refine close_ok (n := 57) (k := 0) gx1 (by lia) (by lia) (by cases bound <;> decide) (by cases bound <;> decide) (by cases bound <;> decide) (by decide) rfl ?_
      rw [show bI bound + 1 + 2 + 1 = bI bound + 4 by lia]
      exact inner
    · intro e cs h
      cases h
      refine ⟨by lia, by lia, rfl, fun k hk => ?_⟩
      obtain rfl : k = 0 := by simp at hk; lia
      exact capv_txt (x := ⟨1, [s], [s + 1 - s]⟩) (k := s + 1 - s) (s := s) (by show (0 : Int) < 1; decide) rfl (by lia) (by lia) rfl (by lia)
  · rw [if_neg (fun q => hq q.2)]
    rw [if_neg hq] at inner
    refine ⟨⟨0, [s], [-1]⟩, ?_, capsz (by simp) (by simp), fun e cs h => nomatch h⟩
    refine open_no (n := 59) (x' := ⟨1, [s], [-1]⟩) gx0 h0 h1 (by cases bound <;> decide) (by cases bound <;> decide) (by cases bound <;> decide) (by cases bound <;> decide) (by decide) (by decide) ?_
    refine (one_ok (n := 58) (L := 119) gx1 h0 h1 (by cases bound <;> decide) (by cases bound <;> decide) (by cases bound <;> decide) (by cases bound <;> decide) (by decide) (by cases bound <;> exact rfl) (.inr (.inr (.inr rfl))) hw').trans ?_
    refine close_no (n := 57) (k := 0) (x' := ⟨1, [s], [s + 1 - s]⟩) gx1 (by lia) (by lia) (by cases bound <;> decide) (by cases bound <;> decide) (by cases bound <;> decide) (by decide) rfl (by simp) ?_
    rw [show bI bound + 1 + 2 + 1 = bI bound + 4 by lia]
    exact inner
end
section
variable {text pat : List UInt8} {n : Nat} {dep s p e a b : Int} {x x' : MX} {M H : MF} {r : Int}
theorem read5 (h8 : Eight text) (h0 : 0 ≤ s) (h1 : s ≤ (text.length : Int)) (bound : Bool) : ReadOk text (patK 5) bound s (lawM 5 text s) := by
  rw [law_5]
  by_cases hc : isLet text s = true
  case neg =>
    rw [if_neg (fun q => hc q.1)]
    refine ⟨⟨0, [s, s], [-1, -1]⟩, ?_, capsz (by simp) (by simp), fun e cs h => nomatch h⟩
    refine open_no (n := 59) (x' := ⟨1, [s, s], [-1, -1]⟩) gx0 h0 h1 (by cases bound <;> decide) (by cases bound <;> decide) (by cases bound <;> decide) (by cases bound <;> decide) (by decide) (by decide) ?_
    refine open_no (n := 58) (x' := ⟨2, [s, s], [-1, -1]⟩) gx1 h0 h1 (by cases bound <;> decide) (by cases bound <;> decide) (by cases bound <;> decide) (by cases bound <;> decide) (by decide) (by show (1 : Int) < 32; decide) ?_
    exact one_no (n := 57) (L := 97) gx2 h0 h1 (by cases bound <;> decide) (by cases bound <;> decide) (by cases bound <;> decide) (by cases bound <;> decide) (by decide) (by cases bound <;> exact rfl) (.inr (.inr (.inr rfl))) (by rw [cls_a h8 h0]; simpa using hc)
  have hs := (isLet_in hc).2
  by_cases hf : isFig text (s + 1) = true
  · have hs2 := (isFig_in hf).2
    rw [if_pos ⟨hc, hf⟩]
    refine ⟨⟨2, [s, s], [s + 1 + 1 - s, s + 1 - s]⟩, ?_, capsOk2 (by lia) (by lia) (by lia) (by lia), ?_⟩
    · refine open_ok (n := 59) gx0 h0 h1 (by cases bound <;> decide) (by cases bound <;> decide) (by cases bound <;> decide) (by cases bound <;> decide) (by decide) (by decide) ?_
      refine open_ok (n := 58) gx1 h0 h1 (by cases bound <;> decide) (by cases bound <;> decide) (by cases bound <;> decide) (by cases bound <;> decide) (by decide) (by show (1 : Int) < 32; decide) ?_
      refine (one_ok (n := 57) (L := 97) gx2 h0 h1 (by cases bound <;> decide) (by cases bound <;> decide) (by cases bound <;> decide) (by cases bound <;> decide) (by decide) (by cases bound <;> exact rfl) (.inr (.inr (.inr rfl))) (by rw [cls_a h8 h0, hc])).trans ?_
      refine close_ok (n := 56) (k := 1) gx2 (by lia) (by lia) (by cases bound <;> decide) (by cases bound <;> decide) (by cases bound <;> decide) (by decide) rfl ?_
      refine (one_ok (n := 55) (L := 100) gx2 (by lia) (by lia) (by cases bound <;> decide) (by cases bound <;> decide) (by cases bound <;> decide) (by cases bound <;> decide) (by decide) (by cases bound <;> exact rfl) (.inr (.inr (.inr rfl))) (by rw [cls_d h8 (by lia), hf])).trans ?_
      refine close_ok (n := 54) (k := 0) gx2 (by lia) (by lia) (by cases bound <;> decide) (by cases bound <;> decide) (by cases bound <;> decide) (by decide) ?_ ?_
      · show closeAt [-1, s + 1 - s] 2 = some 0
        rw [closeAt, if_neg (by show ¬ s + 1 - s = -1; lia)]; rfl
      · show mHere text (preP bound ++ patK 5) 54 _ (s + 1 + 1) _ ⟨2, [s, s], [s + 1 + 1 - s, s + 1 - s]⟩ = _
        rw [show s + 1 + 1 = s + 2 by lia]
        exact mh_end (n := 53) gx2 (by lia) (by lia) (by cases bound <;> decide) (by cases bound <;> decide)
    · intro e cs h
      cases h
      refine ⟨by lia, by lia, rfl, fun k hk => ?_⟩
      have : k = 0 ∨ k = 1 := by simp at hk; lia
      rcases this with rfl | rfl
      · exact capv_txt (x := ⟨2, [s, s], [s + 1 + 1 - s, s + 1 - s]⟩) (k := s + 1 + 1 - s) (s := s) (by show (0 : Int) < 2; decide) rfl (by lia) (by lia) rfl (by lia)
      · exact capv_txt (x := ⟨2, [s, s], [s + 1 + 1 - s, s + 1 - s]⟩) (k := s + 1 - s) (s := s) (by show (1 : Int) < 2; decide) rfl (by lia) (by lia) rfl (by lia)
  · rw [if_neg (fun q => hf q.2)]
    refine ⟨⟨0, [s, s], [-1, -1]⟩, ?_, capsz (by simp) (by simp), fun e cs h => nomatch h⟩
    refine open_no (n := 59) (x' := ⟨1, [s, s], [-1, -1]⟩) gx0 h0 h1 (by cases bound <;> decide) (by cases bound <;> decide) (by cases bound <;> decide) (by cases bound <;> decide) (by decide) (by decide) ?_
    refine open_no (n := 58) (x' := ⟨2, [s, s], [-1, -1]⟩) gx1 h0 h1 (by cases bound <;> decide) (by cases bound <;> decide) (by cases bound <;> decide) (by cases bound <;> decide) (by decide) (by show (1 : Int) < 32; decide) ?_
    refine (one_ok (n := 57) (L := 97) gx2 h0 h1 (by cases bound <;> decide) (by cases bound <;> decide) (by cases bound <;> decide) (by cases bound <;> decide) (by decide) (by cases bound <;> exact rfl) (.inr (.inr (.inr rfl))) (by rw [cls_a h8 h0, hc])).trans ?_
    refine close_no (n := 56) (k := 1) (x' := ⟨2, [s, s], [-1, s + 1 - s]⟩) gx2 (by lia) (by lia) (by cases bound <;> decide) (by cases bound <;> decide) (by cases bound <;> decide) (by decide) rfl (by simp) ?_
    exact one_no (n := 55) (L := 100) gx2 (by lia) (by lia) (by cases bound <;> decide) (by cases bound <;> decide) (by cases bound <;> decide) (by cases bound <;> decide) (by decide) (by cases bound <;> exact rfl) (.inr (.inr (.inr rfl))) (by rw [cls_d h8 (by lia)]; simpa using hf)
theorem read2 (h8 : Eight text) (h0 : 0 ≤ s) (h1 : s ≤ (text.length : Int)) (h16 : text.length ≤ 16) (bound : Bool) : ReadOk text (patK 2) bound s (lawM 2 text s) := by
  rw [law_2]
  by_cases hc : isLet text s = true
  case neg =>
    rw [if_neg hc]
    refine ⟨⟨0, [s], [-1]⟩, ?_, capsz (by simp) (by simp), fun e cs h => nomatch h⟩
    refine open_no (n := 59) (x' := ⟨1, [s], [-1]⟩) gx0 h0 h1 (by cases bound <;> decide) (by cases bound <;> decide) (by cases bound <;> decide) (by cases bound <;> decide) (by decide) (by decide) ?_
    exact one_no (n := 58) (L := 97) gx1 h0 h1 (by cases bound <;> decide) (by cases bound <;> decide) (by cases bound <;> decide) (by cases bound <;> decide) (by decide) (by cases bound <;> exact rfl) (.inr (.inr (.inr rfl))) (by rw [cls_a h8 h0]; simpa using hc)
  have hs := (isLet_in hc).2
  have hq : ∀ t, isFig text t = true → t < (text.length : Int) := fun t h => (isFig_in h).2
  have hr := run_le hq 18 (s + 1) (by lia)
  rw [if_pos hc]
  generalize hR : runGo (isFig text) 18 (s + 1) = R at hr ⊢
  refine ⟨⟨2, [s, s + 1], [s + 1 - s, R - (s + 1)]⟩, ?_, capsOk2 (by lia) (by lia) (by lia) (by lia), ?_⟩
  · refine open_ok (n := 59) gx0 h0 h1 (by cases bound <;> decide) (by cases bound <;> decide) (by cases bound <;> decide) (by cases bound <;> decide) (by decide) (by decide) ?_
    refine (one_ok (n := 58) (L := 97) gx1 h0 h1 (by cases bound <;> decide) (by cases bound <;> decide) (by cases bound <;> decide) (by cases bound <;> decide) (by decide) (by cases bound <;> exact rfl) (.inr (.inr (.inr rfl))) (by rw [cls_a h8 h0, hc])).trans ?_
    refine close_ok (n := 57) (k := 0) gx1 (by lia) (by lia) (by cases bound <;> decide) (by cases bound <;> decide) (by cases bound <;> decide) (by decide) rfl ?_
    refine open_ok (n := 56) gx1 (by lia) (by lia) (by cases bound <;> decide) (by cases bound <;> decide) (by cases bound <;> decide) (by cases bound <;> decide) (by decide) (by show (1 : Int) < 32; decide) ?_
    refine (mh_item (n := 55) (L := 100) gx2 (by lia) (by lia) (by cases bound <;> decide) (by cases bound <;> decide) (by cases bound <;> decide) (by cases bound <;> decide) (by decide)).trans ?_
    rw [mi_star (by cases bound <;> decide)]
    have hsi : ∀ t, 0 ≤ t → isSingle text (preP bound ++ patK 2) t (bI bound + 1 + 2 + 1 + 1) (bI bound + 1 + 2 + 1 + 1 + 2) = isFig text t := fun t ht => (single_pct (L := 100) (by cases bound <;> decide) (by cases bound <;> decide)).trans (cls_d h8 ht)
    rw [← hR]
    refine most_first (q := isFig text) h16 hsi hq (by lia) (by lia) ?_
    rw [hR, mm (by decide)]
    refine close_ok (n := 54) (k := 1) gx2 (by lia) (by lia) (by cases bound <;> decide) (by cases bound <;> decide) (by cases bound <;> decide) (by decide) rfl ?_
    show mHere text (preP bound ++ patK 2) 54 _ R _ ⟨2, [s, s + 1], [s + 1 - s, R - (s + 1)]⟩ = _
    exact mh_end (n := 53) gx2 (by lia) (by lia) (by cases bound <;> decide) (by cases bound <;> decide)
  · intro e cs h
    cases h
    refine ⟨by lia, by lia, rfl, fun k hk => ?_⟩
    have : k = 0 ∨ k = 1 := by simp at hk; lia
    rcases this with rfl | rfl
    · exact capv_txt (x := ⟨2, [s, s + 1], [s + 1 - s, R - (s + 1)]⟩) (k := s + 1 - s) (s := s) (by show (0 : Int) < 2; decide) rfl (by lia) (by lia) rfl (by lia)
    · exact capv_txt (x := ⟨2, [s, s + 1], [s + 1 - s, R - (s + 1)]⟩) (k := R - (s + 1)) (s := s + 1) (by show (1 : Int) < 2; decide) rfl (by lia) (by lia) rfl (by lia)
theorem least_run (h8 : Eight text) (h0 : 0 ≤ s) (hs : isFig text s = true) (hb : isFig text (s - 1) = false) (bound : Bool) : ∀ (n : Nat) (t : Int), s ≤ t → t ≤ (text.length : Int) → (s < t → isFig text (t - 1) = true) → (text.length : Int) - t < n →
    expandLeast text (preP bound ++ patK 6) (mM (mHere text (preP bound ++ patK 6) 57 3) 2) (bI bound + 6 + 1) (bI bound + 6 + 1 + 2) n t ⟨1, [s], [-1]⟩ = some (some (runGo (isFig text) n t), ⟨1, [s], [runGo (isFig text) n t - s]⟩) := by
  intro n
  induction n with
  | zero => intro t h1 h2 h3 h4; lia
  | succ n ih =>
    intro t h1 h2 h3 h4
    have hsi : isSingle text (preP bound ++ patK 6) t (bI bound + 6 + 1) (bI bound + 6 + 1 + 2) = isFig text t := (single_pct (L := 100) (by cases bound <;> decide) (by cases bound <;> decide)).trans (cls_d h8 (by lia))
    have e1 : mHere text (preP bound ++ patK 6) 56 4 t (bI bound + 6 + 1 + 2 + 1 + 1) ⟨1, [s], [t - s]⟩ = _ := mh_frontier (n := 55) (L := 68) gx1 (by lia) h2 (by cases bound <;> decide) (by cases bound <;> decide) (by cases bound <;> decide) (by cases bound <;> decide) (by cases bound <;> decide) (by cases bound <;> decide) (by cases bound <;> decide) (by cases bound <;> decide)
    rw [fr_D h8 (by lia) h2] at e1
    rw [expandLeast, runGo]
    by_cases hf : isFig text t = true
    · have hM : mM (mHere text (preP bound ++ patK 6) 57 3) 2 t (bI bound + 6 + 1 + 2 + 1) ⟨1, [s], [-1]⟩ = some (none, ⟨1, [s], [-1]⟩) := by
        rw [mm (by decide)]
        refine close_no (n := 56) (k := 0) (x' := ⟨1, [s], [t - s]⟩) gx1 (by lia) h2 (by cases bound <;> decide) (by cases bound <;> decide) (by cases bound <;> decide) (by decide) rfl (by simp) ?_
        rw [if_neg (by rw [hf]; simp)] at e1
        exact e1
      simp only [hM, hsi]
      rw [if_pos hf, if_pos hf]
      have := (isFig_in hf).2
      exact ih (t + 1) (by lia) (by lia) (fun _ => by rw [Int.add_sub_cancel]; exact hf) (by lia)
    · have hlt : s < t := by
        apply Decidable.byContradiction; intro hn
        exact hf (by rw [show t = s by lia]; exact hs)
      have hM : mM (mHere text (preP bound ++ patK 6) 57 3) 2 t (bI bound + 6 + 1 + 2 + 1) ⟨1, [s], [-1]⟩ = some (some t, ⟨1, [s], [t - s]⟩) := by
        rw [mm (by decide)]
        refine close_ok (n := 56) (k := 0) gx1 (by lia) h2 (by cases bound <;> decide) (by cases bound <;> decide) (by cases bound <;> decide) (by decide) rfl ?_
        rw [if_pos (by rw [h3 hlt]; simpa using hf)] at e1
        exact e1.trans (mh_end (n := 54) gx1 (by lia) h2 (by cases bound <;> decide) (by cases bound <;> decide))
      simp only [hM]
      rw [if_neg hf]
theorem read6 (h8 : Eight text) (h0 : 0 ≤ s) (h1 : s ≤ (text.length : Int)) (h16 : text.length ≤ 16) (bound : Bool) : ReadOk text (patK 6) bound s (lawM 6 text s) := by
  rw [law_6]
  have e1 : mHere text (preP bound ++ patK 6) 60 1 s (bI bound) ⟨0, [], []⟩ = _ := mh_frontier (n := 59) (dep := 1) (L := 100) gx0 h0 h1 (by cases bound <;> decide) (by cases bound <;> decide) (by cases bound <;> decide) (by cases bound <;> decide) (by cases bound <;> decide) (by cases bound <;> decide) (by cases bound <;> decide) (by cases bound <;> decide)
  rw [fr_d h8 h0 h1] at e1
  by_cases hc : isFig text s = true ∧ isFig text (s - 1) = false
  · rw [if_pos hc]
    rw [if_pos (by rw [hc.1, hc.2]; rfl)] at e1
    have hq : ∀ t, isFig text t = true → t < (text.length : Int) := fun t h => (isFig_in h).2
    have hr := run_le hq 18 s h1
    have hl := least_run h8 h0 hc.1 hc.2 bound 80 s (Int.le_refl _) h1 (fun q => absurd q (Int.lt_irrefl _)) (by lia)
    rw [run_fuel hq 80 18 s (by lia) (by lia)] at hl
    generalize runGo (isFig text) 18 s = R at hr hl ⊢
    refine ⟨⟨1, [s], [R - s]⟩, ?_, capsOk1 (by lia) (by lia), ?_⟩
    · rw [e1]
      refine open_ok (n := 58) gx0 h0 h1 (by cases bound <;> decide) (by cases bound <;> decide) (by cases bound <;> decide) (by cases bound <;> decide) (by decide) (by decide) ?_
      refine (mh_item (n := 57) (L := 100) gx1 h0 h1 (by cases bound <;> decide) (by cases bound <;> decide) (by cases bound <;> decide) (by cases bound <;> decide) (by decide)).trans ?_
      rw [mi_minus (by cases bound <;> decide)]
      exact hl
    · intro e cs h
      cases h
      refine ⟨by lia, by lia, rfl, fun k hk => ?_⟩
      obtain rfl : k = 0 := by simp at hk; lia
      exact capv_txt (x := ⟨1, [s], [R - s]⟩) (k := R - s) (s := s) (by show (0 : Int) < 1; decide) rfl (by lia) (by lia) rfl (by lia)
  · rw [if_neg hc]
    rw [if_neg (fun q => hc (by simp at q; exact ⟨q.2, q.1⟩))] at e1
    exact ⟨⟨0, [], []⟩, e1, capsOk0, fun e cs h => nomatch h⟩
end
section
variable {text pat : List UInt8} {n : Nat} {dep s p e a b : Int} {x x' : MX} {M H : MF} {r : Int}
theorem ext_one {i : Nat} (h : i < text.length) : (text.toArray.extract i (i + 1) == #[97]) = decide (bi text i = 97) := by
  have e1 : text.toArray.extract i (i + 1) = #[text.getD i 0] := by
    rw [List.extract_toArray, List.extract_eq_take_drop, show i + 1 - i = 1 by lia, drop_one h]; rfl
  rw [e1]
  unfold bi
  rw [show ((i : Int)).toNat = i by lia]
  generalize text.getD i 0 = c
  by_cases hc : c = 97
  · subst hc; decide
  · have : ¬ ((c.toNat : Int) = 97) := fun q => hc (UInt8.toNat_inj.mp (by show c.toNat = 97; lia))
    rw [decide_eq_false this]
    simp [hc]
theorem find_range : ∀ (k lo n : Nat), (text.length : Int) - lo = (k : Int) → (k : Int) < n → ((List.range' lo k).find? fun i => text.toArray.extract i (i + 1) == #[97]).map (fun (i : Nat) => (i : Int) + 1) = balLoop text 97 97 n lo 1 := by
  intro k
  induction k with
  | zero =>
    intro lo n h1 h2
    obtain ⟨n, rfl⟩ : ∃ n', n = n' + 1 := ⟨n - 1, by lia⟩
    rw [balLoop, if_neg (by lia)]; rfl
  | succ k ih =>
    intro lo n h1 h2
    obtain ⟨n, rfl⟩ : ∃ n', n = n' + 1 := ⟨n - 1, by lia⟩
    rw [balLoop, if_pos (by lia), List.range'_succ, List.find?_cons, ext_one (by lia)]
    by_cases hc : bi text lo = 97
    · rw [decide_eq_true hc, if_pos hc, if_pos (by decide)]; rfl
    · rw [decide_eq_false hc, if_neg hc, if_neg hc]
      have := ih (lo + 1) n (by lia) (by lia)
      simpa using this
theorem find_bal {lo : Nat} (hl : lo ≤ text.length) (h16 : text.length ≤ 16) : findV text.toArray #[97] lo = match balLoop text 97 97 80 lo 1 with | some e => e - 1 | none => -1 := by
  rw [← find_range (text.length - lo) lo 80 (by lia) (by lia)]
  unfold findV
  simp only [List.size_toArray]
  by_cases hz : (text.length : Int) - (lo : Int) < (([97] : List UInt8).length : Int)
  · rw [if_pos hz]
    have : text.length - lo = 0 := by simp at hz; lia
    rw [this]; rfl
  · rw [if_neg hz]
    have e1 : Builtin.Bytes.find? text.toArray #[97] lo text.length = (List.range' lo (text.length - lo)).find? fun i => text.toArray.extract i (i + 1) == #[97] := by
      unfold Builtin.Bytes.find?
      have : ((List.range (text.length + 1 - (lo + (#[97] : Array UInt8).size))).map (· + lo)) = List.range' lo (text.length - lo) := by
        rw [List.range'_eq_map_range, show text.length + 1 - (lo + (#[97] : Array UInt8).size) = text.length - lo by simp]
        exact List.map_congr_left fun i _ => Nat.add_comm _ _
      rw [this]; rfl
    simp only [Option.bind_some, e1]
    cases (List.range' lo (text.length - lo)).find? fun i => text.toArray.extract i (i + 1) == #[97] with
    | none => rfl
    | some i => simp
theorem bal_in : ∀ (n : Nat) (t : Int), balLoop text 97 97 n t 1 = some e → t < e ∧ e ≤ (text.length : Int) := by
  intro n
  induction n with
  | zero => intro t h; simp [balLoop] at h
  | succ n ih =>
    intro t h
    rw [balLoop] at h
    split at h
    · split at h
      · rw [if_pos (by decide)] at h; cases h; lia
      · have := ih _ h; lia
    · cases h
theorem read9 (h0 : 0 ≤ s) (h1 : s ≤ (text.length : Int)) (h16 : text.length ≤ 16) (bound : Bool) : ReadOk text (patK 9) bound s (lawM 9 text s) := by
  have e1 : mHere text (preP bound ++ patK 9) 60 1 s (bI bound) ⟨0, [], []⟩ = _ := mh_balance (n := 59) (dep := 1) (B := 97) (C := 97) gx0 h0 h1 (by cases bound <;> decide) (by cases bound <;> decide) (by cases bound <;> decide) (by cases bound <;> decide) (by cases bound <;> decide) (by cases bound <;> decide)
  rw [law_9]
  by_cases hs : s < (text.length : Int)
  case neg =>
    rw [if_pos (by lia)] at e1
    rw [if_neg (fun q => by
      have q := q.1
      rw [sl_cut h0 (by lia), List.drop_eq_nil_of_le (by lia)] at q; simp at q)]
    exact ⟨_, e1, capsOk0, fun e cs h => nomatch h⟩
  rw [if_neg (by lia)] at e1
  have hsl := sl_is (text := text) (s := s) (v := 97) h0 hs
  by_cases hb : bi text s = 97
  case neg =>
    rw [if_pos hb] at e1
    rw [if_neg (fun q => by
      rw [q.1] at hsl
      exact hb (of_decide_eq_true hsl.symm))]
    exact ⟨_, e1, capsOk0, fun e cs h => nomatch h⟩
  rw [if_neg (by simpa using hb)] at e1
  have hsl' : sl text (some s) (some (s + 1)) = [97] := by
    rw [show (decide (bi text s = ((97 : UInt8).toNat : Int))) = true from decide_eq_true hb] at hsl
    exact eq_of_beq hsl
  have hf := find_bal (text := text) (lo := (s + 1).toNat) (by lia) h16
  rw [show (((s + 1).toNat : Nat) : Int) = s + 1 by lia] at hf
  rcases hl : balLoop text 97 97 80 (s + 1) 1 with _ | e
  · rw [hl] at hf e1
    rw [if_neg (fun q => by rw [hf] at q; simp at q)]
    exact ⟨_, e1, capsOk0, fun e cs h => nomatch h⟩
  · have := bal_in _ _ hl
    rw [hl] at hf e1
    simp only at hf e1
    rw [if_pos ⟨hsl', by lia⟩, hf, Int.sub_add_cancel]
    refine ⟨⟨0, [], []⟩, e1.trans (mh_end (n := 58) gx0 (by lia) (by lia) (by cases bound <;> decide) (by cases bound <;> decide)), capsOk0, fun e' cs h => ?_⟩
    cases h
    exact ⟨by lia, by lia, rfl, fun k hk => nomatch hk⟩
theorem reads {kind : Int} (hk : 0 ≤ kind) (hk2 : kind ≤ 9) (h8 : Eight text) (h0 : 0 ≤ s) (h1 : s ≤ (text.length : Int)) (hl : text.length ≤ 8) (bound : Bool) : ReadOk text (patK kind) bound s (lawM kind text s) := by
  have : kind = 0 ∨ kind = 1 ∨ kind = 2 ∨ kind = 3 ∨ kind = 4 ∨ kind = 5 ∨ kind = 6 ∨ kind = 7 ∨ kind = 8 ∨ kind = 9 := int10 (by lia) (by lia)
  rcases this with rfl | rfl | rfl | rfl | rfl | rfl | rfl | rfl | rfl | rfl
  · exact read0 h0 h1 (by lia) bound
  · exact read1 h8 h0 h1 (by lia) bound
  · exact read2 h8 h0 h1 (by lia) bound
  · exact read3 h8 h0 h1 hl bound
  · exact read4 h8 h0 h1 bound
  · exact read5 h8 h0 h1 bound
  · exact read6 h8 h0 h1 (by lia) bound
  · exact read7 h8 h0 h1 bound
  · exact read8 h8 h0 h1 bound
  · exact read9 h0 h1 (by lia) bound
end
/-! the expanded replacement -/
noncomputable def expL (hv : Int → Option (List UInt8)) : List UInt8 → Option (List UInt8)
  | [] => some []
  | [b] => if b = 37 then some [0] else some [b]
  | b :: c :: rest => if b = 37 then (if 48 ≤ c.toNat ∧ c.toNat ≤ 57 then (hv ((c.toNat : Int) - 48)).bind fun x => (expL hv rest).map (x ++ ·) else (expL hv rest).map (c :: ·)) else (expL hv (c :: rest)).map (b :: ·)
theorem oct_back (c : UInt8) : ((c.toNat : Int)).toNat.toUInt8 = c := by
  rw [Int.toNat_natCast]; exact UInt8.ofNat_toNat
theorem bi_app {pre rest : List UInt8} {b : UInt8} : bi (pre ++ b :: rest) (pre.length : Int) = (b.toNat : Int) := by
  unfold bi
  simp [List.getD_eq_getElem?_getD]
theorem bi_app1 {pre rest : List UInt8} {b c : UInt8} : bi (pre ++ b :: c :: rest) ((pre.length : Int) + 1) = (c.toNat : Int) := by
  have := bi_app (pre := pre ++ [b]) (rest := rest) (b := c)
  simpa using this
theorem expand_L (hv : Int → Option (List UInt8)) : ∀ (k : Nat) (rest pre found : List UInt8) (n : Nat), rest.length ≤ k → rest.length < n → expandM hv (pre ++ rest) n (pre.length : Int) found = (expL hv rest).map (found ++ ·) := by
  intro k
  induction k with
  | zero =>
    intro rest pre found n h1 h2
    obtain rfl : rest = [] := List.eq_nil_of_length_eq_zero (by omega)
    obtain ⟨n, rfl⟩ : ∃ n', n = n' + 1 := ⟨n - 1, by omega⟩
    rw [expandM, if_neg (by simp)]
    simp [expL]
  | succ k ih =>
    intro rest pre found n h1 h2
    obtain ⟨n, rfl⟩ : ∃ n', n = n' + 1 := ⟨n - 1, by omega⟩
    match rest, h1, h2 with
    | [], _, _ =>
      rw [expandM, if_neg (by simp)]
      simp [expL]
    | [b], h1, h2 =>
      rw [expandM, if_pos (by simp only [List.length_append, List.length_cons, List.length_nil]; omega), bi_app]
      have hp : patAt (pre ++ [b]) ((pre.length : Int) + 1) = 0 := by
        unfold patAt; rw [if_neg (by simp)]
      by_cases hb : b = 37
      · subst hb
        rw [if_pos (by decide), hp, if_neg (by decide)]
        obtain ⟨n, rfl⟩ : ∃ n', n = n' + 1 := ⟨n - 1, by simp at h2; omega⟩
        rw [expandM, if_neg (by simp; omega)]
        simp [expL]
      · have hb' : ¬ ((b.toNat : Int) = 37) := fun q => hb (UInt8.toNat_inj.mp (by show b.toNat = 37; omega))
        rw [if_neg hb', oct_back]
        have := ih [] (pre ++ [b]) (found ++ [b]) n (by simp) (by simp at h2; omega)
        simp only [List.append_nil, List.length_append, List.length_cons, List.length_nil, Nat.zero_add, Int.natCast_add] at this
        rw [show ((pre.length : Int) + 1) = (pre.length : Int) + ((1 : Nat) : Int) by omega, this]
        simp [expL, hb]
    | b :: c :: rest, h1, h2 =>
      simp only [List.length_cons] at h1 h2
      rw [expandM, if_pos (by simp; omega), bi_app]
      by_cases hb : b = 37
      · subst hb
        have hp : patAt (pre ++ 37 :: c :: rest) ((pre.length : Int) + 1) = (c.toNat : Int) := by
          unfold patAt; rw [if_pos (by simp; omega)]; exact bi_app1
        have e2 : pre ++ 37 :: c :: rest = (pre ++ [37, c]) ++ rest := by simp
        have e3 : (pre.length : Int) + 1 + 1 = (((pre ++ [37, c]).length : Nat) : Int) := by simp; omega
        rw [if_pos (by decide), hp, expL, if_pos rfl]
        by_cases hd : 48 ≤ c.toNat ∧ c.toNat ≤ 57
        · rw [if_pos (by omega), if_pos hd]
          cases hv ((c.toNat : Int) - 48) with
          | none => rfl
          | some x =>
            simp only [Option.bind_some]
            rw [e2, e3, ih rest (pre ++ [37, c]) (found ++ x) n (by omega) (by omega)]
            cases expL hv rest <;> simp
        · rw [if_neg (by omega), if_neg hd, oct_back]
          rw [e2, e3, ih rest (pre ++ [37, c]) (found ++ [c]) n (by omega) (by omega)]
          cases expL hv rest <;> simp
      · have hb' : ¬ ((b.toNat : Int) = 37) := fun q => hb (UInt8.toNat_inj.mp (by show b.toNat = 37; omega))
        have e2 : pre ++ b :: c :: rest = (pre ++ [b]) ++ c :: rest := by simp
        have e3 : (pre.length : Int) + 1 = (((pre ++ [b]).length : Nat) : Int) := by simp
        rw [if_neg hb', oct_back, expL, if_neg hb, e2, e3, ih (c :: rest) (pre ++ [b]) (found ++ [b]) n (by simp; omega) (by simp; omega)]
        cases expL hv (c :: rest) <;> simp
/-- the pieces that the law draws, a lone sign perhaps at the end -/
inductive ValidP : List (List UInt8) → Prop
  | nil : ValidP []
  | last : ValidP [[37]]
  | z {ps : List (List UInt8)} : ValidP ps → ValidP ([122] :: ps)
  | two (c : UInt8) {ps : List (List UInt8)} : c = 48 ∨ c = 49 ∨ c = 37 ∨ c = 50 ∨ c = 45 → ValidP ps → ValidP ([37, c] :: ps)
theorem exp_pieces {hv : Int → Option (List UInt8)} {whole : List UInt8} {cs : List Cap} (h0 : hv 0 = some whole) (h1 : hv 1 = some (if cs = [] then whole else (cs.getD 0 (.txt [])).oct)) :
    ∀ {ps : List (List UInt8)}, ValidP ps → ([37, 50] ∈ ps → hv 2 = some (if cs = [] then whole else (cs.getD 1 (.txt [])).oct)) → expL hv ps.flatten = some (piecesM whole cs ps) := by
  intro ps h
  induction h with
  | nil => intro _; rfl
  | last => intro _; simp [expL, piecesM, standsM]
  | z h ih =>
    intro h2
    have := ih fun q => h2 (.tail _ q)
    rw [piecesM, List.flatten_cons]
    show expL hv (122 :: List.flatten _) = _
    rename_i ps
    cases hf : ps.flatten with
    | nil =>
      rw [hf] at this
      have e : piecesM whole cs ps = [] := by simpa [expL] using this.symm
      rw [e]; simp [expL, standsM]
    | cons b r => rw [expL, if_neg (by decide), ← hf, this]; simp [standsM]
  | two c hc h ih =>
    intro h2
    have := ih fun q => h2 (.tail _ q)
    rw [piecesM, List.flatten_cons]
    rename_i ps
    show expL hv (37 :: c :: ps.flatten) = _
    rw [expL, if_pos rfl]
    rcases hc with rfl | rfl | rfl | rfl | rfl
    · rw [if_pos (by decide), show (((48 : UInt8).toNat : Int) - 48) = 0 from by decide, h0, this]; simp [standsM]
    · rw [if_pos (by decide), show (((49 : UInt8).toNat : Int) - 48) = 1 from by decide, h1, this]
      by_cases hcs : cs = [] <;> simp [standsM, hcs]
    · rw [if_neg (by decide), this]; simp [standsM, show sl [37, 37] (some 1) none = [37] from by decide]
    · rw [if_pos (by decide), show (((50 : UInt8).toNat : Int) - 48) = 2 from by decide, h2 (.head _), this]
      by_cases hcs : cs = [] <;> simp [standsM, hcs]
    · rw [if_neg (by decide), this]; simp [standsM, show sl [37, 45] (some 1) none = [45] from by decide]
section
variable {text pat : List UInt8} {kind most : Int} {bound : Bool} {pieces : List (List UInt8)}
theorem spans_ge (hrd : ∀ s e cs, 0 ≤ s → s ≤ (text.length : Int) → lawM kind text s = some (e, cs) → s ≤ e ∧ e ≤ (text.length : Int)) : ∀ (n : Nat) (s k : Int), 0 ≤ s → ∀ (i : Nat) b e cs, (spansGo kind text most bound n s k)[i]? = some (b, e, cs) → s ≤ b ∧ b ≤ (text.length : Int) ∧ lawM kind text b = some (e, cs) := by
  intro n
  induction n with
  | zero => intro s k h0 i b e cs h; simp [spansGo] at h
  | succ n ih =>
    intro s k h0 i b e cs h
    rw [spansGo] at h
    split at h
    · rename_i hc
      rcases hm : lawM kind text s with _ | ⟨e', cs'⟩
      · simp only [hm] at h
        split at h
        · have := ih _ k (by lia) i b e cs h; exact ⟨by lia, this.2⟩
        · have := ih _ k (by lia) i b e cs h; exact ⟨by lia, this.2⟩
      · simp only [hm] at h
        have hr := hrd s e' cs' h0 hc.1 hm
        cases i with
        | zero => cases h; exact ⟨Int.le_refl _, hc.1, hm⟩
        | succ i =>
          rw [List.getElem?_cons_succ] at h
          split at h
          · have := ih _ _ (by lia) i b e cs h; exact ⟨by lia, this.2⟩
          · split at h
            · have := ih _ _ (by lia) i b e cs h; exact ⟨by lia, this.2⟩
            · have := ih _ _ (by lia) i b e cs h; exact ⟨by lia, this.2⟩
    · simp at h
theorem spans_out {n : Nat} {s k : Int} (h : (text.length : Int) < s) : spansGo kind text most bound n s k = [] := by
  cases n with
  | zero => rfl
  | succ n => rw [spansGo, if_neg (by lia)]
theorem spans_len (hrd : ∀ s e cs, 0 ≤ s → s ≤ (text.length : Int) → lawM kind text s = some (e, cs) → s ≤ e ∧ e ≤ (text.length : Int)) : ∀ (n : Nat) (s k : Int), 0 ≤ s → ((spansGo kind text most bound n s k).length : Int) ≤ max 0 ((text.length : Int) + 1 - s) := by
  intro n
  induction n with
  | zero => intro s k h0; simp [spansGo]; lia
  | succ n ih =>
    intro s k h0
    rw [spansGo]
    split
    · rename_i hc
      rcases hm : lawM kind text s with _ | ⟨e', cs'⟩
      · simp only
        split
        · have := ih ((text.length : Int) + 1) k (by lia); lia
        · have := ih (s + 1) k (by lia); lia
      · have hr := hrd s e' cs' h0 hc.1 hm
        simp only [List.length_cons, Int.natCast_add]
        split
        · have := ih ((text.length : Int) + 1) (k + 1) (by lia); lia
        · split
          · have := ih (s + 1) (k + 1) (by lia); lia
          · have := ih e' (k + 1) (by lia); lia
    · simp; lia
theorem spans_no {n : Nat} {s k : Int} (h : ¬ k < most) : spansGo kind text most bound (n + 1) s k = [] := by rw [spansGo, if_neg (fun q => h q.2)]
theorem spans_none {n : Nat} {s k : Int} (h1 : s ≤ (text.length : Int)) (h2 : k < most) (hm : lawM kind text s = none) : spansGo kind text most bound (n + 1) s k = spansGo kind text most bound n (if bound = true then (text.length : Int) + 1 else s + 1) k := by
  rw [spansGo, if_pos ⟨h1, h2⟩, hm]
theorem spans_some {n : Nat} {s k e : Int} {cs : List Cap} (h1 : s ≤ (text.length : Int)) (h2 : k < most) (hm : lawM kind text s = some (e, cs)) : spansGo kind text most bound (n + 1) s k = (s, e, cs) :: spansGo kind text most bound n (if bound = true then (text.length : Int) + 1 else if e = s then s + 1 else e) (k + 1) := by
  rw [spansGo, if_pos ⟨h1, h2⟩, hm]
theorem due_shift {at_ : Int} {sp : List Span} (h0 : 0 ≤ at_) (h1 : at_ < (text.length : Int)) (hs : ∀ b e cs, sp[0]? = some (b, e, cs) → at_ + 1 ≤ b) : dueM text pieces at_ sp = text.getD at_.toNat 0 :: dueM text pieces (at_ + 1) sp := by
  cases sp with
  | nil =>
    rw [dueM, dueM, sl_from h0, sl_from (by lia), drop_one (by lia), Int.toNat_add h0 (by decide : (0 : Int) ≤ 1), show (1 : Int).toNat = 1 from rfl]
  | cons x sp =>
    obtain ⟨b, e, cs⟩ := x
    have hb := hs b e cs rfl
    rw [dueM, dueM, sl_cut (a := at_) (b := b) h0 (by lia), sl_cut (a := at_ + 1) (b := b) (by lia) (by lia), drop_one (by lia), Int.toNat_add h0 (by decide : (0 : Int) ≤ 1), show (1 : Int).toNat = 1 from rfl]
    obtain ⟨m, hm⟩ : ∃ m, b.toNat - at_.toNat = m + 1 := ⟨b.toNat - at_.toNat - 1, by lia⟩
    rw [hm, List.take_succ_cons, ← Nat.sub_sub, hm, Nat.add_sub_cancel]; rfl
theorem sl_self {a : Int} (h0 : 0 ≤ a) : sl text (some a) (some a) = [] := by
  rw [sl_cut h0 h0, Nat.sub_self]; rfl
theorem bi_oct {a : Int} : (bi text a).toNat.toUInt8 = text.getD a.toNat 0 := by unfold bi; exact oct_back _
theorem repl_due {ends : Int → Option Int} {gv : Int → Int → Option (List UInt8)} (hrd : ∀ s e cs, 0 ≤ s → s ≤ (text.length : Int) → lawM kind text s = some (e, cs) → s ≤ e ∧ e ≤ (text.length : Int))
    (hE : ∀ a, 0 ≤ a → a ≤ (text.length : Int) → ends a = (lawM kind text a).map (·.1)) (hG : ∀ a e cs, 0 ≤ a → a ≤ (text.length : Int) → lawM kind text a = some (e, cs) → gv a e = some (piecesM (sl text (some a) (some e)) cs pieces)) :
    ∀ (n : Nat) (a k : Int) (found : List UInt8), 0 ≤ a → a ≤ (text.length : Int) → (text.length : Int) - a < n →
      replM text most bound ends gv n a k found = some (found ++ dueM text pieces a (spansGo kind text most bound n a k), k + ((spansGo kind text most bound n a k).length : Int)) := by
  intro n
  induction n with
  | zero => intro a k found h0 h1 h2; lia
  | succ n ih =>
    intro a k found h0 h1 h2
    rw [replM]
    by_cases hk : k < most
    case neg => rw [if_neg hk, spans_no hk]; simp [dueM]
    rw [if_pos hk, hE a h0 h1]
    rcases hm : lawM kind text a with _ | ⟨e, cs⟩
    · rw [spans_none h1 hk hm]
      simp only [Option.map_none]
      by_cases hlt : a < (text.length : Int)
      · rw [if_pos hlt, bi_oct]
        cases bound with
        | true =>
          rw [if_pos rfl, if_pos rfl, spans_out (by lia), due_shift h0 hlt (by simp), dueM]
          simp
        | false =>
          rw [if_neg (by decide), if_neg (by decide), ih (a + 1) k _ (by lia) (by lia) (by lia), due_shift h0 hlt ?_]
          · simp
          · intro b e cs h
            have := spans_ge hrd n (a + 1) k (by lia) 0 b e cs h; lia
      · rw [if_neg hlt]
        have hs : spansGo kind text most bound n (if bound = true then (text.length : Int) + 1 else a + 1) k = [] := spans_out (by split <;> lia)
        rw [hs]; simp [dueM]
    · have hr := hrd a e cs h0 h1 hm
      rw [spans_some h1 hk hm]
      simp only [Option.map_some, hG a e cs h0 h1 hm]
      generalize hb : piecesM (sl text (some a) (some e)) cs pieces = b
      rw [dueM, sl_self h0, hb]
      by_cases hae : a < e
      · rw [if_pos hae]
        cases bound with
        | true =>
          rw [if_pos rfl, if_pos rfl, spans_out (by lia), dueM]
          simp
        | false =>
          rw [if_neg (by decide), if_neg (by decide), if_neg (by lia), ih e (k + 1) _ (by lia) (by lia) (by lia)]
          simp; lia
      · obtain rfl : e = a := by lia
        rw [if_neg hae, if_pos rfl]
        by_cases hlt : e < (text.length : Int)
        · rw [if_pos hlt, bi_oct]
          cases bound with
          | true =>
            rw [if_pos rfl, if_pos rfl, spans_out (by lia), due_shift h0 hlt (by simp), dueM]
            simp
          | false =>
            rw [if_neg (by decide), if_neg (by decide), ih (e + 1) (k + 1) _ (by lia) (by lia) (by lia), due_shift h0 hlt ?_]
            · simp; lia
            · intro b' e' cs' h
              have := spans_ge hrd n (e + 1) (k + 1) (by lia) 0 b' e' cs' h; lia
        · rw [if_neg hlt]
          have hs : spansGo kind text most bound n (if bound = true then (text.length : Int) + 1 else e + 1) (k + 1) = [] := spans_out (by split <;> lia)
          rw [hs]; simp [dueM]
theorem repl_none {ends : Int → Option Int} {gv : Int → Int → Option (List UInt8)} (hrd : ∀ s e cs, 0 ≤ s → s ≤ (text.length : Int) → lawM kind text s = some (e, cs) → s ≤ e ∧ e ≤ (text.length : Int))
    (hE : ∀ a, 0 ≤ a → a ≤ (text.length : Int) → ends a = (lawM kind text a).map (·.1)) (hG : ∀ a e cs, 0 ≤ a → a ≤ (text.length : Int) → lawM kind text a = some (e, cs) → gv a e = none) :
    ∀ (n : Nat) (a k : Int) (found : List UInt8), 0 ≤ a → a ≤ (text.length : Int) → (text.length : Int) - a < n →
      (replM text most bound ends gv n a k found = none ↔ spansGo kind text most bound n a k ≠ []) := by
  intro n
  induction n with
  | zero => intro a k found h0 h1 h2; lia
  | succ n ih =>
    intro a k found h0 h1 h2
    rw [replM]
    by_cases hk : k < most
    case neg => rw [if_neg hk, spans_no hk]; simp
    rw [if_pos hk, hE a h0 h1]
    rcases hm : lawM kind text a with _ | ⟨e, cs⟩
    · rw [spans_none h1 hk hm]
      simp only [Option.map_none]
      by_cases hlt : a < (text.length : Int)
      · rw [if_pos hlt]
        cases bound with
        | true => rw [if_pos rfl, if_pos rfl, spans_out (by lia)]; simp
        | false => rw [if_neg (by decide), if_neg (by decide)]; exact ih (a + 1) k _ (by lia) (by lia) (by lia)
      · rw [if_neg hlt]
        have hs : spansGo kind text most bound n (if bound = true then (text.length : Int) + 1 else a + 1) k = [] := spans_out (by split <;> lia)
        rw [hs]; simp
    · rw [spans_some h1 hk hm]
      simp only [Option.map_some, hG a e cs h0 h1 hm]
      simp
end
/-! what the law asks -/
section
variable {text : List UInt8} {kind most : Int} {bound : Bool} {pieces : List (List UInt8)}
theorem reads_in (hk : 0 ≤ kind) (hk2 : kind ≤ 9) (h8 : Eight text) (hl : text.length ≤ 8) : ∀ s e cs, 0 ≤ s → s ≤ (text.length : Int) → lawM kind text s = some (e, cs) → s ≤ e ∧ e ≤ (text.length : Int) := by
  intro s e cs h0 h1 hm
  obtain ⟨x, -, -, hx⟩ := reads hk hk2 h8 h0 h1 hl false
  have := hx e cs hm
  exact ⟨this.1, this.2.1⟩
theorem mtV_of (hk : 0 ≤ kind) (hk2 : kind ≤ 9) (h8 : Eight text) (hl : text.length ≤ 8) {s : Int} (h0 : 0 ≤ s) (h1 : s ≤ (text.length : Int)) :
    mHere text (preP bound ++ patK kind) 60 1 s (bI bound) ⟨0, [], []⟩ = some (mtV text (patK kind) bound s) ∧ (mtV text (patK kind) bound s).1 = (lawM kind text s).map (·.1) ∧ CapsOk (mtV text (patK kind) bound s).2 ∧
    ∀ e cs, lawM kind text s = some (e, cs) → s ≤ e ∧ e ≤ (text.length : Int) ∧ (mtV text (patK kind) bound s).2.lev = (cs.length : Int) ∧ ∀ k : Nat, k < cs.length → capV text (mtV text (patK kind) bound s).2 k s e = cs[k]? := by
  obtain ⟨x, hx, hc, hr⟩ := reads hk hk2 h8 h0 h1 hl bound
  have : mtV text (patK kind) bound s = ((lawM kind text s).map (·.1), x) := by unfold mtV; rw [hx]; rfl
  rw [this]
  exact ⟨hx, rfl, hc, hr⟩
theorem mtOk (hk : 0 ≤ kind) (hk2 : kind ≤ 9) (h8 : Eight text) (hl : text.length ≤ 8) : MtOk text (patK kind) bound := by
  intro s h0 h1
  obtain ⟨a, b, c, d⟩ := mtV_of (bound := bound) hk hk2 h8 hl h0 h1
  refine ⟨a, c, fun e he => ?_⟩
  rw [b] at he
  obtain ⟨⟨e', cs⟩, hm, rfl⟩ := Option.map_eq_some_iff.mp he
  exact ⟨(d e' cs hm).1, (d e' cs hm).2.1⟩
theorem ends_of (hk : 0 ≤ kind) (hk2 : kind ≤ 9) (h8 : Eight text) (hl : text.length ≤ 8) : ∀ a, 0 ≤ a → a ≤ (text.length : Int) → endsM text (patK kind) bound a = (lawM kind text a).map (·.1) := by
  intro a h0 h1
  unfold endsM; rw [if_pos ⟨h0, h1⟩]
  exact (mtV_of hk hk2 h8 hl h0 h1).2.1
theorem held_of (hk : 0 ≤ kind) (hk2 : kind ≤ 9) (h8 : Eight text) (hl : text.length ≤ 8) {a e : Int} {cs : List Cap} (h0 : 0 ≤ a) (h1 : a ≤ (text.length : Int)) (hm : lawM kind text a = some (e, cs)) (k : Nat) :
    heldV text (mtV text (patK kind) bound a).2 a e ((k : Int) + 1) = if k < cs.length then (cs[k]?).map Cap.oct else if k = 0 then some (sl text (some a) (some e)) else none := by
  obtain ⟨-, -, -, d⟩ := mtV_of (bound := bound) hk hk2 h8 hl h0 h1
  obtain ⟨-, -, hlev, hcap⟩ := d e cs hm
  unfold heldV
  rw [if_neg (by lia), Int.add_sub_cancel]
  by_cases hkl : k < cs.length
  · rw [if_pos hkl, hcap k hkl]
  · rw [if_neg hkl]
    unfold capV
    rw [if_pos (by lia)]
    by_cases h00 : k = 0
    · subst h00; rfl
    · rw [if_pos (by lia), if_neg h00]; rfl
theorem told_due (hk : 0 ≤ kind) (hk2 : kind ≤ 9) (h8 : Eight text) (hl : text.length ≤ 8) (hv : ValidP pieces) (hz : pieces.flatten.length ≤ 16) (h2 : [37, 50] ∈ pieces → ∀ a e cs, lawM kind text a = some (e, cs) → cs.length = 2) :
    toldM text (patK kind) bound pieces.flatten most = some (dueM text pieces 0 (spansGo kind text most bound 20 0 0), ((spansGo kind text most bound 20 0 0).length : Int)) := by
  have := repl_due (most := most) (bound := bound) (pieces := pieces) (reads_in hk hk2 h8 hl) (ends_of (bound := bound) hk hk2 h8 hl) (gv := giveM text (patK kind) bound pieces.flatten) ?_ 20 0 0 [] (by lia) (by lia) (by lia)
  · simpa [toldM] using this
  · intro a e cs h0 h1 hm
    have hh := held_of (bound := bound) hk hk2 h8 hl h0 h1 hm
    unfold giveM
    have e1 := expand_L (heldV text (mtV text (patK kind) bound a).2 a e) 20 pieces.flatten [] [] 20 (by lia) (by lia)
    simp only [List.nil_append, List.length_nil] at e1
    rw [show ((0 : Nat) : Int) = 0 from rfl] at e1
    rw [e1, exp_pieces (whole := sl text (some a) (some e)) (cs := cs) ?_ ?_ hv ?_]
    · simp
    · unfold heldV; rw [if_pos rfl]
    · have := hh 0
      rw [show ((0 : Nat) : Int) + 1 = 1 from rfl] at this
      rw [this]
      cases cs with
      | nil => simp
      | cons c cs => simp
    · intro hm2
      have hc2 := h2 hm2 a e cs hm
      have := hh 1
      rw [show ((1 : Nat) : Int) + 1 = 2 from rfl] at this
      rw [this, if_pos (by lia)]
      match cs, hc2 with
      | [c, d], _ => simp
theorem refused_due (hk : 0 ≤ kind) (hk2 : kind ≤ 9) (h8 : Eight text) (hl : text.length ≤ 8) : toldM text (patK kind) bound [37, 51] most = none ↔ spansGo kind text most bound 20 0 0 ≠ [] := by
  refine repl_none (reads_in hk hk2 h8 hl) (ends_of (bound := bound) hk hk2 h8 hl) ?_ 20 0 0 [] (by lia) (by lia) (by lia)
  intro a e cs h0 h1 hm
  have hh := held_of (bound := bound) hk hk2 h8 hl h0 h1 hm 2
  rw [show ((2 : Nat) : Int) + 1 = 3 from rfl] at hh
  have hcs : cs.length ≤ 2 := lawM_ok (p := fun cs => cs.length ≤ 2) (Nat.zero_le _) (fun _ _ => Nat.le_of_ble_eq_true rfl) (fun _ _ _ _ => Nat.le_of_ble_eq_true rfl) (Nat.le_of_ble_eq_true rfl) e cs hm
  rw [if_neg (by lia), if_neg (by decide)] at hh
  unfold giveM
  have e1 := expand_L (heldV text (mtV text (patK kind) bound a).2 a e) 20 [37, 51] [] [] 20 (by decide) (by decide)
  simp only [List.nil_append, List.length_nil] at e1
  rw [show ((0 : Nat) : Int) = 0 from rfl] at e1
  rw [e1]
  rw [expL, if_pos rfl, if_pos (by decide), show (((51 : UInt8).toNat : Int) - 48) = 3 from by decide, hh]
  rfl
end
/-! b''.join over a list of bytes -/
section
open PySem.Builtin
theorem bj_slot : Slot "bytes" "join" "bytes.join" :=
  .of (owner := "bytes") (n := "join") (by rw [typeLookup_type, builtinLookup_eq_fast]; kernel_rfl) (by decide +kernel) (by decide +kernel) (by decide +kernel)
    (by first | exact .inl (by decide +kernel) | exact .inr (by decide +kernel)) (by rw [isSubtype_type]; kernel_rfl)
theorem bj_entry : entryFor table "bytes.join" = some Builtin.«bytes.join» := entryFor_of_tree (by kernel_rfl)
theorem bj_args (a b : Value) : argsOk "bytes.join" ⟨[a, b], []⟩ := by unfold argsOk; kernel_rfl
theorem bj_type : typeOf (.builtin "bytes.join") = pure (.type "method_descriptor") := by show builtinType _ = _; rw [builtinType_eq_fast]; kernel_rfl
theorem bj_take {id : String} {b : Array UInt8} {t : Tok} : Bytes.takeBufferQuiet? id (.bytes b t) 0 = pure (some (b, none)) := by
  unfold Bytes.takeBufferQuiet? Bytes.takeBuffer?
  simp -iota only [KBy.special_eq KBy.look_buffer, KBy.own_buffer, KBy.buffer_eq]
  kernel_rfl
theorem bj_letGo {M : Model} {A : Around} {E : Value → Shared → Prop} {s : Shared} {keep : List Value} : ∀ {l : List (Value × Option Value)} {Q : Unit → Shared → Prop}, (∀ p ∈ l, p.2 = none) → Q () s → wpAny M A (Bytes.joinLetGo l keep) Q E s := by
  intro l
  induction l with
  | nil => intro Q _ h; exact wpAny_pure h
  | cons p l ih =>
    intro Q hn h
    obtain ⟨x, o⟩ := p
    obtain rfl : o = none := hn _ (.head _)
    unfold Bytes.joinLetGo
    exact wpAny_bind (wpAny_letGo (ih (fun q hq => hn q (.tail _ hq)) h))
theorem bj_fold : ∀ (l : List (List UInt8)) (k : Nat) (a : Array UInt8), ((l.map List.toArray).zipIdx k).foldl (fun out (p : Array UInt8 × Nat) => (if p.2 > 0 then out ++ #[] else out) ++ p.1) a = a ++ l.flatten.toArray := by
  intro l
  induction l with
  | nil => intro k a; simp
  | cons x l ih => intro k a; simp only [List.map_cons, List.zipIdx_cons, List.foldl_cons, List.flatten_cons]; rw [ih]; simp
theorem bj_joined (l : List (List UInt8)) : Bytes.joined #[] (l.map List.toArray) = l.flatten.toArray := by
  have := bj_fold l 0 #[]
  simpa [Bytes.joined] using this
theorem bj_size : ∀ (l : List (List UInt8)) (a : Nat), (l.map List.toArray).foldl (fun n x => n + x.size) a = a + l.flatten.length := by
  intro l
  induction l with
  | nil => intro a; rfl
  | cons x l ih => intro a; simp only [List.map_cons, List.foldl_cons, List.flatten_cons, List.length_append]; rw [ih]; simp; lia
theorem bj_one {x : Value} {F : Value → Sem PySem.Fin} {G : Array Value → Sem PySem.Fin} : Bytes.joinM.match_1 (fun _ => Sem PySem.Fin) #[x] F G = F x := rfl
theorem bj_single {a : Array Value} {x : Value} (h : a = #[x]) {F : Value → Sem PySem.Fin} {G : Array Value → Sem PySem.Fin} : Bytes.joinM.match_1 (fun _ => Sem PySem.Fin) a F G = F x := by subst h; exact @bj_one x F G
theorem bj_zero {F : Value → Sem PySem.Fin} {G : Array Value → Sem PySem.Fin} : Bytes.joinM.match_1 (fun _ => Sem PySem.Fin) #[] F G = G #[] := rfl
theorem bj_more {x y : Value} {r : List Value} {F : Value → Sem PySem.Fin} {G : Array Value → Sem PySem.Fin} : Bytes.joinM.match_1 (fun _ => Sem PySem.Fin) (Array.mk (x :: y :: r)) F G = G (Array.mk (x :: y :: r)) := rfl
theorem bj_many {a : Array Value} (h : a.size ≠ 1) {F : Value → Sem PySem.Fin} {G : Array Value → Sem PySem.Fin} : Bytes.joinM.match_1 (fun _ => Sem PySem.Fin) a F G = G a := by
  rcases a with ⟨_ | ⟨x, _ | ⟨y, r⟩⟩⟩
  · exact @bj_zero F G
  · exact absurd rfl h
  · exact @bj_more x y r F G
theorem bj_only {pieces : List (List UInt8)} {vs : List Value} {x : Value} (hp : BytesAre pieces vs) (h : vs.toArray = #[x]) : E2 fun p u => pieces = [p] ∧ x = .bytes p.toArray u := by
  have hv : vs = [x] := congrArg Array.toList h
  cases hp with
  | nil => cases hv
  | cons b u r =>
    cases r with
    | nil => exact ⟨b, u, rfl, ((List.cons.inj hv).1).symm⟩
    | cons b2 u2 r2 => exact absurd (List.cons.inj hv).2 (by intro e; cases e)
theorem wpAny_of_rw {M : Model} {A : Around} {E : Value → Shared → Prop} {s : Shared} {α : Type} {a b : Sem α} {Q : α → Shared → Prop} (e : a = b) (h : wpAny M A b Q E s) : wpAny M A a Q E s := e ▸ h
theorem bj_meets {prog : Program} {w : World} {A : Around} {pieces : List (List UInt8)} {vs : List Value} {t : Tok} {l : Addr} (hp : BytesAre pieces vs) (hz : pieces.flatten.length ≤ 1000) {E : Value → Shared → Prop} {s : Shared} {Q : Value → Shared → Prop} (hl : s.heap.IsList l vs.toArray) (hQ : ∀ t' k, Q (.bytes pieces.flatten.toArray t') { s with toks := k }) :
    wpAny (model prog w) A (Builtin.«bytes.join» ⟨[.bytes #[] t, .ref l], []⟩) (endsV Q) E s := by
  have hty : wpAny (model prog w) A (Bytes.joinItems (.ref l)) (fun v s' => v = .ref l ∧ s = s') E s := by
    unfold Bytes.joinItems
    refine wpAny_bind (wpAny_typeOf hl.typeIs ?_)
    exact wpAny_pure ⟨rfl, rfl⟩
  have hit : wpAny (model prog w) A (seqItems? (.ref l)) (fun v s' => v = some vs.toArray ∧ s = s') E s := by
    obtain ⟨o, ho, hc, n, hdata⟩ := hl
    unfold seqItems?
    refine wpAny_bind (wpAny_load ho ?_)
    rw [hdata]
    exact wpAny_pure ⟨rfl, rfl⟩
  unfold Builtin.«bytes.join» Bytes.joinM
  refine wpAny_bind (wpAny_of_eq (a := (Value.bytes #[] t, Value.ref l)) rfl ?_)
  dsimp only
  rw [if_pos (by decide)]
  refine wpAny_bind (wpAny_mono hty (fun _ s' h => ?_) fun _ _ e => e)
  obtain ⟨rfl, rfl⟩ := h
  refine wpAny_bind (wpAny_mono hit (fun _ s'' h => ?_) fun _ _ e => e)
  obtain ⟨rfl, rfl⟩ := h
  dsimp only
  rw [if_pos (by decide)]
  have hlen := hp.len
  have loop : ∀ (Q' : Array (Array UInt8) × List (Value × Option Value) → Shared → Prop) (f : Nat → Array (Array UInt8) × List (Value × Option Value) → Sem (ForInStep (Array (Array UInt8) × List (Value × Option Value)))),
      (∀ i a tk b u, vs[i]? = some (.bytes b u) → (∀ p ∈ tk, p.2 = none ∧ p.1.onHeap = false) → wpAny (model prog w) A (f i (a, tk)) (fun r s' => s = s' ∧ r = .yield (a.push b, tk ++ [(.bytes b u, none)])) E s) →
      (∀ tk, (∀ p ∈ tk, p.2 = none ∧ p.1.onHeap = false) → Q' ((pieces.map List.toArray).toArray, tk) s) → wpAny (model prog w) A (forIn [:vs.toArray.size] (#[], []) f) Q' E s := by
    intro Q' f hf hfin
    rw [List.size_toArray, Std.Legacy.Range.forIn_eq_forIn_range']
    have hsz : ([:vs.length] : Std.Legacy.Range).size = vs.length := by simp [Std.Legacy.Range.size]
    show wpAny _ _ (forIn (List.range' 0 ([:vs.length] : Std.Legacy.Range).size 1) _ f) _ _ _
    rw [hsz]
    refine wpAny_forIn_list f (fun rest b s' => s = s' ∧ ∃ i, i + rest.length = vs.length ∧ rest = List.range' i rest.length 1 ∧ b.1 = ((pieces.take i).map List.toArray).toArray ∧ ∀ p ∈ b.2, p.2 = none ∧ p.1.onHeap = false) Q' ?_ ?_ _ _ ⟨rfl, 0, by simp, by simp, by simp, fun p hp => nomatch hp⟩
    · rintro x rest ⟨a, tk⟩ s' ⟨rfl, i, hi, hr, ha, ht⟩
      simp only [List.length_cons] at hi hr
      rw [List.range'_succ] at hr
      obtain ⟨rfl, hr⟩ := List.cons.inj hr
      have hx : x < pieces.length := by lia
      have hx' : x < vs.length := by lia
      obtain ⟨b, u, hu, hb⟩ := hp.get x _ (List.getElem?_eq_getElem hx')
      refine wpAny_mono (hf x a tk b.toArray u ((List.getElem?_eq_getElem hx').trans (congrArg some hu)) ht) (fun r s'' h => ?_) fun _ _ e => e
      obtain ⟨rfl, rfl⟩ := h
      refine ⟨rfl, x + 1, by lia, hr, ?_, ?_⟩
      · show a.push _ = _
        rw [show a = _ from ha, List.take_add_one, hb]
        simp
      · intro p hq
        rcases List.mem_append.mp hq with hq | hq
        · exact ht p hq
        · obtain rfl := List.mem_singleton.mp hq
          exact ⟨rfl, rfl⟩
    · rintro ⟨a, tk⟩ s' ⟨rfl, i, hi, -, ha, ht⟩
      have : pieces.take i = pieces := List.take_of_length_le (by simp at hi; lia)
      rw [this] at ha
      obtain rfl : a = _ := ha
      exact hfin tk ht
  generalize hva : vs.toArray = va at hit loop ⊢
  by_cases h1 : va.size = 1
  · obtain ⟨x, hvx⟩ : ∃ x, va = #[x] := by
      rcases va with ⟨_ | ⟨x, _ | ⟨y, r⟩⟩⟩
      · exact absurd h1 (by simp)
      · exact ⟨x, rfl⟩
      · exact absurd h1 (by simp)
    have hx := hva.trans hvx
    refine wpAny_of_rw (bj_single hvx) ?_
    obtain ⟨p, u, rfl, hxe⟩ := bj_only hp hx
    rw [hxe]
    refine wpAny_bind (wpAny_typeOf (typeIs_bytes _ _ u) ?_)
    have e1 : ([p].flatten : List UInt8) = p := by rw [List.flatten_cons, List.flatten_nil, List.append_nil]
    rw [e1] at hQ
    have eb : (Value.type "bytes" == Value.type "bytes") = true := rfl
    rw [if_pos eb]
    refine wpAny_bind (wpAny_rule ?_)
    exact wpAny_pure ⟨_, rfl, hQ u s.toks⟩
  · refine wpAny_of_rw (bj_many h1) ?_
    refine wpAny_bind (loop _ _ ?_ ?_)
    · intro i a tk b u hu ht
      refine wpAny_bind (wpAny_mono hit (fun _ s' h => ?_) fun _ _ e => e)
      obtain ⟨rfl, rfl⟩ := h
      dsimp only
      have hg : va.getD i .none = .bytes b u := by subst hva; simp [Array.getD_eq_getD_getElem?, hu]
      rw [hg, if_neg (by
        have : (tk.any fun x => x.1.onHeap) = false := List.any_eq_false.mpr fun p hp => by simp [(ht p hp).2]
        simp only [this, Bool.or_false]; decide)]
      refine wpAny_bind (wpAny_holding (wpAny_of_eq bj_take ?_))
      dsimp only
      refine wpAny_bind (wpAny_mono hit (fun _ s' h => ?_) fun _ _ e => e)
      obtain ⟨rfl, rfl⟩ := h
      dsimp only
      rw [if_neg (by simp)]
      exact wpAny_pure ⟨rfl, rfl⟩
    · intro tk ht
      dsimp only
      refine wpAny_bind (wpAny_of_eq (a := #[]) rfl ?_)
      have hs : Array.foldl (fun n x => n + x.size) ((#[] : Array UInt8).size * ((pieces.map List.toArray).toArray.size - 1)) (pieces.map List.toArray).toArray = pieces.flatten.length := by
        rw [List.foldl_toArray, bj_size]; simp
      rw [hs, KBy.tooLong_not (by lia), if_neg (by decide), bj_joined]
      refine wpAny_bind (wpAny_mkBytes ?_ (by rw [List.size_toArray, sizeLine_eq]; lia))
      refine wpAny_bind (wpAny_holding (wpAny_point ?_))
      refine wpAny_bind (bj_letGo (fun p hp => (ht p hp).1) ?_)
      exact wpAny_pure ⟨_, rfl, hQ _ _⟩
theorem bj_join {prog : Program} {w : World} {A : Around} {pieces : List (List UInt8)} {vs : List Value} {t : Tok} {l : Addr} (hp : BytesAre pieces vs) (hz : pieces.flatten.length ≤ 1000) {E : Value → Shared → Prop} {s : Shared} {Q : Value → Shared → Prop} (hl : s.heap.IsList l vs.toArray) (hQ : ∀ t' k, Q (.bytes pieces.flatten.toArray t') { s with toks := k }) :
    wpAny (model prog w) A (call (.builtin "bytes.join") [.bytes #[] t, .ref l]) Q E s := by
  refine wpAny_call (codeAny_call_builtin bj_slot.plain bj_entry (bj_slot.check _ _ _ _ _ _ _ _ (typeIs_bytes _ _ _) (bj_args _ _) ?_))
  exact wpAny_mono (bj_meets hp hz hl hQ) (fun fin s' h => by obtain ⟨v, rfl, h⟩ := h; exact h) fun _ _ e => e
theorem bj_method {prog : Program} {w : World} {A : Around} {E : Value → Shared → Prop} {s : Shared} {x : Array UInt8} {t : Tok} {pl : Sem Bool} {Q : Value × List Value → Shared → Prop} (h : Q (.builtin "bytes.join", [.bytes x t]) s) : wpAny (model prog w) A (getMethod (.bytes x t) "join" pl) Q E s :=
  getMethod_builtin (typeIs_bytes _ _ _) FB.plainAttrs_bytes bj_slot bj_type (fun _ e => nomatch e) h
end
/-! repr of a bytes, and of a pair (bytes, int) -/
section
open PySem.Builtin
theorem br_slot : Slot "bytes" "__repr__" "bytes.__repr__" :=
  .of (owner := "bytes") (n := "__repr__") (by rw [typeLookup_type, builtinLookup_eq_fast]; kernel_rfl) (by decide +kernel) (by decide +kernel) (by decide +kernel)
    (by first | exact .inl (by decide +kernel) | exact .inr (by decide +kernel)) (by rw [isSubtype_type]; kernel_rfl)
theorem br_entry : entryFor table "bytes.__repr__" = some Builtin.«bytes.__repr__» := entryFor_of_tree (by kernel_rfl)
theorem br_args (a : Value) : argsOk "bytes.__repr__" ⟨[a], []⟩ := by unfold argsOk; kernel_rfl
theorem br_gives (b : Array UInt8) (t : Tok) (hz : b.size ≤ 1000) : Gives («bytes.__repr__» ⟨[.bytes b t], []⟩) (.str (Bytes.literal b false)) := by
  have e : Bytes.literalAsked b = pure (Bytes.literal b false) := by
    unfold Bytes.literalAsked
    rw [show Bytes.tooLong (4 * b.size + 3 + 0) = false from KBy.tooLong_not (by lia)]
    rfl
  refine .of_eq ?_
  show (Bytes.literalAsked b >>= fun x => retStr x) = _
  rw [e]
  rfl
end
section
variable {prog : Program} {w : World} {A : Around} {E : Value → Shared → Prop} {s : Shared}
open PySem.Builtin in
theorem br_is {b : Array UInt8} (t : Tok) (hz : b.size ≤ 1000) (hsz : (Bytes.literal b false).length ≤ sizeLine) : ReprIs prog w (.bytes b t) (Bytes.literal b false) := fun n hn _ _ _ _ h => by
  have hn' : n ≤ sizeLine := by lia
  rw [pyReprUnder_leaf (v := .bytes b t) hn' (fun _ e => nomatch e)]
  unfold pyRepr
  exact wpAny_bind (wpAny_pyReprObj_gives (typeIs_bytes _ b t) br_slot br_entry (br_args _) (br_gives b t hz) (wpAny_pure (h _)) (hx := hsz))
end
theorem br_fold (f : UInt8 → Array Nat) (hf : ∀ c, (f c).size ≤ 4) : ∀ (l : List UInt8) (a : Array Nat), (l.foldl (fun acc c => acc ++ f c) a).size ≤ a.size + 4 * l.length := by
  intro l
  induction l with
  | nil => intro a; simp
  | cons x l ih =>
    intro a
    have h1 := ih (a ++ f x)
    have h2 := hf x
    simp only [List.foldl_cons, List.length_cons, Array.size_append] at h1 ⊢
    lia
open PySem.Builtin in
theorem br_len (l : List UInt8) : (Bytes.literal l.toArray false).length ≤ 4 * l.length + 3 := by
  unfold Bytes.literal
  show (Array.push _ _).size ≤ _
  rw [Array.size_push, List.foldl_toArray]
  refine Nat.le_trans (Nat.succ_le_succ (br_fold _ (fun c => ?_) l _)) ?_
  · (try dsimp only)
    (repeat' split) <;> simp
  · show 2 + 4 * l.length + 1 ≤ _
    lia
/-! the rules of the law's end -/
section
variable {c : Cx} {F : FD} {lm : Lm} {nw : Led} {pos apos xp yp lp cp : Pos} {e e1 e2 : PySem.Expr} {es : List PySem.Expr} {x y name : Str} {R1 S : Value → Led → Prop} {R2 : Value → Value → Led → Prop} {g g1 : Tok → Value} {f : Value} {Rs : List Value → Prop} {op : CmpOp} {p : Bool} {a T R : Addr} {ws : List Value} {k : Nat}
/-- a comparison whose sides turn the ledger, as a test -/
theorem jt_cmpX (h1 : JE c F lm nw e1 R1) (h2 : ∀ v n, R1 v n → JE c F lm n e2 (R2 v)) (h : ∀ a b n, R2 a b n → CmpIs op a b p ∧ ∀ q ∈ nw, q ∈ n) (hm : behindInMarks op e2 = false) : JT c F lm nw (.Compare e1 [op] [e2] pos) p := fun s m Q ok hn Fm hm' N hQ =>
  wpAny_isTrue_Compare1 (h1 s m _ ok hn Fm hm' N fun v h' tk' n r F' N' => h2 v n r { s with heap := h', toks := tk' } m _ ok hn F' hm' N' fun v₂ h₂ tk₂ n₂ r₂ F₂ N₂ => by
    obtain ⟨hc, hsub⟩ := h v v₂ n₂ r₂
    exact hc _ _ _ _ _ (wpAny_truthy_bool (hQ _ h₂ tk₂ nw ⟨rfl, 0, rfl⟩ F₂ fun q hq => N₂ q (hsub q hq)))) hm
/-- `l + [..]` -/
theorem jx_ladd (h : JV c F lm nw (.Name x xp) (.ref a)) (hm : (a, listOf ws.toArray k) ∈ nw) (ha : JArgs c F lm nw lp es Rs) (hz : ∀ vs, Rs vs → ws.length + vs.length ≤ 1000) : JE c F lm nw (.BinOp (.Name x xp) .Add (.List es lp) pos) (fun v n' => E2 fun D vs => A3 (v = .ref D) (n' = (D, listOf (ws ++ vs).toArray 0) :: nw) (Rs vs)) :=
  JX.bind2 (f := fun a b => binaryOp .Add a b) (t2 := fun _ => eval (.List es lp) (F.env c.L)) (R2 := fun v b n' => v = .ref a ∧ E2 fun D vs => A3 (b = .ref D) (n' = (D, listOf (List.toArray vs) 0) :: nw) (Rs vs)) (fun _ _ z => wpAny_BinOp z) h
    (fun v n' ⟨e, t, e'⟩ => by subst e e'; exact JX.mono (jx_list ha fun vs r => by have := hz vs r; lia) fun b n'' ⟨D, vs, e1, e2, r, _⟩ => ⟨rfl, D, vs, e1, e2, r⟩)
    fun v b n' ⟨e, D, vs, e1, e2, r⟩ => by
      subst e e1 e2
      intro s m Q ok hn Fm hm' N hQ
      exact add_lists (hsz := by rw [sizeLine_eq]; have := hz vs r; lia) Fm (fun p hp => N p (.tail _ hp)) (News.isList N (.tail _ hm)) (News.isList N (.head _)) fun h' F' N' => hQ _ h' s.toks _ ⟨_, vs, rfl, rfl, r⟩ F' N'
/-- a method of a literal -/
theorem eval_MethodL {z : Const} {kk : Nat} (hl : (apos.endLine == pos.line) = true) (hs : es.all simpE = true) (hlen : es.length < 30) (env : Env) : eval (.Call (.Attribute (.Constant z kk cp) name apos) es [] pos) env = (do
    let ov ← eval (.Constant z kk cp) env
    standAt apos.atName
    let (f, first) ← holding [ov] (getMethod ov name (do return (← importBound (.Constant z kk cp) env).getD true))
    callWith pos f first (backTo pos (starEach es env)) []) := by
  have hform : methodCallForm (es.length + 0) (backTo pos (starEach es env)) [] = true := by
    unfold methodCallForm
    have : (backTo pos (starEach es env)).all (!·.1) = true := by
      have h := star_all (env := env) (pos := pos) hs
      rw [List.any_eq_false] at h
      rw [List.all_eq_true]
      intro x hx; have := h x hx; simpa using this
    rw [this]; simp; lia
  show (do
    let ov ← attributeBase (.Constant z kk cp) name env (eval (.Constant z kk cp) env)
    standAt apos.atName
    methodCall (.Constant z kk cp) name apos pos env ov (es.length + 0) (backTo pos (starEach es env)) (backToKw pos (keywordEach [] env))) = _
  unfold methodCall
  show (do
    let ov ← eval (.Constant z kk cp) env
    standAt apos.atName
    let (f, first) ← holding [ov] (calleeOf (methodCallForm (es.length + 0) (backTo pos (starEach es env)) []) (.Constant z kk cp) env ov name)
    let callPos ← methodCallPos (methodCallForm (es.length + 0) (backTo pos (starEach es env)) []) (.Constant z kk cp) env apos pos
    callWith callPos f first (backTo pos (starEach es env)) []) = _
  rw [hform]
  unfold calleeOf methodCallPos
  rw [hl]
  rfl
/-- `b''.join(e)` -/
theorem jb_join {kk : Nat} {pieces : List (List UInt8)} {pv : List Value} (h : JV c F lm nw e (.ref a)) (hm : (a, listOf pv.toArray k) ∈ nw) (hp : BytesAre pieces pv) (hz : pieces.flatten.length ≤ 1000) (hl : (apos.endLine == pos.line) = true := by rfl) (hs : simpE e = true := by rfl) :
    JB c F lm nw (.Call (.Attribute (.Constant (.bytes []) kk cp) "join" apos) [e] [] pos) pieces.flatten :=
  JX.bind2 (t2 := fun v => getMethod v "join" _) (f := fun _ fx => callWith pos fx.1 fx.2 (backTo pos (starEach [e] (F.env c.L))) []) (R2 := fun _ r n => n = nw ∧ ∃ t, r = (.builtin "bytes.join", [.bytes #[] t])) (fun _ _ z => MethodCall_ z (eval_MethodL hl (by simp [hs]) (by simp) _)) (jb_lit (l := []))
    (fun v n ⟨e0, t, e'⟩ => by subst e'; exact fun s m Q ok hn Fm hm' N hQ => bj_method (hQ _ s.heap s.toks n ⟨e0, t, rfl⟩ Fm N))
    fun v b n ⟨e0, t, e'⟩ => by
      subst e'
      replace e0 := e0.symm
      subst e0
      exact jx_callWith (first := [.bytes #[] t]) kept_builtin (by simp [hs]) (jargs_cons h hs jargs0) fun vs ⟨_, _, e1, e2⟩ => by
        subst e1 e2
        exact fun s m Q ok hn Fm hm' N hQ => bj_join hp hz ⟨_, (N _ hm).1, rfl, k, rfl⟩ fun t' tk' => hQ _ s.heap tk' nw ⟨rfl, t', rfl⟩ Fm N
noncomputable def pairText (r : List UInt8) (n : Int) : Str := tupleText [Builtin.Bytes.literal r.toArray false, toString n]
theorem pairText_len {r : List UInt8} {n : Int} (hr : r.length ≤ 500) (hn : n.natAbs ≤ 1000) : (pairText r n).length ≤ sizeLine := by
  have h1 := br_len r
  have h2 := len_str_of_int n
  have h3 := join_length_add [Builtin.Bytes.literal r.toArray false, Str.ofString (toString n)] (by simp)
  have e1 : (("(" : String) : Str).length = 1 := rfl
  have e2 : ((")" : String) : Str).length = 1 := rfl
  rw [sizeLine_eq]
  unfold pairText tupleText
  rw [strLen_append, strLen_append, e1]
  have h4 : piled [Builtin.Bytes.literal r.toArray false, Str.ofString (toString n)] = (Builtin.Bytes.literal r.toArray false).length + 2 + ((Str.ofString (toString n)).length + 2) := by simp [piled]
  show 1 + (Str.join ", " [Builtin.Bytes.literal r.toArray false, Str.ofString (toString n)]).length + ((")" : String) : Str).length ≤ _
  rw [e2]
  lia
/-- `repr` of a pair (octets, number) -/
theorem jx_repr {r : List UInt8} {n : Int} {t u : Tok} (hgd : c.gd = some []) (hu : 20 ≤ c.U) (hm : (T, tupO [.bytes r.toArray t, .int n u]) ∈ nw) (hr : r.length ≤ 500) (hn : n.natAbs ≤ 1000) : JX c F lm nw (call (.builtin "repr") [.ref T]) (fun v n' => n' = nw ∧ ∃ t, v = .str (pairText r n) t) := fun s m Q ok _ Fm hm' N hQ => by
  have hT : s.TypeIs (.ref T) "tuple" := (News.isTup N hm).typeIs
  refine call_repr_slot (by have := ok.units; show c.un + 3 + 1 < cLine; lia) hT PySem.F.slot_tuple_repr ?_
  refine call_tuple_repr (g := []) (ts := [Builtin.Bytes.literal r.toArray false, toString n]) hT (by show c.gd = _; exact hgd) (fun _ h => nomatch h) (N _ hm).1 rfl ?_ (fun u tk => ⟨_, u, rfl, hQ _ s.heap tk nw ⟨rfl, u, rfl⟩ Fm N⟩) (pairText_len hr hn)
  refine .cons (br_is t (by rw [List.size_toArray]; lia) (by have := br_len r; rw [sizeLine_eq]; lia)) (.cons (ReprIs.int u ?_) .nil)
  by_cases h0 : n.natAbs = 0
  · rw [h0]; decide
  · exact Nat.lt_trans ((Nat.log2_lt (k := 11) h0).mpr (Nat.lt_of_le_of_lt hn (by decide))) (by decide)
theorem cmp_sne {a : Str} {t u : Tok} : CmpIs .NotEq (.str a t) (.str a u) false := fun _ _ _ _ _ h => PyProof.Rows.ne_str (by rw [show (a != a) = false by simp]; exact h)
/-- `spans != []` -/
theorem jc_nempty {vs : List Value} {sl : Array (Option Value)} (h : JV c F lm nw e (.ref a)) (hm : (a, { listOf vs.toArray k with slots := sl }) ∈ nw) : JC c F lm nw (.Compare e [.NotEq] [.List [] lp] pos) (!vs.isEmpty) := fun s m Q ok hn Fm hm' N hQ =>
  wpAny_Compare1 (h s m _ ok hn Fm hm' N fun v h' tk' n ⟨e, u, e'⟩ F' N' => jx_list0 { s with heap := h', toks := tk' } m _ ok hn F' hm' (e ▸ N') fun v₂ h₂ tk₂ n₂ ⟨D, e1, e2, ap⟩ F₂ N₂ => by
    subst e' e1 e2
    have hl : h₂.IsList a vs.toArray := ⟨_, (N₂ _ (.tail _ hm)).1, rfl, k, rfl⟩
    have hb : h₂.IsList D #[] := ⟨_, (N₂ _ (.head _)).1, rfl, _, rfl⟩
    have hu : (c.A F).units < cLine := by have := ok.units; show c.un + 3 < cLine; lia
    have fin := hQ (.bool (!vs.isEmpty)) h₂ tk₂ nw ⟨rfl, 0, rfl⟩ F₂ fun p hp => N₂ p (.tail _ hp)
    cases vs with
    | nil => exact PySem.EqBoolInt.of_rcne (s := { s with heap := h₂, toks := tk₂ }) (SeqAt.RcNeAt.lists (e := fun _ => true) hl hb rfl hu (fun j h1 => absurd h1 (Nat.not_lt_zero _))) fin
    | cons v vs => exact PySem.EqBoolInt.of_rcne (s := { s with heap := h₂, toks := tk₂ }) (SeqAt.RcNeAt.lists_lengths hl hb (by simp) hu) fin) (bim rfl _)
theorem kp_362 (w : World) : Kept w (.ref 362) := kept_K (by k_dflt k_is)
/-- the law's last statement -/
theorem jsc_refused {text pat : List UInt8} {most : Int} {bound : Bool} {tt tp tm : Tok} {own : Led} {vals : List Value} {e1 e2 e3 e4 : PySem.Expr} {fp ap ep rp : Pos} {P : Flow → Lm → Led → Prop} (hgd : c.gd = some []) (hbase : c.base = c.g) (hf : (Str.ofString "_law_is_refused", .ref 362) ∈ F.gl) (h1 : JV c F lm nw e1 (.bytes text.toArray tt)) (h2 : JV c F lm nw e2 (.bytes pat.toArray tp)) (h3 : JV c F lm nw e3 (.int most tm)) (h4 : JV c F lm nw e4 (.bool bound)) (hs : [e1, e2, e3, e4].all simpE = true)
    (hx : (x, some (.ref R)) ∈ lm) (hR : (R, listOf vals.toArray k) ∈ nw) (hown : ∀ p ∈ own, p ∈ nw) (hRo : R ∉ own.map (·.1)) (hpat : (0 : UInt8) ∉ pat) (hz : pat.length ≤ 60) (h16 : text.length ≤ 16) (hTabs : Tabs own) (hmt : MtOk text pat bound) (hb : toldM text pat bound [37, 51] most = none ↔ vals ≠ []) (hK : 620 ≤ c.K) (hU : 7100 ≤ c.U)
    (hP : ∀ ps, P (.ret (.bool true)) lm [(350, tabObj ps)]) :
    JSC c F lm nw [.Return (some (.Compare (.Call (.Name "_law_is_refused" fp) [e1, e2, e3, e4] [] ap) [.Eq] [.Compare (.Name x xp) [.NotEq] [.List [] lp] ep] pos)) rp] P := fun s m Q ok hn Fm hm N hQ => by
  refine execsC_cons (ReturnC (Compare1C (CallC (ja_glb hf s m _ ok hn Fm hm N fun v h' tk' n ⟨e0, _, e'⟩ F' N' => ?_) (eval_CallName _ _ _ _ _)) (bim rfl _)))
  subst e0 e'
  have hs' := hs
  rw [List.all_cons, Bool.and_eq_true] at hs'
  have he := star_simp hs'.1 [e2, e3, e4] (F.env c.L)
  have hst : (backTo ap (starEach [e2, e3, e4] (F.env c.L))).any (·.1) = false := star_all hs'.2
  have hs3 : simpE e2 = true ∧ simpE e3 = true ∧ simpE e4 = true := by simpa using hs'.2
  rw [show backTo ap (starEach [e1, e2, e3, e4] (F.env c.L)) = (false, eval e1 (F.env c.L)) :: backTo ap (starEach [e2, e3, e4] (F.env c.L)) by rw [he]; rfl]
  refine callWithC (P := (hd.heap_39 c.w.params).In) (by show (false || (backTo ap (starEach [e2, e3, e4] (F.env c.L))).any (·.1)) = false; rw [hst]; rfl) (kp_362 _) (.ofAny (evalArgs_plain ?_))
  rw [← show backTo ap (starEach [e1, e2, e3, e4] (F.env c.L)) = (false, eval e1 (F.env c.L)) :: backTo ap (starEach [e2, e3, e4] (F.env c.L)) by rw [he]; rfl]
  refine jargs_cons h1 hs'.1 (jargs_cons h2 hs3.1 (jargs_cons h3 hs3.2.1 (jargs_cons h4 hs3.2.2 jargs0))) { s with heap := h', toks := tk' } m _ ok hn F' hm N' fun vs h₂ tk₂ n₂ ⟨e0, _, _, e1, _, _, e2, _, _, e3, _, _, e4, e5⟩ F₂ N₂ => ?_
  subst e0 e1 e2 e3 e4 e5
  refine ⟨ok.X.keeps F₂.keep, ?_⟩
  have B := ok.B
  rw [hgd] at B
  have hA : c.A F = cA (c.dp + 1) (c.un + 3) (some []) (F.env c.L :: c.outer) := by show cA _ _ c.gd _ = _; rw [hgd]
  have N₃ : News c.g c.L h₂ own := fun p hp => N₂ p (hown p hp)
  obtain ⟨FG, BG, st, -⟩ := groundX (s := { s with heap := h₂, toks := tk₂ }) (A := cA (c.dp + 1) (c.un + 3) (some []) (F.env c.L :: c.outer)) (R := fun _ _ => True) B F₂ N₃ rfl rfl ok.fok.kind
  rw [hA]
  refine c_refused (base := c.base) (outer := F.env c.L :: c.outer) hpat hz h16 hTabs hmt (hbase ▸ ok.X) (hbase ▸ ok.T) BG.stays BG.frames ⟨fun b o e => of_hideAll _ e, Nat.le_of_eq (hideAll_size _ _), fun p hp => ⟨(N₃ p hp).1, hideAll_none _ (List.mem_map_of_mem hp)⟩⟩ (by have := ok.room; lia) (by have := ok.units; lia) ?_
  intro b ps h₃ tk₃ hbv hst3 h350 hup
  have F₃ : Fr c.g c.L h₃ m := ⟨hup.ns FG.ns, fun b o e => hst3 b o (hbase ▸ e), F₂.above⟩
  obtain ⟨sl, hRs⟩ := hup R _ (hideAll_get _ (N₂ _ hR).1 hRo) (fun vs q => nomatch q)
  obtain ⟨ps', hps⟩ := hTabs.has
  have N₄ : News c.g c.L h₃ [(350, tabObj ps), (R, { listOf vals.toArray k with slots := sl })] := fun p hp => by
    rcases List.mem_cons.mp hp with rfl | hp
    · exact ⟨h350, (N₃ _ hps).2⟩
    · rw [List.mem_singleton.mp hp]; exact ⟨hRs, (N₂ _ hR).2⟩
  rw [← hA]
  refine .ofAny (jc_nempty (ja_loc hx) (.tail _ (.head _)) { s with heap := h₃, toks := tk₃ } m _ ok hn F₃ hm N₄ fun v h₄ tk₄ n₄ ⟨e, _, e'⟩ F₄ N₅ => ?_)
  subst e e'
  have hb' : b = !vals.isEmpty := by
    cases vals with
    | nil =>
      cases b with
      | true => exact absurd rfl (hb.mp (hbv.mp rfl))
      | false => rfl
    | cons v vs => exact hbv.mpr (hb.mpr (by simp))
  subst hb'
  refine PyProof.Rows.eq_bool ?_
  rw [beq_self_eq_true]
  exact hQ (.ret (.bool true)) h₄ tk₄ m lm [(350, tabObj ps)] (hP ps) hn F₄ hm fun p hp => N₅ p (by rw [List.mem_singleton.mp hp]; exact .head _)
end
/-! the law's own call: entry -/
section
variable {w : World} {mean : ExcName → Option Value} {mg mb : Str → Option Value}
theorem callC_cells {f : Addr} {name qual : Str} {params : Arguments} {body : List Stmt} {scope : Scope} {dV kV doc pm cdv ct oc : Value} {an od : Option Addr} {osl : Array (Option Value)}
    {vs : List Value} {binds : List (Str × Value)} {dp un : Nat} {outer : List Env} {s : Shared} {Q E : Value → Shared → Prop}
    (ho : (hd.heap_39 w.params).lookup f = some ⟨oc, od, .func (fnOf name qual params body scope dV kV doc pm an cdv ct), osl⟩)
    (hcd : codeIn (hd.heap_39 w.params) cdv qual = true)
    (hbind : BindsTo s (fnOf name qual params body scope dV kV doc pm an cdv ct) ⟨vs, []⟩ binds)
    (hkind : ∀ n, ∀ x ∈ binds, scope.names.lookup x.1 = some .local ∨ (scope.names.lookup x.1 = some .cell ∧ ((cellsFrom n scope.names []).lookup x.1).isSome = true))
    (hnd : ((cellsFrom 0 scope.names []).map (·.1)).Nodup) (K : (hd.heap_39 w.params).In s.heap) (hlim : s.heap.NoLimit) (hdp : dp < recursionLimit)
    (h : ∀ (h₁ : Heap) (cells : Led) (tk : Nat), h₁.Ns s.heap.objs.size (bindL (envOfC qual scope s.heap.objs.size f cdv).kindOf binds fun _ => none) → (∀ b o, s.heap.get? b = some o → h₁.get? b = some o) →
      (∀ p ∈ cells, h₁.get? p.1 = some p.2 ∧ p.1 ≠ s.heap.objs.size ∧ s.heap.get? p.1 = none) → CellsAre (bindC (envOfC qual scope s.heap.objs.size f cdv).kindOf binds fun _ => none) (cellsFrom (s.heap.objs.size + 1) scope.names []) cells →
      wpC (model PySem.Challenge.rw_nt0643_01.row.prog w) ((cA dp un (some []) outer).deeper (envOfC qual scope s.heap.objs.size f cdv)) (execs body (envOfC qual scope s.heap.objs.size f cdv))
        (fun fl s' => Q (match fl with | .ret v => v | _ => .none) s') (fun _ _ => False) { s with heap := h₁, toks := tk })
    (hco : scope.isCoroutine = false) (hgen : scope.isGenerator = false) (hk : scope.kind = .function) :
    wpC (model PySem.Challenge.rw_nt0643_01.row.prog w) (cA dp un (some []) outer) (call (.ref f) vs) Q E s := by
  refine wpC_call (codeC_call_function (fd := fnOf name qual params body scope dV kV doc pm an cdv ct) (body := body) hdp (K _ _ ho) rfl hco hgen rfl (codeRec_of K hcd) (hbind _ _ _ _ ?_))
  refine wpAny_newFunctionEnv_cells hk (hkind _) fun env' he s' x => ?_
  subst he
  refine ⟨hlim.keeps x.toInCall.keep, codeC_func ?_⟩
  obtain ⟨h₁, tk, rfl, _⟩ := x.done
  have hk₁ := x.toInCall.keep
  obtain ⟨cells, NC, Y⟩ := Cl.news (h₀ := s.heap) (Nat.le_refl _) fun n c hm => ⟨x.cell n c (lookup_of_mem_nodup (cellsFrom_names scope.names 0 (s.heap.objs.size + 1) [] [] rfl ▸ hnd) hm), x.above n c hm⟩
  exact wpC_mono (h h₁ cells tk x.toInCall.ns hk₁ (fun p hp => NC p hp) Y) (fun _ _ q => q) fun _ _ q => q.elim
end
section
variable {w : World} {mean : ExcName → Option Value} {mg mb : Str → Option Value}
theorem draw_use {FD NL : Addr} {ns : List Int} {vs : List Value} {k sd many : Int} {tk ts tm : Tok} {c c2 : Nat} (hi : IntsAre vs ns) (hne : FD ≠ NL) (hk : 0 ≤ k) (hm : 0 < many) (h24 : ns.length ≤ 24) (hk2 : k ≤ 1000)
    {dp un : Nat} {gd : Option (List Code)} {env : Env} {outer : List Env} {A₀ : Around} {base h₀ : Heap} {L : Addr} {m : Str → Option Value} {rest : Led} {s : Shared} {Q E : Value → Shared → Prop}
    (B : Below A₀ base outer h₀) (F : Fr h₀ L s.heap m) (X : (hd.heap_39 w.params).In h₀) (N : News h₀ L s.heap ((FD, feedO NL k sd tk ts c) :: (NL, listOf vs.toArray c2) :: rest)) (T : Top topProg gl mean mg mb h₀)
    (hf : env.frame = some L) (hk' : env.scope.kind = .function) (hap : ∀ p ∈ rest, p.1 ≠ FD ∧ p.1 ≠ NL) (hdp : dp + 6 < recursionLimit) (hu : un + 60 < cLine)
    (h : ∀ t h' tk' t1 t2 c', Fr h₀ L h' m → News h₀ L h' ((FD, feedO NL (k + 1) sd t1 t2 c') :: (NL, listOf vs.toArray c2) :: rest) → Q (.int (drawV ns k sd many) t) { s with heap := h', toks := tk' }) :
    wpAny (model PySem.Challenge.rw_nt0643_01.row.prog w) (cA dp un gd (env :: outer)) (call (.ref 285) [.ref FD, .int many tm]) Q E s := by
  refine con_use (own := [(FD, feedO NL k sd tk ts c), (NL, listOf vs.toArray c2)]) (rest := rest) (c_draw hi hne hk hm h24 hk2) B F X N T hf hk' (fun p hp => ?_) (fun p hp => .tail _ (.tail _ hp)) (fun p hp hm => ?_) hdp hu ?_
  · simp only [List.mem_cons, List.not_mem_nil, or_false] at hp
    rcases hp with rfl | rfl
    · exact .head _
    · exact .tail _ (.head _)
  · simp only [List.map_cons, List.map_nil, List.mem_cons, List.not_mem_nil, or_false] at hm
    exact hm.elim (hap p hp).1 (hap p hp).2
  · rintro r own' h' tk' ⟨t1, t2, c', rfl, t, rfl⟩ F' N' -
    exact h t h' tk' t1 t2 c' F' N'
end
noncomputable def octOf (f : Int) : UInt8 := [97, 98, 49, 50, 40, 41, 32, 120].getD f.toNat 0
theorem oct_eight {f : Int} (h0 : 0 ≤ f) (h8 : f < 8) : octOf f = 97 ∨ octOf f = 98 ∨ octOf f = 49 ∨ octOf f = 50 ∨ octOf f = 40 ∨ octOf f = 41 ∨ octOf f = 32 ∨ octOf f = 120 := by
  have : f = 0 ∨ f = 1 ∨ f = 2 ∨ f = 3 ∨ f = 4 ∨ f = 5 ∨ f = 6 ∨ f = 7 := int8 (by lia) (by lia)
  rcases this with rfl | rfl | rfl | rfl | rfl | rfl | rfl | rfl <;> decide
theorem oct_int {f : Int} (h0 : 0 ≤ f) (h8 : f < 8) : ([97, 98, 49, 50, 40, 41, 32, 120] : List Int).getD f.toNat 0 = ((octOf f).toNat : Int) := by
  have : f = 0 ∨ f = 1 ∨ f = 2 ∨ f = 3 ∨ f = 4 ∨ f = 5 ∨ f = 6 ∨ f = 7 := int8 (by lia) (by lia)
  rcases this with rfl | rfl | rfl | rfl | rfl | rfl | rfl | rfl <;> decide
noncomputable def mostOf (f : Int) : Int := [99, 1, 2, 0].getD f.toNat 0
theorem most_in {f : Int} (h0 : 0 ≤ f) (h4 : f < 4) : 0 ≤ mostOf f ∧ mostOf f ≤ 99 := by
  have : f = 0 ∨ f = 1 ∨ f = 2 ∨ f = 3 := int4 (by lia) (by lia)
  rcases this with rfl | rfl | rfl | rfl <;> decide
theorem map_back {tx : List UInt8} : (tx.map fun b => (b.toNat : Int)).map (fun n => n.toNat.toUInt8) = tx := by
  rw [List.map_map]
  exact (List.map_congr_left fun b _ => oct_back b).trans (List.map_id _)
theorem comp_ind {prog : Program} {w : World} {A : Around} {h₀ : Heap} {L : Addr} {m : Str → Option Value} {env : Env} {elt : PySem.Expr} {x : Str} {scope : Scope} {cl : List (Str × Addr)} {s : Shared} {S : Led → Prop} {P : Nat → Value → Prop} {Fin : List Value → Led → Prop} {n : Nat} {news : Led}
    (Inv : Nat → List Value → Led → Prop) (h0 : Inv 0 [] news)
    (turn : ∀ i ys nw, i < n → Inv i ys nw → ∀ v I oI C oC D m₂ h tk (E' : Value → Shared → Prop), P i v → LCg.NsObj oC m₂ → m₂ x = some v → Fr h₀ L h m → News h₀ L h ((I, oI) :: (C, oC) :: (D, LCg.lst ys) :: nw) → LCg.Off3 I C D nw → ((@Ne Nat I C) ∧ (@Ne Nat I D) ∧ (@Ne Nat C D)) →
      wpAny (model prog w) A (eval elt (compEnvC scope cl C env)) (LCg.CompEnd h₀ L m { s with heap := h, toks := tk } I oI C oC D (LCg.lst ys) S (fun y nw' => Inv (i + 1) (ys ++ [y]) nw')) E' { s with heap := h, toks := tk })
    (fin : ∀ ys nw, Inv n ys nw → Fin ys nw) : LCg.CompRest prog w A h₀ L m env elt x scope cl s S P Fin n 0 [] news := by
  have key : ∀ (j i : Nat) (ys : List Value) (nw : Led), i + j = n → Inv i ys nw → LCg.CompRest prog w A h₀ L m env elt x scope cl s S P Fin j i ys nw := by
    intro j
    induction j with
    | zero =>
      intro i ys nw hi hI
      obtain rfl : i = n := by lia
      exact LCg.CompRest.zero (fin ys nw hI)
    | succ j ih =>
      intro i ys nw hi hI
      refine LCg.CompRest.succ ?_
      intro v I oI C oC D m₂ h tk E' hv hC hx F N off ne
      refine wpAny_mono (turn i ys nw (by lia) hI v I oI C oC D m₂ h tk E' hv hC hx F N off ne) (fun y s₂ hq => ?_) fun _ _ e => e
      obtain ⟨h', tk', nw', e, F', N', off', hS, hr⟩ := hq
      exact ⟨h', tk', nw', e, F', N', off', hS, ih (i + 1) _ _ (by lia) hr⟩
  exact key n 0 [] news (by lia) h0
/-- the end of the law: what it hands back, and what of the heap stands -/
structure LawEnd (g : Heap) (h' : Heap) : Prop where
  keep : ∀ b o, b ≠ 350 → g.get? b = some o → h'.get? b = some o
  tab : ∃ ps, h'.get? 350 = some (tabObj ps)
/-! what the law's own pieces are -/
structure PiecesOk (kind : Int) (ps : List (List UInt8)) : Prop where
  valid : ValidP ps
  two : ∀ p ∈ ps, p.length ≤ 2
  len : ps.length ≤ 3
  cap : [37, 50] ∈ ps → kind = 2 ∨ kind = 5
theorem pieceOf_len (f : Int) : (pieceOf f).length ≤ 2 := by unfold pieceOf; (repeat' split) <;> decide
theorem pieceOf_two {f kind : Int} (h : pieceOf (formOf f kind) = [37, 50]) : kind = 2 ∨ kind = 5 := by
  by_cases hk : kind = 2 ∨ kind = 5
  · exact hk
  · exfalso
    have hf : formOf f kind ≠ 4 := by unfold formOf; split <;> omega
    revert h
    generalize formOf f kind = g at hf
    unfold pieceOf
    (repeat' split) <;> first | (intro e; revert e; decide) | omega
theorem pieces_ok {ns : List Int} {sd kind : Int} : ∀ (n : Nat) (k : Int), n ≤ 3 → PiecesOk kind (piecesGo ns sd kind n k).1 ∧ (piecesGo ns sd kind n k).1.length = n := by
  intro n
  induction n with
  | zero => intro k _; exact ⟨⟨.nil, (fun p h => nomatch h), Nat.zero_le _, (fun h => nomatch h)⟩, rfl⟩
  | succ n ih =>
    intro k hn
    obtain ⟨h, hl⟩ := ih (k + 1) (by omega)
    refine ⟨⟨?_, ?_, ?_, ?_⟩, by simp [piecesGo, hl]⟩
    · show ValidP (pieceOf _ :: (piecesGo ns sd kind n (k + 1)).1)
      generalize formOf (drawV ns k sd 6) kind = g
      unfold pieceOf
      (repeat' split) <;> first | exact .z h.valid | exact .two 48 (by decide) h.valid | exact .two 49 (by decide) h.valid | exact .two 37 (by decide) h.valid | exact .two 50 (by decide) h.valid | exact .two 45 (by decide) h.valid
    · intro p hp
      rcases List.mem_cons.mp hp with rfl | hp
      · exact pieceOf_len _
      · exact h.two p hp
    · show ((piecesGo ns sd kind n (k + 1)).1).length + 1 ≤ 3
      omega
    · intro hp
      rcases List.mem_cons.mp hp with hp | hp
      · exact pieceOf_two hp.symm
      · exact h.cap hp
theorem PiecesOk.flat {kind : Int} {ps : List (List UInt8)} (h : PiecesOk kind ps) : ps.flatten.length ≤ 6 := by
  have key : ∀ l : List (List UInt8), (∀ p ∈ l, p.length ≤ 2) → l.flatten.length ≤ 2 * l.length := by
    intro l
    induction l with
    | nil => intro _; decide
    | cons x l ih =>
      intro hl
      have := ih fun p hp => hl p (.tail _ hp)
      have := hl x (.head _)
      simp only [List.flatten_cons, List.length_append, List.length_cons]
      omega
  have := key ps h.two
  have := h.len
  omega
/-! the law's statements behind the text -/
theorem caps_len {kind : Int} {text : List UInt8} {s e : Int} {cs : List Cap} (h8 : text.length ≤ 8) (h : lawM kind text s = some (e, cs)) : ∀ c ∈ cs, c.oct.length ≤ 8 := by
  have ht : ∀ a b, (Cap.txt (sl text a b)).oct.length ≤ 8 := fun a b => Nat.le_trans (sl_len _ _ _) h8
  have hp : ∀ i, (Cap.pos i).oct.length ≤ 8 := fun i => by simp [Cap.oct]
  exact lawM_ok (p := fun cs => ∀ c ∈ cs, c.oct.length ≤ 8) (List.forall_mem_nil _) (fun a b => List.forall_mem_cons.mpr ⟨ht _ _, List.forall_mem_nil _⟩) (fun a b c d => List.forall_mem_cons.mpr ⟨ht _ _, List.forall_mem_cons.mpr ⟨ht _ _, List.forall_mem_nil _⟩⟩) (List.forall_mem_cons.mpr ⟨hp _, List.forall_mem_nil _⟩) e cs h
theorem patK_nz {k : Int} (h0 : 0 ≤ k) (h9 : k ≤ 9) : (0 : UInt8) ∉ patK k := by
  have : k = 0 ∨ k = 1 ∨ k = 2 ∨ k = 3 ∨ k = 4 ∨ k = 5 ∨ k = 6 ∨ k = 7 ∨ k = 8 ∨ k = 9 := int10 (by lia) (by lia)
  rcases this with rfl | rfl | rfl | rfl | rfl | rfl | rfl | rfl | rfl | rfl <;> decide
theorem patK_len {k : Int} (h0 : 0 ≤ k) (h9 : k ≤ 9) : (patK k).length ≤ 60 := by
  have : k = 0 ∨ k = 1 ∨ k = 2 ∨ k = 3 ∨ k = 4 ∨ k = 5 ∨ k = 6 ∨ k = 7 ∨ k = 8 ∨ k = 9 := int10 (by lia) (by lia)
  rcases this with rfl | rfl | rfl | rfl | rfl | rfl | rfl | rfl | rfl | rfl <;> decide
theorem caps_two {kind : Int} {text : List UInt8} (h : kind = 2 ∨ kind = 5) {a e : Int} {cs : List Cap} (hm : lawM kind text a = some (e, cs)) : cs.length = 2 := by
  rcases h with rfl | rfl
  · rw [law_2] at hm
    split at hm
    · cases hm; rfl
    · cases hm
  · rw [law_5] at hm
    split at hm
    · cases hm; rfl
    · cases hm
theorem ValidP.percent {ps : List (List UInt8)} (h : ValidP ps) (hn : [37] ∉ ps) : ValidP (ps ++ [[37]]) := by
  induction h with
  | nil => exact .last
  | last => exact absurd (.head _) hn
  | z _ ih => exact .z (ih fun q => hn (.tail _ q))
  | two c hc _ ih => exact .two c hc (ih fun q => hn (.tail _ q))
theorem pieces_np {ns : List Int} {sd kind : Int} : ∀ (n : Nat) (k : Int), [37] ∉ (piecesGo ns sd kind n k).1
  | 0, _ => fun h => nomatch h
  | n + 1, k => by
    intro h
    rcases List.mem_cons.mp h with h | h
    · revert h
      generalize formOf (drawV ns k sd 6) kind = g
      unfold pieceOf
      (repeat' split) <;> (intro e; revert e; decide)
    · exact pieces_np n (k + 1) h
theorem pat_at {f : Int} (h0 : 0 ≤ f) (h9 : f < 10) (t0 t1 t2 t3 t4 t5 t6 t7 t8 t9 : Tok) : ∃ t, ([Value.bytes [37, 98, 40, 41].toArray t0, .bytes [37, 102, 91, 37, 97, 93, 37, 97, 43].toArray t1, .bytes [40, 37, 97, 41, 40, 37, 100, 42, 41].toArray t2, .bytes [40, 41, 37, 97, 63].toArray t3, .bytes [40, 37, 119, 41, 37, 49].toArray t4, .bytes [40, 40, 37, 97, 41, 37, 100, 41].toArray t5,
    .bytes [37, 102, 91, 37, 100, 93, 40, 37, 100, 45, 41, 37, 102, 91, 37, 68, 93].toArray t6] ++ [Value.bytes [37, 102, 91, 37, 122, 93].toArray t7, .bytes [37, 102, 91, 37, 90, 93].toArray t8, .bytes [37, 98, 97, 97].toArray t9])[f.toNat]? = some (.bytes (patK f).toArray t) := by
  have : f = 0 ∨ f = 1 ∨ f = 2 ∨ f = 3 ∨ f = 4 ∨ f = 5 ∨ f = 6 ∨ f = 7 ∨ f = 8 ∨ f = 9 := int10 (by lia) (by lia)
  rcases this with rfl | rfl | rfl | rfl | rfl | rfl | rfl | rfl | rfl | rfl <;> exact ⟨_, rfl⟩
theorem most_at {f : Int} (h0 : 0 ≤ f) (h4 : f < 4) (t0 t1 t2 t3 : Tok) : ∃ t, [Value.int 99 t0, .int 1 t1, .int 2 t2, .int 0 t3][f.toNat]? = some (.int (mostOf f) t) := by
  have : f = 0 ∨ f = 1 ∨ f = 2 ∨ f = 3 := int4 (by lia) (by lia)
  rcases this with rfl | rfl | rfl | rfl <;> exact ⟨_, rfl⟩
noncomputable def lawDef : Stmt := stAt PySem.Challenge.rw_nt0643_01.prog.main.body 49
noncomputable abbrev lawGl : List (Str × Value) := [("_law_draw", .ref 285), ("_law_pieces", .ref 327), ("_law_spans", .ref 341), ("_law_told", .ref 355), ("_law_due", .ref 348), ("_law_is_refused", .ref 362)]
noncomputable abbrev lawBl : List (Str × Value) := [("repr", .builtin "repr"), ("len", .builtin "len")]
noncomputable abbrev lawNames : List Str := ["script", "numbers", "size", "text", "kind", "most", "is_bound", "pattern", "pieces", "spans", "told"]
noncomputable abbrev lawF (L' : Addr) : FD := ⟨"law", scoOf lawDef, 367, .ref 366, [("feed", L' + 1)], lawNames, lawGl, lawBl⟩
section
variable {w : World} {mean : ExcName → Option Value} {mg mb : Str → Option Value} {dp un : Nat} {g : Heap} {L' : Addr}
noncomputable abbrev lawC (w : World) (mean : ExcName → Option Value) (mg mb : Str → Option Value) (dp un : Nat) (g : Heap) (L' : Addr) : Cx := ⟨w, mean, mg, mb, 650, 7300, dp, un, some [], [], g, g, L'⟩
noncomputable abbrev lawP : Flow → Lm → Led → Prop := fun fl _ nw => fl = .ret (.bool true) ∧ ∃ ps, (350, tabObj ps) ∈ nw
theorem kp_327 (w : World) : Kept w (.ref 327) := kept_K (by k_dflt k_is)
theorem kp_341 (w : World) : Kept w (.ref 341) := kept_K (by k_dflt k_is)
theorem kp_348 (w : World) : Kept w (.ref 348) := kept_K (by k_dflt k_is)
theorem kp_355 (w : World) : Kept w (.ref 355) := kept_K (by k_dflt k_is)
/-- kind, most, is_bound, the patterns -/
theorem law_head {NL FD : Addr} {oF : Obj} {nu : List Int} {ys : List Value} {sd k : Int} {tx : List UInt8} {t1 t2 tt : Tok} {cc c2 : Nat} (hys : IntsAre ys nu) (hnu : nu.length ≤ 24) (hd1 : FD ≠ NL) (hap2 : ∀ p ∈ [(L' + 1, oF), (350, tabObj #[])], p.1 ≠ FD ∧ p.1 ≠ NL) (hFd : oF.data = .cell (some (.ref FD))) (hk1 : 1 ≤ k) (hk9 : k ≤ 9)
    (hnext : ∀ (kind most : Int) (bound : Bool) (t1 t2 t3 t4 t5 : Tok) (cc : Nat), 0 ≤ kind → kind < 10 → 0 ≤ most → most ≤ 99 → JSC (lawC w mean mg mb dp un g L') (lawF L') ([("script", none), ("numbers", none), ("size", none), ("text", some (.bytes tx.toArray tt)), ("kind", some (.int kind t1)), ("most", some (.int most t2)), ("is_bound", some (.bool bound)), ("pattern", some (.bytes (patK kind).toArray t3)), ("pieces", none), ("spans", none), ("told", none)] : Lm)
      [(FD, feedO NL (k + 1 + 1 + 1) sd t4 t5 cc), (NL, listOf ys.toArray c2), (L' + 1, oF), (350, tabObj #[])] ((bodyOf lawDef).drop 7) lawP) :
    JSC (lawC w mean mg mb dp un g L') (lawF L') ([("script", none), ("numbers", none), ("size", none), ("text", some (.bytes tx.toArray tt)), ("kind", none), ("most", none), ("is_bound", none), ("pattern", none), ("pieces", none), ("spans", none), ("told", none)] : Lm)
      [(FD, feedO NL k sd t1 t2 cc), (NL, listOf ys.toArray c2), (L' + 1, oF), (350, tabObj #[])] ((bodyOf lawDef).drop 4) lawP := by
  generalize hbd : (bodyOf lawDef).drop 7 = bd at hnext
  generalize hb4 : (bodyOf lawDef).drop 4 = b4
  conv at hbd => lhs; whnf
  conv at hb4 => lhs; whnf
  subst hbd hb4
  obtain ⟨hz0, hz9⟩ := draw_in nu k sd (many := 10) (by decide)
  obtain ⟨hm0, hm4⟩ := draw_in nu (k + 1) sd (many := 4) (by decide)
  refine jsc_js (js_asg3 (S := fun a b d n => A4 ((∃ t, a = .int (drawV nu k sd 10) t)) ((∃ t, b = .int (mostOf (drawV nu (k + 1) sd 4)) t)) ((d = .bool (decide (drawV nu (k + 1 + 1) sd 5 = 1)))) (E3 fun t4 t5 cc => ∀ p ∈ [(FD, feedO NL (k + 1 + 1 + 1) sd t4 t5 cc), (NL, listOf ys.toArray c2), (L' + 1, oF), (350, tabObj #[])], p ∈ n)) ?_ (by end_is "j set") (fun _ => (by end_is "j set")) (fun _ _ => (by end_is "j set")) ?_)
  · refine JX.mono (jx_tupX (Rv := fun vs n => E3 fun a b d => vs = [a, b, d] ∧ A4 ((∃ t, a = .int (drawV nu k sd 10) t)) ((∃ t, b = .int (mostOf (drawV nu (k + 1) sd 4)) t)) ((d = .bool (decide (drawV nu (k + 1 + 1) sd 5 = 1)))) (E3 fun t4 t5 cc => ∀ p ∈ [(FD, feedO NL (k + 1 + 1 + 1) sd t4 t5 cc), (NL, listOf ys.toArray c2), (L' + 1, oF), (350, tabObj #[])], p ∈ n))
      (jargsX_cons (jx_draw (rest := [(L' + 1, oF), (350, tabObj #[])]) (by end_is "j in") (ja_cell rfl rfl (.tail _ (.tail _ (.head _))) hFd) ji_lit hys hd1 (by lia) (by decide) hnu (by lia) hap2) ?_) ?_) ?_
    · rintro _ _ ⟨⟨tz, rfl⟩, t4, t5, c1, rfl⟩
      refine jargsX_cons (jx_menuX (n := drawV nu (k + 1) sd 4) (g := Value.int (mostOf (drawV nu (k + 1) sd 4))) (S := fun n' => E3 fun t4 t5 cc => ∀ p ∈ [(FD, feedO NL (k + 1 + 1) sd t4 t5 cc), (NL, listOf ys.toArray c2), (L' + 1, oF), (350, tabObj #[])], p ∈ n') (jargs_cons ji_lit rfl (jargs_cons ji_lit rfl (jargs_cons ji_lit rfl (jargs_cons ji_lit rfl jargs0)))) ?_ hm0 (by lia) ?_) ?_
      · intro D vs ap
        refine JX.mono (jx_sub (nw' := (FD, feedO NL (k + 1) sd t4 t5 c1) :: (NL, listOf ys.toArray c2) :: [(D, listOf (List.toArray vs) 0), (L' + 1, oF), (350, tabObj #[])]) (jx_draw (by end_is "j in") (ja_cell rfl rfl (.tail _ (.tail _ (.tail _ (.head _)))) hFd) ji_lit hys hd1 (by lia) (by decide) hnu (by lia) (List.forall_mem_cons.mpr ⟨⟨(ap _ (.head _)).symm, (ap _ (.tail _ (.head _))).symm⟩, hap2⟩)) ?_) ?_
        · exact sub_cons (.tail _ (.head _)) (sub_cons (.tail _ (.tail _ (.head _))) (sub_cons (.head _) (sub_tail (sub_tail (sub_tail sub_id)))))
        · rintro v _ ⟨r, t4, t5, cc, rfl⟩
          exact ⟨r, ⟨t4, t5, cc, sub_cons (.head _) (sub_cons (.tail _ (.head _)) (sub_tail (sub_tail (sub_tail sub_id))))⟩, .tail _ (.tail _ (.head _))⟩
      · rintro vs ⟨u0, _, rfl, u1, _, rfl, u2, _, rfl, u3, _, rfl, rfl⟩
        exact ⟨by simp, most_at hm0 hm4 _ _ _ _⟩
      · rintro _ n ⟨⟨tm, rfl⟩, t4, t5, cc, hsub⟩
        refine jargsX_cons (R1 := fun v n => v = .bool (decide (drawV nu (k + 1 + 1) sd 5 = 1)) ∧ E3 fun t4 t5 cc => n = [(FD, feedO NL (k + 1 + 1 + 1) sd t4 t5 cc), (NL, listOf ys.toArray c2), (L' + 1, oF), (350, tabObj #[])]) (JX.bind2 (f := fun a b => compareOp .Eq a b) (t2 := fun _ => eval _ _) (R2 := fun a b n => A3 ((∃ t, a = .int (drawV nu (k + 1 + 1) sd 5) t)) ((∃ u, b = .int 1 u)) (E3 fun t4 t5 cc => n = [(FD, feedO NL (k + 1 + 1 + 1) sd t4 t5 cc), (NL, listOf ys.toArray c2), (L' + 1, oF), (350, tabObj #[])])) (fun _ _ z => wpAny_Compare1 z (bim rfl _))
          (jx_sub (jx_draw (rest := [(L' + 1, oF), (350, tabObj #[])]) (by end_is "j in") (ja_cell rfl rfl (.tail _ (.tail _ (.head _))) hFd) ji_lit hys hd1 (by lia) (by decide) hnu (by lia) hap2) hsub) (fun a n' ⟨r, r'⟩ => JX.mono ji_lit fun b n'' ⟨e, u, e'⟩ => ⟨r, ⟨u, e'⟩, e ▸ r'⟩)
          fun a b n' ⟨⟨t, e⟩, ⟨u, e'⟩, r⟩ => by subst e e'; exact fun s m Q ok hn Fm hm N hQ => cmp_eq _ _ _ _ _ (hQ _ s.heap s.toks n' ⟨rfl, r⟩ Fm N)) ?_
        rintro _ _ ⟨rfl, t4, t5, cc, rfl⟩
        exact jargsX0 ⟨_, _, _, rfl, ⟨tz, rfl⟩, ⟨tm, rfl⟩, rfl, t4, t5, cc, fun _ h => h⟩
    · rintro vs n ⟨a, b, d, rfl, -⟩; simp
    · rintro v n ⟨T, vs, n', rfl, rfl, a, b, d, rfl, r⟩
      exact ⟨T, a, b, d, n', rfl, rfl, r⟩
  · rintro _ _ _ n ⟨⟨tz, rfl⟩, ⟨tm, rfl⟩, rfl, t4, t5, cc, hsub⟩
    refine JG.sub (nw' := [(FD, feedO NL (k + 1 + 1 + 1) sd t4 t5 cc), (NL, listOf ys.toArray c2), (L' + 1, oF), (350, tabObj #[])]) ?_ hsub
    refine jsc_next ?_
    generalize drawV nu k sd 10 = kind at hz0 hz9
    obtain ⟨hm0, hm9⟩ := most_in hm0 hm4
    generalize mostOf (drawV nu (k + 1) sd 4) = most at hm0 hm9
    generalize decide (drawV nu (k + 1 + 1) sd 5 = 1) = bound
    refine jsc_js (js_asgX (jx_list (jargs_cons jb_lit rfl (jargs_cons jb_lit rfl (jargs_cons jb_lit rfl (jargs_cons jb_lit rfl (jargs_cons jb_lit rfl (jargs_cons jb_lit rfl (jargs_cons jb_lit rfl jargs0))))))) ?_) (by end_is "j set") ?_)
    · rintro vs ⟨_, _, rfl, _, _, rfl, _, _, rfl, _, _, rfl, _, _, rfl, _, _, rfl, _, _, rfl, rfl⟩; simp
    rintro _ _ ⟨D, vs, rfl, rfl, ⟨u0, _, rfl, u1, _, rfl, u2, _, rfl, u3, _, rfl, u4, _, rfl, u5, _, rfl, u6, _, rfl, rfl⟩, -⟩
    refine jsc_next (jsc_js (js_asg (ja_menu2 (n := kind) (g := .bytes (patK kind).toArray) (ja_loc (by end_is "j in")) (.head _) (jargs_cons jb_lit rfl (jargs_cons jb_lit rfl (jargs_cons jb_lit rfl jargs0))) (fun _ => ji_loc (by end_is "j in")) hz0 (by lia) ?_) (by end_is "j set") fun tp => ?_))
    · rintro vs ⟨u7, _, rfl, u8, _, rfl, u9, _, rfl, rfl⟩
      exact ⟨by simp, pat_at hz0 hz9 _ _ _ _ _ _ _ _ _ _⟩
    refine jsc_next ((hnext kind most bound tz tm tp t4 t5 cc hz0 hz9 hm0 hm9).sub fun p hp => .tail _ hp)
end
/-! the law's end -/
section
variable {w : World} {mean : ExcName → Option Value} {mg mb : Str → Option Value} {dp un : Nat} {g : Heap} {L' : Addr}
theorem JA.toE {c : Cx} {F : FD} {lm : Lm} {nw : Led} {e : PySem.Expr} {g : Tok → Value} (h : JA c F lm nw e g) : JE c F lm nw e (fun v n => n = nw ∧ ∃ t, v = g t) := h
theorem due_len {text : List UInt8} {ps : List (List UInt8)} (h8 : text.length ≤ 8) (hp : ∀ p ∈ ps, p.length ≤ 2) (hn : ps.length ≤ 4) : ∀ (sp : List Span) (a : Int), (∀ (i : Nat) b e cs, sp[i]? = some (b, e, cs) → ∀ c ∈ cs, c.oct.length ≤ 8) → (dueM text ps a sp).length ≤ 8 + 40 * sp.length
  | [], a, _ => by
    have := sl_len text (some a) none
    rw [dueM]; lia
  | (b, e, cs) :: sp, a, h => by
    have h1 := sl_len text (some a) (some b)
    have h2 := sl_len text (some b) (some e)
    have h3 := piecesM_len (whole := sl text (some b) (some e)) (cs := cs) (by lia) (h 0 b e cs rfl) hp
    have h4 := due_len h8 hp hn sp e fun i b e cs hi => h (i + 1) b e cs (by simpa using hi)
    rw [dueM, List.length_append, List.length_append, List.length_cons]
    lia
theorem law_tail {NL FD : Addr} {oF : Obj} {nu : List Int} {ys : List Value} {sd k kind most : Int} {bound : Bool} {tx : List UInt8} {t1 t2 t3 t4 t5 tt : Tok} {cc c2 : Nat} (hys : IntsAre ys nu) (hnu : nu.length ≤ 24) (hd1 : FD ≠ NL) (hap2 : ∀ p ∈ [(L' + 1, oF), (350, tabObj #[])], p.1 ≠ FD ∧ p.1 ≠ NL) (hFd : oF.data = .cell (some (.ref FD))) (hk1 : 1 ≤ k) (hk9 : k ≤ 20)
    (h8 : Eight tx) (hl8 : tx.length ≤ 8) (hz0 : 0 ≤ kind) (hz9 : kind < 10) (hm0 : 0 ≤ most) (hm9 : most ≤ 99) :
    JSC (lawC w mean mg mb dp un g L') (lawF L') ([("script", none), ("numbers", none), ("size", none), ("text", some (.bytes tx.toArray tt)), ("kind", some (.int kind t1)), ("most", some (.int most t2)), ("is_bound", some (.bool bound)), ("pattern", some (.bytes (patK kind).toArray t3)), ("pieces", none), ("spans", none), ("told", none)] : Lm)
      [(FD, feedO NL k sd t4 t5 cc), (NL, listOf ys.toArray c2), (L' + 1, oF), (350, tabObj #[])] ((bodyOf lawDef).drop 7) lawP := by
  generalize hbd : (bodyOf lawDef).drop 7 = bd
  conv at hbd => lhs; whnf
  subst hbd
  obtain ⟨hd0, hd3⟩ := draw_in nu k sd (many := 3) (by decide)
  have hPk := (pieces_ok (ns := nu) (sd := sd) (kind := kind) (1 + drawV nu k sd 3).toNat (k + 1) (by lia)).1
  have hNp := pieces_np (ns := nu) (sd := sd) (kind := kind) (1 + drawV nu k sd 3).toNat (k + 1)
  refine jsc_js (js_asgX (jx_name2 (ja_glb (by end_is "j in")) (kp_327 _) (ja_cell rfl rfl (.tail _ (.tail _ (.head _))) hFd) (ja_loc (by end_is "j in")) fun _ _ => jx_con (rest := [(L' + 1, oF), (350, tabObj #[])]) (c_pieces hys hd1 (by lia) hnu (by lia) hz0 (by lia)) (Nat.le_of_ble_eq_true rfl) (Nat.le_of_ble_eq_true rfl) (fun p hp => List.mem_append_left _ hp) (fun p hp => .tail _ (.tail _ hp)) (fun p hp hm => ?_)) (by end_is "j set") ?_)
  · simp only [List.map_cons, List.map_nil, List.mem_cons, List.not_mem_nil, or_false] at hm
    exact hm.elim (hap2 p hp).1 (hap2 p hp).2
  rintro _ _ ⟨_, ⟨PL, tk', ts', c', cr, pv, rfl, rfl, hpv⟩, rfl, hapP⟩
  have hP350 : PL ≠ 350 := fun e => hapP (PL, _) (.head _) (350, tabObj #[]) (.tail _ (.head _)) e.symm
  refine jsc_next (JSC.sub (nw' := [(PL, listOf pv.toArray cr), (350, tabObj #[])]) ?_ fun p hp => ?_)
  rotate_left
  · rcases List.mem_cons.mp hp with rfl | hp
    · exact .head _
    · exact .tail _ (.tail _ (.tail _ (.tail _ hp)))
  generalize (piecesGo nu sd kind (1 + drawV nu k sd 3).toNat (k + 1)).1 = pieces at hpv hPk hNp
  clear hapP hap2
  have hFl := hPk.flat
  have hin := reads_in hz0 (by lia) h8 hl8
  have hTold := told_due (most := most) (bound := bound) hz0 (by lia) h8 hl8 hPk.valid (by lia) (fun h a e cs hm => caps_two (hPk.cap h) hm)
  have hFl2 : (pieces ++ [[37]]).flatten = pieces.flatten ++ [37] := by simp
  have hTold2 := told_due (most := most) (bound := bound) (pieces := pieces ++ [[37]]) hz0 (by lia) h8 hl8 (hPk.valid.percent hNp) (by rw [hFl2, List.length_append]; simp only [List.length_cons, List.length_nil]; lia) (fun h a e cs hm => caps_two (hPk.cap (by simpa using h)) hm)
  rw [hFl2] at hTold2
  have hRef := refused_due (text := tx) (kind := kind) (most := most) (bound := bound) hz0 (by lia) h8 hl8
  have hMt := mtOk (text := tx) (kind := kind) (bound := bound) hz0 (by lia) h8 hl8
  have hsn := spans_len (most := most) (bound := bound) hin 20 0 0 (by lia)
  have hge := spans_ge (most := most) (bound := bound) hin 20 0 0 (by lia)
  refine jsc_js (js_asgX (R := fun v n => ∃ own', (E4 fun (R : Addr) (vals : List Value) (led : Led) (cr : Nat) => A3 (v = .ref R) (own' = (R, listOf vals.toArray cr) :: led) (SpansAre (spansGo kind tx most bound 20 0 0) vals led)) ∧ n = own' ++ [(PL, listOf pv.toArray cr), (350, tabObj #[])] ∧ ∀ p ∈ own', ∀ q ∈ [(PL, listOf pv.toArray cr), (350, tabObj #[])], q.1 ≠ p.1)
    (jx_name (ja_glb (by end_is "j in")) (kp_341 _) rfl (jargs4 (ja_loc (by end_is "j in")) (ja_loc (by end_is "j in")) (ja_loc (by end_is "j in")) (ja_loc (by end_is "j in"))) ?_) (by end_is "j set") ?_)
  · rintro vs ⟨_, _, _, _, rfl⟩
    exact jx_con (own := []) (c_spans hz0 (by lia) hl8 (by lia) (by lia) hin) (Nat.le_of_ble_eq_true rfl) (Nat.le_of_ble_eq_true rfl) (fun p hp => nomatch hp) (fun p hp => hp) (fun p hp hm => nomatch hm)
  rintro _ _ ⟨_, ⟨R, vals, led, cs, rfl, rfl, hsp⟩, rfl, hapS⟩
  generalize spansGo kind tx most bound 20 0 0 = sp at *
  have hvl := hsp.len
  have hcaps : ∀ (i : Nat) b e cs, sp[i]? = some (b, e, cs) → 0 ≤ b ∧ b ≤ e ∧ e ≤ (tx.length : Int) ∧ (∀ c ∈ cs, c.oct.length ≤ 8) ∧ ∀ p ∈ pieces ++ [[37]], p = [37, 50] → cs.length ≠ 1 := by
    intro i b e cs hi
    obtain ⟨hb0, hbl, hm⟩ := hge i b e cs hi
    obtain ⟨hbe, hel⟩ := hin b e cs hb0 hbl hm
    refine ⟨hb0, hbe, hel, caps_len hl8 hm, fun p hp e => ?_⟩
    subst e
    have := caps_two (hPk.cap (by simpa using hp)) hm
    lia
  have hpl := hPk.len
  have hpl2 := hPk.two
  have hdue : ∀ {tt' : Tok} {pcs : List (List UInt8)} {qv : List Value} {Q : Addr} {cq : Nat}, BytesAre pcs qv → pcs.length ≤ 4 → (∀ p ∈ pcs, p ∈ pieces ++ [[37]]) → Con w mean mg mb (.ref 348) [.bytes tx.toArray tt', .ref R, .ref Q] ((R, listOf vals.toArray cs) :: (Q, listOf qv.toArray cq) :: led) 30 200 (fun r own' => own' = (R, listOf vals.toArray cs) :: (Q, listOf qv.toArray cq) :: led ∧ ∃ t, r = .bytes (dueM tx pcs 0 sp).toArray t) :=
    fun hb hl hsub => c_due hl8 hsp hb (by lia) hl (fun i b e cs hi => ⟨(hcaps i b e cs hi).1, (hcaps i b e cs hi).2.1, (hcaps i b e cs hi).2.2.1, (hcaps i b e cs hi).2.2.2.1, fun p hp => (hcaps i b e cs hi).2.2.2.2 p (hsub p hp)⟩) fun p hp => by
      rcases List.mem_append.mp (hsub p hp) with h | h
      · exact hpl2 p h
      · rw [List.mem_singleton.mp h]; simp
  have hlen1 : (dueM tx pieces 0 sp).length ≤ 500 := by
    have := due_len (ps := pieces) hl8 hpl2 (by lia) sp 0 fun i b e cs hi => (hcaps i b e cs hi).2.2.2.1
    lia
  have hR350 : R ≠ 350 := fun e => hapS (R, _) (.head _) (350, tabObj #[]) (.tail _ (.head _)) e.symm
  have hl350 : ∀ p ∈ led, p.1 ≠ 350 := fun p hp e => hapS p (.tail _ hp) (350, tabObj #[]) (.tail _ (.head _)) e.symm
  refine jsc_next (jsc_asgC (own := []) (rest' := []) (k := 600) (u := 7000) (S := fun v own' => E6 fun T r k u u' own0 => A4 (toldM tx (patK kind) bound pieces.flatten most = some (r, k)) (v = .ref T) (Tabs own0) (own' = (T, tupO [.bytes r.toArray u, .int k u']) :: own0)) (X := toldM tx (patK kind) bound pieces.flatten most = none) rfl (ja_glb (by end_is "j in")) (kp_355 _) rfl (jargsX_of (jargs5 (ja_loc (by end_is "j in")) (ja_loc (by end_is "j in")) (jb_join (ja_loc (by end_is "j in")) (List.mem_append_right _ (.head _)) hpv (by lia)) (ja_loc (by end_is "j in")) (ja_loc (by end_is "j in")))) (by end_is "j set") ?_ (by rw [hTold]; exact nofun) (Nat.le_of_ble_eq_true rfl) (Nat.le_of_ble_eq_true rfl))
  rintro vs n ⟨rfl, _, _, tj, _, _, rfl⟩
  refine ⟨[(350, tabObj #[])], (PL, listOf pv.toArray cr) :: (R, listOf vals.toArray cs) :: led, c_told (patK_nz hz0 (by lia)) (patK_len hz0 (by lia)) (by lia) (by lia) .fresh hMt, ?_, ?_, ?_, ?_⟩
  · intro p hp
    rw [List.mem_singleton.mp hp]
    exact List.mem_append_right _ (.tail _ (.head _))
  · intro p hp
    rcases List.mem_cons.mp hp with rfl | hp
    · exact List.mem_append_right _ (.head _)
    · exact List.mem_append_left _ hp
  · intro p hp hm
    have hm : p.1 = 350 := List.mem_singleton.mp hm
    rcases List.mem_cons.mp hp with rfl | hp
    · exact hP350 hm
    rcases List.mem_cons.mp hp with rfl | hp
    · exact hR350 hm
    · exact hl350 p hp hm
  rintro _ _ ⟨T, rr, kk, u, u', own0, hr, rfl, hT0, rfl⟩ hapT
  rw [hTold] at hr
  obtain ⟨rfl, rfl⟩ := Prod.mk.inj (Option.some.inj hr)
  generalize hnT : (T, tupO [.bytes (dueM tx pieces 0 sp).toArray u, .int (sp.length : Int) u']) :: own0 ++ ((PL, listOf pv.toArray cr) :: (R, listOf vals.toArray cs) :: led) = nT
  have hTm : (T, tupO [.bytes (dueM tx pieces 0 sp).toArray u, .int (sp.length : Int) u']) ∈ nT := hnT ▸ .head _
  have hOm : ∀ p ∈ own0, p ∈ nT := fun p hp => hnT ▸ List.mem_append_left _ (.tail _ hp)
  have hPm : (PL, listOf pv.toArray cr) ∈ nT := hnT ▸ List.mem_append_right _ (.head _)
  have hRm : (R, listOf vals.toArray cs) ∈ nT := hnT ▸ List.mem_append_right _ (.tail _ (.head _))
  have hLm : ∀ p ∈ led, p ∈ nT := fun p hp => hnT ▸ List.mem_append_right _ (.tail _ (.tail _ hp))
  have hrest : ∀ p ∈ (PL, listOf pv.toArray cr) :: (R, listOf vals.toArray cs) :: led, p ∈ nT := List.forall_mem_cons.mpr ⟨hPm, List.forall_mem_cons.mpr ⟨hRm, hLm⟩⟩
  have hdueIn : ∀ p ∈ (R, listOf vals.toArray cs) :: (PL, listOf pv.toArray cr) :: led, p ∈ nT := List.forall_mem_cons.mpr ⟨hRm, List.forall_mem_cons.mpr ⟨hPm, hLm⟩⟩
  have hne0 : ∀ p ∈ (PL, listOf pv.toArray cr) :: (R, listOf vals.toArray cs) :: led, p.1 ∉ own0.map (·.1) := fun p hp hm => by
    obtain ⟨q, hq, e⟩ := List.mem_map.mp hm
    exact hapT q (.tail _ hq) p hp e.symm
  clear hnT hapT
  refine jsc_js (js_when (b := false) (jt_cmpX (R1 := fun v n => n = nT ∧ ∃ t, v = .str (pairText (dueM tx pieces 0 sp) (sp.length : Int)) t) (R2 := fun a b n => (E2 fun t u => a = .str (pairText (dueM tx pieces 0 sp) (sp.length : Int)) t ∧ b = .str (pairText (dueM tx pieces 0 sp) (sp.length : Int)) u) ∧ ∃ q, n = q :: nT) (jx_name1 (ja_blt (by end_is "j in")) kept_builtin (ja_loc (by end_is "j in")) fun _ => jx_repr rfl (Nat.le_of_ble_eq_true rfl) hTm hlen1 (by lia)) ?_ ?_ (bim rfl _)) (fun h => nomatch h) fun _ => jsc_next ?_)
  · rintro v n ⟨e, t1', rfl⟩
    replace e := e.symm
    subst e
    refine JX.mono (jx_name1X (R := fun v n => (∃ t, v = .str (pairText (dueM tx pieces 0 sp) (sp.length : Int)) t) ∧ ∃ q, n = q :: nT) (ja_blt (by end_is "j in")) kept_builtin (jx_tupX (Rv := fun vs n => (E2 fun t u => vs = [.bytes (dueM tx pieces 0 sp).toArray t, .int (sp.length : Int) u]) ∧ n = nT) (jargsX_cons (R1 := fun v n => n = nT ∧ ∃ t, v = .bytes (dueM tx pieces 0 sp).toArray t) (jx_name3 (ja_glb (by end_is "j in")) (kp_348 _) (ja_loc (by end_is "j in")) (ja_loc (by end_is "j in")) (ja_loc (by end_is "j in")) fun _ _ _ => jx_conK (hdue hpv (by lia) fun p hp => List.mem_append_left _ hp) (Nat.le_of_ble_eq_true rfl) (Nat.le_of_ble_eq_true rfl) hdueIn) ?_) ?_) ?_) ?_
    · rintro v n ⟨e, t, rfl⟩
      replace e := e.symm
      subst e
      refine jargsX_cons (JA.toE (ji_llen (by end_is "j in") (ja_loc (by end_is "j in")) hRm (by lia))) ?_
      rintro v n ⟨e, u, rfl⟩
      exact jargsX0 ⟨⟨t, u, by rw [hvl]⟩, e⟩
    · rintro vs n ⟨⟨t, u, rfl⟩, -⟩; simp
    · rintro v n ⟨T2, vs, n', rfl, rfl, ⟨t, u, rfl⟩, rfl⟩
      exact JX.mono (jx_repr rfl (Nat.le_of_ble_eq_true rfl) (.head _) hlen1 (by lia)) fun v n ⟨e, t, e'⟩ => ⟨⟨t, e'⟩, _, e⟩
    · rintro v n ⟨⟨t, rfl⟩, q, rfl⟩
      exact ⟨⟨_, _, rfl, rfl⟩, q, rfl⟩
  · rintro a b n ⟨⟨t, u, rfl, rfl⟩, q, rfl⟩
    exact ⟨cmp_sne, fun p hp => .tail _ hp⟩
  refine jsc_asgC (own := []) (rest' := []) (k := 600) (u := 7000) (S := fun v own' => E6 fun T r k u u' own0 => A4 (toldM tx (patK kind) bound (pieces.flatten ++ [37]) most = some (r, k)) (v = .ref T) (Tabs own0) (own' = (T, tupO [.bytes r.toArray u, .int k u']) :: own0)) (X := toldM tx (patK kind) bound (pieces.flatten ++ [37]) most = none) rfl (ja_glb (by end_is "j in")) (kp_355 _) rfl (jargsX_of (jargs5 (ja_loc (by end_is "j in")) (ja_loc (by end_is "j in")) (jb_add (jb_join (ja_loc (by end_is "j in")) hPm hpv (by lia)) jb_lit (by simp only [List.length_cons, List.length_nil]; lia)) (ja_loc (by end_is "j in")) (ja_loc (by end_is "j in")))) (by end_is "j set") ?_ (by rw [hTold2]; exact nofun) (Nat.le_of_ble_eq_true rfl) (Nat.le_of_ble_eq_true rfl)
  rintro vs n ⟨e, _, _, tj, _, _, rfl⟩
  replace e := e.symm
  subst e
  refine ⟨own0, (PL, listOf pv.toArray cr) :: (R, listOf vals.toArray cs) :: led, c_told (patK_nz hz0 (by lia)) (patK_len hz0 (by lia)) (by lia) (by simp only [List.length_append, List.length_cons, List.length_nil]; lia) hT0 hMt, hOm, hrest, hne0, ?_⟩
  clear hTm hOm hPm hRm hLm hrest hdueIn hne0 nT
  rintro _ _ ⟨T', rr, kk, u2, u2', own1, hr, rfl, hT1, rfl⟩ hapT
  rw [hTold2] at hr
  obtain ⟨rfl, rfl⟩ := Prod.mk.inj (Option.some.inj hr)
  generalize hnT : (T', tupO [.bytes (dueM tx (pieces ++ [[37]]) 0 sp).toArray u2, .int (sp.length : Int) u2']) :: own1 ++ ((PL, listOf pv.toArray cr) :: (R, listOf vals.toArray cs) :: led) = nT
  have hTm : (T', tupO [.bytes (dueM tx (pieces ++ [[37]]) 0 sp).toArray u2, .int (sp.length : Int) u2']) ∈ nT := hnT ▸ .head _
  have hOm : ∀ p ∈ own1, p ∈ nT := fun p hp => hnT ▸ List.mem_append_left _ (.tail _ hp)
  have hPm : (PL, listOf pv.toArray cr) ∈ nT := hnT ▸ List.mem_append_right _ (.head _)
  have hRm : (R, listOf vals.toArray cs) ∈ nT := hnT ▸ List.mem_append_right _ (.tail _ (.head _))
  have hLm : ∀ p ∈ led, p ∈ nT := fun p hp => hnT ▸ List.mem_append_right _ (.tail _ (.tail _ hp))
  have hRo : R ∉ own1.map (·.1) := fun hm => by
    obtain ⟨q, hq, e⟩ := List.mem_map.mp hm
    exact hapT q (.tail _ hq) (R, _) (.tail _ (.head _)) e.symm
  clear hnT hapT
  refine jsc_js (js_when (b := false) (jt_cmpX (R1 := fun v n => n = nT ∧ ∃ _ : Tok, v = .bytes (dueM tx (pieces ++ [[37]]) 0 sp).toArray u2) (R2 := fun a b n => (∃ t, a = .bytes (dueM tx (pieces ++ [[37]]) 0 sp).toArray u2 ∧ b = .bytes (dueM tx (pieces ++ [[37]]) 0 sp).toArray t) ∧ ∃ q, n = q :: nT) (jv_titem (n := 0) (ja_loc (by end_is "j in")) ji_lit hTm (by decide) (by simp) (by decide) rfl) ?_ ?_ (bim rfl _)) (fun h => nomatch h) fun _ => jsc_next ?_)
  · rintro v n ⟨e, _, rfl⟩
    replace e := e.symm
    subst e
    refine JX.mono (jx_nameX (Rv := fun vs n => E3 fun D qv t6 => A3 (BytesAre (pieces ++ [[37]]) qv) (vs = [.bytes tx.toArray t6, .ref R, .ref D]) (n = (D, listOf qv.toArray 0) :: nT)) (R := fun v n => (∃ t, v = .bytes (dueM tx (pieces ++ [[37]]) 0 sp).toArray t) ∧ ∃ q, n = q :: nT) (ja_glb (by end_is "j in")) (kp_348 _) rfl (jargsX_cons (JA.toE (ja_loc (by end_is "j in"))) ?_) ?_) ?_
    · rintro v n ⟨e, _, rfl⟩
      replace e := e.symm
      subst e
      refine jargsX_cons (JA.toE (ja_loc (by end_is "j in"))) ?_
      rintro v n ⟨e, _, rfl⟩
      replace e := e.symm
      subst e
      refine jargsX_cons (jx_ladd (ja_loc (by end_is "j in")) hPm (jargs_cons jb_lit rfl jargs0) ?_) ?_
      · rintro vs ⟨_, _, rfl, rfl⟩
        have := hpv.len
        simp only [List.length_cons, List.length_nil]; lia
      rintro v n ⟨D, vs, rfl, rfl, tq, _, rfl, rfl⟩
      exact jargsX0 ⟨D, _, _, hpv.snoc _ _, rfl, rfl⟩
    · rintro vs n ⟨D, qv, t6, hq, rfl, rfl⟩
      refine JX.mono (jx_conK (hdue hq (by rw [List.length_append]; simp only [List.length_cons, List.length_nil]; lia) fun p hp => hp) (Nat.le_of_ble_eq_true rfl) (Nat.le_of_ble_eq_true rfl) (List.forall_mem_cons.mpr ⟨.tail _ hRm, List.forall_mem_cons.mpr ⟨.head _, fun p hp => .tail _ (hLm p hp)⟩⟩)) fun v n ⟨e, t, e'⟩ => ⟨⟨t, e'⟩, _, e⟩
    · rintro v n ⟨⟨t, rfl⟩, q, rfl⟩
      exact ⟨⟨t, rfl, rfl⟩, q, rfl⟩
  · rintro a b n ⟨⟨t, rfl, rfl⟩, q, rfl⟩
    exact ⟨fun _ _ _ _ _ h => b_ne (by simpa using h), fun p hp => .tail _ hp⟩
  refine jsc_refused (own := own1) (vals := vals) (k := cs) rfl rfl (by end_is "j in") (ja_loc (by end_is "j in")) (ja_loc (by end_is "j in")) (ja_loc (by end_is "j in")) (ja_loc (by end_is "j in")) rfl (by end_is "j in") hRm hOm hRo (patK_nz hz0 (by lia)) (patK_len hz0 (by lia)) (by lia) hT1 hMt ?_ (Nat.le_of_ble_eq_true rfl) (Nat.le_of_ble_eq_true rfl) fun ps => ⟨rfl, ps, .head _⟩
  rw [hRef]
  constructor
  · intro h e; subst e; exact h (List.length_eq_zero_iff.mp hvl.symm)
  · intro h e; subst e; exact h (List.length_eq_zero_iff.mp hvl)
end
section
variable {w : World} {mean : ExcName → Option Value} {mg mb : Str → Option Value}
theorem heap_noTabs (P : Params) : noTabs (hd.heap_39 P) = true := by kernel_rfl
noncomputable def lawTest : Bool := lawNames.all (fun x => decide ((scoOf lawDef).names.lookup x = some .local) && !(x == ("__debug__" : Str))) && (lawGl.map (·.1) ++ lawBl.map (·.1)).all (fun x => decide ((scoOf lawDef).names.lookup x = some .globalImplicit) && !(x == ("__debug__" : Str)) && decide (x ≠ "__name__")) && decide lawNames.Nodup && decide ((scoOf lawDef).kind = .function)
theorem law_fok {L' : Addr} : FOk w (lawF L') := by
  have hsc : lawTest = true := by kernel_rfl
  simp only [lawTest, Bool.and_eq_true, List.all_eq_true, decide_eq_true_eq, Bool.not_eq_true'] at hsc
  obtain ⟨⟨⟨h1, h2⟩, h3⟩, h4⟩ := hsc
  have hgl : ∀ p ∈ lawGl, nsIn (hd.heap_39 w.params) mainGlobals p.1 = some (some p.2) := by end_is "j gl"
  have hbl : ∀ p ∈ lawBl, nsIn (hd.heap_39 w.params) mainGlobals p.1 = some none ∧ bootBuiltins p.1 = some p.2 := by end_is "j bl"
  exact ⟨h4, h3, h1, fun p hp => ⟨(h2 _ (List.mem_append_left _ (List.mem_map_of_mem hp))).1.1, (h2 _ (List.mem_append_left _ (List.mem_map_of_mem hp))).1.2, hgl p hp⟩,
    fun p hp => ⟨(h2 _ (List.mem_append_right _ (List.mem_map_of_mem hp))).1.1, (h2 _ (List.mem_append_right _ (List.mem_map_of_mem hp))).1.2, (h2 _ (List.mem_append_right _ (List.mem_map_of_mem hp))).2, hbl p hp⟩⟩
theorem law_walk {SL : Addr} {vs : List Value} {ns : List Int} {s : Shared} {dp un : Nat} {Q E : Value → Shared → Prop} (hdp : dp + 690 < recursionLimit) (hun : un + 7500 < cLine) (hsl : s.heap.IsList SL vs.toArray) (hi : IntsAre vs ns) (hlen : ns.length ≤ 63)
    (K : (hd.heap_39 w.params).In s.heap) (hlim : s.heap.NoLimit) (TG : Top topProg gl mean mg mb (ghostOf s.heap [(354, 350)])) (h350 : s.heap.get? 350 = some (tabObj #[]))
    (hQ : ∀ h' tk', LawEnd s.heap h' → Q (.bool true) { s with heap := h', toks := tk' }) :
    wpC (model PySem.Challenge.rw_nt0643_01.row.prog w) (cA dp un (some []) []) (call (.ref 367) [.ref SL]) Q E s := by
  have hFast : MeFast := MeFast.mk
  have hTab : TabsAt [(354, 350)] s.heap := fun q hq => by rw [List.mem_singleton.mp hq]; exact ⟨told_code K, h350⟩
  refine callC_cells (outer := []) (binds := [("script", .ref SL)]) (by k_dflt k_is) (by k_dflt k_is) (by exact BindsTo.of_eq rfl) (by intro n x hx; rw [List.mem_singleton.mp hx]; exact .inl rfl) (by decide) K hlim (by lia) (fun h₁ cells tk hns hk₁ hcl Y => ?_) (by exact rfl) (by exact rfl) (by exact rfl)
  obtain ⟨oF, rfl, hFd⟩ : ∃ oF, cells = [(s.heap.objs.size + 1, oF)] ∧ oF.data = .cell none := by
    cases Y with
    | cons h1 Y =>
      cases Y with
      | nil => exact ⟨_, rfl, h1⟩
  clear Y
  have F₀ : Fr s.heap s.heap.objs.size h₁ _ := ⟨hns, hk₁, Nat.le_refl _⟩
  have F := ghost_fr hTab F₀
  have N := ghost_news hTab F₀ hcl
  have X : (hd.heap_39 w.params).In (ghostOf s.heap [(354, 350)]) := ghost_K hTab K (heap_noTabs _)
  have B : Below (cA dp un (some []) []) (ghostOf s.heap [(354, 350)]) [] (ghostOf s.heap [(354, 350)]) := ⟨rfl, fun _ _ e => e, (ghost_below hTab).frames⟩
  have hslG : (ghostOf s.heap [(354, 350)]).IsList SL vs.toArray := ghost_list hTab hsl
  have T := TG
  clear F₀ hns hcl
  generalize hg : ghostOf s.heap [(354, 350)] = g at F N X B hslG T
  generalize hL : s.heap.objs.size = L' at F N ⊢
  simp only [tabNews, List.map_cons, List.map_nil, List.cons_append, List.nil_append] at N
  refine execsC_any ?_
  refine m_mid (fun fl s' => MeEnd (fl = Flow.next ∧ E6 fun (h' : Heap) (tk' : Nat) (m' : Str → Option Value) (NL : Addr) (ys : List Value) (nu : List Int) => A8 (s' = { s with heap := h', toks := tk' }) (Fr g L' h' m') (m' "numbers" = some (.ref NL)) (IntsAre ys nu) (nu.length ≤ 24) (L' + 1 ≠ NL) (NL ≠ 350) (News g L' h' [(NL, LCg.lst ys), (L' + 1, oF), (350, tabObj #[])]))) ?_ ?_
  · (try k_fold)
    repeat' ((fail_if_success (with_reducible show wpAny _ _ (exec (Stmt.While _ _ _ _) _) _ _ _)); (fail_if_success (with_reducible show wpAny _ _ (exec (Stmt.For _ _ _ _ _) _) _ _ _)); (fail_if_success (with_reducible show wpAny _ _ (exec (Stmt.Raise _ _ _) _) _ _ _)); (first | (k_unfold; (try dsimp only)) | walk1 | (dsimp only; walk1) | (leave1; try dsimp only)))
    (with_reducible rename Fr _ _ _ _ => F)
    (with_reducible rename News _ _ _ _ => N)
    rename_i hI8 _ _ _ _ hne
    unfold MeEnd
    refine ⟨by first | rfl | trivial, _, _, _, _, _, _, rfl, F, by first | rfl | assumption, hI8, ?_, hne.2.1, hne.2.2.symm, cb_drop N ?_⟩
    · rw [List.length_map, List.length_take]; lia
    · intro p hp
      simp only [List.mem_cons, List.not_mem_nil, or_false] at hp ⊢
      rcases hp with rfl | rfl | rfl <;> simp
  · clear F N
    rintro fl s' ⟨rfl, h', tk', m', NL, ys, nu, rfl, F, hm1, hys, hnu, hn1, hn2, N⟩
    dsimp only
    generalize hsd : nu.sum.fmod 97 = sd
    refine execsC_any ?_
    refine m_mid (fun fl s' => MeEnd (fl = Flow.next ∧ E7 fun (h' : Heap) (tk' : Nat) (FD : Addr) (oF : Obj) (t1 t2 : Tok) (c : Nat) => A7 (s' = { s with heap := h', toks := tk' }) (Fr g L' h' m') (oF.data = .cell (some (.ref FD))) (FD ≠ NL) (FD ≠ L' + 1) (FD ≠ 350) (News g L' h' [(FD, feedO NL 0 sd t1 t2 c), (NL, listOf ys.toArray ys.length), (L' + 1, oF), (350, tabObj #[])]))) ?_ ?_
    · (try k_fold)
      repeat' ((fail_if_success (with_reducible show wpAny _ _ (exec (Stmt.While _ _ _ _) _) _ _ _)); (fail_if_success (with_reducible show wpAny _ _ (exec (Stmt.For _ _ _ _ _) _) _ _ _)); (fail_if_success (with_reducible show wpAny _ _ (exec (Stmt.Raise _ _ _) _) _ _ _)); (first | (k_unfold; (try dsimp only)) | walk1 | (dsimp only; walk1) | (leave1; try dsimp only)))
      (with_reducible rename Fr _ _ _ _ => F)
      (with_reducible rename News _ _ _ _ => N)
      rename_i hoD
      rw [hsd] at N
      unfold MeEnd
      exact ⟨by first | rfl | trivial, _, _, _, _, _, _, _, rfl, F, hoD, by k_ne, by k_ne, by k_ne, N⟩
    · clear F N
      rintro fl s' ⟨rfl, h', tk', FD, oF', t1, t2, c, rfl, F, hFd', hd1, hd2, hd3, N⟩
      dsimp only
      have hap2 : ∀ p ∈ [(L' + 1, oF'), (350, tabObj #[])], p.1 ≠ FD ∧ p.1 ≠ NL := by
        intro p hp
        simp only [List.mem_cons, List.not_mem_nil, or_false] at hp
        rcases hp with rfl | rfl
        · exact ⟨hd2.symm, hn1⟩
        · exact ⟨hd3.symm, hn2.symm⟩
      have hoct8 : ys.length = nu.length := hys.length
      obtain ⟨hz0, hz9⟩ := draw_in nu 0 sd (many := 9) (by decide)
      refine execsC_any ?_
      (try k_fold)
      repeat' ((fail_if_success (with_reducible show wpAny _ _ (call (Value.ref _) _) _ _ _)); (first | (k_unfold; (try dsimp only)) | walk1 | (dsimp only; walk1) | (leave1; try dsimp only)))
      (with_reducible rename Fr _ _ _ _ => F)
      (with_reducible rename News _ _ _ _ => N)
      refine' draw_use hys hd1 ?a ?b hnu ?c B F X (rest := [(L' + 1, oF'), (350, tabObj #[])]) N T rfl rfl hap2 ?r1 ?r2 ?_
      case a => decide
      case b => decide
      case c => decide
      case r1 => (first | omega | (dsimp only [Around.deeper, cA, Around.in1, Around.under]; omega))
      case r2 => (first | omega | (dsimp only [Around.deeper, cA, Around.in1, Around.under]; omega))
      clear F N
      intro td h' tk' t1' t2' c' F N
      repeat' ((fail_if_success (with_reducible show wpAny _ _ (exec (Stmt.While _ _ _ _) _) _ _ _)); (fail_if_success (with_reducible show wpAny _ _ (exec (Stmt.For _ _ _ _ _) _) _ _ _)); (fail_if_success (with_reducible show wpAny _ _ (exec (Stmt.Raise _ _ _) _) _ _ _)); (first | (k_unfold; (try dsimp only)) | walk1 | (dsimp only; walk1) | (leave1; try dsimp only)))
      (with_reducible rename Fr _ _ _ _ => F)
      (with_reducible rename News _ _ _ _ => N)
      generalize drawV nu 0 sd 9 = z at *
      refine execsC_any ?_
      refine m_mid (fun fl s' => MeEnd (fl = Flow.next ∧ E9 fun (h' : Heap) (tk' : Nat) (m2 : Str → Option Value) (t1 t2 tt : Tok) (c : Nat) (tx : List UInt8) (k : Int) => A8 (s' = { s with heap := h', toks := tk' }) (Fr g L' h' m2) (m2 "text" = some (.bytes tx.toArray tt)) (Eight tx) (tx.length ≤ 8) (1 ≤ k) (k ≤ 9) (News g L' h' [(FD, feedO NL k sd t1 t2 c), (NL, listOf ys.toArray ys.length), (L' + 1, oF'), (350, tabObj #[])]))) ?_ ?_
      · (try k_fold)
        repeat' ((fail_if_success (with_reducible show wpAny _ _ (eval (PySem.Expr.ListComp _ _ _ _) _) _ _ _)); (fail_if_success (with_reducible show LCg.CompSrc _ _ _ _ _ _ _ _ _ _ _ _ _ _)); (first | (k_unfold; (try dsimp only)) | walk1 | (dsimp only; walk1) | (leave1; try dsimp only)))
        (with_reducible rename Fr _ _ _ _ => F)
        (with_reducible rename News _ _ _ _ => N)
        refine LCg.ListComp_U (cl := [("feed", L' + 1)]) F (by exact rfl) (by decide) rfl (by decide) rfl ?_
        (try k_fold)
        repeat' ((fail_if_success (with_reducible show wpAny _ _ (eval (PySem.Expr.ListComp _ _ _ _) _) _ _ _)); (fail_if_success (with_reducible show LCg.CompSrc _ _ _ _ _ _ _ _ _ _ _ _ _ _)); (first | (k_unfold; (try dsimp only)) | walk1 | (dsimp only; walk1) | (leave1; try dsimp only)))
        (with_reducible rename IsRange _ _ _ _ _ _ _ _ => hIR)
        (with_reducible rename Fr _ _ _ _ => F)
        (with_reducible rename News _ _ _ _ => N)
        refine LCg.CompSrc.range (n := z.toNat) rfl F N hIR (range_small (by lia) (by lia) (by lia) (by lia)) (by rw [range_size]; lia) (by rw [sizeLine_eq]; lia) (fun g2 => ?_)
        clear F N hIR
        refine comp_ind (fun i ysx nw => E4 fun (t1 t2 : Tok) (c : Nat) (tx : List UInt8) => A4 (nw = [(FD, feedO NL ((i : Int) + 1) sd t1 t2 c), (NL, listOf ys.toArray ys.length), (L' + 1, oF'), (350, tabObj #[])]) (tx.length = i) (Eight tx) (IntsAre ysx (tx.map fun b => (b.toNat : Int))))
          ⟨_, _, _, [], by rfl, rfl, (fun _ h => nomatch h), .nil⟩ ?_ ?_
        · rintro i ysx nw hi ⟨t1, t2, c, tx, rfl, htl, h8, hint⟩ v I oI C oC D m₂ h tk E' hv hC hx F N off ne
          obtain ⟨hf0, hf8⟩ := draw_in nu ((i : Int) + 1) sd (many := 8) (by decide)
          (try k_fold)
          repeat' ((fail_if_success (with_reducible show wpAny _ _ (call (Value.ref _) _) _ _ _)); (first | (k_unfold; (try dsimp only)) | walk1 | (dsimp only; walk1) | (leave1; try dsimp only)))
          (with_reducible rename Fr _ _ _ _ => F)
          (with_reducible rename News _ _ _ _ => N)
          (with_reducible rename Addr => M8)
          obtain ⟨⟨oFI, oFC, oFD⟩, ⟨oNI, oNC, oND⟩, ⟨oLI, oLC, oLD⟩, ⟨o3I, o3C, o3D⟩, -⟩ := off
          refine' draw_use hys hd1 ?a ?b hnu ?c B F X (rest := [(M8, _), (I, oI), (C, oC), (D, LCg.lst ysx), (L' + 1, oF'), (350, tabObj #[])]) (cb_drop N ?sub) T rfl rfl ?hap ?r1 ?r2 ?_
          case sub => ((repeat refine List.forall_mem_cons.mpr ⟨by k_mem, ?_⟩); exact List.forall_mem_nil _)
          case a => lia
          case b => decide
          case c => lia
          case r1 => (first | omega | (dsimp only [Around.deeper, cA, Around.in1, Around.under]; omega))
          case r2 => (first | omega | (dsimp only [Around.deeper, cA, Around.in1, Around.under]; omega))
          case hap =>
            intro p hp
            simp only [List.mem_cons, List.not_mem_nil, or_false] at hp
            rcases hp with rfl | rfl | rfl | rfl | rfl | rfl
            · exact ⟨by k_ne, by k_ne⟩
            · exact ⟨Ne.symm oFI, Ne.symm oNI⟩
            · exact ⟨Ne.symm oFC, Ne.symm oNC⟩
            · exact ⟨Ne.symm oFD, Ne.symm oND⟩
            · exact hap2 (L' + 1, oF') (.head _)
            · exact hap2 (350, tabObj #[]) (.tail _ (.head _))
          clear F N
          intro td h' tk' t1' t2' c' F N
          generalize drawV nu ((i : Int) + 1) sd 8 = f at *
          repeat' ((fail_if_success (with_reducible show LCg.CompEnd _ _ _ _ _ _ _ _ _ _ _ _ _ _)); (first | (k_unfold; (try dsimp only)) | walk1 | (dsimp only; walk1) | (leave1; try dsimp only)))
          (with_reducible rename Fr _ _ _ _ => F)
          (with_reducible rename News _ _ _ _ => N)
          rename Tok => tq
          refine LCg.CompEnd.intro F N [(FD, feedO NL ((i : Int) + 1 + 1) sd t1' t2' c'), (NL, listOf ys.toArray ys.length), (L' + 1, oF'), (350, tabObj #[])] (by ((repeat refine List.forall_mem_cons.mpr ⟨by k_mem, ?_⟩); exact List.forall_mem_nil _)) ⟨⟨oFI, oFC, oFD⟩, ⟨oNI, oNC, oND⟩, ⟨oLI, oLC, oLD⟩, ⟨o3I, o3C, o3D⟩, trivial⟩ trivial ⟨t1', t2', c', tx ++ [octOf f], ?_, ?_, ?_, ?_⟩
          · rw [show ((i + 1 : Nat) : Int) + 1 = (i : Int) + 1 + 1 by lia]
          · simp [htl]
          · intro b hb
            rcases List.mem_append.mp hb with hb | hb
            · exact h8 b hb
            · rw [List.mem_singleton.mp hb]; exact oct_eight hf0 hf8
          · rw [List.map_append]
            refine IntsAre.append hint ?_
            show IntsAre [Value.int _ tq] [((octOf f).toNat : Int)]
            rw [← oct_int hf0 hf8]
            exact .cons _ _ .nil
        · rintro ysx nw ⟨t1, t2, c, tx, rfl, htl, h8, hint⟩ D h tk F N off
          obtain ⟨oF1, oN1, oL1, o31, -⟩ := off
          (try k_unfold)
          (try dsimp only)
          repeat' ((fail_if_success (with_reducible show wpAny _ _ (call (Value.type "bytes") _) _ _ _)); (first | (k_unfold; (try dsimp only)) | walk1 | (dsimp only; walk1) | (leave1; try dsimp only)))
          (with_reducible rename Fr _ _ _ _ => F)
          (with_reducible rename News _ _ _ _ => N)
          refine bytes_K (l := D) F N ⟨_, (N _ (.head _)).1, rfl, _, rfl⟩ hint ?_ ?_ rfl ?_
          · intro n hn
            obtain ⟨b, hb, rfl⟩ := List.mem_map.mp hn
            have := b.toNat_lt
            lia
          · rw [hint.length, List.length_map, sizeLine_eq]; lia
          · clear F N
            intro h' tb kb F N _
            rw [map_back]
            repeat' ((fail_if_success (with_reducible show wpAny _ _ (exec (Stmt.While _ _ _ _) _) _ _ _)); (fail_if_success (with_reducible show wpAny _ _ (exec (Stmt.For _ _ _ _ _) _) _ _ _)); (fail_if_success (with_reducible show wpAny _ _ (exec (Stmt.Raise _ _ _) _) _ _ _)); (first | (k_unfold; (try dsimp only)) | walk1 | (dsimp only; walk1) | (leave1; try dsimp only)))
            (with_reducible rename Fr _ _ _ _ => F)
            (with_reducible rename News _ _ _ _ => N)
            unfold MeEnd
            refine ⟨by first | rfl | trivial, _, _, _, t1, t2, _, c, tx, (z.toNat : Int) + 1, rfl, F, by first | rfl | assumption, h8, by lia, by lia, by lia, cb_drop N (fun p hp => .tail _ hp)⟩
      · clear F N
        rintro fl s' ⟨rfl, h', tk', m2, t1, t2, tt, c, tx, k, rfl, F, hmt, h8, hl8, hk1, hk9, N⟩
        dsimp only
        refine (law_head (w := w) (mean := mean) (mg := mg) (mb := mb) (dp := dp) (un := un) (g := g) (L' := L') (tt := tt) hys hnu hd1 hap2 hFd' hk1 hk9 fun kind most bound t1 t2 t3 t4 t5 cc hz0 hz9 hm0 hm9 => law_tail hys hnu hd1 hap2 hFd' (by lia) (by lia) h8 hl8 hz0 hz9 hm0 hm9) { s with heap := h', toks := tk' } m2 _ ⟨law_fok, B, X, T, by show dp + 1 + 650 < recursionLimit; lia, by show un + 3 + 7300 < cLine; lia⟩ rfl F (fun x v hx => ?_) N ?_
        · simp only [List.mem_cons, Prod.mk.injEq, reduceCtorEq, and_false, List.not_mem_nil, or_false, false_or, Option.some.injEq] at hx
          obtain ⟨rfl, rfl⟩ := hx
          exact hmt
        · rintro fl h₂ tk₂ m₃ lm₃ nw₃ ⟨rfl, ps, hps⟩ - F₂ - N₂
          refine hQ h₂ tk₂ ⟨fun b o hb e => F₂.keep b o ?_, ps, (N₂ _ hps).1⟩
          rw [← hg]
          exact hideAll_get _ e (by simpa using hb)
end
/-! the claim -/
theorem law_top : PySem.Challenge.rw_nt0643_01.Holds := by
  refine hd ?_
  intro w s₀ s₁ mg mb G Y fa o pm cd doc dV kV ho hdt hcd hD hmg hg args vals as hpre hlay hrd hwl hlo
  have KX := km_in_of Y
  have h350 := km_tabs_of Y 350 (.head _)
  clear hcd hD hdt ho
  have hnm : lawD.1.name = "law" := by kernel_rfl
  rw [hnm] at hmg
  refine Ground.open G ?_
  intro T B D TE TW
  wrow_args hpre hlay hrd hwl hlo
  have hfa : fa = 367 := by
    have e : nsIn (hd.heap_39 w.params) mainGlobals "law" = some (some (.ref 367)) := by k_dflt k_is
    have h := mg_of KX T.g e
    rw [hmg] at h
    exact Value.ref.inj (Option.some.inj h)
  subst hfa
  clear hmg G Y D TE TW B
  have hTab : TabsAt [(354, 350)] s₁.heap := fun q hq => by rw [List.mem_singleton.mp hq]; exact ⟨told_code KX, h350⟩
  have hgl : gl = looseW vw [] ++ (recsOf vw).map (·.name) ++ (litsOf vw).map (·.1) ++ (clssOf vw (looseW vw [])).map (·.name) := by kernel_rfl
  have TG : Top topProg gl (ExcName.means s₀.heap) mg mb (ghostOf s₁.heap [(354, 350)]) := by
    rw [hgl]
    exact ghost_top hTab T
  rename_i hlen _
  refine law_walk (mean := ExcName.means s₀.heap) (mg := mg) (mb := mb) (dp := 1 + claimMargin) (un := 4) (by decide +kernel) (by decide +kernel) (by assumption) (by assumption) ?len KX T.nolimit TG h350 fun h' tk' x => ?_
  case len => omega
  obtain ⟨keep, ps, hP⟩ := x
  refine ⟨.inl ⟨.bool true, .bool true, [], rfl, fun _ => rfl, .bool true, ?post, fun _ => ⟨List.nodup_nil, fun a ha => nomatch ha⟩⟩, ⟨fun b o e => ?_, fun b o e => ?_⟩, rfl, .of_eq hg⟩
  case post => first | (with_unfolding_all rfl) | kernel_rfl | (simp; done)
  · by_cases hb : b = 350
    · subst hb
      rw [h350] at e
      obtain rfl := Option.some.inj e
      exact .inr (.inl ⟨((hTab _ (.head _)).1.tab (hTab _ (.head _)).2).isCodeTable, rfl, #[], ps, rfl, by rw [Array.empty_append]; exact hP⟩)
    · exact .inl (keep b o hb e)
  · by_cases hb : b = 350
    · subst hb; exact ⟨_, hP⟩
    · exact ⟨o, keep b o hb e⟩
end Mine
theorem PySem.Challenge.cw_nt0643_01_holds : PySem.Challenge.rw_nt0643_01.Holds := by
  exact Mine.law_top

