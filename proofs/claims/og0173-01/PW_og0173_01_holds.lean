import PyProof.Rows.All
import Wide.All
import OpenK.AllK
import Wide.FinOn
import Lean
import PySem.Challenge.RW_og0173_01
set_option Elab.async false
set_option rowWalk.seconds 0

section
open PySem PySem.W PySem.Calls PyProof.Rows PySem.Builtin.Bytes
set_option Elab.async false
set_option maxRecDepth 100000
set_option maxHeartbeats 8000000
set_option linter.unusedVariables false
namespace Mine
open Sem (wp)

def heldBy (self : Value) : Code × Pos → Bool
  | (.builtin "bytearray.__contains__" ⟨v :: _, _⟩, _) | (.builtin "bytearray.__mod__" ⟨v :: _, _⟩, _)
  | (.builtin "bytearray.__rmod__" ⟨_ :: v :: _, _⟩, _) | (.builtin "_struct.pack_into.held" ⟨v :: _, _⟩, _) => Builtin.Bytes.sameRef v self
  | (.builtin "bytearray.find.held" ⟨_ :: _ :: held, _⟩, _) => held.any (Builtin.Bytes.sameRef self)
  | (.builtin id ⟨v :: _, _⟩, _) => Builtin.Bytes.sameRef v self && decodersThatHold.contains id
  | _ => false

def Free (c : Code) : Prop := ∀ self p, heldBy self (c, p) = false
def GoodB (l : List (Code × Pos)) : Prop := ∀ x ∈ l, Free x.1
def Good (Γ : Ctx) : Prop := Free Γ.code ∧ GoodB Γ.below

def wpG {α : Type} (M : Model) (A : Around) (t : Sem α) (Q : α → Shared → Prop) (E : Value → Shared → Prop) (s : Shared) : Prop :=
  ∀ Γ p, Γ.In A → Good Γ → wp M Γ t (fun a _ s' => Q a s') (fun e _ s' => E e s') p s

def codeG (M : Model) (A : Around) (c : Code) (R : Result → Shared → Prop) (s : Shared) : Prop :=
  ∀ Γ p, Γ.code = c → Γ.Below A → GoodB Γ.below → wpCode M Γ R p s

section
variable {α β : Type} {M : Model} {A : Around} {E : Value → Shared → Prop} {s : Shared}

theorem wpG_any {t : Sem α} {Q : α → Shared → Prop} (h : wpAny M A t Q E s) : wpG M A t Q E s := fun Γ p hΓ _ => h Γ p hΓ
theorem codeG_any {c : Code} {R : Result → Shared → Prop} (h : codeAny M A c R s) : codeG M A c R s := fun Γ p hc hΓ _ => h Γ p hc hΓ
theorem wpG_pure {a : α} {Q : α → Shared → Prop} (h : Q a s) : wpG M A (pure a) Q E s := fun _ _ _ _ => h
theorem wpG_mono {t : Sem α} {Q Q' : α → Shared → Prop} {E' : Value → Shared → Prop} (h : wpG M A t Q E s)
    (hQ : ∀ a s, Q a s → Q' a s) (hE : ∀ e s, E e s → E' e s) : wpG M A t Q' E' s :=
  fun Γ p hΓ g => Sem.wp_mono M Γ t (fun a _ s => hQ a s) (fun e _ s => hE e s) p s (h Γ p hΓ g)
theorem wpG_bind {m : Sem α} {f : α → Sem β} {Q : β → Shared → Prop} (h : wpG M A m (fun a s' => wpG M A (f a) Q E s') E s) :
    wpG M A (m >>= f) Q E s := fun Γ p hΓ g => by
  rw [Sem.wp_bind']
  exact Sem.wp_mono M Γ m (fun a p' s' h' => h' Γ p' hΓ g) (fun _ _ _ h' => h') p s (h Γ p hΓ g)
theorem wpG_tryCatch {m : Sem α} {k : Value → Sem α} {Q : α → Shared → Prop} (h : wpG M A m Q (fun e s' => wpG M A (k e) Q E s') s) :
    wpG M A (tryCatch m k) Q E s := fun Γ p hΓ g => by
  rw [Sem.wp_tryCatch']
  exact Sem.wp_mono M Γ m (fun _ _ _ h' => h') (fun e p' s' h' => h' Γ p' hΓ g) p s (h Γ p hΓ g)
theorem wpG_onRaise {m : Sem α} {k : Value → Sem Unit} {Q : α → Shared → Prop}
    (h : wpG M A m Q (fun e s' => wpG M A (k e) (fun _ s'' => E e s'') E s') s) : wpG M A (m.onRaise k) Q E s := fun Γ p hΓ g => by
  rw [Sem.wp_onRaise]
  exact Sem.wp_mono M Γ m (fun _ _ _ h' => h') (fun e p' s' h' => h' Γ p' hΓ g) p s (h Γ p hΓ g)
theorem wpG_attempt {m : Sem α} {Q : Except Value α → Shared → Prop} (h : wpG M A m (fun a => Q (.ok a)) (fun e => Q (.error e)) s) :
    wpG M A m.attempt Q E s := fun Γ p hΓ g => by rw [Sem.wp_attempt]; exact h Γ p hΓ g
theorem wpG_holding {vs : List Value} {m : Sem α} {Q : α → Shared → Prop} (h : wpG M A m Q E s) : wpG M A (holding vs m) Q E s :=
  fun Γ p hΓ g => by rw [Sem.wp_holding]; exact h Γ p hΓ g
theorem wpG_standAt {pos : Pos} {Q : Unit → Shared → Prop} (h : Q () s) : wpG M A (standAt pos) Q E s := fun _ _ _ _ => h
theorem wpG_standAt_bind {pos : Pos} {t : Sem α} {Q : α → Shared → Prop} (h : wpG M A t Q E s) : wpG M A (do standAt pos; t) Q E s := wpG_bind (wpG_standAt h)

theorem codeG_mono {c : Code} {R R' : Result → Shared → Prop} (h : codeG M A c R s) (hR : ∀ r s, R r s → R' r s) : codeG M A c R' s :=
  fun Γ p hc hΓ g => wpCode_mono hR (h Γ p hc hΓ g)
theorem wpG_run {c : Code} {h : Option Value} {Q : Flow → Shared → Prop}
    (hc : codeG M (A.mark h) c (fun r s' => match r with | .ok f => Q f s' | .error e => E e s') s) (hnb : h ≠ some byPass := by intro x; cases x) :
    wpG M A (run c h) Q E s :=
  fun Γ p hΓ g => by
    rw [Sem.wp_run]
    refine hc _ p rfl (hΓ.enter c h p hnb) fun x hx => ?_
    cases hx with
    | head => exact g.1
    | tail _ hx => exact g.2 x hx
theorem wpG_runValue {c : Code} {Q : Value → Shared → Prop}
    (hc : codeG M A c (fun r s' => match r with | .ok (.ret v) => Q v s' | .ok _ => False | .error e => E e s') s) :
    wpG M A (runValue c) Q E s := fun Γ p hΓ g => by
  rw [Sem.wp_runValue]
  refine hc _ p rfl (hΓ.enter c none p (by intro x; cases x)) fun x hx => ?_
  cases hx with
  | head => exact g.1
  | tail _ hx => exact g.2 x hx
theorem wpG_call {f : Value} {pos : List Value} {kw : List (Str × Value)} {Q : Value → Shared → Prop}
    (hc : codeG M A (.call f ⟨pos, kw⟩) (fun r s' => match r with | .ok (.ret v) => Q v s' | .ok _ => False | .error e => E e s') s) :
    wpG M A (call f pos kw) Q E s := wpG_runValue hc
theorem codeG_of_tree {c : Code} {R : Result → Shared → Prop} (hf : Free c)
    (h : wpG M (A.under c) (M.den c) (fun fin s' => match fin with | .done f => R (.ok f) s' | .again c' => c'.quiet = true ∧ codeG M A c' R s')
      (fun e s' => R (.error e) s') s) : codeG M A c R s := fun Γ p hc hΓ g => by
  rw [wpCode_iff_wp, hc]
  refine Sem.wp_mono M Γ _ (fun fin p' s' h' => ?_) (fun _ _ _ h' => h') p s (h Γ p (hc ▸ hΓ.in) ⟨hc ▸ hf, g⟩)
  cases fin with
  | done f => exact h'
  | again c' => exact ⟨h'.1, h'.2 (Γ.goto c') p' rfl (hΓ.goto c') g⟩

theorem free_call {f : Value} {args : Args} : Free (.call f args) := fun _ _ => rfl
theorem free_func {b : List Stmt} {env : Env} : Free (.func b env) := fun _ _ => rfl
theorem free_while {t : PySem.Expr} {b o : List Stmt} {env : Env} : Free (.whileLoop t b o env) := fun _ _ => rfl
theorem exported_eq (self : Value) : exported self = (do return (← stack).any (heldBy self)) := rfl
theorem wpG_exported {self : Value} {Q : Bool → Shared → Prop} (h : Q false s) : wpG M A (exported self) Q E s := fun Γ p _ g => by
  rw [exported_eq]
  show Q (((Γ.code, p) :: Γ.below).any (heldBy self)) s
  have : ((Γ.code, p) :: Γ.below).any (heldBy self) = false := by
    rw [List.any_cons, g.1 self p, Bool.false_or]
    refine List.any_eq_false.mpr fun x hx => ?_
    obtain ⟨c, q⟩ := x
    rw [g.2 _ hx self q]; exact Bool.false_ne_true
  rw [this]; exact h

theorem caller_good : Good ⟨.builtin "claim.caller" {}, none, none, [], none⟩ := ⟨fun _ _ => rfl, fun x hx => by cases hx⟩
theorem wp_of_wpG_done {Γ : Ctx} {t : Sem Fin} {R : Result → Shared → Prop} (hin : Γ.In A) (g : Good Γ)
    (h : wpG M A t (fun fin s' => ∃ f, fin = .done f ∧ R (.ok f) s') (fun e s' => R (.error e) s') s) (p : Pos) :
    wp M Γ t (Sem.finPost M Γ R) (fun e _ s' => R (.error e) s') p s := by
  refine Sem.wp_mono M Γ t (fun fin p' s' h' => ?_) (fun _ _ _ h' => h') p s (h Γ p hin g)
  obtain ⟨f, rfl, hf⟩ := h'
  exact hf
end
end Mine
end

section
open PySem PySem.W PySem.Calls PyProof.Rows PySem.Builtin.Bytes
set_option Elab.async false
set_option maxRecDepth 100000
set_option maxHeartbeats 8000000
set_option linter.unusedVariables false
namespace Mine
open Sem (wp)
section
variable {M : Model} {A : Around} {E : Value → Shared → Prop} {s : Shared} {env : Env}

theorem wpG_execs_cons {st rest} {Q : Flow → Shared → Prop}
    (h : wpG M A (exec st env) (fun f s' => match f with | .next => wpG M A (execs rest env) Q E s' | f => Q f s') E s) :
    wpG M A (execs (st :: rest) env) Q E s := fun Γ p hΓ g => by
  rw [execs_cons, Sem.wp_bind']
  refine Sem.wp_mono M Γ _ (fun f p' s' h' => ?_) (fun _ _ _ h' => h') _ _ (h Γ p hΓ g)
  cases f <;> first | exact h' Γ p' hΓ g | exact h'
theorem wpG_If {test body orelse pos} {Q : Flow → Shared → Prop}
    (h : wpG M A (isTrue test env (eval test env))
      (fun b s₂ => if b then wpG M A (execs body env) Q E s₂ else wpG M A (execs orelse env) Q E s₂) E s) :
    wpG M A (exec (.If test body orelse pos) env) Q E s := by
  rw [exec_If]
  refine wpG_standAt_bind (wpG_bind (wpG_mono h (fun b s₂ h₂ => ?_) fun _ _ x => x))
  cases b <;> exact h₂
theorem wpG_isTrue_Compare1 {l op r pos whole} {Q : Bool → Shared → Prop}
    (h : wpG M A (eval l env) (fun a s₁ => wpAny M A (eval r env) (fun b s₂ => wpAny M A (compareOp op a b)
      (fun c s₃ => wpAny M A (truthy c) Q E s₃) E s₂) E s₁) E s)
    (hm : behindInMarks op r = false := by with_unfolding_all rfl) : wpG M A (isTrue (.Compare l [op] [r] pos) env whole) Q E s := fun Γ p hΓ g => by
  simp only [isTrue_Compare1, markedBehindIn_of_false hm, Sem.wp_bind', Sem.wp_holding, Sem.wp_cmd_standAt, Sem.wp_operate]
  exact Sem.wp_mono M Γ _ (fun a p₁ s₁ h₁ => Sem.wp_mono M Γ _ (fun b _ s₂ h₂ => Sem.wp_mono M Γ _ (fun c p₃ s₃ h₃ => h₃ Γ p₃ hΓ)
    (fun _ _ _ h' => h') _ _ (h₂ Γ _ hΓ)) (fun _ _ _ h' => h') _ _ (h₁ Γ p₁ hΓ)) (fun _ _ _ h' => h') _ _ (h Γ p hΓ g)
theorem wpG_Expr {e pos} {Q : Flow → Shared → Prop} (h : wpG M A (eval e env) (fun v s' => match v with | .ref _ => False | .bytes _ _ => Q .next s' | .none => Q .next s' | _ => False) E s)
    (hi : interactive env = false := by rfl) (hs : swapsWith e none pos.line env = pure false := by rfl) :
    wpG M A (exec (.Expr e pos) env) Q E s := by
  rw [exec_Expr env e pos hi hs]
  refine wpG_standAt_bind (wpG_bind (wpG_mono h (fun v s' h' => ?_) fun _ _ x => x))
  have hv : ∀ a, v ≠ .ref a := fun a hva => by subst hva; exact h'
  rw [dropValue_plain hv]
  refine wpG_pure ?_
  cases v <;> first | exact h' | exact h'.elim
theorem wpG_Assign_Name {x pos' value pos} {Q : Flow → Shared → Prop}
    (h : wpG M A (eval value env) (fun v s₁ => wpAny M A (storeName env x v) (fun _ => Q .next) E s₁) E s)
    (hs : swapsWith value (some (.Name x pos')) pos.line env = pure false := by rfl) :
    wpG M A (exec (.Assign [.Name x pos'] value pos) env) Q E s := by
  rw [exec_Assign_Name env x pos' value pos hs]
  refine wpG_standAt_bind (wpG_bind (wpG_mono h (fun v s₁ h₁ => ?_) fun _ _ x => x))
  refine wpG_standAt_bind (wpG_bind (wpG_any (wpAny_bindName (wpAny_mono h₁ (fun _ _ h => wpG_pure h) fun _ _ x => x))))
theorem wpG_Assign {targets value pos} {Q : Flow → Shared → Prop}
    (hs : swapsWithSole targets value pos.line env = pure false)
    (h : wpG M A (eval value env) (fun v s₁ => wpAny M A (do assignStores env v (← swappedStores targets value env) ((assignEach targets env).map (·.2))) Q E s₁) E s) :
    wpG M A (exec (.Assign targets value pos) env) Q E s := by
  rw [arm_exec_Assign, hs]
  refine wpG_standAt_bind ?_
  show wpG M A (do let v ← eval value env; assignStores env v (← swappedStores targets value env) ((assignEach targets env).map (·.2))) Q E s
  exact wpG_bind (wpG_mono h (fun _ _ x => wpG_any x) fun _ _ x => x)
theorem wpG_runOwn {c : Code} {h : Option Value} {Q : Flow → Shared → Prop}
    (hc : codeG M (A.mark h) c (fun r s' => match r with | .ok f => Q f s' | .error e => cameBackBy M A env E e s') s) (hnb : h ≠ some byPass := by intro x; cases x) :
    wpG M A (runOwn c env h) Q E s := by
  unfold runOwn
  exact wpG_onRaise (wpG_mono (wpG_run hc hnb) (fun _ _ x => x) fun _ _ x => wpG_any x)
theorem wpG_While {test body orelse pos} {Q : Flow → Shared → Prop}
    (h : codeG M A (.whileLoop test body orelse env) (fun r s' => match r with | .ok f => Q f s' | .error e => cameBackBy M A env E e s') s) :
    wpG M A (exec (.While test body orelse pos) env) Q E s := by
  rw [exec_While]; exact wpG_standAt_bind (wpG_runOwn h)
theorem wpG_CallName {x : Str} {p pos : Pos} {args : List Expr} {trees : List (Bool × Sem Value)} {Q : Value → Shared → Prop} (ht : backTo pos (starEach args env) = trees)
    (h : wpAny M A (eval (.Name x p) env) (fun f s₁ => wpG M A (callWith pos f [] trees []) Q E s₁) E s) :
    wpG M A (eval (.Call (.Name x p) args [] pos) env) Q E s := by
  subst ht
  exact wpG_bind (wpG_any h)
theorem wpG_keep {α : Type} {vs : List Value} {m : Sem α} {Q : α → Shared → Prop} (h : wpG M A m Q E s) : wpG M A (m.keep vs) Q E s :=
  fun Γ p hΓ g => by rw [Sem.wp_keep]; exact h Γ p hΓ g
theorem callG_tail {t : Sem Value} {Q : Value → Shared → Prop} (ht : wpG M A t Q E s) : wpG M A (t >>= fun r => holding [r] point >>= fun _ => pure r) Q E s :=
  wpG_bind (wpG_mono ht (fun r s₂ hr => wpG_any (wpAny_bind (wpAny_holding (wpAny_point (wpAny_pure hr))))) fun _ _ x => x)
theorem callG_function {pos : Pos} {a : Addr} {o : Obj} {fd : FuncData} {first : List Value} {args : List (Bool × Sem Value)} {Q : Value → Shared → Prop} (hpl : args.any (·.1) = false) (hlen : args.length ≤ 30)
    (h : wpAny M A (evalArgs (.ref a) true args []) (fun x s₁ => (s₁.heap.get? a = some o ∧ o.data = .func fd) ∧ wpG M A (call (.ref a) (first ++ x.pos) x.kw) Q E s₁) E s) :
    wpG M A (callWith pos (.ref a) first args []) Q E s := by
  unfold callWith
  refine wpG_bind (wpG_any (wpAny_holding (wpAny_mono h (fun x s₁ h₁ => wpG_standAt_bind ?_) fun _ _ x => x)))
  simp only [hpl, List.any_nil, Bool.or_false]
  refine wpG_bind (m := keeperOf (.ref a)) (wpG_any ?_)
  unfold keeperOf
  refine wpAny_bind (wpAny_load h₁.1.1 ?_)
  rw [h₁.1.2]
  refine wpAny_pure ?_
  show wpG M A (if args.length + 2 * ([] : List (Option Str × Sem Value)).length > 30 then (call (.ref a) (first ++ x.pos) x.kw >>= fun r => holding [r] point >>= fun _ => pure r) else (callMarked plainCall (.ref a) (first ++ x.pos) x.kw >>= fun r => holding [r] point >>= fun _ => pure r)) Q E s₁
  rw [if_neg (by simpa using hlen)]
  exact callG_tail (wpG_keep h₁.2)
theorem callG_type {pos : Pos} {T : String} {first : List Value} {args : List (Bool × Sem Value)} {Q : Value → Shared → Prop} (hplain : args.any (·.1) = false)
    (h : wpAny M A (evalArgs (.type T) true args []) (fun a s₁ => wpG M A (call (.type T) (first ++ a.pos) a.kw) Q E s₁) E s) :
    wpG M A (callWith pos (.type T) first args []) Q E s := by
  unfold callWith
  refine wpG_bind (wpG_any (wpAny_holding (wpAny_mono h (fun a s₁ h₁ => wpG_standAt_bind ?_) fun _ _ x => x)))
  simp only [hplain, List.any_nil, Bool.or_false]
  exact wpG_bind (wpG_pure (callG_tail h₁))
theorem callG_builtin {pos : Pos} {id : String} {first : List Value} {args : List (Bool × Sem Value)} {Q : Value → Shared → Prop} (hplain : args.any (·.1) = false)
    (h : wpAny M A (evalArgs (.builtin id) true args []) (fun a s₁ => wpG M A (call (.builtin id) (first ++ a.pos) a.kw) Q E s₁) E s) :
    wpG M A (callWith pos (.builtin id) first args []) Q E s := by
  unfold callWith
  refine wpG_bind (wpG_any (wpAny_holding (wpAny_mono h (fun a s₁ h₁ => wpG_standAt_bind ?_) fun _ _ x => x)))
  simp only [hplain, List.any_nil, Bool.or_false]
  exact wpG_bind (wpG_pure (callG_tail h₁))
theorem wpG_Try {body handlers orelse pos} {Q : Flow → Shared → Prop} (hne : handlers.isEmpty = false)
    (h : wpG M A (execs body env) (fun f s' => match f with | .next => wpAny M A (execs orelse env) Q E s' | f => Q f s')
      (fun e s' => wpAny M A (noteFrame e env) (fun _ s₁ => wpAny M A (setFlight e none) (fun _ s₂ => wpAny M A (handleBy e env handlers) Q E s₂) E s₁) E s') s) :
    wpG M A (exec (.Try body handlers orelse [] pos) env) Q E s := by
  rw [arm_exec_Try]
  refine wpG_standAt_bind ?_
  unfold tryStmt
  refine wpG_bind (m := Sem.attempt (execs body env)) (wpG_attempt (wpG_mono h (fun f s' hf => ?_) fun e s' he => ?_))
  · cases f <;> first | exact wpG_any hf | exact wpG_pure hf
  · refine wpG_any (wpAny_bind (wpAny_mono he (fun _ s₁ h₁ => ?_) fun _ _ x => x))
    rw [hne]
    refine wpAny_bind (wpAny_mono h₁ (fun _ s₂ h₂ => ?_) fun _ _ x => x)
    exact h₂
end

section
variable {prog : Program} {w : World} {A : Around} {E : Value → Shared → Prop} {R : Result → Shared → Prop} {s : Shared}

theorem codeG_func {body env}
    (h : wpG (model prog w) (A.deeper env) (execs body env) (fun f s' => R (.ok (.ret (match f with | .ret v => v | _ => .none))) s')
      (fun e s' => wpAny (model prog w) (A.deeper env) (leaving env e) (fun _ s'' => R (.error e) s'') (fun e' s'' => R (.error e') s'') s') s) :
    codeG (model prog w) A (.func body env) R s := by
  refine codeG_of_tree free_func ?_
  show wpG _ (A.deeper env) (do point; match ← (execs body env).onRaise (leaving env) with | .ret v => ret v | _ => ret .none) _ _ s
  refine wpG_bind (wpG_any (wpAny_point ?_))
  refine wpG_bind (wpG_onRaise (wpG_mono h (fun f s' h' => ?_) fun _ _ h' => wpG_any h'))
  cases f <;> exact wpG_pure h'
theorem codeG_call_function {a : Addr} {args : Args} {o : Obj} {fd : FuncData} {body : List Stmt} (hroom : A.depth < recursionLimit)
    (ho : s.heap.get? a = some o)
    (hd' : o.data = .func fd) (hco : fd.scope.isCoroutine = false) (hgen : fd.scope.isGenerator = false) (hbody : fd.body = .stmts body) (hcd : s.heap.CodeRec fd.code fd.qualname)
    (h : wpAny (model prog w) A.in1 (bindArgs fd args) (fun binds s₁ =>
      wpAny (model prog w) A.in1 (newFunctionEnv fd.scope fd.globals fd.closure binds (fd.qualname ++ ".<locals>.") (some a) fd.code none fd.builtins)
        (fun env s₂ => s₂.heap.NoLimit ∧ codeG (model prog w) A (.func body env) R s₂) (fun e s' => R (.error e) s') s₁) (fun e s' => R (.error e) s') s) :
    codeG (model prog w) A (.call (.ref a) args) R s := by
  refine codeG_of_tree free_call (wpG_any ?_)
  show wpAny _ A.in1 (callAny (.ref a) args) _ _ s
  simp only [callAny]
  refine wpAny_bind (wpAny_load ho ?_)
  obtain ⟨c, oc, vs, tq, hc, hoc, hdc, hq⟩ := hcd
  simp only [hd', callFunction, hco, hgen, hbody, hc]
  rw [hc] at h
  refine wpAny_bind (m := field (.ref c) 1) (wpAny_field hoc hdc hq (wpAny_bind (wpAny_pure ?_)))
  exact wpAny_bind (wpAny_mono h (fun binds s₁ h₁ => wpAny_bind (wpAny_mono h₁ (fun env s₂ h₂ => wpAny_bind (wpAny_enterFrame h₂.1 hroom
    (wpAny_pure (And.intro rfl h₂.2)))) fun _ _ h' => h')) fun _ _ h' => h')
theorem codeG_call_def {a : Addr} {o : Obj} {fd : FuncData} {body : List Stmt} {args : Args} {binds : List (Str × Value)}
    (hroom : A.depth < recursionLimit) (ho : s.heap.get? a = some o) (hdata : o.data = .func fd) (hlim : s.heap.NoLimit) (hcd : s.heap.CodeRec fd.code fd.qualname)
    (hbody : fd.body = .stmts body) (hbind : BindsTo s fd args binds)
    (hcell : ∀ x ∈ fd.scope.names, x.2 ≠ .cell) (hloc : ∀ x ∈ binds, fd.scope.names.lookup x.1 = some .local)
    (h : ∀ h₀, h₀.Ns s.heap.objs.size (fun x => binds.reverse.lookup x) → (∀ b o, s.heap.get? b = some o → h₀.get? b = some o) →
      wpG (model prog w) (A.deeper (callEnv fd s.heap.objs.size a)) (execs body (callEnv fd s.heap.objs.size a)) (fun f s' => R (.ok (.ret (match f with | .ret v => v | _ => .none))) s')
        (fun e s' => wpAny (model prog w) (A.deeper (callEnv fd s.heap.objs.size a)) (leaving (callEnv fd s.heap.objs.size a) e) (fun _ s'' => R (.error e) s'') (fun e' s'' => R (.error e') s'') s')
        { s with heap := h₀, toks := s.toks + binds.length })
    (hco : fd.scope.isCoroutine = false := by rfl) (hgen : fd.scope.isGenerator = false := by rfl) (hk : fd.scope.kind = .function := by rfl) :
    codeG (model prog w) A (.call (.ref a) args) R s := by
  refine codeG_call_function hroom ho hdata hco hgen hbody hcd (hbind _ _ _ _ ?_)
  refine wpAny_newFunctionEnv hcell hloc (fun h₀ hns₀ hsb₀ => ⟨hlim.fresh _ hsb₀, codeG_func (h h₀ hns₀ fun b o e => ?_)⟩) hk
  exact hsb₀.extBut b o (Nat.ne_of_lt (Heap.lt_size e)) (Heap.get?_push_of_some _ e)
end
end Mine
end

section
open PySem PySem.W PySem.Calls PyProof.Rows PySem.Builtin.Bytes
set_option Elab.async false
set_option maxRecDepth 100000
set_option maxHeartbeats 8000000
set_option linter.unusedVariables false
namespace Mine
open Sem (wp)

theorem ends_both_good {prog : Program} {w : World} {t : Sem Fin} {s : Shared} {R : Result → Shared → Prop} (hreg : s.asleep)
    (h : wpG (model prog w) callerA t (fun fin s' => ∃ f, fin = .done f ∧ (R (.ok f) s' ∧ leftWithCleanup s'.gens = false)) (fun e s' => R (.error e) s' ∧ leftWithCleanup s'.gens = false) s) :
    ∃ n r s' s'', runN (denote table) prog w n s ⟨t, .builtin "claim.caller" {}, default, []⟩ = .halted (outcomeOf r) s' ∧
      schedN (denote table) prog w n (.single s ⟨t, .builtin "claim.caller" {}, default, []⟩) = .halted (outcomeOf r) s' ∧ s'.forget = s''.forget ∧ R r s'' := by
  obtain ⟨n, r, s₁, s₂, hs, hn, hfo, hR⟩ := wp_halts_full (M := model prog w) (R := R) hreg (wp_of_wpG_done (R := fun r s' => R r s' ∧ leftWithCleanup s'.gens = false) caller_in caller_good h default)
  exact ⟨n, r, s₂, s₁, hn, hs, hfo, hR⟩

theorem callFrom_good {c : ClaimW} {tree : List Value → Sem Fin} {w : World} {s : Shared} {free : Addr → Prop} {gens : Prop} {kept : Heap → Prop} (hz : s.asleep) (hgens : s.gens = #[])
    (hspec : ∀ args, c.pre args = true → WData.layableAll args = true →
      ∀ ord : List DictEntry → List DictEntry, (∀ l, (ord l).Perm l) →
      ∃ vs s₁, layAllW c.records (classAt s.heap) w.params ord args s = some (vs, s₁) ∧
        wpG (model c.prog w) callerA (tree vs) (fun fin s' => ∃ f, fin = .done f ∧ (c.Ends s args vs s₁ (.ok f) s' ∧ s'.os = s.os ∧ AllBare s'.gens ∧ kept s'.heap))
          (fun e s' => c.Ends s args vs s₁ (.error e) s' ∧ s'.os = s.os ∧ AllBare s'.gens ∧ kept s'.heap) s₁) :
    c.CallFrom (fun vs => ⟨tree vs, .builtin "claim.caller" {}, default, []⟩) w free gens kept s := by
  intro args hpre hlay ord hord
  obtain ⟨vs, s₁, hlaid, hcode⟩ := hspec args hpre hlay ord hord
  have hal := layAllW_rest _ _ _ hlaid
  obtain ⟨k, r, s', s'', hrun, hsched, hfo, hcase, hos, hkp⟩ := ends_both_good (prog := c.prog) (w := w) (t := tree vs) (s := s₁)
    (R := fun r s' => c.Ends s args vs s₁ r s' ∧ s'.os = s.os ∧ kept s'.heap)
    (Shared.asleep_of_life hal.2.2.2 hz)
    (wpG_mono hcode (by
      rintro fin s' ⟨f, e, h1, h2, h3, h4⟩
      exact ⟨f, e, ⟨h1, h2, h4⟩, leftWithCleanup_false_of_bare h3⟩) (by
      rintro e s' ⟨h1, h2, h3, h4⟩
      exact ⟨⟨h1, h2, h4⟩, leftWithCleanup_false_of_bare h3⟩))
  obtain ⟨eh, _, _, eo, _⟩ := Shared.forget_eq hfo
  have hcase := hcase.congr eh
  rw [← eh] at hkp
  rw [← eo] at hos
  have hlife : s'.heap.life = s.heap.life := (runN_life _ _ _ hrun).trans hal.2.2.2
  refine ⟨vs, s₁, hlaid, k, _, s', hsched, ?_, (fun _ i x hx => by rw [hgens] at hx; simp at hx), hkp, by rw [hlife], Shared.rest_eq hos⟩
  rcases hcase with ⟨v, rfl, d1, d2, d3, d4, d5⟩ | ⟨e, ob, cls, rfl, d1, d2, d3, d4, d5⟩
  · exact .inl ⟨v, rfl, d1, d2, d3, fun b o y _ => d4 b o y, d5⟩
  · exact .inr ⟨e, ob, cls, rfl, d1, d2, d3, d4, fun b o y _ => d5 b o y⟩

abbrev WalkGood (q : Program) (loose : List Str) (XP : (Str → Option Value) → Heap → Prop) (YP : World → Heap → Prop) (r : RowW) (d : DefRec) (kwd : List (Str × PySem.Expr)) (run : Value → List Value → Sem Value) : Prop :=
  ∀ (w : World) (s₀ s₁ : Shared) (mg mb : Str → Option Value), Ground q loose r.records XP w s₀ mg mb s₁.heap → YP w s₁.heap → ∀ (a : Addr) (o : Obj) (pm cd doc dV kV : Value), s₁.heap.get? a = some o →
    o.data = .func { docDef d.name d.params d.body d.scope pm cd doc with defaults := dV, kwdefaults := kV } → s₁.heap.CodeRec cd d.name → Dflts mg s₁.heap d.params kwd dV kV → mg d.name = some (.ref a) → s₁.gens = #[] →
    ∀ (args : List WData) (vals : List Value) (as : List Addr), r.claim.pre args = true → WData.layableAll args = true → ReadsAllW r.records (classAt s₀.heap) s₁.heap vals args as → WellAll w.params s₁.heap vals args → (∀ a ∈ as, (a == sysModules) = false) →
      wpG (model r.prog w) callerA (run (.ref a) vals) (fun v s' => GoodWG r.claim (classAt s₀.heap) (ExcName.means s₀.heap) args s₁ (.ok (.ret v)) s')
        (fun e s' => GoodWG r.claim (classAt s₀.heap) (ExcName.means s₀.heap) args s₁ (.error e) s') s₁

theorem PySem.W.holds_open {r : OpenRow} {q : Program} {loose : List Str} {Xt : Shared → Bool} {XP : (Str → Option Value) → Heap → Prop} {α : Type} {Yf : Shared → α} {Ya : World → α} {YP : World → Heap → Prop} {d : DefRec} {kwd : List (Str × PySem.Expr)} {N : Nat}
    (left : LeftO r.prog q loose Xt Yf Ya N) (hY : ∀ w s, Yf s = Ya w → YP w s.heap) (hYk : ∀ w h h', YP w h → (∀ b o, h.get? b = some o → h'.get? b = some o) → YP w h')
    (hX : ∀ s, Xt s = true → XP (s.heap.nsMap mainGlobals) s.heap) (hXk : ∀ mg h h', XP mg h → (∀ b o, h.get? b = some o → h'.get? b = some o) → XP mg h')
    (hdef : defOf q r.name = some (d, kwd)) (hp : r.prog.theDef r.name = some (d.params, d.body, d.scope)) (hk : kwWritten? d.params.kwonlyargs d.params.kw_defaults = some kwd) (hRf : ∀ s, Xt s = true → RecFacts r.records s.heap) (hwr : (!r.writes || r.records.isEmpty) = true)
    (k1 : r.wellSaid = true) (ok : (chainsOk q && opensWell r.prog && (frees r.toRowW && r.within.isEmpty)) = true) (hb : r.prog.bare) (hw : r.toRowW.promised)
    (call : WalkGood q loose XP YP r.toRowW d kwd fun f vs => PySem.call f vs) : r.Holds := by
  refine ⟨k1, hw, ?_⟩
  obtain ⟨ok, k5⟩ := Bool.and_eq_true_iff.mp ok
  obtain ⟨hch, o1⟩ := Bool.and_eq_true_iff.mp ok
  obtain ⟨k5, k6⟩ := Bool.and_eq_true_iff.mp k5
  obtain ⟨hsame, hu, ha, hap, hm⟩ := frees_parts k5
  refine ⟨⟨hb, o1, by show r.toRowW.makers.map _ = []; rw [hm]; rfl⟩, hw.witness, fun w => ⟨(left.behind hX hch w).1, fun s' hs' => ?_⟩⟩
  obtain ⟨s₀, hf, hg0, s, hT, hz, hgens, hg, G00, y⟩ := (left.behind (XP := fun mg h => XP mg h ∧ RecFacts r.records h) (fun s hs => ⟨hX s hs, hRf s hs⟩) hch w).2 s' hs'
  have G0 : Ground q loose [] XP w s (s.heap.nsMap mainGlobals) (s.heap.nsMap builtinsNs) s.heap := ⟨G00.T, G00.B, G00.D, G00.TE, G00.TD, G00.W, G00.X.1, G00.cls, G00.has, G00.apart, G00.once, G00.K⟩
  have RF := G00.X.2
  have hT' := hT
  refine ⟨s₀, hf, hg0, s, hT, fun n hn => ?_, RF.1, RF.2.1, ?_⟩
  · obtain rfl : n = r.name := by split at hn <;> simp_all
    exact pinned_of_view hg G0 hdef hp hk
  have hgens : s.gens = #[] := Array.eq_empty_of_size_eq_zero (beq_iff_eq.mp hgens)
  have G : Ground q loose r.toRowW.records XP w s _ _ s.heap := RF.ground G0
  refine callFrom_good (c := r.toRowW.claim) hz hgens fun args hpre hlay ord hord => ?_
  obtain ⟨⟨vs, s₁⟩, hlaid⟩ := Option.isSome_iff_exists.mp (layAllW_isSome (P := w.params) (ord := ord) G.has args r.toRowW.args s (pre_splitW hpre).1)
  have keeps := layAllW_keeps _ _ _ hlaid
  have hal := layAllW_rest _ _ _ hlaid
  obtain ⟨as, hrd, hin, hold⟩ := reads_layAllW hord _ _ _ hlaid hlay s₁.heap (fun _ _ e => e)
  have L : Laid r.toRowW.records w s s₁ args vs as := ⟨⟨ord, hord, hlaid⟩, hrd, hin, hold, keeps, hal.1.trans hgens, hal.2.2.1⟩
  have G₁ := G.keeps hXk keeps
  obtain ⟨a, o, pm, cd, doc, dV, kV, h1, h2, h3, h4, h5⟩ := G₁.fn hdef
  have h := call w s s₁ _ _ G₁ (hYk _ _ _ (hY w s y) keeps) a o pm cd doc dV kV h2 h3 h4 h5 (defOf_name hdef ▸ h1) L.gens args vs as hpre hlay L.reads L.well (L.low G.low)
  have hi := ident_freeW hu ha hap
  have hwi : r.toRowW.claim.within = [] := List.isEmpty_iff.mp k6
  refine ⟨vs, s₁, hlaid, wpG_bind (wpG_any (wpAny_nsGet G₁.T.g ?_))⟩
  rw [h1]
  refine wpG_bind (wpG_mono h (fun v s' g => wpG_pure ⟨_, rfl, ?_⟩) fun e s' g => ?_)
  · have z := g.laid (c := r.toRowW.claim) hsame hwi hi L
    exact ⟨z.1, z.2.1, z.2.2, fun q => ⟨namesKept_of hT' hg _ keeps g.2.1.old, noTable hwr q⟩⟩
  · have z := g.laid (c := r.toRowW.claim) hsame hwi hi L
    exact ⟨z.1, z.2.1, z.2.2, fun q => ⟨namesKept_of hT' hg _ keeps g.2.1.old, noTable hwr q⟩⟩
end Mine
end

section
open PySem PySem.W PyProof.Rows
set_option Elab.async false
set_option maxRecDepth 100000
set_option maxHeartbeats 8000000
namespace Mine
local macro_rules | `(tactic| walk_at "zz") => `(tactic| fail)
theorem kw_H175 : True := by k_with_none; w_top off; trivial
noncomputable def hd173.view_39 : Program := PySem.W.view Challenge.rw_og0173_01.row.prog [1, 2, 4, 5, 6, 8, 9, 10, 11, 12, 13, 14, 16, 17, 18, 19, 20, 21, 22, 23, 24, 25, 26, 27, 28, 29, 30, 32, 33, 34, 35, 37, 38, 39]
noncomputable def stAt : List Stmt → Nat → Stmt
  | s :: _, 0 => s
  | _ :: r, n + 1 => stAt r n
  | [], _ => .Pass default
noncomputable def atSt (i : Nat) : Stmt := stAt Challenge.pw_og0173_01.main.body i
noncomputable def inSt (i j : Nat) : Stmt := match atSt i with
  | .ClassDef _ _ _ b .. => stAt b j
  | _ => .Pass default
noncomputable def fo (st : Stmt) (qual : Str) (d kd : Value) (mod : Str) (t : Tok) (c : Addr) : Obj := match st with
  | .FunctionDef name args body _ _ _ scope .. => { cls := Value.type "function", data := Data.func { name := name, qualname := qual, params := args, body := FuncBody.stmts body, scope := scope, globals := 3, closure := [], defaults := d, kwdefaults := kd, pyModule := Value.str mod t, code := Value.ref c } }
  | _ => { cls := Value.none }
noncomputable def hd173.heap_39 : Params → Frag := fun P =>
  (nat_lit 2, { cls := Value.none, data := Data.dict #[{ hash := PyData.keyHash P (Str.ofString "type.__subclasses__.Exception.0"), key := Value.str (Str.ofString "type.__subclasses__.Exception.0") 225, val := Value.int 39 0 }, { hash := PyData.keyHash P (Str.ofString "type.__subclasses__.Exception.n"), key := Value.str (Str.ofString "type.__subclasses__.Exception.n") 226, val := Value.int 1 0 }] 2 }) ::
  (nat_lit 3, { cls := Value.type "dict", data := Data.dict #[{ hash := PyData.keyHash P (Str.ofString "__name__"), key := Value.str (Str.ofString "__name__") 165, val := Value.str (Str.ofString "law_og0173_01") 608 }, { hash := PyData.keyHash P (Str.ofString "__doc__"), key := Value.str (Str.ofString "__doc__") 166, val := Value.none }, { hash := PyData.keyHash P (Str.ofString "__package__"), key := Value.str (Str.ofString "__package__") 167, val := Value.none }, { hash := PyData.keyHash P (Str.ofString "__loader__"), key := Value.str (Str.ofString "__loader__") 168, val := Value.builtin "__main__.__loader__#opaque" }, { hash := PyData.keyHash P (Str.ofString "__spec__"), key := Value.str (Str.ofString "__spec__") 169, val := Value.none }, { hash := PyData.keyHash P (Str.ofString "__annotations__"), key := Value.str (Str.ofString "__annotations__") 170, val := Value.ref 6 }, { hash := PyData.keyHash P (Str.ofString "__builtins__"), key := Value.str (Str.ofString "__builtins__") 171, val := Value.ref 4 }, { hash := PyData.keyHash P (Str.ofString "__file__"), key := Value.str (Str.ofString "__file__") 173, val := Value.str (Str.ofString "/claim/cut.py") 172 }, { hash := PyData.keyHash P (Str.ofString "__cached__"), key := Value.str (Str.ofString "__cached__") 174, val := Value.none }, { hash := PyData.keyHash P (Str.ofString "PaperError"), key := Value.str (Str.ofString "PaperError") 228, val := Value.ref 39 }, { hash := PyData.keyHash P (Str.ofString "FilterFault"), key := Value.str (Str.ofString "FilterFault") 244, val := Value.ref 52 }, { hash := PyData.keyHash P (Str.ofString "OCTET"), key := Value.str (Str.ofString "OCTET") 248, val := Value.int 8 247 }, { hash := PyData.keyHash P (Str.ofString "low_bits"), key := Value.str (Str.ofString "low_bits") 256, val := Value.ref 61 }, { hash := PyData.keyHash P (Str.ofString "BitsIn"), key := Value.str (Str.ofString "BitsIn") 329, val := Value.ref 114 }, { hash := PyData.keyHash P (Str.ofString "greatest_length"), key := Value.str (Str.ofString "greatest_length") 338, val := Value.ref 125 }, { hash := PyData.keyHash P (Str.ofString "tally_of"), key := Value.str (Str.ofString "tally_of") 347, val := Value.ref 132 }, { hash := PyData.keyHash P (Str.ofString "room_left"), key := Value.str (Str.ofString "room_left") 356, val := Value.ref 139 }, { hash := PyData.keyHash P (Str.ofString "is_full"), key := Value.str (Str.ofString "is_full") 363, val := Value.ref 146 }, { hash := PyData.keyHash P (Str.ofString "is_over"), key := Value.str (Str.ofString "is_over") 370, val := Value.ref 153 }, { hash := PyData.keyHash P (Str.ofString "symbols_of"), key := Value.str (Str.ofString "symbols_of") 376, val := Value.ref 158 }, { hash := PyData.keyHash P (Str.ofString "Decoder"), key := Value.str (Str.ofString "Decoder") 418, val := Value.ref 182 }, { hash := PyData.keyHash P (Str.ofString "END"), key := Value.str (Str.ofString "END") 422, val := Value.int 256 421 }, { hash := PyData.keyHash P (Str.ofString "SUM_BASE"), key := Value.str (Str.ofString "SUM_BASE") 424, val := Value.int 65521 423 }, { hash := PyData.keyHash P (Str.ofString "length_rows"), key := Value.str (Str.ofString "length_rows") 435, val := Value.ref 193 }, { hash := PyData.keyHash P (Str.ofString "distance_rows"), key := Value.str (Str.ofString "distance_rows") 446, val := Value.ref 200 }, { hash := PyData.keyHash P (Str.ofString "length_order"), key := Value.str (Str.ofString "length_order") 454, val := Value.ref 207 }, { hash := PyData.keyHash P (Str.ofString "fixed_lengths"), key := Value.str (Str.ofString "fixed_lengths") 460, val := Value.ref 214 }, { hash := PyData.keyHash P (Str.ofString "repeated"), key := Value.str (Str.ofString "repeated") 469, val := Value.ref 221 }, { hash := PyData.keyHash P (Str.ofString "read_lengths"), key := Value.str (Str.ofString "read_lengths") 486, val := Value.ref 228 }, { hash := PyData.keyHash P (Str.ofString "is_usable"), key := Value.str (Str.ofString "is_usable") 493, val := Value.ref 235 }, { hash := PyData.keyHash P (Str.ofString "read_decoders"), key := Value.str (Str.ofString "read_decoders") 502, val := Value.ref 242 }, { hash := PyData.keyHash P (Str.ofString "read_part"), key := Value.str (Str.ofString "read_part") 515, val := Value.ref 249 }, { hash := PyData.keyHash P (Str.ofString "lay_part"), key := Value.str (Str.ofString "lay_part") 527, val := Value.ref 256 }, { hash := PyData.keyHash P (Str.ofString "read_stored"), key := Value.str (Str.ofString "read_stored") 535, val := Value.ref 263 }, { hash := PyData.keyHash P (Str.ofString "block_decoders"), key := Value.str (Str.ofString "block_decoders") 545, val := Value.ref 270 }, { hash := PyData.keyHash P (Str.ofString "inflate_into"), key := Value.str (Str.ofString "inflate_into") 559, val := Value.ref 277 }, { hash := PyData.keyHash P (Str.ofString "inflate"), key := Value.str (Str.ofString "inflate") 570, val := Value.ref 285 }, { hash := PyData.keyHash P (Str.ofString "adler"), key := Value.str (Str.ofString "adler") 580, val := Value.ref 292 }, { hash := PyData.keyHash P (Str.ofString "check_frame"), key := Value.str (Str.ofString "check_frame") 587, val := Value.ref 299 }, { hash := PyData.keyHash P (Str.ofString "check_sum"), key := Value.str (Str.ofString "check_sum") 598, val := Value.ref 306 }, { hash := PyData.keyHash P (Str.ofString "zlib_decoded"), key := Value.str (Str.ofString "zlib_decoded") 607, val := Value.ref 313 }, { hash := PyData.keyHash P (Str.ofString "_law_ask"), key := Value.str (Str.ofString "_law_ask") 618, val := Value.ref 320 }, { hash := PyData.keyHash P (Str.ofString "_law_joined"), key := Value.str (Str.ofString "_law_joined") 631, val := Value.ref 327 }, { hash := PyData.keyHash P (Str.ofString "law"), key := Value.str (Str.ofString "law") 637, val := Value.ref 332 }] 44 }) ::
  (nat_lit 15, { cls := Value.type "tuple", data := Data.seq #[Value.type "Exception"] }) ::
  (nat_lit 22, { cls := Value.type "tuple", data := Data.seq #[Value.int (-1) 202] }) ::
  (nat_lit 23, { cls := Value.type "tuple", data := Data.seq #[] }) ::
  (nat_lit 25, { cls := Value.type "tuple", data := Data.seq #[Value.str (Str.ofString "self") 206, Value.str (Str.ofString "what") 207, Value.str (Str.ofString "at") 208] }) ::
  (nat_lit 26, { cls := Value.type "tuple", data := Data.seq #[] }) ::
  (nat_lit 28, { cls := Value.type "code", data := Data.fields #[Value.str (Str.ofString "__init__") 203, Value.str (Str.ofString "PaperError.__init__") 204, Value.str (Str.ofString "/claim/cut.py") 205, Value.int 4 0, Value.int 3 0, Value.int 0 0, Value.int 0 0, Value.int 3 0, Value.ref 23, Value.bool true, Value.int 181 0, Value.ref 24, Value.none, Value.ref 25, Value.ref 26, Value.ref 27, Value.int 209 0, Value.int 4 0, Value.str (Str.ofString "/claim/cut.py") 210] }) ::
  (nat_lit 29, fo (inSt 1 0) "PaperError.__init__" (Value.ref 22) (Value.none) "paperhold.errors" 187 28) ::
  (nat_lit 30, { cls := Value.type "tuple", data := Data.seq #[] }) ::
  (nat_lit 32, { cls := Value.type "tuple", data := Data.seq #[Value.str (Str.ofString "self") 215] }) ::
  (nat_lit 33, { cls := Value.type "tuple", data := Data.seq #[] }) ::
  (nat_lit 35, { cls := Value.type "code", data := Data.fields #[Value.str (Str.ofString "told") 212, Value.str (Str.ofString "PaperError.told") 213, Value.str (Str.ofString "/claim/cut.py") 214, Value.int 9 0, Value.int 1 0, Value.int 0 0, Value.int 0 0, Value.int 3 0, Value.ref 30, Value.bool true, Value.int 181 0, Value.ref 31, Value.none, Value.ref 32, Value.ref 33, Value.ref 34, Value.int 216 0, Value.int 9 0, Value.str (Str.ofString "/claim/cut.py") 217] }) ::
  (nat_lit 36, fo (inSt 1 1) "PaperError.told" (Value.none) (Value.none) "paperhold.errors" 187 35) ::
  (nat_lit 37, { cls := Value.type "tuple", data := Data.seq #[Value.str (Str.ofString "at") 219, Value.str (Str.ofString "what") 220] }) ::
  (nat_lit 38, { cls := Value.type "dict", data := Data.dict #[{ hash := PyData.keyHash P (Str.ofString "__module__"), key := Value.str (Str.ofString "__module__") 196, val := Value.str (Str.ofString "paperhold.errors") 187 }, { hash := PyData.keyHash P (Str.ofString "__firstlineno__"), key := Value.str (Str.ofString "__firstlineno__") 200, val := Value.int 2 199 }, { hash := PyData.keyHash P (Str.ofString "__init__"), key := Value.str (Str.ofString "__init__") 211, val := Value.ref 29 }, { hash := PyData.keyHash P (Str.ofString "told"), key := Value.str (Str.ofString "told") 218, val := Value.ref 36 }, { hash := PyData.keyHash P (Str.ofString "__static_attributes__"), key := Value.str (Str.ofString "__static_attributes__") 221, val := Value.ref 37 }, { hash := PyData.keyHash P (Str.ofString "__weakref__"), key := Value.str (Str.ofString "__weakref__") 223, val := Value.ref 40 }, { hash := PyData.keyHash P (Str.ofString "__doc__"), key := Value.str (Str.ofString "__doc__") 224, val := Value.none }] 3 }) ::
  (nat_lit 39, { cls := Value.type "type", data := Data.cls { name := Str.ofString "PaperError", bases := [Value.type "Exception"], mro := [Value.ref 39, Value.type "Exception", Value.type "BaseException", Value.type "object"], ns := 38, qualname := Str.ofString "PaperError", subclasses := [Value.ref 52] }, slots := #[some (Value.ref 15), none, some (Value.str (Str.ofString "PaperError") 189), some (Value.str (Str.ofString "PaperError") 197), some (Value.builtin "Exception.__new__"), some (Value.bool true)] }) ::
  (nat_lit 40, { cls := Value.type "getset_descriptor", data := Data.fields #[Value.str (Str.ofString "__weakref__") 222, Value.ref 39, Value.builtin "ExceptionGroup.__weakref__", Value.none] }) ::
  (nat_lit 43, { cls := Value.type "tuple", data := Data.seq #[Value.ref 39] }) ::
  (nat_lit 50, { cls := Value.type "tuple", data := Data.seq #[] }) ::
  (nat_lit 51, { cls := Value.type "dict", data := Data.dict #[{ hash := PyData.keyHash P (Str.ofString "__module__"), key := Value.str (Str.ofString "__module__") 236, val := Value.str (Str.ofString "paperhold.errors") 187 }, { hash := PyData.keyHash P (Str.ofString "__firstlineno__"), key := Value.str (Str.ofString "__firstlineno__") 240, val := Value.int 11 239 }, { hash := PyData.keyHash P (Str.ofString "__static_attributes__"), key := Value.str (Str.ofString "__static_attributes__") 241, val := Value.ref 50 }, { hash := PyData.keyHash P (Str.ofString "__doc__"), key := Value.str (Str.ofString "__doc__") 242, val := Value.none }] 2 }) ::
  (nat_lit 52, { cls := Value.type "type", data := Data.cls { name := Str.ofString "FilterFault", bases := [Value.ref 39], mro := [Value.ref 52, Value.ref 39, Value.type "Exception", Value.type "BaseException", Value.type "object"], ns := 51, qualname := Str.ofString "FilterFault" }, slots := #[some (Value.ref 43), none, some (Value.str (Str.ofString "FilterFault") 229), some (Value.str (Str.ofString "FilterFault") 237), some (Value.builtin "Exception.__new__"), some (Value.bool true)] }) ::
  (nat_lit 55, { cls := Value.type "tuple", data := Data.seq #[] }) ::
  (nat_lit 57, { cls := Value.type "tuple", data := Data.seq #[Value.str (Str.ofString "value") 252, Value.str (Str.ofString "count") 253] }) ::
  (nat_lit 58, { cls := Value.type "tuple", data := Data.seq #[] }) ::
  (nat_lit 60, { cls := Value.type "code", data := Data.fields #[Value.str (Str.ofString "low_bits") 249, Value.str (Str.ofString "low_bits") 250, Value.str (Str.ofString "/claim/cut.py") 251, Value.int 15 0, Value.int 2 0, Value.int 0 0, Value.int 0 0, Value.int 3 0, Value.ref 55, Value.bool true, Value.int 181 0, Value.ref 56, Value.none, Value.ref 57, Value.ref 58, Value.ref 59, Value.int 254 0, Value.int 15 0, Value.str (Str.ofString "/claim/cut.py") 255] }) ::
  (nat_lit 61, fo (atSt 5) "low_bits" (Value.none) (Value.none) "paperhold.bits" 245 60) ::
  (nat_lit 69, { cls := Value.type "tuple", data := Data.seq #[Value.int 0 269] }) ::
  (nat_lit 70, { cls := Value.type "tuple", data := Data.seq #[] }) ::
  (nat_lit 72, { cls := Value.type "tuple", data := Data.seq #[Value.str (Str.ofString "self") 273, Value.str (Str.ofString "data") 274, Value.str (Str.ofString "at") 275] }) ::
  (nat_lit 73, { cls := Value.type "tuple", data := Data.seq #[] }) ::
  (nat_lit 75, { cls := Value.type "code", data := Data.fields #[Value.str (Str.ofString "__init__") 270, Value.str (Str.ofString "BitsIn.__init__") 271, Value.str (Str.ofString "/claim/cut.py") 272, Value.int 19 0, Value.int 3 0, Value.int 0 0, Value.int 0 0, Value.int 3 0, Value.ref 70, Value.bool true, Value.int 181 0, Value.ref 71, Value.none, Value.ref 72, Value.ref 73, Value.ref 74, Value.int 276 0, Value.int 19 0, Value.str (Str.ofString "/claim/cut.py") 277] }) ::
  (nat_lit 76, fo (inSt 6 0) "BitsIn.__init__" (Value.ref 69) (Value.none) "paperhold.bits" 245 75) ::
  (nat_lit 77, { cls := Value.type "tuple", data := Data.seq #[] }) ::
  (nat_lit 79, { cls := Value.type "tuple", data := Data.seq #[Value.str (Str.ofString "self") 282] }) ::
  (nat_lit 80, { cls := Value.type "tuple", data := Data.seq #[] }) ::
  (nat_lit 82, { cls := Value.type "code", data := Data.fields #[Value.str (Str.ofString "left") 279, Value.str (Str.ofString "BitsIn.left") 280, Value.str (Str.ofString "/claim/cut.py") 281, Value.int 25 0, Value.int 1 0, Value.int 0 0, Value.int 0 0, Value.int 3 0, Value.ref 77, Value.bool true, Value.int 181 0, Value.ref 78, Value.none, Value.ref 79, Value.ref 80, Value.ref 81, Value.int 283 0, Value.int 25 0, Value.str (Str.ofString "/claim/cut.py") 284] }) ::
  (nat_lit 83, fo (inSt 6 1) "BitsIn.left" (Value.none) (Value.none) "paperhold.bits" 245 82) ::
  (nat_lit 84, { cls := Value.type "tuple", data := Data.seq #[] }) ::
  (nat_lit 86, { cls := Value.type "tuple", data := Data.seq #[Value.str (Str.ofString "self") 289, Value.str (Str.ofString "count") 290] }) ::
  (nat_lit 87, { cls := Value.type "tuple", data := Data.seq #[] }) ::
  (nat_lit 89, { cls := Value.type "code", data := Data.fields #[Value.str (Str.ofString "need") 286, Value.str (Str.ofString "BitsIn.need") 287, Value.str (Str.ofString "/claim/cut.py") 288, Value.int 28 0, Value.int 2 0, Value.int 0 0, Value.int 0 0, Value.int 3 0, Value.ref 84, Value.bool true, Value.int 181 0, Value.ref 85, Value.none, Value.ref 86, Value.ref 87, Value.ref 88, Value.int 291 0, Value.int 28 0, Value.str (Str.ofString "/claim/cut.py") 292] }) ::
  (nat_lit 90, fo (inSt 6 2) "BitsIn.need" (Value.none) (Value.none) "paperhold.bits" 245 89) ::
  (nat_lit 91, { cls := Value.type "tuple", data := Data.seq #[] }) ::
  (nat_lit 93, { cls := Value.type "tuple", data := Data.seq #[Value.str (Str.ofString "self") 297, Value.str (Str.ofString "count") 298, Value.str (Str.ofString "value") 299] }) ::
  (nat_lit 94, { cls := Value.type "tuple", data := Data.seq #[] }) ::
  (nat_lit 96, { cls := Value.type "code", data := Data.fields #[Value.str (Str.ofString "take") 294, Value.str (Str.ofString "BitsIn.take") 295, Value.str (Str.ofString "/claim/cut.py") 296, Value.int 32 0, Value.int 2 0, Value.int 0 0, Value.int 0 0, Value.int 3 0, Value.ref 91, Value.bool true, Value.int 181 0, Value.ref 92, Value.none, Value.ref 93, Value.ref 94, Value.ref 95, Value.int 300 0, Value.int 32 0, Value.str (Str.ofString "/claim/cut.py") 301] }) ::
  (nat_lit 97, fo (inSt 6 3) "BitsIn.take" (Value.none) (Value.none) "paperhold.bits" 245 96) ::
  (nat_lit 98, { cls := Value.type "tuple", data := Data.seq #[] }) ::
  (nat_lit 100, { cls := Value.type "tuple", data := Data.seq #[Value.str (Str.ofString "self") 306] }) ::
  (nat_lit 101, { cls := Value.type "tuple", data := Data.seq #[] }) ::
  (nat_lit 103, { cls := Value.type "code", data := Data.fields #[Value.str (Str.ofString "align") 303, Value.str (Str.ofString "BitsIn.align") 304, Value.str (Str.ofString "/claim/cut.py") 305, Value.int 43 0, Value.int 1 0, Value.int 0 0, Value.int 0 0, Value.int 3 0, Value.ref 98, Value.bool true, Value.int 181 0, Value.ref 99, Value.none, Value.ref 100, Value.ref 101, Value.ref 102, Value.int 307 0, Value.int 43 0, Value.str (Str.ofString "/claim/cut.py") 308] }) ::
  (nat_lit 104, fo (inSt 6 4) "BitsIn.align" (Value.none) (Value.none) "paperhold.bits" 245 103) ::
  (nat_lit 105, { cls := Value.type "tuple", data := Data.seq #[] }) ::
  (nat_lit 107, { cls := Value.type "tuple", data := Data.seq #[Value.str (Str.ofString "self") 313, Value.str (Str.ofString "count") 314] }) ::
  (nat_lit 108, { cls := Value.type "tuple", data := Data.seq #[] }) ::
  (nat_lit 110, { cls := Value.type "code", data := Data.fields #[Value.str (Str.ofString "octets") 310, Value.str (Str.ofString "BitsIn.octets") 311, Value.str (Str.ofString "/claim/cut.py") 312, Value.int 47 0, Value.int 2 0, Value.int 0 0, Value.int 0 0, Value.int 3 0, Value.ref 105, Value.bool true, Value.int 181 0, Value.ref 106, Value.none, Value.ref 107, Value.ref 108, Value.ref 109, Value.int 315 0, Value.int 47 0, Value.str (Str.ofString "/claim/cut.py") 316] }) ::
  (nat_lit 111, fo (inSt 6 5) "BitsIn.octets" (Value.none) (Value.none) "paperhold.bits" 245 110) ::
  (nat_lit 112, { cls := Value.type "tuple", data := Data.seq #[Value.str (Str.ofString "at") 318, Value.str (Str.ofString "count") 319, Value.str (Str.ofString "data") 320, Value.str (Str.ofString "held") 321] }) ::
  (nat_lit 113, { cls := Value.type "dict", data := Data.dict #[{ hash := PyData.keyHash P (Str.ofString "__module__"), key := Value.str (Str.ofString "__module__") 264, val := Value.str (Str.ofString "paperhold.bits") 245 }, { hash := PyData.keyHash P (Str.ofString "__firstlineno__"), key := Value.str (Str.ofString "__firstlineno__") 268, val := Value.int 17 267 }, { hash := PyData.keyHash P (Str.ofString "__init__"), key := Value.str (Str.ofString "__init__") 278, val := Value.ref 76 }, { hash := PyData.keyHash P (Str.ofString "left"), key := Value.str (Str.ofString "left") 285, val := Value.ref 83 }, { hash := PyData.keyHash P (Str.ofString "need"), key := Value.str (Str.ofString "need") 293, val := Value.ref 90 }, { hash := PyData.keyHash P (Str.ofString "take"), key := Value.str (Str.ofString "take") 302, val := Value.ref 97 }, { hash := PyData.keyHash P (Str.ofString "align"), key := Value.str (Str.ofString "align") 309, val := Value.ref 104 }, { hash := PyData.keyHash P (Str.ofString "octets"), key := Value.str (Str.ofString "octets") 317, val := Value.ref 111 }, { hash := PyData.keyHash P (Str.ofString "__static_attributes__"), key := Value.str (Str.ofString "__static_attributes__") 322, val := Value.ref 112 }, { hash := PyData.keyHash P (Str.ofString "__dict__"), key := Value.str (Str.ofString "__dict__") 324, val := Value.ref 115 }, { hash := PyData.keyHash P (Str.ofString "__weakref__"), key := Value.str (Str.ofString "__weakref__") 326, val := Value.ref 116 }, { hash := PyData.keyHash P (Str.ofString "__doc__"), key := Value.str (Str.ofString "__doc__") 327, val := Value.none }] 4 }) ::
  (nat_lit 114, { cls := Value.type "type", data := Data.cls { name := Str.ofString "BitsIn", bases := [Value.type "object"], mro := [Value.ref 114, Value.type "object"], ns := 113, qualname := Str.ofString "BitsIn" }, slots := #[none, none, some (Value.str (Str.ofString "BitsIn") 257), some (Value.str (Str.ofString "BitsIn") 265), some (Value.builtin "object.__new__"), some (Value.bool true)] }) ::
  (nat_lit 115, { cls := Value.type "getset_descriptor", data := Data.fields #[Value.str (Str.ofString "__dict__") 323, Value.ref 114, Value.builtin "function.__dict__", Value.builtin "function.__dict__#set"] }) ::
  (nat_lit 116, { cls := Value.type "getset_descriptor", data := Data.fields #[Value.str (Str.ofString "__weakref__") 325, Value.ref 114, Value.builtin "ExceptionGroup.__weakref__", Value.none] }) ::
  (nat_lit 119, { cls := Value.type "tuple", data := Data.seq #[] }) ::
  (nat_lit 121, { cls := Value.type "tuple", data := Data.seq #[Value.str (Str.ofString "lengths") 335] }) ::
  (nat_lit 122, { cls := Value.type "tuple", data := Data.seq #[] }) ::
  (nat_lit 124, { cls := Value.type "code", data := Data.fields #[Value.str (Str.ofString "greatest_length") 332, Value.str (Str.ofString "greatest_length") 333, Value.str (Str.ofString "/claim/cut.py") 334, Value.int 53 0, Value.int 1 0, Value.int 0 0, Value.int 0 0, Value.int 3 0, Value.ref 119, Value.bool true, Value.int 181 0, Value.ref 120, Value.none, Value.ref 121, Value.ref 122, Value.ref 123, Value.int 336 0, Value.int 53 0, Value.str (Str.ofString "/claim/cut.py") 337] }) ::
  (nat_lit 125, fo (atSt 8) "greatest_length" (Value.none) (Value.none) "paperhold.huffman" 330 124) ::
  (nat_lit 126, { cls := Value.type "tuple", data := Data.seq #[] }) ::
  (nat_lit 128, { cls := Value.type "tuple", data := Data.seq #[Value.str (Str.ofString "lengths") 342, Value.str (Str.ofString "tally") 343, Value.str (Str.ofString "length") 344] }) ::
  (nat_lit 129, { cls := Value.type "tuple", data := Data.seq #[] }) ::
  (nat_lit 131, { cls := Value.type "code", data := Data.fields #[Value.str (Str.ofString "tally_of") 339, Value.str (Str.ofString "tally_of") 340, Value.str (Str.ofString "/claim/cut.py") 341, Value.int 55 0, Value.int 1 0, Value.int 0 0, Value.int 0 0, Value.int 3 0, Value.ref 126, Value.bool true, Value.int 181 0, Value.ref 127, Value.none, Value.ref 128, Value.ref 129, Value.ref 130, Value.int 345 0, Value.int 55 0, Value.str (Str.ofString "/claim/cut.py") 346] }) ::
  (nat_lit 132, fo (atSt 9) "tally_of" (Value.none) (Value.none) "paperhold.huffman" 330 131) ::
  (nat_lit 133, { cls := Value.type "tuple", data := Data.seq #[] }) ::
  (nat_lit 135, { cls := Value.type "tuple", data := Data.seq #[Value.str (Str.ofString "lengths") 351, Value.str (Str.ofString "room") 352, Value.str (Str.ofString "taken") 353] }) ::
  (nat_lit 136, { cls := Value.type "tuple", data := Data.seq #[] }) ::
  (nat_lit 138, { cls := Value.type "code", data := Data.fields #[Value.str (Str.ofString "room_left") 348, Value.str (Str.ofString "room_left") 349, Value.str (Str.ofString "/claim/cut.py") 350, Value.int 61 0, Value.int 1 0, Value.int 0 0, Value.int 0 0, Value.int 3 0, Value.ref 133, Value.bool true, Value.int 181 0, Value.ref 134, Value.none, Value.ref 135, Value.ref 136, Value.ref 137, Value.int 354 0, Value.int 61 0, Value.str (Str.ofString "/claim/cut.py") 355] }) ::
  (nat_lit 139, fo (atSt 10) "room_left" (Value.none) (Value.none) "paperhold.huffman" 330 138) ::
  (nat_lit 140, { cls := Value.type "tuple", data := Data.seq #[] }) ::
  (nat_lit 142, { cls := Value.type "tuple", data := Data.seq #[Value.str (Str.ofString "lengths") 360] }) ::
  (nat_lit 143, { cls := Value.type "tuple", data := Data.seq #[] }) ::
  (nat_lit 145, { cls := Value.type "code", data := Data.fields #[Value.str (Str.ofString "is_full") 357, Value.str (Str.ofString "is_full") 358, Value.str (Str.ofString "/claim/cut.py") 359, Value.int 66 0, Value.int 1 0, Value.int 0 0, Value.int 0 0, Value.int 3 0, Value.ref 140, Value.bool true, Value.int 181 0, Value.ref 141, Value.none, Value.ref 142, Value.ref 143, Value.ref 144, Value.int 361 0, Value.int 66 0, Value.str (Str.ofString "/claim/cut.py") 362] }) ::
  (nat_lit 146, fo (atSt 11) "is_full" (Value.none) (Value.none) "paperhold.huffman" 330 145) ::
  (nat_lit 147, { cls := Value.type "tuple", data := Data.seq #[] }) ::
  (nat_lit 149, { cls := Value.type "tuple", data := Data.seq #[Value.str (Str.ofString "lengths") 367] }) ::
  (nat_lit 150, { cls := Value.type "tuple", data := Data.seq #[] }) ::
  (nat_lit 152, { cls := Value.type "code", data := Data.fields #[Value.str (Str.ofString "is_over") 364, Value.str (Str.ofString "is_over") 365, Value.str (Str.ofString "/claim/cut.py") 366, Value.int 68 0, Value.int 1 0, Value.int 0 0, Value.int 0 0, Value.int 3 0, Value.ref 147, Value.bool true, Value.int 181 0, Value.ref 148, Value.none, Value.ref 149, Value.ref 150, Value.ref 151, Value.int 368 0, Value.int 68 0, Value.str (Str.ofString "/claim/cut.py") 369] }) ::
  (nat_lit 153, fo (atSt 12) "is_over" (Value.none) (Value.none) "paperhold.huffman" 330 152) ::
  (nat_lit 154, { cls := Value.type "tuple", data := Data.seq #[] }) ::
  (nat_lit 157, { cls := Value.type "code", data := Data.fields #[Value.str (Str.ofString "symbols_of") 371, Value.str (Str.ofString "symbols_of") 372, Value.str (Str.ofString "/claim/cut.py") 373, Value.int 70 0, Value.int 1 0, Value.int 0 0, Value.int 0 0, Value.int 3 0, Value.ref 154, Value.bool true, Value.int 181 0, Value.ref 155, Value.none, Value.none, Value.none, Value.ref 156, Value.int 374 0, Value.int 70 0, Value.str (Str.ofString "/claim/cut.py") 375] }) ::
  (nat_lit 158, fo (atSt 13) "symbols_of" (Value.none) (Value.none) "paperhold.huffman" 330 157) ::
  (nat_lit 166, { cls := Value.type "tuple", data := Data.seq #[] }) ::
  (nat_lit 168, { cls := Value.type "tuple", data := Data.seq #[Value.str (Str.ofString "self") 392, Value.str (Str.ofString "lengths") 393] }) ::
  (nat_lit 169, { cls := Value.type "tuple", data := Data.seq #[] }) ::
  (nat_lit 171, { cls := Value.type "code", data := Data.fields #[Value.str (Str.ofString "__init__") 389, Value.str (Str.ofString "Decoder.__init__") 390, Value.str (Str.ofString "/claim/cut.py") 391, Value.int 80 0, Value.int 2 0, Value.int 0 0, Value.int 0 0, Value.int 3 0, Value.ref 166, Value.bool true, Value.int 181 0, Value.ref 167, Value.none, Value.ref 168, Value.ref 169, Value.ref 170, Value.int 394 0, Value.int 80 0, Value.str (Str.ofString "/claim/cut.py") 395] }) ::
  (nat_lit 172, fo (inSt 14 0) "Decoder.__init__" (Value.none) (Value.none) "paperhold.huffman" 330 171) ::
  (nat_lit 173, { cls := Value.type "tuple", data := Data.seq #[] }) ::
  (nat_lit 175, { cls := Value.type "tuple", data := Data.seq #[Value.str (Str.ofString "self") 400, Value.str (Str.ofString "bits") 401, Value.str (Str.ofString "code") 402, Value.str (Str.ofString "first") 403, Value.str (Str.ofString "place") 404, Value.str (Str.ofString "taken") 405] }) ::
  (nat_lit 176, { cls := Value.type "tuple", data := Data.seq #[] }) ::
  (nat_lit 178, { cls := Value.type "code", data := Data.fields #[Value.str (Str.ofString "read") 397, Value.str (Str.ofString "Decoder.read") 398, Value.str (Str.ofString "/claim/cut.py") 399, Value.int 86 0, Value.int 2 0, Value.int 0 0, Value.int 0 0, Value.int 3 0, Value.ref 173, Value.bool true, Value.int 181 0, Value.ref 174, Value.none, Value.ref 175, Value.ref 176, Value.ref 177, Value.int 406 0, Value.int 86 0, Value.str (Str.ofString "/claim/cut.py") 407] }) ::
  (nat_lit 179, fo (inSt 14 1) "Decoder.read" (Value.none) (Value.none) "paperhold.huffman" 330 178) ::
  (nat_lit 180, { cls := Value.type "tuple", data := Data.seq #[Value.str (Str.ofString "symbols") 409, Value.str (Str.ofString "tally") 410] }) ::
  (nat_lit 181, { cls := Value.type "dict", data := Data.dict #[{ hash := PyData.keyHash P (Str.ofString "__module__"), key := Value.str (Str.ofString "__module__") 384, val := Value.str (Str.ofString "paperhold.huffman") 330 }, { hash := PyData.keyHash P (Str.ofString "__firstlineno__"), key := Value.str (Str.ofString "__firstlineno__") 388, val := Value.int 78 387 }, { hash := PyData.keyHash P (Str.ofString "__init__"), key := Value.str (Str.ofString "__init__") 396, val := Value.ref 172 }, { hash := PyData.keyHash P (Str.ofString "read"), key := Value.str (Str.ofString "read") 408, val := Value.ref 179 }, { hash := PyData.keyHash P (Str.ofString "__static_attributes__"), key := Value.str (Str.ofString "__static_attributes__") 411, val := Value.ref 180 }, { hash := PyData.keyHash P (Str.ofString "__dict__"), key := Value.str (Str.ofString "__dict__") 413, val := Value.ref 183 }, { hash := PyData.keyHash P (Str.ofString "__weakref__"), key := Value.str (Str.ofString "__weakref__") 415, val := Value.ref 184 }, { hash := PyData.keyHash P (Str.ofString "__doc__"), key := Value.str (Str.ofString "__doc__") 416, val := Value.none }] 4 }) ::
  (nat_lit 182, { cls := Value.type "type", data := Data.cls { name := Str.ofString "Decoder", bases := [Value.type "object"], mro := [Value.ref 182, Value.type "object"], ns := 181, qualname := Str.ofString "Decoder" }, slots := #[none, none, some (Value.str (Str.ofString "Decoder") 377), some (Value.str (Str.ofString "Decoder") 385), some (Value.builtin "object.__new__"), some (Value.bool true)] }) ::
  (nat_lit 183, { cls := Value.type "getset_descriptor", data := Data.fields #[Value.str (Str.ofString "__dict__") 412, Value.ref 182, Value.builtin "function.__dict__", Value.builtin "function.__dict__#set"] }) ::
  (nat_lit 184, { cls := Value.type "getset_descriptor", data := Data.fields #[Value.str (Str.ofString "__weakref__") 414, Value.ref 182, Value.builtin "ExceptionGroup.__weakref__", Value.none] }) ::
  (nat_lit 187, { cls := Value.type "tuple", data := Data.seq #[] }) ::
  (nat_lit 189, { cls := Value.type "tuple", data := Data.seq #[Value.str (Str.ofString "bases") 428, Value.str (Str.ofString "extras") 429, Value.str (Str.ofString "base") 430, Value.str (Str.ofString "place") 431, Value.str (Str.ofString "extra") 432] }) ::
  (nat_lit 190, { cls := Value.type "tuple", data := Data.seq #[] }) ::
  (nat_lit 192, { cls := Value.type "code", data := Data.fields #[Value.str (Str.ofString "length_rows") 425, Value.str (Str.ofString "length_rows") 426, Value.str (Str.ofString "/claim/cut.py") 427, Value.int 100 0, Value.int 0 0, Value.int 0 0, Value.int 0 0, Value.int 3 0, Value.ref 187, Value.bool true, Value.int 181 0, Value.ref 188, Value.none, Value.ref 189, Value.ref 190, Value.ref 191, Value.int 433 0, Value.int 100 0, Value.str (Str.ofString "/claim/cut.py") 434] }) ::
  (nat_lit 193, fo (atSt 18) "length_rows" (Value.none) (Value.none) "paperhold.inflate" 419 192) ::
  (nat_lit 194, { cls := Value.type "tuple", data := Data.seq #[] }) ::
  (nat_lit 196, { cls := Value.type "tuple", data := Data.seq #[Value.str (Str.ofString "bases") 439, Value.str (Str.ofString "extras") 440, Value.str (Str.ofString "base") 441, Value.str (Str.ofString "place") 442, Value.str (Str.ofString "extra") 443] }) ::
  (nat_lit 197, { cls := Value.type "tuple", data := Data.seq #[] }) ::
  (nat_lit 199, { cls := Value.type "code", data := Data.fields #[Value.str (Str.ofString "distance_rows") 436, Value.str (Str.ofString "distance_rows") 437, Value.str (Str.ofString "/claim/cut.py") 438, Value.int 110 0, Value.int 0 0, Value.int 0 0, Value.int 0 0, Value.int 3 0, Value.ref 194, Value.bool true, Value.int 181 0, Value.ref 195, Value.none, Value.ref 196, Value.ref 197, Value.ref 198, Value.int 444 0, Value.int 110 0, Value.str (Str.ofString "/claim/cut.py") 445] }) ::
  (nat_lit 200, fo (atSt 19) "distance_rows" (Value.none) (Value.none) "paperhold.inflate" 419 199) ::
  (nat_lit 201, { cls := Value.type "tuple", data := Data.seq #[] }) ::
  (nat_lit 203, { cls := Value.type "tuple", data := Data.seq #[Value.str (Str.ofString "order") 450, Value.str (Str.ofString "place") 451] }) ::
  (nat_lit 204, { cls := Value.type "tuple", data := Data.seq #[] }) ::
  (nat_lit 206, { cls := Value.type "code", data := Data.fields #[Value.str (Str.ofString "length_order") 447, Value.str (Str.ofString "length_order") 448, Value.str (Str.ofString "/claim/cut.py") 449, Value.int 120 0, Value.int 0 0, Value.int 0 0, Value.int 0 0, Value.int 3 0, Value.ref 201, Value.bool true, Value.int 181 0, Value.ref 202, Value.none, Value.ref 203, Value.ref 204, Value.ref 205, Value.int 452 0, Value.int 120 0, Value.str (Str.ofString "/claim/cut.py") 453] }) ::
  (nat_lit 207, fo (atSt 20) "length_order" (Value.none) (Value.none) "paperhold.inflate" 419 206) ::
  (nat_lit 208, { cls := Value.type "tuple", data := Data.seq #[] }) ::
  (nat_lit 210, { cls := Value.type "tuple", data := Data.seq #[] }) ::
  (nat_lit 211, { cls := Value.type "tuple", data := Data.seq #[] }) ::
  (nat_lit 213, { cls := Value.type "code", data := Data.fields #[Value.str (Str.ofString "fixed_lengths") 455, Value.str (Str.ofString "fixed_lengths") 456, Value.str (Str.ofString "/claim/cut.py") 457, Value.int 128 0, Value.int 0 0, Value.int 0 0, Value.int 0 0, Value.int 3 0, Value.ref 208, Value.bool true, Value.int 181 0, Value.ref 209, Value.none, Value.ref 210, Value.ref 211, Value.ref 212, Value.int 458 0, Value.int 128 0, Value.str (Str.ofString "/claim/cut.py") 459] }) ::
  (nat_lit 214, fo (atSt 21) "fixed_lengths" (Value.none) (Value.none) "paperhold.inflate" 419 213) ::
  (nat_lit 215, { cls := Value.type "tuple", data := Data.seq #[] }) ::
  (nat_lit 217, { cls := Value.type "tuple", data := Data.seq #[Value.str (Str.ofString "bits") 464, Value.str (Str.ofString "symbol") 465, Value.str (Str.ofString "lengths") 466] }) ::
  (nat_lit 218, { cls := Value.type "tuple", data := Data.seq #[] }) ::
  (nat_lit 220, { cls := Value.type "code", data := Data.fields #[Value.str (Str.ofString "repeated") 461, Value.str (Str.ofString "repeated") 462, Value.str (Str.ofString "/claim/cut.py") 463, Value.int 130 0, Value.int 3 0, Value.int 0 0, Value.int 0 0, Value.int 3 0, Value.ref 215, Value.bool true, Value.int 181 0, Value.ref 216, Value.none, Value.ref 217, Value.ref 218, Value.ref 219, Value.int 467 0, Value.int 130 0, Value.str (Str.ofString "/claim/cut.py") 468] }) ::
  (nat_lit 221, fo (atSt 22) "repeated" (Value.none) (Value.none) "paperhold.inflate" 419 220) ::
  (nat_lit 222, { cls := Value.type "tuple", data := Data.seq #[] }) ::
  (nat_lit 224, { cls := Value.type "tuple", data := Data.seq #[Value.str (Str.ofString "bits") 473, Value.str (Str.ofString "literals") 474, Value.str (Str.ofString "distances") 475, Value.str (Str.ofString "count") 476, Value.str (Str.ofString "small") 477, Value.str (Str.ofString "place") 478, Value.str (Str.ofString "decoder") 479, Value.str (Str.ofString "lengths") 480, Value.str (Str.ofString "symbol") 481, Value.str (Str.ofString "length") 482, Value.str (Str.ofString "times") 483] }) ::
  (nat_lit 225, { cls := Value.type "tuple", data := Data.seq #[] }) ::
  (nat_lit 227, { cls := Value.type "code", data := Data.fields #[Value.str (Str.ofString "read_lengths") 470, Value.str (Str.ofString "read_lengths") 471, Value.str (Str.ofString "/claim/cut.py") 472, Value.int 138 0, Value.int 1 0, Value.int 0 0, Value.int 0 0, Value.int 3 0, Value.ref 222, Value.bool true, Value.int 181 0, Value.ref 223, Value.none, Value.ref 224, Value.ref 225, Value.ref 226, Value.int 484 0, Value.int 138 0, Value.str (Str.ofString "/claim/cut.py") 485] }) ::
  (nat_lit 228, fo (atSt 23) "read_lengths" (Value.none) (Value.none) "paperhold.inflate" 419 227) ::
  (nat_lit 229, { cls := Value.type "tuple", data := Data.seq #[] }) ::
  (nat_lit 231, { cls := Value.type "tuple", data := Data.seq #[Value.str (Str.ofString "lengths") 490] }) ::
  (nat_lit 232, { cls := Value.type "tuple", data := Data.seq #[] }) ::
  (nat_lit 234, { cls := Value.type "code", data := Data.fields #[Value.str (Str.ofString "is_usable") 487, Value.str (Str.ofString "is_usable") 488, Value.str (Str.ofString "/claim/cut.py") 489, Value.int 161 0, Value.int 1 0, Value.int 0 0, Value.int 0 0, Value.int 3 0, Value.ref 229, Value.bool true, Value.int 181 0, Value.ref 230, Value.none, Value.ref 231, Value.ref 232, Value.ref 233, Value.int 491 0, Value.int 161 0, Value.str (Str.ofString "/claim/cut.py") 492] }) ::
  (nat_lit 235, fo (atSt 24) "is_usable" (Value.none) (Value.none) "paperhold.inflate" 419 234) ::
  (nat_lit 236, { cls := Value.type "tuple", data := Data.seq #[] }) ::
  (nat_lit 238, { cls := Value.type "tuple", data := Data.seq #[Value.str (Str.ofString "bits") 497, Value.str (Str.ofString "literals") 498, Value.str (Str.ofString "distances") 499] }) ::
  (nat_lit 239, { cls := Value.type "tuple", data := Data.seq #[] }) ::
  (nat_lit 241, { cls := Value.type "code", data := Data.fields #[Value.str (Str.ofString "read_decoders") 494, Value.str (Str.ofString "read_decoders") 495, Value.str (Str.ofString "/claim/cut.py") 496, Value.int 163 0, Value.int 1 0, Value.int 0 0, Value.int 0 0, Value.int 3 0, Value.ref 236, Value.bool true, Value.int 181 0, Value.ref 237, Value.none, Value.ref 238, Value.ref 239, Value.ref 240, Value.int 500 0, Value.int 163 0, Value.str (Str.ofString "/claim/cut.py") 501] }) ::
  (nat_lit 242, fo (atSt 25) "read_decoders" (Value.none) (Value.none) "paperhold.inflate" 419 241) ::
  (nat_lit 243, { cls := Value.type "tuple", data := Data.seq #[] }) ::
  (nat_lit 245, { cls := Value.type "tuple", data := Data.seq #[Value.str (Str.ofString "bits") 506, Value.str (Str.ofString "literals") 507, Value.str (Str.ofString "distances") 508, Value.str (Str.ofString "rows") 509, Value.str (Str.ofString "symbol") 510, Value.str (Str.ofString "place") 511, Value.str (Str.ofString "length") 512] }) ::
  (nat_lit 246, { cls := Value.type "tuple", data := Data.seq #[] }) ::
  (nat_lit 248, { cls := Value.type "code", data := Data.fields #[Value.str (Str.ofString "read_part") 503, Value.str (Str.ofString "read_part") 504, Value.str (Str.ofString "/claim/cut.py") 505, Value.int 170 0, Value.int 4 0, Value.int 0 0, Value.int 0 0, Value.int 3 0, Value.ref 243, Value.bool true, Value.int 181 0, Value.ref 244, Value.none, Value.ref 245, Value.ref 246, Value.ref 247, Value.int 513 0, Value.int 170 0, Value.str (Str.ofString "/claim/cut.py") 514] }) ::
  (nat_lit 249, fo (atSt 26) "read_part" (Value.none) (Value.none) "paperhold.inflate" 419 248) ::
  (nat_lit 250, { cls := Value.type "tuple", data := Data.seq #[] }) ::
  (nat_lit 252, { cls := Value.type "tuple", data := Data.seq #[Value.str (Str.ofString "out") 519, Value.str (Str.ofString "part") 520, Value.str (Str.ofString "at") 521, Value.str (Str.ofString "length") 522, Value.str (Str.ofString "distance") 523, Value.str (Str.ofString "turn") 524] }) ::
  (nat_lit 253, { cls := Value.type "tuple", data := Data.seq #[] }) ::
  (nat_lit 255, { cls := Value.type "code", data := Data.fields #[Value.str (Str.ofString "lay_part") 516, Value.str (Str.ofString "lay_part") 517, Value.str (Str.ofString "/claim/cut.py") 518, Value.int 184 0, Value.int 3 0, Value.int 0 0, Value.int 0 0, Value.int 3 0, Value.ref 250, Value.bool true, Value.int 181 0, Value.ref 251, Value.none, Value.ref 252, Value.ref 253, Value.ref 254, Value.int 525 0, Value.int 184 0, Value.str (Str.ofString "/claim/cut.py") 526] }) ::
  (nat_lit 256, fo (atSt 27) "lay_part" (Value.none) (Value.none) "paperhold.inflate" 419 255) ::
  (nat_lit 257, { cls := Value.type "tuple", data := Data.seq #[] }) ::
  (nat_lit 259, { cls := Value.type "tuple", data := Data.seq #[Value.str (Str.ofString "bits") 531, Value.str (Str.ofString "count") 532] }) ::
  (nat_lit 260, { cls := Value.type "tuple", data := Data.seq #[] }) ::
  (nat_lit 262, { cls := Value.type "code", data := Data.fields #[Value.str (Str.ofString "read_stored") 528, Value.str (Str.ofString "read_stored") 529, Value.str (Str.ofString "/claim/cut.py") 530, Value.int 193 0, Value.int 1 0, Value.int 0 0, Value.int 0 0, Value.int 3 0, Value.ref 257, Value.bool true, Value.int 181 0, Value.ref 258, Value.none, Value.ref 259, Value.ref 260, Value.ref 261, Value.int 533 0, Value.int 193 0, Value.str (Str.ofString "/claim/cut.py") 534] }) ::
  (nat_lit 263, fo (atSt 28) "read_stored" (Value.none) (Value.none) "paperhold.inflate" 419 262) ::
  (nat_lit 264, { cls := Value.type "tuple", data := Data.seq #[] }) ::
  (nat_lit 266, { cls := Value.type "tuple", data := Data.seq #[Value.str (Str.ofString "bits") 539, Value.str (Str.ofString "way") 540, Value.str (Str.ofString "literals") 541, Value.str (Str.ofString "distances") 542] }) ::
  (nat_lit 267, { cls := Value.type "tuple", data := Data.seq #[] }) ::
  (nat_lit 269, { cls := Value.type "code", data := Data.fields #[Value.str (Str.ofString "block_decoders") 536, Value.str (Str.ofString "block_decoders") 537, Value.str (Str.ofString "/claim/cut.py") 538, Value.int 199 0, Value.int 2 0, Value.int 0 0, Value.int 0 0, Value.int 3 0, Value.ref 264, Value.bool true, Value.int 181 0, Value.ref 265, Value.none, Value.ref 266, Value.ref 267, Value.ref 268, Value.int 543 0, Value.int 199 0, Value.str (Str.ofString "/claim/cut.py") 544] }) ::
  (nat_lit 270, fo (atSt 29) "block_decoders" (Value.none) (Value.none) "paperhold.inflate" 419 269) ::
  (nat_lit 271, { cls := Value.type "tuple", data := Data.seq #[] }) ::
  (nat_lit 273, { cls := Value.type "tuple", data := Data.seq #[Value.str (Str.ofString "out") 549, Value.str (Str.ofString "bits") 550, Value.str (Str.ofString "rows") 551, Value.str (Str.ofString "is_last") 552, Value.str (Str.ofString "way") 553, Value.str (Str.ofString "literals") 554, Value.str (Str.ofString "distances") 555, Value.str (Str.ofString "part") 556] }) ::
  (nat_lit 274, { cls := Value.type "tuple", data := Data.seq #[] }) ::
  (nat_lit 276, { cls := Value.type "code", data := Data.fields #[Value.str (Str.ofString "inflate_into") 546, Value.str (Str.ofString "inflate_into") 547, Value.str (Str.ofString "/claim/cut.py") 548, Value.int 206 0, Value.int 2 0, Value.int 0 0, Value.int 0 0, Value.int 3 0, Value.ref 271, Value.bool true, Value.int 181 0, Value.ref 272, Value.none, Value.ref 273, Value.ref 274, Value.ref 275, Value.int 557 0, Value.int 206 0, Value.str (Str.ofString "/claim/cut.py") 558] }) ::
  (nat_lit 277, fo (atSt 30) "inflate_into" (Value.none) (Value.none) "paperhold.inflate" 419 276) ::
  (nat_lit 278, { cls := Value.type "tuple", data := Data.seq #[Value.int 0 560] }) ::
  (nat_lit 279, { cls := Value.type "tuple", data := Data.seq #[] }) ::
  (nat_lit 281, { cls := Value.type "tuple", data := Data.seq #[Value.str (Str.ofString "data") 564, Value.str (Str.ofString "at") 565, Value.str (Str.ofString "bits") 566, Value.str (Str.ofString "out") 567] }) ::
  (nat_lit 282, { cls := Value.type "tuple", data := Data.seq #[] }) ::
  (nat_lit 284, { cls := Value.type "code", data := Data.fields #[Value.str (Str.ofString "inflate") 561, Value.str (Str.ofString "inflate") 562, Value.str (Str.ofString "/claim/cut.py") 563, Value.int 221 0, Value.int 2 0, Value.int 0 0, Value.int 0 0, Value.int 3 0, Value.ref 279, Value.bool true, Value.int 181 0, Value.ref 280, Value.none, Value.ref 281, Value.ref 282, Value.ref 283, Value.int 568 0, Value.int 221 0, Value.str (Str.ofString "/claim/cut.py") 569] }) ::
  (nat_lit 285, fo (atSt 31) "inflate" (Value.ref 278) (Value.none) "paperhold.inflate" 419 284) ::
  (nat_lit 286, { cls := Value.type "tuple", data := Data.seq #[] }) ::
  (nat_lit 288, { cls := Value.type "tuple", data := Data.seq #[Value.str (Str.ofString "octets") 574, Value.str (Str.ofString "low") 575, Value.str (Str.ofString "high") 576, Value.str (Str.ofString "octet") 577] }) ::
  (nat_lit 289, { cls := Value.type "tuple", data := Data.seq #[] }) ::
  (nat_lit 291, { cls := Value.type "code", data := Data.fields #[Value.str (Str.ofString "adler") 571, Value.str (Str.ofString "adler") 572, Value.str (Str.ofString "/claim/cut.py") 573, Value.int 226 0, Value.int 1 0, Value.int 0 0, Value.int 0 0, Value.int 3 0, Value.ref 286, Value.bool true, Value.int 181 0, Value.ref 287, Value.none, Value.ref 288, Value.ref 289, Value.ref 290, Value.int 578 0, Value.int 226 0, Value.str (Str.ofString "/claim/cut.py") 579] }) ::
  (nat_lit 292, fo (atSt 32) "adler" (Value.none) (Value.none) "paperhold.inflate" 419 291) ::
  (nat_lit 293, { cls := Value.type "tuple", data := Data.seq #[] }) ::
  (nat_lit 295, { cls := Value.type "tuple", data := Data.seq #[Value.str (Str.ofString "data") 584] }) ::
  (nat_lit 296, { cls := Value.type "tuple", data := Data.seq #[] }) ::
  (nat_lit 298, { cls := Value.type "code", data := Data.fields #[Value.str (Str.ofString "check_frame") 581, Value.str (Str.ofString "check_frame") 582, Value.str (Str.ofString "/claim/cut.py") 583, Value.int 233 0, Value.int 1 0, Value.int 0 0, Value.int 0 0, Value.int 3 0, Value.ref 293, Value.bool true, Value.int 181 0, Value.ref 294, Value.none, Value.ref 295, Value.ref 296, Value.ref 297, Value.int 585 0, Value.int 233 0, Value.str (Str.ofString "/claim/cut.py") 586] }) ::
  (nat_lit 299, fo (atSt 33) "check_frame" (Value.none) (Value.none) "paperhold.inflate" 419 298) ::
  (nat_lit 300, { cls := Value.type "tuple", data := Data.seq #[] }) ::
  (nat_lit 302, { cls := Value.type "tuple", data := Data.seq #[Value.str (Str.ofString "data") 591, Value.str (Str.ofString "at") 592, Value.str (Str.ofString "octets") 593, Value.str (Str.ofString "total") 594, Value.str (Str.ofString "octet") 595] }) ::
  (nat_lit 303, { cls := Value.type "tuple", data := Data.seq #[] }) ::
  (nat_lit 305, { cls := Value.type "code", data := Data.fields #[Value.str (Str.ofString "check_sum") 588, Value.str (Str.ofString "check_sum") 589, Value.str (Str.ofString "/claim/cut.py") 590, Value.int 242 0, Value.int 3 0, Value.int 0 0, Value.int 0 0, Value.int 3 0, Value.ref 300, Value.bool true, Value.int 181 0, Value.ref 301, Value.none, Value.ref 302, Value.ref 303, Value.ref 304, Value.int 596 0, Value.int 242 0, Value.str (Str.ofString "/claim/cut.py") 597] }) ::
  (nat_lit 306, fo (atSt 34) "check_sum" (Value.none) (Value.none) "paperhold.inflate" 419 305) ::
  (nat_lit 307, { cls := Value.type "tuple", data := Data.seq #[] }) ::
  (nat_lit 309, { cls := Value.type "tuple", data := Data.seq #[Value.str (Str.ofString "data") 602, Value.str (Str.ofString "octets") 603, Value.str (Str.ofString "at") 604] }) ::
  (nat_lit 310, { cls := Value.type "tuple", data := Data.seq #[] }) ::
  (nat_lit 312, { cls := Value.type "code", data := Data.fields #[Value.str (Str.ofString "zlib_decoded") 599, Value.str (Str.ofString "zlib_decoded") 600, Value.str (Str.ofString "/claim/cut.py") 601, Value.int 250 0, Value.int 1 0, Value.int 0 0, Value.int 0 0, Value.int 3 0, Value.ref 307, Value.bool true, Value.int 181 0, Value.ref 308, Value.none, Value.ref 309, Value.ref 310, Value.ref 311, Value.int 605 0, Value.int 250 0, Value.str (Str.ofString "/claim/cut.py") 606] }) ::
  (nat_lit 313, fo (atSt 35) "zlib_decoded" (Value.none) (Value.none) "paperhold.inflate" 419 312) ::
  (nat_lit 314, { cls := Value.type "tuple", data := Data.seq #[] }) ::
  (nat_lit 316, { cls := Value.type "tuple", data := Data.seq #[Value.str (Str.ofString "mill") 613, Value.str (Str.ofString "many") 614, Value.str (Str.ofString "found") 615] }) ::
  (nat_lit 317, { cls := Value.type "tuple", data := Data.seq #[] }) ::
  (nat_lit 319, { cls := Value.type "code", data := Data.fields #[Value.str (Str.ofString "_law_ask") 610, Value.str (Str.ofString "_law_ask") 611, Value.str (Str.ofString "/claim/cut.py") 612, Value.int 256 0, Value.int 2 0, Value.int 0 0, Value.int 0 0, Value.int 3 0, Value.ref 314, Value.bool true, Value.int 181 0, Value.ref 315, Value.none, Value.ref 316, Value.ref 317, Value.ref 318, Value.int 616 0, Value.int 256 0, Value.str (Str.ofString "/claim/cut.py") 617] }) ::
  (nat_lit 320, fo (atSt 37) "_law_ask" (Value.none) (Value.none) "law_og0173_01" 608 319) ::
  (nat_lit 321, { cls := Value.type "tuple", data := Data.seq #[] }) ::
  (nat_lit 323, { cls := Value.type "tuple", data := Data.seq #[Value.str (Str.ofString "one") 622, Value.str (Str.ofString "other") 623, Value.str (Str.ofString "length") 624, Value.str (Str.ofString "low") 625, Value.str (Str.ofString "high") 626, Value.str (Str.ofString "more") 627, Value.str (Str.ofString "above") 628] }) ::
  (nat_lit 324, { cls := Value.type "tuple", data := Data.seq #[] }) ::
  (nat_lit 326, { cls := Value.type "code", data := Data.fields #[Value.str (Str.ofString "_law_joined") 619, Value.str (Str.ofString "_law_joined") 620, Value.str (Str.ofString "/claim/cut.py") 621, Value.int 261 0, Value.int 3 0, Value.int 0 0, Value.int 0 0, Value.int 3 0, Value.ref 321, Value.bool true, Value.int 181 0, Value.ref 322, Value.none, Value.ref 323, Value.ref 324, Value.ref 325, Value.int 629 0, Value.int 261 0, Value.str (Str.ofString "/claim/cut.py") 630] }) ::
  (nat_lit 327, fo (atSt 38) "_law_joined" (Value.none) (Value.none) "law_og0173_01" 608 326) ::
  (nat_lit 328, { cls := Value.type "tuple", data := Data.seq #[] }) ::
  (nat_lit 331, { cls := Value.type "code", data := Data.fields #[Value.str (Str.ofString "law") 632, Value.str (Str.ofString "law") 633, Value.str (Str.ofString "/claim/cut.py") 634, Value.int 265 0, Value.int 1 0, Value.int 0 0, Value.int 0 0, Value.int 3 0, Value.ref 328, Value.bool true, Value.int 181 0, Value.ref 329, Value.none, Value.none, Value.none, Value.ref 330, Value.int 635 0, Value.int 265 0, Value.str (Str.ofString "/claim/cut.py") 636] }) ::
  (nat_lit 332, fo (atSt 39) "law" (Value.none) (Value.none) "law_og0173_01" 608 331) :: []
noncomputable def asZ : List Nat := [2, 3, 15, 22, 23, 25, 26, 28, 29, 30, 32, 33, 35, 36, 37, 38, 39, 40, 43, 50, 51, 52, 55, 57, 58, 60, 61, 69, 70, 72, 73, 75, 76, 77, 79, 80, 82, 83, 84, 86, 87, 89, 90, 91, 93, 94, 96, 97, 98, 100, 101, 103, 104, 105, 107, 108, 110, 111, 112, 113, 114, 115, 116, 119, 121, 122, 124, 125, 126, 128, 129, 131, 132, 133, 135, 136, 138, 139, 140, 142, 143, 145, 146, 147, 149, 150, 152, 153, 154, 157, 158, 166, 168, 169, 171, 172, 173, 175, 176, 178, 179, 180, 181, 182, 183, 184, 187, 189, 190, 192, 193, 194, 196, 197, 199, 200, 201, 203, 204, 206, 207, 208, 210, 211, 213, 214, 215, 217, 218, 220, 221, 222, 224, 225, 227, 228, 229, 231, 232, 234, 235, 236, 238, 239, 241, 242, 243, 245, 246, 248, 249, 250, 252, 253, 255, 256, 257, 259, 260, 262, 263, 264, 266, 267, 269, 270, 271, 273, 274, 276, 277, 278, 279, 281, 282, 284, 285, 286, 288, 289, 291, 292, 293, 295, 296, 298, 299, 300, 302, 303, 305, 306, 307, 309, 310, 312, 313, 314, 316, 317, 319, 320, 321, 323, 324, 326, 327, 328, 331, 332]
theorem kFacts : ∀ P, asZ = (hd173.heap_39 P).map (·.1) := fun _ => by kernel_rfl
theorem said : Challenge.rw_og0173_01.wellSaid = true := by
  rw [PySem.W.Fast.te9446332074065402090]
  decide +kernel
theorem left : LeftO Challenge.rw_og0173_01.row.prog hd173.view_39 [Str.ofString "PaperError", Str.ofString "inflate"]
   (fun s => xlAt hd173.view_39 [] s && recOk (Challenge.rw_og0173_01.row.toRowW.records) s) (Hook.obs (kHook hd173.heap_39 asZ kFacts)) (Hook.val (kHook hd173.heap_39 asZ kFacts)) 4278 := by
  intro w
  unfold openEnds fencedOpening topFrom
  rw [PySem.W.Fast.te14082659384304107361, PySem.W.Fast.te10274390034422433532, PySem.W.Fast.te14364793385576792824]
  kernel_rfl
theorem hd173 {d : DefRec} {kwd : List (Str × PySem.Expr)} (hdef : defOf hd173.view_39 Challenge.rw_og0173_01.row.name = some (d, kwd)) (hp : Challenge.rw_og0173_01.row.prog.theDef Challenge.rw_og0173_01.row.name = some (d.params, d.body, d.scope)) (hk : kwWritten? d.params.kwonlyargs d.params.kw_defaults = some kwd)
    (walk : WalkGood hd173.view_39 [Str.ofString "PaperError", Str.ofString "inflate"] (XL hd173.view_39 []) (kHook hd173.heap_39 asZ kFacts).says Challenge.rw_og0173_01.row.toRowW d kwd (fun f vs => PySem.call f vs)) : Challenge.rw_og0173_01.Holds := by
  w_on
  refine holds_law said fun said => ?_
  refine Mine.PySem.W.holds_open (q := hd173.view_39) (loose := [Str.ofString "PaperError", Str.ofString "inflate"]) (Xt := fun s => xlAt hd173.view_39 [] s && recOk (RowW.records Challenge.rw_og0173_01.row.toRowW) s) (XP := XL hd173.view_39 [])
    (Yf := Hook.obs (kHook hd173.heap_39 asZ kFacts)) (Ya := Hook.val (kHook hd173.heap_39 asZ kFacts)) (YP := Hook.says (kHook hd173.heap_39 asZ kFacts)) (N := 4278) left (Hook.of _) (Hook.keeps _)
    (fun s e => xl_of s (Bool.and_eq_true_iff.mp e).1) XL.keeps hdef hp hk (fun s e => recFacts_of (Bool.and_eq_true_iff.mp e).2) (by rfl) (by assumption) (by decide +kernel) ⟨rfl, rfl, rfl, rfl, rfl, by decide +kernel⟩ ?hw walk
  case hw => w_witness2
end Mine
end

section
open PySem PySem.W PyProof.Rows
set_option Elab.async false
set_option maxRecDepth 100000
set_option maxHeartbeats 8000000
namespace Mine

def Call (w : World) (kd : Nat) (P : List Env → Heap → Heap → Addr → (Str → Option Value) → List (Addr × Obj) → Shared → (Value → Shared → Prop) → (Value → Shared → Prop) → Prop) (f : Addr) (vs : List Value) : Prop :=
  ∀ (mean : ExcName → Option Value) (mg mb : Str → Option Value) (dp un : Nat) (gd : Option (List Code)) (cn : Str) (cs : Scope) (a : Addr) (ccd : Value) (cl : List (Str × Addr)) (outer : List Env) (A₀ : Around) (base h₀ : Heap) (L : Addr) (m : Str → Option Value) (news : List (Addr × Obj)) (s : Shared) (Q E : Value → Shared → Prop),
    Below A₀ base outer h₀ → Fr h₀ L s.heap m → (hd173.heap_39 w.params).In h₀ → News h₀ L s.heap news → Top hd173.view_39 (looseW hd173.view_39 [Str.ofString "PaperError", Str.ofString "inflate"]) mean mg mb h₀ → cs.kind = .function → dp + kd < recursionLimit → un + 8 * kd < cLine →
    P (envX cn cs L a ccd cl :: outer) base h₀ L m news s Q E →
      wpAny (model PySem.Challenge.rw_og0173_01.row.prog w) (ktrTop dp un gd cn cs L a ccd cl outer) (call (.ref f) vs) Q E s

theorem allLt_ne {d : Addr} {l : List (Addr × Obj)} (h : ∀ p ∈ l, p.1 < d) : ∀ p ∈ l, p.1 ≠ d := fun p hp => Nat.ne_of_lt (h p hp)

theorem news_sub {h₀ h : Heap} {L : Addr} {news news' : List (Addr × Obj)} (N : News h₀ L h news') (hs : ∀ p ∈ news, p ∈ news') : News h₀ L h news := fun p hp => N p (hs p hp)
theorem news_tail {h₀ h : Heap} {L : Addr} {q : Addr × Obj} {news : List (Addr × Obj)} (N : News h₀ L h (q :: news)) : News h₀ L h news := fun p hp => N p (.tail _ hp)
end Mine
end

section
open PySem PySem.W PySem.Calls PyProof.Rows Builtin Builtin.ObjectAttr
set_option Elab.async false
set_option maxRecDepth 100000
set_option maxHeartbeats 8000000
set_option linter.unusedVariables false
namespace Mine
local macro_rules | `(tactic| walk_at "zz") => `(tactic| fail)
local macro_rules | `(tactic| walk_at "zz") => `(tactic| fail)
theorem kw_X1 : True := by k_with_none; w_top off; trivial

abbrev excBm : List Value := [.ref 39, .type "Exception", .type "BaseException", .type "object"]
abbrev ffObj : Obj := excClassObj (Str.ofString "FilterFault") (Str.ofString "FilterFault") 52 51 [.ref 39] excBm true [] [] false none none (some (.ref 43)) none (some (.str (Str.ofString "FilterFault") 229)) (some (.str (Str.ofString "FilterFault") 237)) (some (.bool true)) "Exception.__new__"

theorem ff_look (P : Params) : (hd173.heap_39 P).lookup 52 = some ffObj := by kernel_rfl

theorem ff_new {prog : Program} {w : World} {A : Around} {R : Result → Shared → Prop} {h : Heap} {g : Array GenState} {d : Drawn} {t : Nat} {os : OsState} {rest : List Value} (hC : h.get? 52 = some ffObj) (hrest : rest.length ≤ sizeLine)
    (hq : R (.ok (.ret (.ref (h.objs.size + 1)))) ⟨(h.push { cls := .type "tuple", data := .seq rest.toArray }).push
      { cls := .ref 52, data := .fields #[.ref h.objs.size, .none, .none, .none, .bool false, .none] }, g, d, t, os⟩) :
    codeAny (model prog w) A (.call (.builtin "Exception.__new__") ⟨.ref 52 :: rest, []⟩) R ⟨h, g, d, t, os⟩ := by
  have Fn := PySem.F.excBase_Exception
  have hends := Fn.ends
  have hcB : (Value.ref 52 :: excBm).contains (.type "Exception") = true := by decide
  have hcA : (Value.ref 52 :: excBm).contains (.type "AttributeError") = false := by decide
  have hcN : (Value.ref 52 :: excBm).contains (.type "NameError") = false := by decide
  refine codeAny_call_builtin_code (Code.quiet_builtin _ Fn.quiet) (wpAny_check_new_subU (bmB := excBm) Fn hcB OwnTail.base hC ?_)
  refine codeAny_builtinAt Fn.entry ?_
  unfold Builtin.«BaseException.__new__»
  refine PySem.wpAt_bind ?_
  show PySem.wpAt _ _ _ (stack >>= _) _ _ _
  refine PySem.wpAt_bind (PySem.wpAt_stack fun p below => PySem.wpAt_of_wpAny ?_)
  wp_walk
  refine PySem.wpAt_of_wpAny ?_
  rw [Fn.owner]
  repeat (first | with_reducible refine wpAny_madeHere_exc Fn.canon hC ?_ | with_reducible refine wpAny_loadPart_at hC ?_ | (with_reducible refine wpAny_isSubtype_exc hC ?_; first | rw [hcB] | rw [hcA] | rw [hcN]) | wp_step)
  show R _ _
  rw [Heap.size_push]
  exact hq

theorem ff_make {w : World} {A : Around} {R : Result → Shared → Prop} {h : Heap} {g : Array GenState} {d : Drawn} {t : Nat} {os : OsState} {rest : List Value}
    (X : (hd173.heap_39 w.params).In h) (hrest : rest.length ≤ sizeLine)
    (hq : codeAny (model PySem.Challenge.rw_og0173_01.row.prog w) (A.under (.builtin "type.__call__" ⟨.ref 52 :: rest, []⟩)) (.call (.ref 29) ⟨.ref (h.objs.size + 1) :: rest, []⟩) (InitBack (h.objs.size + 1) R) ⟨(h.push { cls := .type "tuple", data := .seq rest.toArray }).push
      { cls := .ref 52, data := .fields #[.ref h.objs.size, .none, .none, .none, .bool false, .none] }, g, d, t, os⟩) :
    codeAny (model PySem.Challenge.rw_og0173_01.row.prog w) A (.call (.ref 52) ⟨rest, []⟩) R ⟨h, g, d, t, os⟩ := by
  have hC := X _ _ (ff_look w.params)
  have call : Looks (model PySem.Challenge.rw_og0173_01.row.prog w) h (specialOf (.ref 52) "__call__") (some (.builtin "type.__call__")) := looks_specialIn X (by kernel_rfl)
  have typ : Looks (model PySem.Challenge.rw_og0173_01.row.prog w) h (isInstance (.ref 52) (.type "type")) true := looks_instIn X (by kernel_rfl)
  have hm : Looks (model PySem.Challenge.rw_og0173_01.row.prog w) h (mroOf (.ref 52)) (.ref 52 :: excBm) := ((Looks.ld (part := none) hC).andThen .now).andThen .now
  have made : Looks (model PySem.Challenge.rw_og0173_01.row.prog w) h (Bind.madeBy (.ref 52)) (some "Exception.__new__") := by
    intro A' Q' E' s' k q
    obtain ⟨h', g', d', t', os'⟩ := s'
    exact wpAny_madeBy_exc (k _ _ hC) q
  refine codeAny_of_tree ?_
  show wpAny _ _ (callAny (.ref 52) _) _ _ _
  refine nd_load hC ?_
  show wpAny _ _ (callAny.viaDunder (.ref 52) _) _ _ _
  unfold callAny.viaDunder
  refine wpAny_bind (call.at ?_)
  dsimp only
  rw [tc_bind]
  refine wpAny_bind (wpAny_pure (wpAny_bind (wpAny_pure ?_)))
  refine wpAny_pure (a := Fin.again (.call (.builtin "type.__call__") ⟨.ref 52 :: rest, []⟩)) (And.intro rfl ?_)
  refine codeAny_call_builtin_at (Code.quiet_builtin _ (by decide +kernel)) entry_typeCall (check_slot tc_kind tc_split typ (tc_args _ _ _) ?_)
  unfold Builtin.«type.__call__»
  repeat (first | simp only [Bool.false_eq_true, if_false] | with_reducible refine wpAny_call ?_ | lk)
  refine ff_new hC hrest ?_
  have k : ∀ b o, h.get? b = some o → ((h.push { cls := .type "tuple", data := .seq rest.toArray }).push { cls := .ref 52, data := .fields #[.ref h.objs.size, .none, .none, .none, .bool false, .none] }).get? b = some o :=
    fun b o e => Heap.get?_push_of_some _ (Heap.get?_push_of_some _ e)
  have X' := X.keeps k
  have hx : ((h.push { cls := .type "tuple", data := .seq rest.toArray }).push { cls := .ref 52, data := .fields #[.ref h.objs.size, .none, .none, .none, .bool false, .none] }).get? (h.objs.size + 1) = some { cls := .ref 52, data := .fields #[.ref h.objs.size, .none, .none, .none, .bool false, .none] } := by heap_get
  generalize (h.push { cls := .type "tuple", data := .seq rest.toArray }).push { cls := .ref 52, data := .fields #[.ref h.objs.size, .none, .none, .none, .bool false, .none] } = h₂ at hx X' hq k ⊢
  have t1 : Looks (model PySem.Challenge.rw_og0173_01.row.prog w) h₂ (typeOf (.ref (h.objs.size + 1))) (.ref 52) := (Looks.ld hx).andThen .now
  have s1 : Looks (model PySem.Challenge.rw_og0173_01.row.prog w) h₂ (isSubtype (.ref 52) (.ref 52)) true := looks_subIn X' (by kernel_rfl)
  have i1 : Looks (model PySem.Challenge.rw_og0173_01.row.prog w) h₂ (typeLookup (.ref 52) "__init__") (some (.ref 29)) := looks_findIn X' (by kernel_rfl)
  have b1 : Looks (model PySem.Challenge.rw_og0173_01.row.prog w) h₂ (bindSpecial (.ref 29) (.ref (h.objs.size + 1))) (.ref 29, [.ref (h.objs.size + 1)]) := bind_fn X' _ (by kernel_rfl)
  unfold isInstance callSpecial? specialOf
  repeat (first | with_reducible refine wpAny_call ?_ | lk)
  refine codeAny_mono hq fun r s' z => ?_
  rcases r with e | (v | _ | _ | _) <;> first | exact z | exact z.elim | skip
  obtain ⟨rfl, z⟩ := z
  exact wpAny_pure (wpAny_pure z)
end Mine
end

section
open PySem PySem.W PySem.Calls PyProof.Rows Mine
local macro_rules | `(tactic| k_all) => `(tactic| first | assumption | (refine allLt_ne ?_; assumption))
section
open PySem PySem.W PySem.Calls PyProof.Rows Builtin Builtin.ObjectAttr
set_option Elab.async false
set_option maxRecDepth 100000
set_option maxHeartbeats 8000000
set_option linter.unusedVariables false
namespace Mine
local macro_rules | `(tactic| walk_at "zz") => `(tactic| fail)
theorem kw_X2 : True := by k_with_none; w_top off; trivial

local macro_rules | `(tactic| walk_at "getMethod type:Exception") => `(tactic| (k_here; refine' method_type ?F ?X ?m (by decide +kernel) ?e ?h ?_; (case F => k_asm); (case X => k_asm); (case m => exact meta_Exc); (case e => k_dflt k_is); (case h => k_handed)))
local macro_rules | `(tactic| walk_at "call builtin:Exception.__init__") => `(tactic| (k_here; k_dflt (refine' exc_init_call ?F ?X ?N ?n ?_; (case F => k_asm); (case X => k_asm); (case N => k_asm); (case n => k_all)); intro h' t' F' N'))
abbrev excO (dx : Option Addr) (t : Value) : Obj := { cls := .ref 52, dict := dx, data := .fields #[t, .none, .none, .none, .bool false, .none] }

theorem meta_Exc : typeOf (.type "Exception") = pure (.type "type") := by
  show pure _ = _
  kernel_rfl
theorem exc_init_call {w : World} {A : Around} {E : Value → Shared → Prop} {s : Shared} {Q : Value → Shared → Prop} {h₀ : Heap} {L e : Addr} {m : Str → Option Value} {dx : Option Addr} {t : Addr} {v : Value} {news : List (Addr × Obj)}
    (F : Fr h₀ L s.heap m) (X : (hd173.heap_39 w.params).In h₀) (N : News h₀ L s.heap ((e, excO dx (.ref t)) :: news)) (hne : ∀ p ∈ news, p.1 ≠ e)
    (hq : ∀ h' t1, Fr h₀ L h' m → News h₀ L h' ((e, excO dx (.ref t1)) :: news) → Q .none { s with heap := h' }) :
    wpAny (model PySem.Challenge.rw_og0173_01.row.prog w) A (call (.builtin "Exception.__init__") [.ref e, v]) Q E s := by
  have Fb := PySem.F.excBase_Exception
  have X' := X.keeps F.keep
  have he := (N _ (.head _)).1
  obtain ⟨h, g, d, tk, os⟩ := s
  have t1 : Looks (model PySem.Challenge.rw_og0173_01.row.prog w) h (typeOf (.ref e)) (.ref 52) := (Looks.ld he).andThen .now
  have s1 : Looks (model PySem.Challenge.rw_og0173_01.row.prog w) h (isSubtype (.ref 52) (.type "Exception")) true := looks_subIn X' (by kernel_rfl)
  have i1 : Looks (model PySem.Challenge.rw_og0173_01.row.prog w) h (isInstance (.ref e) (.type "Exception")) true := t1.andThen s1
  refine wpAny_call (codeAny_call_builtin Fb.init.plain Fb.initEntry ?_)
  simp only [checkBuiltinCall, Fb.initKind, Fb.initSplit, Fb.initRow]
  refine wpAny_bind (i1.at ?_)
  simp only [Bool.not_true, Bool.false_eq_true, if_false]
  have N₁ := N.push F { cls := .type "tuple", data := .seq [v].toArray }
  have F₁ := F.push { cls := .type "tuple", data := .seq [v].toArray }
  obtain ⟨F₂, N₂⟩ := news_upd (pre := [(h.objs.size, _)]) (post := news) (d := e) (o := excO dx (.ref t)) (o' := excO dx (.ref h.objs.size)) (f := Obj.mapFields (·.setIfInBounds 0 (.ref h.objs.size))) F₁ N₁
    (fun p hp => by rw [List.mem_singleton.mp hp]; exact Nat.ne_of_gt (Heap.lt_size he)) hne rfl rfl
  have he₁ := Heap.get?_push_of_some { cls := .type "tuple", data := .seq [v].toArray } he
  have hshort := Fb.noStar
  have hC := X' _ _ (ff_look w.params)
  repeat (first | (with_reducible refine wpAny_loadPart_at he ?_) | with_reducible refine wpAny_loadPart_at hC ?_ | wp_step)
  exact hq _ _ F₂ (fun p hp => N₂ p (.tail _ hp))

end Mine
end

section
open PySem PySem.W PySem.Calls PyProof.Rows Builtin Builtin.ObjectAttr
set_option Elab.async false
set_option maxRecDepth 100000
set_option maxHeartbeats 8000000
set_option linter.unusedVariables false
namespace Mine

theorem store_in {w : World} {prog : Program} {A : Around} {E : Value → Shared → Prop} {s : Shared} {Q : PySem.Fin → Shared → Prop} {h₀ : Heap} {L dx : Addr} {m : Str → Option Value} {name : Str} {tk : Tok} {v : Value} {pre post : List (Addr × Obj)} {es es' : List DictEntry} {n n' : Nat}
    (F : Fr h₀ L s.heap m) (N : News h₀ L s.heap (pre ++ (dx, dictOf es n) :: post)) (hl : (getL name es).isSome = true) (h1 : ∀ p ∈ pre, p.1 ≠ dx) (h2 : ∀ p ∈ post, p.1 ≠ dx)
    (e : (putL name (PyData.keyHash w.params name) (.str name s.toks) v es, putN name es n) = (es', n')) (hz : es'.length ≤ 1000)
    (h : ∀ h', Fr h₀ L h' m → News h₀ L h' (pre ++ (dx, dictOf es' n') :: post) → Q (.done (.ret .none)) { s with heap := h', toks := s.toks + 1 }) :
    wpAny (model prog w) A (storeInDict dx (.str name tk) name v) Q E s := by
  obtain ⟨e1, e2⟩ := Prod.mk.inj e
  have ep : Obj.putName name (PyData.keyHash w.params name) (.str name s.toks) v (dictOf es n) = dictOf es' n' := by rw [putName_dict, e1, e2]
  obtain ⟨U1, U2⟩ := news_upd (f := Obj.putName name (PyData.keyHash w.params name) (.str name s.toks) v) F N h1 h2 ep rfl
  have D := (N (dx, dictOf es n) (by simp)).1
  have D' := (U2 (dx, dictOf es' n') (by simp)).1
  have hl2 : es.find? (·.key.isStr name) ≠ none ∨ es.any (·.refKey) = false := by
    unfold getL at hl
    split at hl
    · rename_i en he; left; rw [he]; exact fun q => nomatch q
    · split at hl
      · cases hl
      · rename_i q; right; exact Bool.eq_false_iff.mpr q
  have c : aRefKeyMayBeTheName name es.toArray = false := by
    rw [aRefKeyMayBeTheName_at, ← Array.any_toList, ← Array.any_toList]
    show (!es.any _ && es.any _) = false
    rcases hl2 with q | q
    · cases hf : es.find? (·.key.isStr name) with
      | none => exact absurd hf q
      | some en => rw [List.any_eq_true.mpr ⟨en, List.mem_of_find?_eq_some hf, List.find?_some hf⟩]; rfl
    · rw [q, Bool.and_false]
  unfold storeInDict newKeyGuard
  refine wpAny_bind (wpAny_pure (wpAny_bind ?_))
  unfold nsSet
  refine wpAny_bind (wpAny_bind (wpAny_askSetting (wpAny_pure (wpAny_bind (wpAny_mkText (wpAny_bind (wpAny_loadPart D ?_)))))))
  dsimp only
  rw [c]
  refine wpAny_updatePart D ?_
  refine wpAny_bind (wpAny_lookBehind D' (by exact pastItsLine_dict (by rw [List.size_toArray, sizeLine_eq]; omega)) ?_)
  exact wpAny_pure (h _ U1 U2)

theorem exc_osa {w : World} {A : Around} {R : Result → Shared → Prop} {s : Shared} {h₀ : Heap} {L e : Addr} {m : Str → Option Value} {name : Str} {tk : Tok} {v t : Value} {od : Option Addr} {news : List (Addr × Obj)}
    (F : Fr h₀ L s.heap m) (X : (hd173.heap_39 w.params).In h₀) (N : News h₀ L s.heap news) (he : (e, excO od t) ∈ news) (hn : findIn (hd173.heap_39 w.params) (.ref 52) name = some none)
    (h : wpAny (model PySem.Challenge.rw_og0173_01.row.prog w) A.in1 (do match ← instanceDict e true with
        | some d => storeInDict d (.str name tk) name v
        | none => noDictFor (.ref e) (.ref 52) name false)
      (fun fin s' => match fin with | .done f => R (.ok f) s' | .again c' => c'.quiet = true ∧ codeAny (model PySem.Challenge.rw_og0173_01.row.prog w) A c' R s') (fun e s' => R (.error e) s') s) :
    codeAny (model PySem.Challenge.rw_og0173_01.row.prog w) A (.call (.builtin "object.__setattr__") ⟨[.ref e, .str name tk, v], []⟩) R s := by
  have SF := PySem.F.store_object
  have X' := X.keeps F.keep
  have hx := (N _ he).1
  obtain ⟨hp, g, d, tks, os⟩ := s
  have t1 : Looks (model PySem.Challenge.rw_og0173_01.row.prog w) hp (typeOf (.ref e)) (.ref 52) := (Looks.ld hx).andThen .now
  have i1 : Looks (model PySem.Challenge.rw_og0173_01.row.prog w) hp (isInstance (.ref e) (.type "object")) true := t1.andThen (looks_subIn X' (by kernel_rfl))
  have hm : Looks (model PySem.Challenge.rw_og0173_01.row.prog w) hp (mroOf (.ref 52)) (.ref 52 :: excBm) := ((Looks.ld (part := none) (X' _ _ (ff_look w.params))).andThen .now).andThen .now
  have l1 : Looks (model PySem.Challenge.rw_og0173_01.row.prog w) hp (typeLookup (.ref 52) name) none := looks_findIn X' hn
  refine codeAny_call_builtin SF.slot.plain SF.entry (@check_slot (model PySem.Challenge.rw_og0173_01.row.prog w) _ _ ⟨hp, g, d, tks, os⟩ "object.__setattr__" "object" "__setattr__" (.ref e) [.str name tk, v] [] _ SF.kind SF.split i1 (SF.args (.ref e) (.str name tk) v) ?_)
  rw [osa_eq, refuse_eq]
  refine wpAny_bind (wpAny_bind (t1.at (wpAny_bind (hm.at ?_))))
  rw [refuseLoop_ref, refuseLoop_ref, PySem.F.store_Exception.passes]
  refine wpAny_pure (wpAny_bind (t1.at (wpAny_bind (l1.at (wpAny_bind (wpAny_pure ?_))))))
  exact h

theorem exc_sa {w : World} {A : Around} {E : Value → Shared → Prop} {Q : Unit → Shared → Prop} {s : Shared} {h₀ : Heap} {L e : Addr} {m : Str → Option Value} {name : Str} {v t : Value} {od : Option Addr} {news : List (Addr × Obj)}
    (F : Fr h₀ L s.heap m) (X : (hd173.heap_39 w.params).In h₀) (N : News h₀ L s.heap news) (he : (e, excO od t) ∈ news) (hn : findIn (hd173.heap_39 w.params) (.ref 52) name = some none)
    (h : wpAny (model PySem.Challenge.rw_og0173_01.row.prog w) A.in1 (do match ← instanceDict e true with
        | some d => storeInDict d (.str name s.toks) name v
        | none => noDictFor (.ref e) (.ref 52) name false)
      (fun fin s' => match fin with | .done (.ret _) => Q () s' | _ => False) E { s with toks := s.toks + 1 }) :
    wpAny (model PySem.Challenge.rw_og0173_01.row.prog w) A (setAttr (.ref e) name v) Q E s := by
  have X' := X.keeps F.keep
  have hx := (N _ he).1
  have t1 : Looks (model PySem.Challenge.rw_og0173_01.row.prog w) s.heap (typeOf (.ref e)) (.ref 52) := (Looks.ld hx).andThen .now
  have l1 : Looks (model PySem.Challenge.rw_og0173_01.row.prog w) s.heap (typeLookup (.ref 52) "__setattr__") (some (.builtin "object.__setattr__")) := looks_findIn X' (by kernel_rfl)
  refine wpAny_bind (wpAny_mkText (wpAny_bind (wpAny_bind (wpAny_bind (t1 _ _ _ _ (fun _ _ e => e) (l1 _ _ _ _ (fun _ _ e => e) (wpAny_holding ?_)))))))
  rw [PySem.F.store_object.slot.bind]
  refine wpAny_bind (wpAny_pure (wpAny_bind (wpAny_call ?_)))
  refine exc_osa (s := { s with toks := s.toks + 1 }) F X N he hn (wpAny_mono h (fun fin s' z => ?_) fun _ _ z => z)
  rcases fin with (v | _ | _ | _) | _ <;> first | exact z.elim | exact wpAny_pure (wpAny_pure z)

theorem exc_set0 {w : World} {A : Around} {E : Value → Shared → Prop} {Q : Unit → Shared → Prop} {s : Shared} {h₀ : Heap} {L e : Addr} {m : Str → Option Value} {name : Str} {v t : Value} {news : List (Addr × Obj)}
    (F : Fr h₀ L s.heap m) (X : (hd173.heap_39 w.params).In h₀) (N : News h₀ L s.heap ((e, excO none t) :: news)) (hne : ∀ p ∈ news, p.1 ≠ e) (hn : findIn (hd173.heap_39 w.params) (.ref 52) name = some none)
    (h : ∀ h' dx t1 tk', Fr h₀ L h' m → News h₀ L h' ((e, excO (some dx) t) :: (dx, dictOf [⟨PyData.keyHash w.params name, .str name t1, v⟩] 1) :: news) → (∀ p ∈ news, p.1 < dx) → e < dx → Q () { s with heap := h', toks := tk' }) :
    wpAny (model PySem.Challenge.rw_og0173_01.row.prog w) A (setAttr (.ref e) name v) Q E s := by
  refine exc_sa F X N (.head _) hn ?_
  have hx := (N _ (.head _)).1
  have X' := X.keeps F.keep
  obtain ⟨hp, g, d, tks, os⟩ := s
  dsimp only at hx X' F N ⊢
  have N₁ := N.push F { cls := .type "dict", data := .dict #[] }
  have F₁ := F.push { cls := .type "dict", data := .dict #[] }
  have hlt : ∀ p ∈ news, p.1 < hp.objs.size := fun p hp' => Heap.lt_size (N p (.tail _ hp')).1
  have hlt2 : e < hp.objs.size := Heap.lt_size hx
  have hx₁ := (N₁ (e, excO none t) (.tail _ (.head _))).1
  obtain ⟨F₂, N₂⟩ := news_upd (pre := [(hp.objs.size, _)]) (post := news) (d := e) (o := excO none t) (o' := excO (some hp.objs.size) t) (f := fun o => { o with dict := some hp.objs.size }) F₁ N₁
    (fun p hp => by rw [List.mem_singleton.mp hp]; exact Nat.ne_of_gt hlt2) hne rfl rfl
  have hc := X' _ _ (ff_look w.params)
  refine wpAny_bind ?_
  unfold instanceDict
  refine wpAny_bind (wpAny_loadPart hx ?_)
  refine wpAny_bind (wpAny_bind (wpAny_load hc ?_))
  refine wpAny_pure ?_
  simp only [Bool.not_true, Bool.false_eq_true, if_false]
  rw [if_neg (by decide)]
  refine wpAny_bind (wpAny_alloc (wpAny_bind (wpAny_update hx₁ (wpAny_pure ?_))))
  refine store_in (pre := []) (post := (e, excO (some hp.objs.size) t) :: news) (es := []) (n := 0) F₂ N₂ rfl (fun _ hp => nomatch hp) (fun p hp' => ?_) rfl (by show 1 ≤ 1000; decide) (fun h' F₃ N₃ => ?_)
  · rcases List.mem_cons.mp hp' with rfl | hp'
    · exact Nat.ne_of_lt hlt2
    · exact Nat.ne_of_lt (hlt p hp')
  · refine h h' hp.objs.size (tks + 1) _ F₃ (fun p hp' => N₃ p ?_) hlt hlt2
    rcases List.mem_cons.mp hp' with rfl | hp'
    · exact .tail _ (.head _)
    · rcases List.mem_cons.mp hp' with rfl | hp'
      · exact .head _
      · exact .tail _ (.tail _ hp')

theorem exc_set1 {w : World} {A : Around} {E : Value → Shared → Prop} {Q : Unit → Shared → Prop} {s : Shared} {h₀ : Heap} {L e dx : Addr} {m : Str → Option Value} {name : Str} {v t : Value} {news : List (Addr × Obj)} {es es' : List DictEntry} {n n' : Nat}
    (F : Fr h₀ L s.heap m) (X : (hd173.heap_39 w.params).In h₀) (N : News h₀ L s.heap ((e, excO (some dx) t) :: (dx, dictOf es n) :: news)) (hne : ∀ p ∈ news, p.1 ≠ dx) (hedx : e < dx) (hn : findIn (hd173.heap_39 w.params) (.ref 52) name = some none)
    (hl : (getL name es).isSome = true) (eq : (putL name (PyData.keyHash w.params name) (.str name (s.toks + 1)) v es, putN name es n) = (es', n')) (hz : es'.length ≤ 1000)
    (h : ∀ h' tk', Fr h₀ L h' m → News h₀ L h' ((e, excO (some dx) t) :: (dx, dictOf es' n') :: news) → Q () { s with heap := h', toks := tk' }) :
    wpAny (model PySem.Challenge.rw_og0173_01.row.prog w) A (setAttr (.ref e) name v) Q E s := by
  refine exc_sa F X N (.head _) hn ?_
  have hx := (N _ (.head _)).1
  have X' := X.keeps F.keep
  obtain ⟨hp, g, d, tks, os⟩ := s
  dsimp only at hx X' F N eq ⊢
  have hc := X' _ _ (ff_look w.params)
  refine wpAny_bind ?_
  unfold instanceDict
  refine wpAny_bind (wpAny_loadPart hx ?_)
  refine wpAny_bind (wpAny_bind (wpAny_load hc ?_))
  refine wpAny_pure ?_
  simp only [Bool.not_true, Bool.false_eq_true, if_false]
  refine wpAny_pure ?_
  exact store_in (pre := [(e, excO (some dx) t)]) (post := news) F N hl (fun p hp => by rw [List.mem_singleton.mp hp]; exact Nat.ne_of_lt hedx) hne eq hz (fun h' F₃ N₃ => h h' _ F₃ N₃)
end Mine
end

section
open PySem PySem.W PySem.Calls PyProof.Rows Builtin Builtin.ObjectAttr
set_option Elab.async false
set_option maxRecDepth 100000
set_option maxHeartbeats 8000000
set_option linter.unusedVariables false
namespace Mine
local macro_rules | `(tactic| walk_at "zz") => `(tactic| fail)
theorem kw_X4 : True := by k_with_none; w_top off; trivial
local macro_rules | `(tactic| walk_at "getMethod type:Exception") => `(tactic| (k_here; refine' method_type ?F ?X ?m (by decide +kernel) ?e ?h ?_; (case F => k_asm); (case X => k_asm); (case m => exact meta_Exc); (case e => k_dflt k_is); (case h => k_handed)))
local macro_rules | `(tactic| walk_at "call builtin:Exception.__init__") => `(tactic| (k_here; k_dflt (refine' exc_init_call ?F ?X ?N ?n ?_; (case F => k_asm); (case X => k_asm); (case N => k_asm); (case n => k_all)); intro h' t' F' N'))
local macro_rules | `(tactic| walk_at "setAttr ref") => `(tactic| (k_here; k_dflt (first
  | (refine' exc_set0 ?xsF ?xsX ?xsN ?xsn ?xsf ?_; (case xsF => k_asm); (case xsX => k_asm); (case xsN => k_asm); (case xsn => k_all); (case xsf => k_is))
  | (refine' exc_set1 ?xsF ?xsX ?xsN ?xsn ?xse ?xsf ?xsl ?xsp ?xsz ?_; (case xsF => k_asm); (case xsX => k_asm); (case xsN => k_asm); (case xsn => k_all); (case xse => first | assumption | omega); (case xsf => k_is); (case xsl => k_get); (case xsp => k_put); (case xsz => show 2 ≤ 1000; decide))); intros))
theorem news_drop3 {h₀ h : Heap} {L : Addr} {a b c : Addr × Obj} {r : List (Addr × Obj)} (N : News h₀ L h (a :: b :: c :: r)) : News h₀ L h (a :: b :: r) := fun p hp => N p (by
  rcases List.mem_cons.mp hp with rfl | hp
  · exact .head _
  · rcases List.mem_cons.mp hp with rfl | hp
    · exact .tail _ (.head _)
    · exact .tail _ (.tail _ (.tail _ hp)))

theorem ff_c (w : World) (x : Str) (v : Int) (tx tv : Tok) :
  Call w 6 (fun fs base h₀ L m news s Q E => 
    ∀ (h' : Heap) (tk' : Nat) (e dx t : Addr) (t1 t2 : Tok) (hs : Int × Int), Fr h₀ L h' m → News h₀ L h' ((e, excO (some dx) (.ref t)) :: (dx, dictOf [⟨hs.1, .str (Str.ofString "what") t1, .str x tx⟩, ⟨hs.2, .str (Str.ofString "at") t2, .int v tv⟩] 2) :: news) → @LT.lt Nat _ e dx → (∀ p ∈ news, p.1 < e) → Q (.ref e) { s with heap := h', toks := tk' }) 52 [.str x tx, .int v tv] := by
  unfold Call
  k_fill
  intro mean mg mb dp un gd cn cs a ccd cl outer A₀ base h₀ L m news s Q E B F X N T hcs hd hu hret
  obtain ⟨hp, g, d, tk, os⟩ := s
  refine wpAny_call ?_
  refine ff_make (X.keeps F.keep) (by rw [sizeLine_eq]; show 2 ≤ 16777216; decide) ?_
  have F₁ := F.push { cls := .type "tuple", data := .seq [Value.str x tx, Value.int v tv].toArray }
  have N₁ := N.push F { cls := .type "tuple", data := .seq [Value.str x tx, Value.int v tv].toArray }
  have F₂ := F₁.push (excO none (.ref hp.objs.size))
  have N₂ := N₁.push F₁ (excO none (.ref hp.objs.size))
  have hlt : ∀ p ∈ news, p.1 < hp.objs.size := fun p hp => Heap.lt_size (N p hp).1
  rw [Heap.size_push] at N₂
  have hne : hp.objs.size < hp.objs.size + 1 := Nat.lt_succ_self _
  have hlt' : ∀ p ∈ news, p.1 < hp.objs.size + 1 := fun p hp => Nat.lt_trans (hlt p hp) hne
  generalize hp.objs.size + 1 = e at *
  generalize hp.objs.size = t0 at *
  generalize hh : (hp.push { cls := .type "tuple", data := .seq [Value.str x tx, Value.int v tv].toArray }).push (excO none (.ref t0)) = h₂ at *
  clear hh N F N₁ F₁
  k_dflt (refine' code_def ?k1 ?k2 ?k3 ?k4 ?k5 ?kA ?kF ?kK ?k6 ?k7 ?k8 ?k9 ?kB ?_ ?c2 ?c3 ?c4 ?c5; (case kA => exact rfl); (case kF => exact rfl); (case kK => assumption); (case k1 => k_asm); (case k2 => k_asm); (case k3 => k_asm); (case k4 => k_asm); (case k5 => k_asm); (case k6 => k_is); (case k7 => k_is); (case k8 => ktr_room); (case k9 => exact binds_K (X.keeps F₂.keep) rfl (by k_is) rfl rfl rfl); (case c5 => decide); (case kB => exact locs rfl); (case c2 => exact rfl); (case c3 => exact rfl); (case c4 => exact rfl); k_whole; intro g' L' h' FG' F' N' B' X' T'; (try dsimp only); (try k_lift B'); (try k_fold))
  k_steps
  (rename Fr h₀ L _ m => kF); (rename News h₀ L _ _ => kN)
  exact hret _ _ e _ _ _ _ (_, _) kF (news_drop3 kN) (by assumption) (by assumption)
end Mine
end

section
open PySem PySem.W PySem.Calls PyProof.Rows
set_option Elab.async false
set_option maxRecDepth 100000
set_option maxHeartbeats 8000000
set_option linter.unusedVariables false
namespace Mine

def RaisableD (E : Value → Shared → Prop) (v : Value) (s₁ : Shared) : Prop :=
  ∃ e od t, v = .ref e ∧ s₁.heap.get? 52 = some ffObj ∧ s₁.heap.get? e = some (excO od (.ref t)) ∧ E (.ref e) s₁

theorem raisableD_of {w : World} {g : Heap} {L e t : Addr} {od : Option Addr} {m : Str → Option Value} {news : List (Addr × Obj)} {E : Value → Shared → Prop} {s : Shared} (F : Fr g L s.heap m) (X : (hd173.heap_39 w.params).In g) (N : News g L s.heap ((e, excO od (.ref t)) :: news)) (hE : E (.ref e) s) : RaisableD E (.ref e) s :=
  ⟨e, od, t, rfl, F.keep _ _ (X _ _ (ff_look w.params)), (N _ (.head _)).1, hE⟩

theorem Raise_ff {prog : Program} {w : World} {A : Around} {E : Value → Shared → Prop} {Q : Flow → Shared → Prop} {s : Shared} {env : Env} {x : PySem.Expr} {pos : Pos} (hh : A.handled = none)
    (h : wpAny (model prog w) A (eval x env) (RaisableD E) E s) : wpAny (model prog w) A (exec (.Raise (some x) none pos) env) Q E s := by
  have hcB : (Value.ref 52 :: excBm).contains (.type "BaseException") = true := by decide
  show wpAny (model prog w) A (do standAt pos; raiseStmt env (some (do let v ← eval x env; standAt pos; pure v)) none) Q E s
  refine wpAny_bind (wpAny_standAt ?_)
  unfold raiseStmt
  dsimp only
  refine wpAny_bind (wpAny_bind (wpAny_mono h (fun v s₁ h₁ => wpAny_bind (wpAny_standAt (wpAny_pure ?_))) fun _ _ x => x))
  obtain ⟨e, od, t, rfl, hC, he, hE⟩ := h₁
  obtain ⟨hp, g, d, tk, os⟩ := s₁
  repeat (first | with_reducible refine wpAny_loadPart_at he ?_ | with_reducible refine wpAny_loadPart_at hC ?_ | (with_reducible refine wpAny_isSubtype_exc hC ?_; rw [hcB]) | wp_step)
  exact wpAny_raiseNew_none hh hE

/-- An own exception in flight: its record, its dict's address, the traceback that it holds. `B` is what stays as it is. -/
def FlyD (B : Heap) (l : List Env) (e dx : Addr) (fl : Value) (h : Heap) : Prop :=
  B.StaysIn h ∧ B.get? e = none ∧ h.FunFrames B l ∧ ∃ oe vs T oT ts, h.get? e = some oe ∧ oe.cls = .ref 52 ∧ oe.dict = some dx ∧ oe.data = .fields vs ∧ vs[1]? = some (.ref T) ∧ B.get? T = none ∧ T ≠ e ∧ h.get? T = some oT ∧ oT.data = .fields ts ∧ ts[3]? = some fl

theorem dict_mapFields (o : Obj) (f : Array Value → Array Value) : (Obj.mapFields f o).dict = o.dict := by
  obtain ⟨c, d, dt, sl⟩ := o
  cases dt <;> rfl

section
variable {M : Model} {A : Around} {E : Value → Shared → Prop} {s : Shared} {B : Heap} {env : Env} {outer : List Env} {L e dx : Addr} {Q : Unit → Shared → Prop}

theorem entryD {oe : Obj} {vs : Array Value} {head : Value} {hadNext : Bool}
    (hfr : A.frames = some (env :: outer)) (hl : s.heap.FunFrames B (env :: outer)) (hf : env.frame = some L)
    (he : s.heap.get? e = some oe) (hkb : B.StaysIn s.heap) (hen : B.get? e = none) (hcl : oe.cls = .ref 52) (hdx : oe.dict = some dx) (hd : oe.data = .fields vs) (hsz : 1 < vs.size)
    (h : ∀ h', FlyD B (env :: outer) e dx (rawInt L) h' → s.heap.UpToSlots h' → Q () { s with heap := h' }) :
    wpAny M A (do let a ← frameOf env; let pl ← entryPlaceOf L hadNext; let b ← EntryCells.newEntry head a .none (rawInt L) .none pl; setField (.ref e) 1 b) Q E s := by
  have hene : e ∉ (env :: outer).filterMap (·.frame) := fun hm => by
    obtain ⟨_, o, ho, hnf⟩ := hl.mem hm
    rw [he] at ho; cases ho; exact hnf vs hd
  refine wpAny_bind (wpAny_frameOf_fun hfr hl hf fun h₁ hs₁ => ?_)
  refine wpAny_bind (wpAny_entryPlaceOf fun pl hpl => ?_)
  unfold EntryCells.newEntry newFields
  refine wpAny_bind (wpAny_newObj_type ?_ (hpl.sizeOk5 _ _ _ _ _))
  have he₁ : h₁.get? e = some oe := (hs₁.2.1 e hene).trans he
  have kb₁ : B.StaysIn h₁ := fun b o hbo => (hs₁.2.1 b fun hm => by rw [(hl.mem hm).1] at hbo; cases hbo).trans (hkb b o hbo)
  have hfree := kb₁.fresh
  have hTe : h₁.objs.size ≠ e := Nat.ne_of_gt (Heap.lt_size he₁)
  have e3 : (if pl.isEmpty then List.replicate 6 Value.none else pl).length ≥ 0 := Nat.zero_le _
  generalize hTo : ({ cls := Value.type "traceback", dict := none, data := Data.fields ([head, .ref L, .none, rawInt L, .none] ++ (if pl.isEmpty then List.replicate 6 Value.none else pl)).toArray } : Obj) = oT
  have hTd : oT.data = .fields ([head, .ref L, .none, rawInt L, .none] ++ (if pl.isEmpty then List.replicate 6 Value.none else pl)).toArray := by rw [← hTo]
  have hTf : oT.isFreed = false := by rw [← hTo]; rfl
  have he₂ : (h₁.push oT).get? e = some oe := Heap.get?_push_of_some oT he₁
  refine wpAny_setField he₂ hd hsz (h _ ?_ ?_)
  all_goals
    have hd₃ := Obj.data_mapFields hd (·.setIfInBounds 1 (Value.ref h₁.objs.size))
    have he₃ := Heap.get?_update_self (Obj.mapFields (·.setIfInBounds 1 (Value.ref h₁.objs.size))) he₂ (Obj.isFreed_of_fields hd₃)
    have keep : ∀ b o, b ≠ e → h₁.get? b = some o → ((h₁.push oT).update e (Obj.mapFields (·.setIfInBounds 1 (Value.ref h₁.objs.size)))).get? b = some o := fun b o hbe hb => by
      rw [Heap.get?_update_other _ _ (Ne.symm hbe)]; exact Heap.get?_push_of_some _ hb
    have notRec : ∀ b o, s.heap.get? b = some o → (∀ vs, o.data ≠ .fields vs) → b ≠ e := fun b o hb hnf q => by
      rw [q, he] at hb; cases hb; exact hnf vs hd
  · refine ⟨fun b o hbo => keep b o (fun q => by rw [q, hen] at hbo; cases hbo) (kb₁ b o hbo), hen, hl.of_keeps fun b o hb hnf => ?_, ?_⟩
    · obtain ⟨sl, hs⟩ := hs₁.2.2 b o hb
      exact ⟨_, keep b _ (notRec b o hb hnf) hs, rfl⟩
    · refine ⟨_, _, h₁.objs.size, oT, _, he₃, (Obj.cls_mapFields _ _).trans hcl, (dict_mapFields _ _).trans hdx, hd₃, by simp [hsz], hfree, hTe, ?_, hTd, by simp⟩
      rw [Heap.get?_update_other _ _ (Ne.symm hTe)]
      exact Heap.get?_push_size _ hTf
  · intro b o hb hnf
    obtain ⟨sl, hs⟩ := hs₁.2.2 b o hb
    exact ⟨sl, keep b _ (notRec b o hb hnf) hs⟩
end
end Mine
end

section
open PySem PySem.W PySem.Calls PyProof.Rows
set_option Elab.async false
set_option maxRecDepth 100000
set_option maxHeartbeats 8000000
set_option linter.unusedVariables false
namespace Mine
section
variable {M : Model} {A : Around} {E : Value → Shared → Prop} {s : Shared} {B : Heap} {env : Env} {outer l : List Env} {L e dx : Addr} {Q : Unit → Shared → Prop}

theorem setFlightD {fl : Value} (hf : FlyD B l e dx fl s.heap) (h : ∀ h', FlyD B l e dx .none h' → s.heap.UpToSlots h' → Q () { s with heap := h' }) :
    wpAny M A (setFlight (.ref e) none) Q E s := by
  obtain ⟨k1, k2, k3, oe, vs, T, oT, ts, he, hcl, hdx, hd, h1, hT0, hTe, hT, hTd, h3⟩ := hf
  have hsz3 : 3 < ts.size := (Array.getElem?_eq_some_iff.mp h3).1
  have other : ∀ b, b ≠ T → (s.heap.update T (Obj.mapFields (·.setIfInBounds 3 Value.none))).get? b = s.heap.get? b :=
    fun b hb => Heap.get?_update_other _ _ (Ne.symm hb)
  have notRec : ∀ b o, s.heap.get? b = some o → (∀ vs, o.data ≠ .fields vs) → b ≠ T := fun b o hb hnf q => by
    rw [q, hT] at hb; cases hb; exact hnf ts hTd
  unfold setFlight
  refine wpAny_bind (wpAny_field he hd h1 ?_)
  rw [if_pos (show (Value.ref T != Value.none) = true from by simp)]
  refine wpAny_setField hT hTd hsz3 (h _ ?_ ?_)
  · exact ⟨fun b o hbo => (other b fun q => by rw [q, hT0] at hbo; cases hbo).trans (k1 b o hbo), k2, k3.of_keeps fun b o hb hnf => ⟨o, (other b (notRec b o hb hnf)).trans hb, rfl⟩,
      oe, vs, T, _, _, (other e (Ne.symm hTe)).trans he, hcl, hdx, hd, h1, hT0, hTe, Heap.get?_update_self _ hT (Obj.isFreed_of_fields (Obj.data_mapFields hTd _)), Obj.data_mapFields hTd _, by simp [hsz3]⟩
  · exact fun b o hb hnf => ⟨o.slots, (other b (notRec b o hb hnf)).trans hb⟩

theorem noteFirstD {oe : Obj} {vs : Array Value} (hfr : A.frames = some (env :: outer)) (hl : s.heap.FunFrames B (env :: outer)) (hf : env.frame = some L)
    (he : s.heap.get? e = some oe) (hkb : B.StaysIn s.heap) (hen : B.get? e = none) (hcl : oe.cls = .ref 52) (hdx : oe.dict = some dx) (hd : oe.data = .fields vs) (h1 : vs[1]? = some .none)
    (h : ∀ h', FlyD B (env :: outer) e dx (rawInt L) h' → s.heap.UpToSlots h' → Q () { s with heap := h' }) : wpAny M A (noteFrame (.ref e) env) Q E s := by
  unfold noteFrame
  simp only [hf]
  refine wpAny_bind (wpAny_field he hd h1 ?_)
  rw [if_neg (by decide)]
  exact entryD hfr hl hf he hkb hen hcl hdx hd (Array.getElem?_eq_some_iff.mp h1).1 h

theorem noteNextD (hfr : A.frames = some (env :: outer)) (hf : env.frame = some L) (hx : FlyD B (env :: outer) e dx .none s.heap)
    (h : ∀ h', FlyD B (env :: outer) e dx (rawInt L) h' → s.heap.UpToSlots h' → Q () { s with heap := h' }) : wpAny M A (noteFrame (.ref e) env) Q E s := by
  obtain ⟨k1, k2, k3, oe, vs, T, oT, ts, he, hcl, hdx, hd, h1, hT0, hTe, hT, hTd, h3⟩ := hx
  have other : ∀ b, b ≠ T → (s.heap.update T (Obj.mapFields (·.setIfInBounds 3 Value.none))).get? b = s.heap.get? b :=
    fun b hb => Heap.get?_update_other _ _ (Ne.symm hb)
  have notRec : ∀ b o, s.heap.get? b = some o → (∀ vs, o.data ≠ .fields vs) → b ≠ T := fun b o hb hnf q => by
    rw [q, hT] at hb; cases hb; exact hnf ts hTd
  unfold noteFrame
  simp only [hf]
  refine wpAny_bind (wpAny_field he hd h1 ?_)
  rw [if_pos (show (Value.ref T != Value.none) = true from by simp)]
  refine wpAny_bind (wpAny_field hT hTd h3 ?_)
  rw [if_neg (show ¬ ((Value.none == rawInt L) = true) from by simp [rawInt])]
  refine wpAny_bind (wpAny_setField hT hTd (Array.getElem?_eq_some_iff.mp h3).1 ?_)
  refine entryD hfr (k3.of_keeps fun b o hb hnf => ⟨o, (other b (notRec b o hb hnf)).trans hb, rfl⟩) hf ((other e (Ne.symm hTe)).trans he)
    (fun b o hbo => (other b fun q => by rw [q, hT0] at hbo; cases hbo).trans (k1 b o hbo)) k2 hcl hdx hd (Array.getElem?_eq_some_iff.mp h1).1
    fun h' x1 x2 => h h' x1 fun b o hb hnf => x2 b o ((other b (notRec b o hb hnf)).trans hb) hnf

theorem noteAgainD (hf : env.frame = some L) (hx : FlyD B l e dx (rawInt L) s.heap) (h : Q () s) : wpAny M A (noteFrame (.ref e) env) Q E s := by
  obtain ⟨k1, k2, k3, oe, vs, T, oT, ts, he, hcl, hdx, hd, h1, hT0, hTe, hT, hTd, h3⟩ := hx
  unfold noteFrame
  simp only [hf]
  refine wpAny_bind (wpAny_field he hd h1 ?_)
  rw [if_pos (show (Value.ref T != Value.none) = true from by simp)]
  refine wpAny_bind (wpAny_field hT hTd h3 ?_)
  rw [if_pos (show (rawInt L == rawInt L) = true from by simp)]
  exact wpAny_pure h

theorem FlyD.out {fl : Value} {h : Heap} (x : FlyD B (env :: outer) e dx fl h) : FlyD B outer e dx fl h :=
  let ⟨k1, k2, k3, r⟩ := x; ⟨k1, k2, k3.2.2, r⟩

theorem leaveFirstD {oe : Obj} {vs : Array Value} (hfr : A.frames = some (env :: outer)) (hl : s.heap.FunFrames B (env :: outer)) (hf : env.frame = some L)
    (he : s.heap.get? e = some oe) (hkb : B.StaysIn s.heap) (hen : B.get? e = none) (hcl : oe.cls = .ref 52) (hdx : oe.dict = some dx) (hd : oe.data = .fields vs) (h1 : vs[1]? = some .none)
    (h : ∀ h', FlyD B outer e dx .none h' → s.heap.UpToSlots h' → Q () { s with heap := h' }) : wpAny M A (leaving env (.ref e)) Q E s := by
  unfold leaving
  refine wpAny_bind (noteFirstD hfr hl hf he hkb hen hcl hdx hd h1 fun h₁ x₁ u₁ => ?_)
  exact setFlightD x₁ fun h₂ x₂ u₂ => h h₂ x₂.out (u₁.trans u₂)

theorem leaveNextD (hfr : A.frames = some (env :: outer)) (hf : env.frame = some L) (hx : FlyD B (env :: outer) e dx .none s.heap)
    (h : ∀ h', FlyD B outer e dx .none h' → s.heap.UpToSlots h' → Q () { s with heap := h' }) : wpAny M A (leaving env (.ref e)) Q E s := by
  unfold leaving
  refine wpAny_bind (noteNextD hfr hf hx fun h₁ x₁ u₁ => ?_)
  exact setFlightD x₁ fun h₂ x₂ u₂ => h h₂ x₂.out (u₁.trans u₂)
end

/-- What a callee's exception leaves: the ledger `news` (the exception's own dict among it) stands in the part that stays. -/
def RaisedD (base : Heap) (l : List Env) (e dx : Addr) (news : List (Addr × Obj)) (h : Heap) : Prop :=
  ∃ B, base.StaysIn B ∧ (∀ q ∈ news, B.get? q.1 = some q.2 ∧ base.get? q.1 = none) ∧ FlyD B l e dx .none h

section
variable {M : Model} {A : Around} {E : Value → Shared → Prop} {s' : Shared} {base g g₂ h : Heap} {outer : List Env} {L a e dx : Addr} {m : Str → Option Value} {name : Str} {scope : Scope} {cd t : Value} {Q : Unit → Shared → Prop} {news : List (Addr × Obj)}

theorem leave_raiseD (K : Below A base outer g) (F : Fr g L s'.heap m) (N : News g L s'.heap ((e, excO (some dx) t) :: news)) (hne : ∀ p ∈ news, p.1 ≠ e)
    (hQ : ∀ h', RaisedD base outer e dx news h' → g.UpToSlots h' → Q () { s' with heap := h' }) (hk : scope.kind = .function := by rfl) :
    wpAny M (A.deeper (envOf name scope L a cd)) (leaving (envOf name scope L a cd) (.ref e)) Q E s' := by
  have K' := K.push (name := name) (a := a) (cd := cd) F hk
  have he := N _ (.head _)
  have hnd : ∀ b o, base.get? b = some o → b ∉ e :: (envOf name scope L a cd :: outer).filterMap (·.frame) := fun b o q hm => by
    rcases List.mem_cons.mp hm with rfl | hm
    · have := K.stays b o q; rw [he.2.2] at this; cases this
    · rw [(K'.frames.mem hm).1] at q; cases q
  have st : base.StaysIn (hideAll s'.heap (e :: (envOf name scope L a cd :: outer).filterMap (·.frame))) := fun b o q => hideAll_get _ (K'.stays b o q) (hnd b o q)
  have hl : ∀ q ∈ news, (hideAll s'.heap (e :: (envOf name scope L a cd :: outer).filterMap (·.frame))).get? q.1 = some q.2 ∧ base.get? q.1 = none := fun q hq => by
    have Nq := N q (.tail _ hq)
    refine ⟨hideAll_get _ Nq.1 fun hm => ?_, fresh_of_stays K.stays Nq.2.2⟩
    rcases List.mem_cons.mp hm with z | hm
    · exact hne q hq z
    · obtain ⟨env, hen, hf⟩ := List.mem_filterMap.mp hm
      rcases List.mem_cons.mp hen with rfl | hen
      · exact Nq.2.1 (Option.some.inj hf).symm
      · obtain ⟨o, ho, _⟩ := (K.frames.mem (List.mem_filterMap.mpr ⟨env, hen, hf⟩)).2
        rw [Nq.2.2] at ho; cases ho
  have hfun : s'.heap.FunFrames (hideAll s'.heap (e :: (envOf name scope L a cd :: outer).filterMap (·.frame))) (envOf name scope L a cd :: outer) :=
    funFrames_hide K'.frames fun env hen b hb => .tail _ (List.mem_filterMap.mpr ⟨env, hen, hb⟩)
  refine leaveFirstD K'.stack hfun rfl he.1 (fun b o q => of_hideAll _ q) (hideAll_none _ (.head _)) rfl rfl rfl rfl fun h' x u => ?_
  exact hQ h' ⟨_, st, hl, x⟩ ((Heap.UpToSlots.of_keeps F.keep).trans u)

theorem leave_onD (K : Below A base outer g) (F : Fr g L g₂ m) (R : RaisedD base (envOf name scope L a cd :: outer) e dx news s'.heap) (hsm : g₂.UpToSlots s'.heap)
    (hQ : ∀ h', RaisedD base outer e dx news h' → g.UpToSlots h' → Q () { s' with heap := h' }) :
    wpAny M (A.deeper (envOf name scope L a cd)) (leaving (envOf name scope L a cd) (.ref e)) Q E s' := by
  obtain ⟨B, hB, hl, hx⟩ := R
  exact leaveNextD (Around.frames_deeper K.stack) rfl hx fun h' x u => hQ h' ⟨B, hB, hl, x⟩ ((Heap.UpToSlots.of_keeps F.keep).trans (hsm.trans u))
end
end Mine
end

section
open PySem PySem.W PyProof.Rows
set_option Elab.async false
set_option maxRecDepth 100000
set_option maxHeartbeats 8000000
namespace Mine
theorem kw_C2 : True := by k_with_none; w_top off; trivial

theorem pow3_lt {y : Int} (h0 : 0 ≤ y) (h1 : y < 100) : (3 : Int) ^ (20 + y).toNat < 2 ^ 199 ∧ 0 ≤ (3 : Int) ^ (20 + y).toNat := by
  have h : (20 + y).toNat ≤ 119 := by omega
  have e : (3 : Int) ^ (20 + y).toNat = ((3 ^ (20 + y).toNat : Nat) : Int) := by simp
  have h2 : (3 : Nat) ^ (20 + y).toNat ≤ 3 ^ 119 := Nat.pow_le_pow_right (by decide) h
  have h3 : (3 : Nat) ^ 119 < 2 ^ 199 := by decide +kernel
  rw [e]
  constructor
  · have : (3 : Nat) ^ (20 + y).toNat < 2 ^ 199 := Nat.lt_of_le_of_lt h2 h3
    exact_mod_cast this
  · exact Int.natCast_nonneg _

theorem ask_lo {x many : Int} (hm : 0 < many) (h : 0 ≤ x) : 0 ≤ x.fdiv many := by
  rw [Int.fdiv_eq_ediv_of_nonneg _ (Int.le_of_lt hm)]; exact Int.ediv_nonneg h (Int.le_of_lt hm)
theorem ask_hi {x many : Int} (hm : 0 < many) (h : 0 ≤ x) : x.fdiv many ≤ x := by
  rw [Int.fdiv_eq_ediv_of_nonneg _ (Int.le_of_lt hm)]; exact Int.ediv_le_self _ h
theorem ask_mod {x many : Int} (hm : 0 < many) : 0 ≤ x.fmod many ∧ x.fmod many < many := by
  rw [Int.fmod_eq_emod_of_nonneg _ (Int.le_of_lt hm)]
  exact ⟨Int.emod_nonneg _ (Int.ne_of_gt hm), Int.emod_lt_of_pos _ hm⟩

theorem law_ask_c (w : World) (l : Addr) (many : Int) (tm : Tok) :
  Call w 2 (fun fs base h₀ L m news s Q E => ∃ rest n x y tx ty, news = (l, listOf #[.int x tx, .int y ty] n) :: rest ∧ (∀ p ∈ rest, p.1 ≠ l) ∧ 0 < many ∧ many ≤ 300 ∧ 0 ≤ x ∧ x < 2 ^ 1000 ∧ 0 ≤ y ∧ y < 100 ∧
    ∀ (t : Tok) (h' : Heap) (tk' : Nat) (x' y' : Int) (tx' ty' : Tok) (r : Int), Fr h₀ L h' m → News h₀ L h' ((l, listOf #[.int x' tx', .int y' ty'] n) :: rest) → 0 ≤ x' → x' < 2 ^ 1000 → y ≤ y' → y' ≤ y + 1 → 0 ≤ r → r < many → Q (.int r t) { s with heap := h', toks := tk' }) 320 [.ref l, .int many tm] := by
  unfold Call
  k_fill
  intro mean mg mb dp un gd cn cs a ccd cl outer A₀ base h₀ L m news s Q E B F X N T hcs hd hu hret
  obtain ⟨rest, n, x, y, tx, ty, hnews, hrest, hm0, hm1, hx0, hx1, hy0, hy1, hret⟩ := hret
  subst hnews
  have h0 : [x, y].getD (Int.toNat 0) 0 = x := rfl
  have h1 : [x, y].getD (Int.toNat 1) 0 = y := rfl
  have hp := pow3_lt hy0 hy1
  refine wpAny_call ?_
  k_dflt cell_enter
  (k_with "binaryOp Pow int int" => refine' pow_int_small ?p1 ?p2 ?p3 ?_; (case p1 => show (0 : Int) ≤ 20 + y; omega); (case p2 => show (20 + y : Int) ≤ 1000000; omega); (case p3 => decide))
  k_steps
  · (rename Fr h₀ L _ m => kF); (rename News h₀ L _ _ => kN)
    have hlt : x < many := by first | assumption | with_unfolding_all assumption
    have e2 : x + (3 : Int) ^ (20 + y).toNat < 2 ^ 1000 := by omega
    have e3 : 0 ≤ x + (3 : Int) ^ (20 + y).toNat := by omega
    exact hret _ _ _ _ _ _ _ _ kF (news_tail (news_tail kN)) (ask_lo hm0 e3) (Int.lt_of_le_of_lt (ask_hi hm0 e3) e2) (by show y ≤ y + 1; omega) (by show y + 1 ≤ y + 1; omega) (ask_mod hm0).1 (ask_mod hm0).2
  · (rename Fr h₀ L _ m => kF); (rename News h₀ L _ _ => kN)
    exact hret _ _ _ _ _ _ _ _ kF (news_tail kN) (ask_lo hm0 hx0) (Int.lt_of_le_of_lt (ask_hi hm0 hx0) hx1) (by show y ≤ y; omega) (by show y ≤ y + 1; omega) (ask_mod hm0).1 (ask_mod hm0).2
  (k_with_none)
end Mine
end

section
open PySem PySem.W PyProof.Rows
set_option Elab.async false
set_option maxRecDepth 100000
set_option maxHeartbeats 8000000
namespace Mine
local macro_rules | `(tactic| walk_at "zz") => `(tactic| fail)
theorem kw_C3 : True := by k_with_none; w_top off; trivial

def adStep (p : Int × Int) (b : Int) : Int × Int := ((p.1 + b).fmod 65521, (p.2 + (p.1 + b).fmod 65521).fmod 65521)
def adPair (bs : List Int) : Int × Int := bs.foldl adStep (1, 0)
def adlerZ (bs : List Int) : Int := (adPair bs).2 * 65536 + (adPair bs).1

theorem adPair_snoc (bs : List Int) (b : Int) : adPair (bs ++ [b]) = adStep (adPair bs) b := by
  unfold adPair; rw [List.foldl_append]; rfl
theorem fmod_in (x : Int) : 0 ≤ x.fmod 65521 ∧ x.fmod 65521 < 65521 := by
  rw [Int.fmod_eq_emod_of_nonneg _ (by decide)]
  exact ⟨Int.emod_nonneg _ (by decide), Int.emod_lt_of_pos _ (by decide)⟩
def AdW (pre : List Int) (low high : Int) : Prop := (low, high) = adPair pre ∧ 0 ≤ low ∧ low < 65521 ∧ 0 ≤ high ∧ high < 65521
theorem ad_start : AdW [] 1 0 := ⟨rfl, by decide, by decide, by decide, by decide⟩
theorem ad_turn {pre : List Int} {low high n : Int} (h : AdW pre low high) : AdW (pre ++ [n]) ((low + n).fmod 65521) ((high + (low + n).fmod 65521).fmod 65521) := by
  obtain ⟨h, _⟩ := h
  refine ⟨?_, (fmod_in _).1, (fmod_in _).2, (fmod_in _).1, (fmod_in _).2⟩
  rw [adPair_snoc, ← h]; rfl
theorem ad_end {pre : List Int} {low high : Int} (h : AdW pre low high) : high * 65536 + low = adlerZ pre := by
  unfold adlerZ; rw [← h.1]
theorem ad_lo {pre : List Int} {low high : Int} (h : AdW pre low high) : 0 ≤ low ∧ low < 65521 ∧ 0 ≤ high ∧ high < 65521 := h.2

theorem adler_c (w : World) (b : Array UInt8) (tb : Tok) :
  Call w 2 (fun fs base h₀ L m news s Q E => 
    ∀ (t : Tok) (h' : Heap) (tk' : Nat), Fr h₀ L h' m → News h₀ L h' news → Q (.int (adlerZ (KBw.bInts b)) t) { s with heap := h', toks := tk' }) 292 [.bytes b tb] := by
  unfold Call
  k_fill
  intro mean mg mb dp un gd cn cs a ccd cl outer A₀ base h₀ L m news s Q E B F X N T hcs hd hu hret
  refine wpAny_call ?_
  k_dflt cell_enter
  (k_with "pyIter bytes" => k_state (fun pre low high => AdW pre low high) "low" "high")
  (k_with "state" => first | exact ad_start | exact ad_turn (by assumption))
  k_steps
  rename AdW _ _ _ => hI
  (rename Fr h₀ L _ m => kF); (rename News h₀ L _ _ => kN)
  rw [ad_end hI]
  exact hret _ _ _ kF kN
  k_with_none
end Mine
end

section
open PySem PySem.W PyProof.Rows
set_option Elab.async false
set_option maxRecDepth 100000
set_option maxHeartbeats 8000000
set_option linter.unusedVariables false
namespace Mine
theorem kw_C4 : True := by k_with_none; w_top off; trivial

def joinedZ (one other length : Int) : Int :=
  ((one.fdiv 65536 + other.fdiv 65536 + length * (one.fmod 65536 - 1)).fmod 65521) * 65536 + (one.fmod 65536 + other.fmod 65536 - 1).fmod 65521

theorem joined_c (w : World) (one other len : Int) (t1 t2 t3 : Tok) :
  Call w 2 (fun fs base h₀ L m news s Q E => 0 ≤ one ∧ one < 2 ^ 32 ∧ 0 ≤ other ∧ other < 2 ^ 32 ∧ 0 ≤ len ∧ len < 2 ^ 20 ∧
    ∀ (t : Tok) (h' : Heap) (tk' : Nat), Fr h₀ L h' m → News h₀ L h' news → Q (.int (joinedZ one other len) t) { s with heap := h', toks := tk' }) 327 [.int one t1, .int other t2, .int len t3] := by
  unfold Call
  k_fill
  intro mean mg mb dp un gd cn cs a ccd cl outer A₀ base h₀ L m news s Q E B F X N T hcs hd hu hret
  obtain ⟨h1, h2, h3, h4, h5, h6, hret⟩ := hret
  refine wpAny_call ?_
  k_dflt cell_enter
  k_steps
  (rename Fr h₀ L _ m => kF); (rename News h₀ L _ _ => kN)
  exact hret _ _ _ kF (by first | exact kN | exact news_tail (news_tail kN))
  k_with_none
end Mine
end

section
open PySem PySem.W PyProof.Rows
set_option Elab.async false
set_option maxRecDepth 100000
set_option maxHeartbeats 8000000
set_option linter.unusedVariables false
namespace Mine
theorem kw_C5 : True := by k_with_none; w_top off; trivial
local macro_rules | `(tactic| walk_at "call ref") => `(tactic| (k_here; k_dflt (refine' adler_c _ _ _ _ _ _ _ _ _ _ _ _ _ _ _ _ _ _ _ _ _ _ _ _ ?xk1 ?xk2 ?xk3 ?xk4 ?xk5 ?xk6 ?xk7 ?xk8 ?_; (case xk1 => k_asm); (case xk2 => k_asm); (case xk3 => k_asm); (case xk4 => k_asm); (case xk5 => k_asm); (case xk6 => first | exact rfl | assumption); (case xk7 => ktr_room); (case xk8 => ktr_units); k_whole); intro t9 h9 tk9 F9 N9; (try dsimp only); (try k_fold)))
local macro_rules | `(tactic| walk_at "call ref") => `(tactic| (k_here; k_dflt (refine' ff_c _ _ _ _ _ _ _ _ _ _ _ _ _ _ _ _ _ _ _ _ _ _ _ _ _ _ ?xk1 ?xk2 ?xk3 ?xk4 ?xk5 ?xk6 ?xk7 ?xk8 ?_; (case xk1 => k_asm); (case xk2 => k_asm); (case xk3 => k_asm); (case xk4 => k_asm); (case xk5 => k_asm); (case xk6 => first | exact rfl | assumption); (case xk7 => ktr_room); (case xk8 => ktr_units); k_whole); intro h9 tk9 e9 dx9 t9 t1 t2 hs9 F9 N9 l9 l8; (try dsimp only); (try k_fold)))
local macro_rules | `(tactic| walk_at "exec Raise some none") => `(tactic| (k_here; refine Raise_ff rfl ?_))
local macro_rules | `(tactic| walk_at "leaving ref") => `(tactic| (k_here; k_dflt (refine' leave_raiseD ?xlK ?xlF ?xlN ?xln ?_; (case xlK => assumption); (case xlF => assumption); (case xlN => assumption); (case xln => k_all); k_whole); intro h' R' U'; (try dsimp only at R' U' ⊢)))
local macro_rules | `(tactic| walk_at "exec For Name Subscript cons nil") => `(tactic| (k_here; (rename Fr _ _ _ _ => lF'); (with_unfolding_all refine' For_invVF lF' ?k1 ?k2 ?_; (case k1 => exact rfl); (case k2 => exact rfl); k_whole)))

def beZ (bs : List Int) : Int := bs.foldl (fun a b => 256 * a + b) 0
def BeW (pre : List Int) (total : Int) : Prop := total = beZ pre
theorem be_start : BeW [] 0 := rfl
theorem be_turn {pre : List Int} {total n : Int} (h : BeW pre total) : BeW (pre ++ [n]) (256 * total + n) := by
  unfold BeW beZ at *; rw [List.foldl_append, ← h]; rfl
def fourOf (ds : List Int) (at_ : Int) : List Int := (ds.drop at_.toNat).take 4

theorem cut4 {ds : List Int} {at_ : Int} (h0 : 0 ≤ at_) (h : at_ + 4 ≤ ds.length) : List.take (clipAt ds.length (at_ + 4) - clipAt ds.length at_) (List.drop (clipAt ds.length at_) ds) = fourOf ds at_ := by
  have e1 : clipAt ds.length at_ = at_.toNat := PyProof.Rows.clipAt_in h0 (by omega)
  have e2 : clipAt ds.length (at_ + 4) = at_.toNat + 4 := (PyProof.Rows.clipAt_in (by omega) h).trans (by omega)
  rw [e1, e2, Nat.add_sub_cancel_left]; rfl

theorem check_sum_c (w : World) (d o : Array UInt8) (ds os : List Int) (at_ : Int) (t1 t2 t3 : Tok) :
  Call w 8 (fun fs base h₀ L m news s Q E => KBw.bInts d = ds ∧ KBw.bInts o = os ∧ 0 ≤ at_ ∧ ds.length < 2 ^ 20 ∧
    (at_ + 4 ≤ ds.length → beZ (fourOf ds at_) = adlerZ os → ∀ (h' : Heap) (tk' : Nat), Fr h₀ L h' m → News h₀ L h' news → Q .none { s with heap := h', toks := tk' }) ∧
    (∀ (v : Int), (v = ds.length ∧ ds.length < at_ + 4 ∨ v = at_ ∧ at_ + 4 ≤ ds.length ∧ beZ (fourOf ds at_) ≠ adlerZ os) → ∀ (g h' : Heap) (tk' : Nat) (e dx : Addr) (t1 t2 tx tv : Tok) (hs : Int × Int) (x : Str), Fr h₀ L g m → g.UpToSlots h' →
      RaisedD base fs e dx ((dx, dictOf [⟨hs.1, .str (Str.ofString "what") t1, .str x tx⟩, ⟨hs.2, .str (Str.ofString "at") t2, .int v tv⟩] 2) :: news) h' → E (.ref e) { s with heap := h', toks := tk' })) 306 [.bytes d t1, .int at_ t2, .bytes o t3] := by
  unfold Call
  k_fill
  intro mean mg mb dp un gd cn cs a ccd cl outer A₀ base h₀ L m news s Q E B F X N T hcs hd hu hret
  obtain ⟨hd1, ho1, h0, h2, hret, hexc⟩ := hret
  refine wpAny_call ?_
  k_dflt cell_enter
  (k_with "pyIter bytes" => k_state (fun pre total => BeW pre total) "total")
  (k_with "state" => first | exact be_start | exact be_turn (by assumption))
  k_steps
  all_goals (try (k_dflt (refine' raisableD_of ?xrF ?xrX ?xrN ?_; (case xrF => k_asm); (case xrX => k_asm); (case xrN => k_asm))))
  all_goals k_steps
  · (rename Heap.UpToSlots _ _ => hU); (rename RaisedD _ _ _ _ _ _ => hR)
    exact hexc _ (.inl ⟨rfl, by omega⟩) _ _ _ _ _ _ _ _ _ _ _ (by assumption) hU hR
  · (rename Heap.UpToSlots _ _ => hU); (rename RaisedD _ _ _ _ _ _ => hR); (rename BeW _ _ => hB)
    (rename ¬ (_ : Int) < _ => hlen); (rename (_ : Int) ≠ adlerZ _ => hne)
    refine hexc _ (.inr ⟨rfl, by omega, fun q => hne ?_⟩) _ _ _ _ _ _ _ _ _ _ _ (by assumption) hU hR
    rw [ho1, ← q]
    exact hB.trans (congrArg beZ (cut4 h0 (by omega)))
  · (rename Fr h₀ L _ m => kF); (rename News h₀ L _ _ => kN); (rename BeW _ _ => hB)
    (rename ¬ (_ : Int) < _ => hlen); (rename (_ : Int) = adlerZ _ => hne)
    refine hret (by omega) ?_ _ _ kF kN
    rw [ho1] at hne
    exact (congrArg beZ (cut4 h0 (by omega))).symm.trans (hB.symm.trans hne)
  k_with_none
end Mine
end

section
open PySem PySem.W PySem.Calls PyProof.Rows
namespace Mine
theorem nat_and_shift {a b : Nat} (ha : a < 256) : a &&& (b * 256) = 0 := by
  apply Nat.eq_of_testBit_eq
  intro i
  rw [Nat.testBit_and, Nat.zero_testBit]
  by_cases h : i < 8
  · have : (b * 256).testBit i = false := by
      rw [show b * 256 = 2 ^ 8 * b from by omega, Nat.testBit_two_pow_mul]
      simp; omega
    rw [this, Bool.and_false]
  · have : a.testBit i = false := Nat.testBit_lt_two_pow (Nat.lt_of_lt_of_le ha (by
      show 2 ^ 8 ≤ 2 ^ i
      exact Nat.pow_le_pow_right (by decide) (by omega)))
    rw [this, Bool.false_and]
theorem or_hi {a b : Int} (h0 : 0 ≤ a) (h1 : a < 256) (hb : 0 ≤ b) : Builtin.bitOr a (b * 2 ^ 8) = a + 256 * b := by
  rw [PyProof.Rows.bitOr_and]
  have e : Builtin.bitAnd a (b * 2 ^ 8) = 0 := by
    have hb2 : (0 : Int) ≤ b * 2 ^ 8 := by omega
    unfold Builtin.bitAnd
    rw [decide_eq_true h0, decide_eq_true hb2]
    show ((a.toNat &&& (b * 2 ^ 8).toNat : Nat) : Int) = 0
    have e2 : (b * 2 ^ 8 : Int).toNat = b.toNat * 256 := by omega
    rw [e2, nat_and_shift (by omega)]
    rfl
  rw [e]; omega
theorem or_zero {b : Int} : Builtin.bitOr 0 (b * 2 ^ 0) = b := by
  rw [PyProof.Rows.bitOr_and]
  have e : Builtin.bitAnd 0 (b * 2 ^ 0) = 0 := by
    rw [show b * 2 ^ 0 = b from by omega, bitAnd_comm]
    have := kbt_mask b 0
    rw [show ((2 : Int) ^ 0 - 1) = 0 from rfl] at this
    rw [this]; omega
  rw [e]; omega
end Mine
end

section
open PySem PySem.W PySem.Calls PyProof.Rows Mine
local macro_rules | `(tactic| walk_at "call ref") => `(tactic| (k_here; refine wpAny_call ?_; k_dflt (refine' code_def ?xk1 ?xk2 ?xk3 ?xk4 ?xk5 ?xkA ?xkF ?xkK ?xk6 ?xk7 ?xk8 ?xk9 ?xkB ?_ ?xc2 ?xc3 ?xc4 ?xc5; (case xkA => exact rfl); (case xkF => exact rfl); (case xkK => first | exact rfl | assumption); (case xk1 => k_asm); (case xk2 => k_asm); (case xk3 => k_asm); (case xk4 => k_asm); (case xk5 => k_asm); (case xk6 => k_is); (case xk7 => k_is); (case xk8 => ktr_room); (case xk9 => exact BindsTo.of_eq rfl); (case xc5 => decide); (case xkB => exact locs rfl); (case xc2 => exact rfl); (case xc3 => exact rfl); (case xc4 => exact rfl); k_whole); intro g' L' h' FG' F' N' B' X' T'; (try dsimp only); (try k_lift B'); (try k_fold)))
section
open PySem PySem.W PySem.Calls PyProof.Rows Mine
local macro_rules | `(tactic| walk_at "exec While Compare cons nil") => `(tactic| (k_here; k_dflt (refine whl_start 4 ?_)))
section
open PySem PySem.W PySem.Calls PyProof.Rows
set_option Elab.async false
set_option maxRecDepth 100000
set_option maxHeartbeats 8000000
set_option linter.unusedVariables false
namespace Mine
theorem kw_D1 : True := by k_with_none; w_top off; trivial

abbrev bitsO (k1 k2 k3 k4 : Int × Tok) (D : Array UInt8) (tD : Tok) (a : Int) (ta : Tok) (h : Int) (th : Tok) (c : Int) (tc : Tok) : Obj :=
  dictOf [⟨k1.1, .str (Str.ofString "data") k1.2, .bytes D tD⟩, ⟨k2.1, .str (Str.ofString "at") k2.2, .int a ta⟩, ⟨k3.1, .str (Str.ofString "held") k3.2, .int h th⟩, ⟨k4.1, .str (Str.ofString "count") k4.2, .int c tc⟩] 4

theorem byte_in {D : Array UInt8} {ds : List Int} (h : KBw.bInts D = ds) (j : Nat) : 0 ≤ ds.getD j 0 ∧ ds.getD j 0 < 256 := by
  subst h
  exact KBw.getD_in fun k hk => KBw.ints_in hk

theorem pair_held {a b : Int} (h0 : 0 ≤ a) (h1 : a < 256) (hb : 0 ≤ b) : Builtin.bitOr (Builtin.bitOr 0 (a * 2 ^ Int.toNat 0)) (b * 2 ^ (0 + 8 : Int).toNat) = a + 256 * b := by
  rw [show Int.toNat 0 = 0 from rfl, show (0 + 8 : Int).toNat = 8 from rfl, or_zero, or_hi h0 h1 hb]
theorem pair_low {v : Int} (h0 : 0 ≤ v) (h1 : v < 65536) : Builtin.bitAnd v (1 * 2 ^ Int.toNat 16 - 1) = v := by
  have := kbt_mask v 16
  rw [show (1 * 2 ^ Int.toNat 16 - 1 : Int) = 2 ^ 16 - 1 from rfl, this]
  exact Int.emod_eq_of_lt h0 h1
theorem pair_gone {v : Int} (h0 : 0 ≤ v) (h1 : v < 65536) : v.fdiv (2 ^ Int.toNat 16) = 0 := by
  rw [show ((2 : Int) ^ Int.toNat 16) = 65536 from rfl, Int.fdiv_eq_ediv_of_nonneg _ (by decide)]
  omega

theorem take16_c (w : World) (x dx : Addr) (tk : Tok) :
  Call w 8 (fun fs base h₀ L m news s Q E => ∃ rest k1 k2 k3 k4 D ds tD a ta th tc, news = (x, instObj 114 dx) :: (dx, bitsO k1 k2 k3 k4 D tD a ta 0 th 0 tc) :: rest ∧ @LT.lt Nat _ dx x ∧ (∀ p ∈ rest, p.1 ≠ dx) ∧ KBw.bInts D = ds ∧ 0 ≤ a ∧ a + 2 ≤ ds.length ∧ ds.length < 2 ^ 20 ∧
    ∀ (h' : Heap) (tk' : Nat) (ta th tc tr : Tok), Fr h₀ L h' m → News h₀ L h' ((x, instObj 114 dx) :: (dx, bitsO k1 k2 k3 k4 D tD (a + 2) ta 0 th 0 tc) :: rest) → Q (.int (ds.getD a.toNat 0 + 256 * ds.getD (a + 1).toNat 0) tr) { s with heap := h', toks := tk' }) 97 [.ref x, .int 16 tk] := by
  unfold Call
  k_fill
  intro mean mg mb dp un gd cn cs a ccd cl outer A₀ base h₀ L m news s Q E B F X N T hcs hd hu hret
  obtain ⟨rest, k1, k2, k3, k4, D, ds, tD, at_, ta, th, tc, hn, hlt, hr, hD, h0, h1, h2, hret⟩ := hret
  subst hn
  refine wpAny_call ?_
  k_dflt cell_enter
  k_steps
  (rename Fr h₀ L _ m => kF); (rename News h₀ L _ _ => kN)
  have b0 := byte_in hD at_.toNat
  have b1 := byte_in hD (at_ + 1).toNat
  rw [pair_held b0.1 b0.2 b1.1, pair_gone (by omega) (by omega), Int.add_assoc] at kN
  rw [pair_held b0.1 b0.2 b1.1, pair_low (by omega) (by omega)]
  exact hret _ _ _ _ _ _ kF kN
end Mine
end

section
open PySem PySem.W PySem.Calls PyProof.Rows
set_option Elab.async false
set_option maxRecDepth 100000
set_option maxHeartbeats 8000000
set_option linter.unusedVariables false
namespace Mine
local macro_rules | `(tactic| walk_at "zz") => `(tactic| fail)
theorem kw_D2 : True := by k_with_none; w_top off; trivial

theorem one_held {b : Int} (h : b = 0 ∨ b = 1) : (Builtin.bitOr 0 (b * 2 ^ Int.toNat 0)).fdiv (2 ^ Int.toNat 1) = 0 := by
  rw [show Int.toNat 0 = 0 from rfl, or_zero]; rcases h with rfl | rfl <;> rfl
theorem one_low {b : Int} (h : b = 0 ∨ b = 1) : Builtin.bitAnd (Builtin.bitOr 0 (b * 2 ^ Int.toNat 0)) (1 * 2 ^ Int.toNat 1 - 1) = b := by
  rw [show Int.toNat 0 = 0 from rfl, or_zero]; rcases h with rfl | rfl <;> rfl

theorem take1_c (w : World) (x dx : Addr) (tk : Tok) :
  Call w 8 (fun fs base h₀ L m news s Q E => ∃ rest k1 k2 k3 k4 D ds tD a ta th tc, news = (x, instObj 114 dx) :: (dx, bitsO k1 k2 k3 k4 D tD a ta 0 th 0 tc) :: rest ∧ @LT.lt Nat _ dx x ∧ (∀ p ∈ rest, p.1 ≠ dx) ∧ KBw.bInts D = ds ∧ 0 ≤ a ∧ a + 1 ≤ ds.length ∧ ds.length < 2 ^ 20 ∧ (ds.getD a.toNat 0 = 0 ∨ ds.getD a.toNat 0 = 1) ∧
    ∀ (h' : Heap) (tk' : Nat) (ta th tc tr : Tok), Fr h₀ L h' m → News h₀ L h' ((x, instObj 114 dx) :: (dx, bitsO k1 k2 k3 k4 D tD (a + 1) ta 0 th 7 tc) :: rest) → Q (.int (ds.getD a.toNat 0) tr) { s with heap := h', toks := tk' }) 97 [.ref x, .int 1 tk] := by
  unfold Call
  k_fill
  intro mean mg mb dp un gd cn cs a ccd cl outer A₀ base h₀ L m news s Q E B F X N T hcs hd hu hret
  obtain ⟨rest, k1, k2, k3, k4, D, ds, tD, at_, ta, th, tc, hn, hlt, hr, hD, h0, h1, h2, hb, hret⟩ := hret
  subst hn
  refine wpAny_call ?_
  k_dflt cell_enter
  k_steps
  (rename Fr h₀ L _ m => kF); (rename News h₀ L _ _ => kN)
  rw [one_held hb] at kN
  rw [one_low hb]
  exact hret _ _ _ _ _ _ kF kN

theorem take2_c (w : World) (x dx : Addr) (tk : Tok) :
  Call w 8 (fun fs base h₀ L m news s Q E => ∃ rest k1 k2 k3 k4 D ds tD a ta th tc, news = (x, instObj 114 dx) :: (dx, bitsO k1 k2 k3 k4 D tD a ta 0 th 7 tc) :: rest ∧ @LT.lt Nat _ dx x ∧ (∀ p ∈ rest, p.1 ≠ dx) ∧ KBw.bInts D = ds ∧ 0 ≤ a ∧ a ≤ ds.length ∧ ds.length < 2 ^ 20 ∧
    ∀ (h' : Heap) (tk' : Nat) (ta th tc tr : Tok), Fr h₀ L h' m → News h₀ L h' ((x, instObj 114 dx) :: (dx, bitsO k1 k2 k3 k4 D tD a ta 0 th 5 tc) :: rest) → Q (.int 0 tr) { s with heap := h', toks := tk' }) 97 [.ref x, .int 2 tk] := by
  unfold Call
  k_fill
  intro mean mg mb dp un gd cn cs a ccd cl outer A₀ base h₀ L m news s Q E B F X N T hcs hd hu hret
  obtain ⟨rest, k1, k2, k3, k4, D, ds, tD, at_, ta, th, tc, hn, hlt, hr, hD, h0, h1, h2, hret⟩ := hret
  subst hn
  refine wpAny_call ?_
  k_dflt cell_enter
  k_steps
  (rename Fr h₀ L _ m => kF); (rename News h₀ L _ _ => kN)
  exact hret _ _ _ _ _ _ kF kN
end Mine
end

end

section
open PySem PySem.W PySem.Calls PyProof.Rows PySem.Builtin.Bytes
set_option Elab.async false
set_option maxRecDepth 100000
set_option maxHeartbeats 8000000
set_option linter.unusedVariables false
namespace Mine
section
variable {prog : Program} {w : World} {A : Around} {E : Value → Shared → Prop} {s : Shared}
theorem bb_look : typeLookup (.type "bytes") "__bytes__" = pure (some (.builtin "bytes.__bytes__")) := by rw [typeLookup_type, builtinLookup_eq_fast]; kernel_rfl
theorem bb_type {b : Array UInt8} {t : Tok} : typeOf (.bytes b t) = pure (.type "bytes") := by rfl

theorem bb_new {b : Array UInt8} {t : Tok} {Q : Value → Shared → Prop} (hQ : Q (.bytes b t) s) :
    codeAny (model prog w) A (.call (.builtin "bytes.__new__") ⟨[.type "bytes", .bytes b t], []⟩) (wants Q E) s := by
  refine codeAny_of_tree ?_
  show wpAny _ A.in1 (do checkBuiltinCall "bytes.__new__" ⟨[.type "bytes", .bytes b t], []⟩; again (.builtin "bytes.__new__" ⟨[.type "bytes", .bytes b t], []⟩)) _ _ s
  refine wpAny_bind (wpAny_of_eq (F.bm_newCall _) (wpAny_pure ⟨plainId_quiet F.bm_plain _, codeAny_builtin F.bm_entry ?_⟩))
  rw [Around.under_plainId F.bm_plain _]
  have hT : s.TypeIs (.bytes b t) "bytes" := PySem.W.typeIs_bytes _ _ _
  unfold Builtin.«bytes.__new__»
  refine wpAny_bind (wpAny_of_eq (a := true) rfl ?_)
  refine bm_if_false rfl ?_
  refine wpAny_bind (wpAny_of_eq F.bm_sub ?_)
  refine bm_if_false rfl ?_
  refine wpAny_bind (wpAny_of_eq (F.bm_bind _) ?_)
  refine wpAny_bind (wpAny_of_eq (a := ()) rfl ?_)
  refine wpAny_bind (wpAny_of_eq (a := ()) rfl ?_)
  refine bm_if_false rfl ?_
  refine wpAny_bind (wpAny_specialOf hT bb_look ?_)
  refine wpAny_bind (wpAny_rule ?_)
  refine wpAny_bind (wpAny_of_eq bb_type ?_)
  exact wpAny_pure hQ

theorem call_bytes_bytes {b : Array UInt8} {t : Tok} {Q : Value → Shared → Prop} (hQ : Q (.bytes b t) s) : wpAny (model prog w) A (call (.type "bytes") [.bytes b t]) Q E s := by
  refine callType_codes (Q₁ := fun obj s₁ => s₁.TypeIs obj "bytes" ∧ Q obj s₁) F.bm_called (F.bm_typeCall _) F.entry_object_init
    (bb_new ⟨PySem.W.typeIs_bytes _ _ _, hQ⟩) fun obj s₁ h₁ => ?_
  exact ⟨h₁.1, F.args_object_init_2 obj _, object_init_meets F.bm_called.init.lookup F.bm_called.made (by decide) prog w A.in1 _ s₁ ⟨h₁.1, rfl, h₁.2⟩⟩
end
end Mine
end

section
open PySem PySem.W PySem.Calls PyProof.Rows PySem.Builtin.Bytes
set_option Elab.async false
set_option maxRecDepth 100000
set_option maxHeartbeats 8000000
set_option linter.unusedVariables false
namespace Mine
theorem kw_R2 : True := by k_with_none; w_top off; trivial
theorem ba_mro : mroOf (.type "bytearray") = pure [.type "bytearray", .type "object"] := by rw [mroOf_type]; kernel_rfl
theorem ba_lookup_new : typeLookup (.type "bytearray") "__new__" = pure (some (.builtin "bytearray.__new__")) := by rw [typeLookup_type, builtinLookup_eq_fast]; kernel_rfl
theorem ba_slot_init : Slot "bytearray" "__init__" "bytearray.__init__" :=
  .of (owner := "bytearray") (n := "__init__") (by rw [typeLookup_type, builtinLookup_eq_fast]; kernel_rfl) (by decide +kernel) (by decide +kernel) (by decide +kernel)
    (by first | exact .inl (by decide +kernel) | exact .inr (by decide +kernel)) (by rw [isSubtype_type]; kernel_rfl)
theorem ba_sub : isSubtype (.type "bytearray") (.type "bytearray") = pure true := by rw [isSubtype_type]; kernel_rfl
theorem ba_called : TypeCalled "bytearray" "bytearray.__new__" "bytearray.__init__" :=
  ⟨by decide +kernel, by decide +kernel, ⟨_, _, ba_mro⟩, madeBy_type ba_mro ba_lookup_new (by decide +kernel), by decide +kernel, ba_sub, ba_slot_init⟩
theorem ba_typeCall : checkTypeCall "bytearray" ⟨[], []⟩ = pure () := by kernel_rfl
theorem ba_newCall : checkBuiltinCall "bytearray.__new__" ⟨[.type "bytearray"], []⟩ = pure () := by kernel_rfl
theorem ba_plain : plainId "bytearray.__new__" = true := by decide +kernel
theorem ba_entry : entryFor table "bytearray.__new__" = some Builtin.«list.__new__» :=
  entryFor_alias (id' := "list.__new__") (by kernel_rfl) (by first | rfl | decide +kernel) (by decide +kernel) (by kernel_rfl)
theorem ba_entry_init : entryFor table "bytearray.__init__" = some Builtin.«bytearray.__init__» := by first | exact entryFor_of_fast (by kernel_rfl) | exact entryFor_of_tree (by kernel_rfl)
theorem ba_bind : Builtin.Bytes.bindOptional "bytearray.__init__" "bytearray" ["source", "encoding", "errors"] [] [] = pure [none, none, none] := by kernel_rfl
set_option maxRecDepth 1000000 in
theorem ba_owner : ("bytearray.__new__".splitOn ".__new__").headD "" = "bytearray" := by simp +decide [String.splitOn, String.splitOnAux]
abbrev baObj (b : Array UInt8) : Obj := { cls := .type "bytearray", data := .bytearray b }

section
variable {prog : Program} {w : World} {A : Around} {E : Value → Shared → Prop} {s : Shared}
theorem ba_new {Q₁ : Value → Shared → Prop} (h : Q₁ (.ref s.heap.objs.size) { s with heap := s.heap.push (baObj #[]) }) :
    codeAny (model prog w) A (.call (.builtin "bytearray.__new__") ⟨[.type "bytearray"], []⟩) (wants Q₁ E) s := by
  refine codeAny_of_tree ?_
  show wpAny _ A.in1 (do checkBuiltinCall "bytearray.__new__" ⟨[.type "bytearray"], []⟩; again (.builtin "bytearray.__new__" ⟨[.type "bytearray"], []⟩)) _ _ s
  refine wpAny_bind (wpAny_of_eq ba_newCall (wpAny_pure ⟨plainId_quiet ba_plain _, codeAny_builtin_stack ba_entry rfl fun p st => ?_⟩))
  rw [Around.under_plainId ba_plain _]
  have hsub := ba_sub
  have hown := ba_owner
  obtain ⟨hp, g, d, tk, os⟩ := s
  simp only [hown]
  wp_walk
  exact h

theorem wpG_if_false {α : Type} {M : Model} {c : Bool} {a b : Sem α} {Q : α → Shared → Prop} (hc : c = false) (h : wpG M A b Q E s) : wpG M A (if c = true then a else b) Q E s := by
  subst hc
  exact h
theorem wpG_if_true {α : Type} {M : Model} {c : Bool} {a b : Sem α} {Q : α → Shared → Prop} (hc : c = true) (h : wpG M A a Q E s) : wpG M A (if c = true then a else b) Q E s := by
  subst hc
  exact h
theorem free_plain {id : String} {v : Value} {r : List Value} {kw : List (Str × Value)} (hd : decodersThatHold.contains id = false)
    (h1 : id ≠ "bytearray.__contains__") (h2 : id ≠ "bytearray.__mod__") (h3 : id ≠ "bytearray.__rmod__") (h4 : id ≠ "_struct.pack_into.held") (h5 : id ≠ "bytearray.find.held") : Free (.builtin id ⟨v :: r, kw⟩) := by
  intro self p
  unfold heldBy
  split <;> first | rfl | (injections; simp_all)

end
end Mine
end

section
open PySem PySem.W PySem.Calls PyProof.Rows PySem.Builtin.Bytes
set_option Elab.async false
set_option maxRecDepth 100000
set_option maxHeartbeats 8000000
set_option linter.unusedVariables false
namespace Mine
theorem wpG_den {prog : Program} {w : World} {A : Around} {E : Value → Shared → Prop} {s : Shared} {id : String} {args : Args} {b : Builtin} {Q : Fin → Shared → Prop} (hb : entryFor table id = some b)
    (h : wpG (model prog w) A (b args) Q E s) : wpG (model prog w) A ((model prog w).den (.builtin id args)) Q E s := by
  have e : (model prog w).den (.builtin id args) = b args := by
    show (match entryFor table id with | some b => b args | none => unsupported ((withoutEnding? id "#data").getD id)) = _
    rw [hb]
  rw [e]; exact h
theorem ba_rel : typeLookup (.type "bytearray") "__release_buffer__" = pure (some (.builtin "bytearray.__release_buffer__")) := by rw [typeLookup_type, builtinLookup_eq_fast]; kernel_rfl
theorem ba_rel_end : ("bytearray.__release_buffer__".endsWith ("." ++ "__release_buffer__")) = true := by decide +kernel
theorem ba_rel_drop : ("bytearray.__release_buffer__".dropRight ("__release_buffer__".length + 1)) = "bytearray" := by decide +kernel
section
variable {prog : Program} {w : World} {A : Around} {E : Value → Shared → Prop} {s : Shared}

theorem ba_ownRelease {a : Addr} {Q : Bool → Shared → Prop} (hT : s.TypeIs (.ref a) "bytearray") (h : Q false s) : wpAny (model prog w) A (ownRelease (.ref a)) Q E s := by
  unfold ownRelease slotIsOwn
  refine wpAny_bind (wpAny_bind (wpAny_specialOf hT ba_rel ?_))
  dsimp only
  rw [ba_rel_end, ba_rel_drop]
  refine bm_if_false rfl ?_
  exact wpAny_isInstance hT ba_sub (wpAny_pure h)

theorem ba_write {a : Addr} {b : Array UInt8} {f : Array UInt8 → Array UInt8} {Q : Unit → Shared → Prop} (ho : s.heap.get? a = some (baObj b)) (hz : (f b).size ≤ sizeLine)
    (h : Q () { s with heap := s.heap.update a (Obj.mapBytearray f) }) : wpAny (model prog w) A (write (.ref a) f) Q E s := by
  show wpAny _ _ (updateBytearray a f) _ _ _
  unfold updateBytearray
  refine wpAny_bind (wpAny_load ho ?_)
  show wpAny _ _ (update a (Obj.mapBytearray f) >>= fun _ => lookBehind a) _ _ _
  refine wpAny_bind (wpAny_update ho ?_)
  have hS₂ : (s.heap.update a (Obj.mapBytearray f)).get? a = some (baObj (f b)) := Heap.get?_update_self (Obj.mapBytearray f) ho rfl
  refine wpAny_lookBehind hS₂ ?_ h
  show (if (f b).size > sizeLine then some "bytearray:memory" else none) = none
  rw [if_neg (by omega)]

theorem ba_held {a : Addr} {b : Array UInt8} {Q : Bool → Shared → Prop} (ho : s.heap.get? a = some (baObj b)) (h : Q false s) :
    wpG (model prog w) A (exported (.ref a) <||> (do return (← exportsOf (.ref a)) > 0)) Q E s := by
  refine wpG_bind (wpG_exported ?_)
  show wpG _ _ (do let n ← exportsOf (.ref a); pure (decide (n > 0))) _ _ _
  refine wpG_any (wpAny_bind ?_)
  unfold exportsOf
  exact wpAny_bind (wpAny_load ho (wpAny_pure (wpAny_pure h)))

theorem ba_init {a : Addr} {Q : Value → Shared → Prop} {b : Array UInt8} (ho : s.heap.get? a = some (baObj b))
    (h : Q .none { s with heap := s.heap.update a (Obj.mapBytearray fun _ => #[]) }) :
    codeG (model prog w) A (.call (.builtin "bytearray.__init__") ⟨[.ref a], []⟩) (wants Q E) s := by
  refine codeG_of_tree free_call ?_
  have hT : s.TypeIs (.ref a) "bytearray" := ⟨_, ho, rfl⟩
  show wpG _ A.in1 (do checkBuiltinCall "bytearray.__init__" ⟨[.ref a], []⟩; again (.builtin "bytearray.__init__" ⟨[.ref a], []⟩)) _ _ s
  refine wpG_bind (wpG_any (ba_slot_init.check _ _ _ _ _ _ _ _ hT (by trivial) (wpG_pure ⟨plainId_quiet ba_slot_init.plain _, ?_⟩)))
  refine codeG_of_tree (free_plain (by decide +kernel) (by decide) (by decide) (by decide) (by decide) (by decide)) ?_
  refine wpG_den ba_entry_init ?_
  unfold Builtin.«bytearray.__init__»
  refine wpG_bind (wpG_any (ba_ownRelease hT ?_))
  refine wpG_if_false rfl ?_
  refine wpG_bind (wpG_any (wpAny_of_eq ba_bind ?_))
  refine wpG_bind (wpG_any (wpAny_of_eq (a := ()) rfl ?_))
  refine wpG_bind (wpG_any (wpAny_of_eq (a := ()) rfl ?_))
  refine wpG_bind (ba_held ho ?_)
  refine wpG_if_false rfl ?_
  refine wpG_bind (wpG_any (ba_write ho (Nat.zero_le _) ?_))
  dsimp only
  refine wpG_any ?_
  refine wpAny_bind ?_
  refine bm_if_false rfl ?_
  refine bm_if_false rfl ?_
  exact wpAny_pure (wpAny_pure h)
end
end Mine
end

section
open PySem PySem.W PySem.Calls PyProof.Rows PySem.Builtin.Bytes
set_option Elab.async false
set_option maxRecDepth 100000
set_option maxHeartbeats 8000000
set_option linter.unusedVariables false
namespace Mine
section
variable {prog : Program} {w : World} {A : Around} {E : Value → Shared → Prop} {s : Shared}
theorem callG_bytearray {Q : Value → Shared → Prop}
    (h : Q (.ref s.heap.objs.size) { s with heap := (s.heap.push (baObj #[])).update s.heap.objs.size (Obj.mapBytearray fun _ => #[]) }) :
    wpG (model prog w) A (call (.type "bytearray") []) Q E s := by
  refine wpG_call (codeG_of_tree free_call ?_)
  show wpG _ _ (callAny (.type "bytearray") _) _ _ _
  refine wpG_pure ⟨Code.quiet_builtin _ (by decide +kernel), codeG_of_tree (free_plain (by decide +kernel) (by decide) (by decide) (by decide) (by decide) (by decide)) ?_⟩
  rw [Around.under_plain (weight_type_call_type "bytearray" [] []) rfl]
  refine wpG_den F.entry_type_call ?_
  unfold Builtin.«type.__call__»
  have h2 := ba_called.canCreate
  refine wpG_if_false rfl ?_
  dsimp only
  refine wpG_if_false h2 ?_
  refine wpG_bind (wpG_any (wpAny_of_eq ba_typeCall ?_))
  refine wpG_bind (wpG_any (wpAny_of_eq ba_mro ?_))
  refine wpG_if_false rfl ?_
  refine wpG_bind (wpG_any (wpAny_of_eq ba_called.made ?_))
  refine wpG_bind (wpG_pure ?_)
  refine wpG_bind (wpG_holding (wpG_any (wpAny_call (ba_new ?_))))
  have ho : (s.heap.push (baObj #[])).get? s.heap.objs.size = some (baObj #[]) := Heap.get?_push_size _ rfl
  have hT : ({ s with heap := s.heap.push (baObj #[]) } : Shared).TypeIs (.ref s.heap.objs.size) "bytearray" := ⟨_, ho, rfl⟩
  refine wpG_bind (wpG_any (wpAny_isInstance hT ba_sub ?_))
  refine wpG_if_false rfl ?_
  refine wpG_bind (wpG_holding ?_)
  simp only [callSpecial?]
  refine wpG_bind (wpG_any (wpAny_specialOf hT ba_slot_init.lookup ?_))
  simp only [ba_slot_init.bind]
  refine wpG_holding (wpG_bind (wpG_pure (wpG_bind (wpG_call (ba_init ho ?_)))))
  refine wpG_pure ?_
  dsimp only
  refine wpG_if_false rfl ?_
  exact wpG_pure h
end
end Mine
end

section
open PySem PySem.W PySem.Calls PyProof.Rows PySem.Builtin.Bytes
set_option Elab.async false
set_option maxRecDepth 100000
set_option maxHeartbeats 8000000
set_option linter.unusedVariables false
namespace Mine
theorem be_slot : Slot "bytearray" "extend" "bytearray.extend" :=
  .of (owner := "bytearray") (n := "extend") (by rw [typeLookup_type, builtinLookup_eq_fast]; kernel_rfl) (by decide +kernel) (by decide +kernel) (by decide +kernel)
    (by first | exact .inl (by decide +kernel) | exact .inr (by decide +kernel)) (by rw [isSubtype_type]; kernel_rfl)
theorem be_type : typeOf (.builtin "bytearray.extend") = pure (.type "method_descriptor") := by show builtinType _ = _; rw [builtinType_eq_fast]; kernel_rfl
theorem be_entry : entryFor table "bytearray.extend" = some Builtin.«bytearray.extend» := entryFor_of_tree (by kernel_rfl)
theorem be_attrs : PlainAttrs "bytearray" :=
  ⟨⟨"bytearray.__getattribute__", by rw [typeLookup_type, builtinLookup_eq_fast]; kernel_rfl, by decide +kernel⟩, by rw [typeLookup_type, builtinLookup_eq_fast]; kernel_rfl⟩
theorem be_buffer : typeLookup (.type "bytes") "__buffer__" = pure (some (.builtin "bytes.__buffer__")) := by rw [typeLookup_type, builtinLookup_eq_fast]; kernel_rfl
theorem be_owner : Manifest.owners.lookup (String.ofList ['y', 'a', 'r', 'r', 'a', 'e', 't', 'y', 'b'].reverse) = some Manifest.sig_bytearray := by kernel_rfl
theorem be_args (a b : Value) : argsOk "bytearray.extend" ⟨[a, b], []⟩ := by
  unfold argsOk; rw [signature?_of (id := "bytearray.extend") (n := ['d', 'n', 'e', 't', 'x', 'e']) (o := ['y', 'a', 'r', 'r', 'a', 'e', 't', 'y', 'b']) (by kernel_rfl) be_owner]; kernel_rfl
section
variable {prog : Program} {w : World} {A : Around} {E : Value → Shared → Prop} {s : Shared}

theorem be_take {id : String} {b : Array UInt8} {t : Tok} : takeBufferQuiet? id (.bytes b t) 0 = pure (some (b, none)) := by
  unfold takeBufferQuiet? takeBuffer?
  have e : ((0 : Int) == fullReadOnly) = false := by decide +kernel
  rw [e, KBy.special_eq KBy.look_buffer, KBy.own_buffer, KBy.buffer_eq]
  kernel_rfl
theorem be_resize {a : Addr} {b : Array UInt8} {Q : Unit → Shared → Prop} (ho : s.heap.get? a = some (baObj b)) (h : Q () s) : wpG (model prog w) A (checkResize (.ref a)) Q E s := by
  unfold checkResize
  refine wpG_bind (ba_held ho ?_)
  exact wpG_if_false rfl (wpG_pure h)
theorem be_extend {a : Addr} {b r : Array UInt8} {t : Tok} {Q : Value → Shared → Prop} (ho : s.heap.get? a = some (baObj b)) (hz : (b ++ r).size ≤ sizeLine)
    (h : Q .none { s with heap := s.heap.update a (Obj.mapBytearray fun x => x ++ r) }) : wpG (model prog w) A (call (.builtin "bytearray.extend") [.ref a, .bytes r t]) Q E s := by
  have hT : s.TypeIs (.ref a) "bytearray" := ⟨_, ho, rfl⟩
  refine wpG_call (codeG_of_tree free_call ?_)
  show wpG _ A.in1 (do checkBuiltinCall "bytearray.extend" ⟨[.ref a, .bytes r t], []⟩; again (.builtin "bytearray.extend" ⟨[.ref a, .bytes r t], []⟩)) _ _ s
  refine wpG_bind (wpG_any (be_slot.check _ _ _ _ _ _ _ _ hT (be_args _ _) (wpG_pure ⟨plainId_quiet be_slot.plain _, ?_⟩)))
  refine codeG_of_tree (free_plain (by decide +kernel) (by decide) (by decide) (by decide) (by decide) (by decide)) ?_
  refine wpG_den be_entry ?_
  unfold Builtin.«bytearray.extend»
  refine wpG_bind (wpG_any (wpAny_of_eq (a := (.ref a, .bytes r t)) rfl ?_))
  refine wpG_bind (wpG_any (wpAny_of_eq (KBy.special_eq be_buffer) ?_))
  refine wpG_if_true rfl ?_
  refine wpG_bind (wpG_any (wpAny_rule ?_))
  refine wpG_bind (wpG_any ?_)
  unfold Builtin.Bytes.payload Builtin.Bytes.payload?
  refine wpAny_bind (wpAny_bind (wpAny_load ho ?_))
  refine wpAny_pure (wpAny_pure ?_)
  refine wpG_bind (wpG_any (wpAny_of_eq be_take ?_))
  dsimp only
  refine wpG_if_true rfl ?_
  show wpG _ _ (if (!r.isEmpty) = true then (checkResize (.ref a) >>= fun _ => write (.ref a) (fun x => x ++ r) >>= fun _ => ret .none) else (write (.ref a) (fun x => x ++ r) >>= fun _ => ret .none)) _ _ _
  have tail : wpG (model prog w) (A.under (Code.builtin "bytearray.extend" ⟨[.ref a, .bytes r t], []⟩)) (write (.ref a) (fun x => x ++ r) >>= fun _ => ret .none)
      (fun fin s' => match fin with | .done f => wants Q E (.ok f) s' | .again c' => c'.quiet = true ∧ codeG (model prog w) A c' (wants Q E) s') (fun e s' => E e s') s :=
    wpG_bind (wpG_any (ba_write ho hz (wpG_pure h)))
  by_cases hr : r.isEmpty = true
  · rw [if_neg (by rw [hr]; decide)]; exact tail
  · rw [if_pos (by simpa using hr)]; exact wpG_bind (be_resize ho tail)
end
end Mine
end

section
open PySem PySem.W PySem.Calls PyProof.Rows PySem.Builtin.Bytes
set_option Elab.async false
set_option maxRecDepth 100000
set_option maxHeartbeats 8000000
set_option linter.unusedVariables false
namespace Mine
theorem by_no_bytes : typeLookup (.type "bytearray") "__bytes__" = pure none := by rw [typeLookup_type, builtinLookup_eq_fast]; kernel_rfl
theorem by_no_index : typeLookup (.type "bytearray") "__index__" = pure none := by rw [typeLookup_type, builtinLookup_eq_fast]; kernel_rfl
theorem by_buffer : typeLookup (.type "bytearray") "__buffer__" = pure (some (.builtin "bytearray.__buffer__")) := by rw [typeLookup_type, builtinLookup_eq_fast]; kernel_rfl
theorem by_end : ("bytearray.__buffer__".endsWith ("." ++ "__buffer__")) = true := by decide +kernel
theorem by_drop : ("bytearray.__buffer__".dropRight ("__buffer__".length + 1)) = "bytearray" := by decide +kernel
section
variable {prog : Program} {w : World} {A : Around} {E : Value → Shared → Prop} {s : Shared}
theorem by_own {a : Addr} {Q : Bool → Shared → Prop} (hT : s.TypeIs (.ref a) "bytearray") (h : Q true s) : wpAny (model prog w) A (slotIsOwn (.ref a) "__buffer__") Q E s := by
  unfold slotIsOwn
  refine wpAny_bind (wpAny_specialOf hT by_buffer ?_)
  dsimp only
  rw [by_end, by_drop]
  refine bm_if_false rfl ?_
  exact wpAny_isInstance hT ba_sub h

theorem by_buf {a : Addr} {id : String} {b : Array UInt8} {Q : Option (Array UInt8) → Shared → Prop} (ho : s.heap.get? a = some (baObj b)) (h : Q (some b) s) : wpAny (model prog w) A (buffer? id (.ref a) true) Q E s := by
  have hT : s.TypeIs (.ref a) "bytearray" := ⟨_, ho, rfl⟩
  unfold buffer?
  refine wpAny_bind (wpAny_specialOf hT by_buffer ?_)
  refine wpAny_bind (by_own hT ?_)
  refine bm_if_false rfl ?_
  refine wpAny_bind (wpAny_specialOf hT by_buffer ?_)
  refine wpAny_bind (ba_ownRelease hT ?_)
  refine bm_if_false rfl ?_
  refine wpAny_bind ?_
  unfold Builtin.Bytes.payload Builtin.Bytes.payload?
  refine wpAny_bind (wpAny_bind (wpAny_load ho ?_))
  exact wpAny_pure (wpAny_pure (wpAny_pure h))

theorem by_new {a : Addr} {b : Array UInt8} {Q : Value → Shared → Prop} (ho : s.heap.get? a = some (baObj b)) (hz : b.size ≤ sizeLine) (hQ : ∀ t k, Q (.bytes b t) { s with toks := k }) :
    codeAny (model prog w) A (.call (.builtin "bytes.__new__") ⟨[.type "bytes", .ref a], []⟩) (wants Q E) s := by
  refine codeAny_of_tree ?_
  show wpAny _ A.in1 (do checkBuiltinCall "bytes.__new__" ⟨[.type "bytes", .ref a], []⟩; again (.builtin "bytes.__new__" ⟨[.type "bytes", .ref a], []⟩)) _ _ s
  refine wpAny_bind (wpAny_of_eq (F.bm_newCall _) (wpAny_pure ⟨plainId_quiet F.bm_plain _, codeAny_builtin F.bm_entry ?_⟩))
  rw [Around.under_plainId F.bm_plain _]
  have hT : s.TypeIs (.ref a) "bytearray" := ⟨_, ho, rfl⟩
  unfold Builtin.«bytes.__new__»
  refine wpAny_bind (wpAny_of_eq (a := true) rfl ?_)
  refine bm_if_false rfl ?_
  refine wpAny_bind (wpAny_of_eq F.bm_sub ?_)
  refine bm_if_false rfl ?_
  refine wpAny_bind (wpAny_of_eq (F.bm_bind _) ?_)
  refine wpAny_bind (wpAny_of_eq (a := ()) rfl ?_)
  refine wpAny_bind (wpAny_of_eq (a := ()) rfl ?_)
  refine bm_if_false rfl ?_
  refine wpAny_bind (wpAny_specialOf hT by_no_bytes ?_)
  refine wpAny_bind (wpAny_bind ?_)
  show wpAny _ _ (load a >>= _) _ _ _
  refine wpAny_bind (wpAny_load ho ?_)
  refine wpAny_pure (wpAny_pure ?_)
  refine bm_if_false rfl ?_
  refine wpAny_bind (wpAny_specialOf hT by_no_index ?_)
  refine bm_if_true rfl ?_
  first
    | show wpAny _ _ (Builtin.Bytes.buffer? "bytes.__new__" (.ref a) true >>= _) _ _ _
    | (refine wpAny_bind ?_; show wpAny _ _ (Builtin.Bytes.buffer? "bytes.__new__" (.ref a) true >>= _) _ _ _)
  refine wpAny_bind (by_buf ho ?_)
  dsimp only
  refine wpAny_bind (wpAny_rule ?_)
  refine wpAny_bind (wpAny_mkBytes ?_ hz)
  show wpAny _ _ (if (Value.type "bytes" == Value.type "bytes") = true then _ else _) _ _ _
  refine bm_if_true (by decide) ?_
  first
    | exact wpAny_pure (hQ _ _)
    | exact wpAny_bind (wpAny_pure (wpAny_pure (hQ _ _)))
    | exact wpAny_pure (wpAny_pure (hQ _ _))

theorem call_bytes_ba {a : Addr} {b : Array UInt8} {Q : Value → Shared → Prop} (ho : s.heap.get? a = some (baObj b)) (hz : b.size ≤ sizeLine) (hQ : ∀ t k, Q (.bytes b t) { s with toks := k }) : wpAny (model prog w) A (call (.type "bytes") [.ref a]) Q E s := by
  refine callType_codes (Q₁ := fun obj s₁ => s₁.TypeIs obj "bytes" ∧ Q obj s₁) F.bm_called (F.bm_typeCall _) F.entry_object_init
    (by_new ho hz fun t k => ⟨PySem.W.typeIs_bytes _ _ _, hQ t k⟩) fun obj s₁ h₁ => ?_
  exact ⟨h₁.1, F.args_object_init_2 obj _, object_init_meets F.bm_called.init.lookup F.bm_called.made (by decide) prog w A.in1 _ s₁ ⟨h₁.1, rfl, h₁.2⟩⟩
end
end Mine
end

section
open PySem PySem.W PySem.Calls PyProof.Rows
set_option Elab.async false
set_option maxRecDepth 100000
set_option maxHeartbeats 8000000
set_option linter.unusedVariables false
namespace Mine
local macro_rules | `(tactic| walk_at "zz") => `(tactic| fail)
theorem kw_D3 : True := by k_with_none; w_top off; trivial
local macro_rules | `(tactic| walk_at "call ref") => `(tactic| (k_here; (rename News _ _ _ _ => nN); k_dflt (refine' take16_c _ _ _ _ _ _ _ _ _ _ _ _ _ _ _ _ _ _ _ _ _ _ _ _ _ ?xk1 ?xk2 ?xk3 ?xk4 ?xk5 ?xk6 ?xk7 ?xk8 ⟨_, _, _, _, _, _, _, _, _, _, _, _, rfl, ?xp1, ?xp2, ?xp3, ?xp4, ?xp5, ?xp6, ?_⟩; (case xk4 => first | exact nN | exact news_tail nN | exact news_tail (news_tail nN) | exact news_tail (news_tail (news_tail nN))); (case xk1 => k_asm); (case xk2 => k_asm); (case xk3 => k_asm); (case xk5 => k_asm); (case xk6 => first | exact rfl | assumption); (case xk7 => ktr_room); (case xk8 => ktr_units); (case xp1 => first | assumption | omega); (case xp2 => k_all); (case xp3 => first | assumption | kba_ints); (case xp4 => first | assumption | omega | kba_idx); (case xp5 => first | assumption | omega | kba_idx); (case xp6 => first | assumption | omega | kba_idx); k_whole); intro h9 tk9 a9 b9 c9 t9 F9 N9; (try dsimp only); (try k_fold)))
local macro_rules | `(tactic| walk_at "call type:bytes") => `(tactic| (k_here; (with_reducible show wpAny _ _ (call (Value.type "bytes") [Value.bytes _ _]) _ _ _); refine call_bytes_bytes ?_))

theorem read_stored_c (w : World) (x dx : Addr) :
  Call w 12 (fun fs base h₀ L m news s Q E => ∃ rest k1 k2 k3 k4 D ds tD a ta th tc n, news = (x, instObj 114 dx) :: (dx, bitsO k1 k2 k3 k4 D tD a ta 0 th 5 tc) :: rest ∧ @LT.lt Nat _ dx x ∧ (∀ p ∈ rest, p.1 ≠ dx) ∧ KBw.bInts D = ds ∧ 0 ≤ a ∧ ds.length < 2 ^ 20 ∧ 0 ≤ n ∧ a + 4 + n ≤ ds.length ∧ ds.getD a.toNat 0 = n ∧ ds.getD (a + 1).toNat 0 = 0 ∧ ds.getD (a + 2).toNat 0 = 255 - n ∧ ds.getD (a + 2 + 1).toNat 0 = 255 ∧
    ∀ (h' : Heap) (tk' : Nat) (r : Array UInt8) (ta th tc tr : Tok), Fr h₀ L h' m → News h₀ L h' ((x, instObj 114 dx) :: (dx, bitsO k1 k2 k3 k4 D tD (a + 4 + n) ta 0 th 0 tc) :: rest) → KBw.bInts r = (ds.drop (a + 4).toNat).take n.toNat → Q (.bytes r tr) { s with heap := h', toks := tk' }) 263 [.ref x] := by
  unfold Call
  k_fill
  intro mean mg mb dp un gd cn cs a ccd cl outer A₀ base h₀ L m news s Q E B F X N T hcs hd hu hret
  obtain ⟨rest, k1, k2, k3, k4, D, ds, tD, at_, ta, th, tc, n, hn, hlt, hr, hD, h0, h2, hn0, hn1, e0, e1, e2, e3, hret⟩ := hret
  subst hn
  refine wpAny_call ?_
  k_dflt cell_enter
  k_steps
  · exfalso; rename_i hne _; omega
  · (rename Fr h₀ L _ m => kF); (rename News h₀ L _ _ => kN)
    rename KBw.bInts (KBy.picked _ _ _) = _ => kP
    have hc : ds.getD at_.toNat 0 + 256 * ds.getD (at_ + 1).toNat 0 = n := by omega
    rw [hc] at kP kN ⊢
    have ha : at_ + 2 + 2 = at_ + 4 := by omega
    rw [ha] at kP kN ⊢
    refine hret _ _ _ _ _ _ _ kF kN (kP.trans ?_)
    have c1 : clipAt ds.length (at_ + 4 + n) = (at_ + 4 + n).toNat := by unfold clipAt; split <;> omega
    have c2 : clipAt ds.length (at_ + 4 + n - n) = (at_ + 4).toNat := by unfold clipAt; split <;> omega
    rw [c1, c2]
    congr 1
    omega
end Mine
end

end

section
open PySem PySem.W PySem.Calls PyProof.Rows
set_option Elab.async false
set_option maxRecDepth 100000
set_option maxHeartbeats 8000000
set_option linter.unusedVariables false
namespace Mine
section
variable {prog : Program} {w : World} {A A₀ : Around} {E : Value → Shared → Prop} {s : Shared} {K : Frag} {C L : Addr} {h₀ base : Heap} {m mg mb : Str → Option Value} {news : List (Addr × Obj)} {p : Program} {loose : List Str} {mean : ExcName → Option Value} {Q : Value → Shared → Prop}

/-- A call of a def that touches nothing of what stands: all stands behind it. -/
theorem code_iso {env : Env} {outer : List Env} {R : Result → Shared → Prop} {name qual : Str} {params : Arguments} {body : List Stmt} {scope : Scope} {dV kV doc pm cdv ct oc : Value} {an od : Option Addr} {osl : Array (Option Value)} {f : Addr} {args : Args} {binds : List (Str × Value)}
    (B : Below A₀ base outer h₀) (F : Fr h₀ L s.heap m) (X₀ : K.In h₀) (N : News h₀ L s.heap news) (T : Top p loose mean mg mb h₀) (hA : A.frames = some (env :: outer)) (hf : env.frame = some L) (hke : env.scope.kind = .function)
    (ho : K.lookup f = some ⟨oc, od, .func (fnOf name qual params body scope dV kV doc pm an cdv ct), osl⟩) (hcd : codeIn K cdv qual = true) (hroom : A.depth < recursionLimit)
    (hbind : BindsTo s (fnOf name qual params body scope dV kV doc pm an cdv ct) args binds) (hloc : ∀ y ∈ binds, scope.names.lookup y.1 = some .local)
    (h : ∀ g L' h₁, Fr h₀ L g m → Fr g L' h₁ (fun y => binds.reverse.lookup y) → News g L' h₁ [] → Below A base (env :: outer) g → K.In g → Top p loose mean mg mb g →
      wpAny (model prog w) (A.deeper (envOf qual scope L' f cdv)) (execs body (envOf qual scope L' f cdv))
        (fun fl s' => LeaveK h₀ L m g (fun r s' => News h₀ L s'.heap news → R r s') (match fl with | .ret v => v | _ => .none) s')
        (fun e s' => wpAny (model prog w) (A.deeper (envOf qual scope L' f cdv)) (leaving (envOf qual scope L' f cdv) e) (fun _ s'' => R (.error e) s'') (fun e' s'' => R (.error e') s'') s')
        { s with heap := h₁, toks := s.toks + binds.length })
    (hco : scope.isCoroutine = false) (hgen : scope.isGenerator = false) (hk : scope.kind = .function)
    (hcell : ∀ x ∈ scope.names, x.2 ≠ .cell) : codeAny (model prog w) A (.call (.ref f) args) R s := by
  have N₀ : News h₀ L s.heap [] := fun p hp => by cases hp
  obtain ⟨FG, BG, st, lv⟩ := groundX (R := fun r s' => News h₀ L s'.heap news → R r s') B F N₀ hA hf hke
  refine codeAny_call_def (fd := fnX name qual params body scope [] dV kV doc pm an cdv ct) (body := body) (binds := binds) hroom ((X₀.keeps F.keep) _ _ ho) rfl (T.nolimit.keeps F.keep) (codeRec_of (X₀.keeps F.keep) hcd) rfl hbind hcell hloc (fun h₁ hns hk₁ => ?_) hco hgen hk
  refine wpAny_mono (h s.heap s.heap.objs.size h₁ FG ⟨hns, fun b o e => hk₁ b o e, Nat.le_refl _⟩
    (fun p hp => by cases hp) BG (X₀.keeps st) (T.keeps st)) (fun fl s' hl => ?_) fun _ _ y => y
  refine lv _ _ hl fun p hp => ⟨?_, (N p hp).2⟩
  obtain ⟨L', m', news', F', _, _⟩ := hl
  exact F'.keep _ _ (N p hp).1
end
end Mine
end

section
open PySem PySem.W PySem.Calls PyProof.Rows
set_option Elab.async false
set_option maxRecDepth 100000
set_option maxHeartbeats 8000000
set_option linter.unusedVariables false
namespace Mine
theorem kw_E1 : True := by k_with_none; w_top off; trivial

def Stop (P : Prop) : Prop := P
theorem stop {P : Prop} (h : Stop P) : P := h
structure LR where
  bs : List Value
  nb : Nat
  es : List Value
  ne : Nat
  z : Int
  t : Tok
abbrev lrLed (l2 l1 : Addr) (c : LR) : List (Addr × Obj) := [(l2, W.listOf c.es.toArray c.ne), (l1, W.listOf c.bs.toArray c.nb)]
abbrev lrPs (l2 l1 : Addr) (c : LR) : List (Str × Value) := [(Str.ofString "base", .int c.z c.t), (Str.ofString "bases", .ref l1), (Str.ofString "extras", .ref l2)]
abbrev lrP (pre : List Int) (c : LR) : Prop := c.bs.length = pre.length ∧ c.es.length = pre.length


theorem lr_range {prog : Program} {w : World} {A : Around} {E : Value → Shared → Prop} {s : Shared} {env : Env} {h₀ : Heap} {body : List Stmt} {Q : Flow → Shared → Prop} {r : Addr} {t₀ u₀ v₀ : Tok} {n : Nat} {m₀ : Str → Option Value} {l2 l1 : Addr} {b₀ : Int} {tb : Tok}
    (hh : A.handled = none) (hr : IsRange s.heap r 0 (n : Int) 1 t₀ u₀ v₀) (hsmall : Builtin.Range.small 0 (n : Int) 1 = true) (hn : Builtin.Range.rangeSize 0 (n : Int) 1 = (n : Int)) (F : Fr h₀ env.locals s.heap m₀)
    (N : News h₀ env.locals s.heap [(l2, W.listOf #[] 0), (l1, W.listOf #[] 0)]) (k1 : m₀ (Str.ofString "base") = some (.int b₀ tb)) (k2 : m₀ (Str.ofString "bases") = some (.ref l1)) (k3 : m₀ (Str.ofString "extras") = some (.ref l2))
    (turn : ∀ (bs es : List Value) (nb ne : Nat) (z : Int) (tz : Tok) (k : Int) (i : Nat) t (u : Str → Option Value) h tk own, k = 0 + (i : Int) → i < n → bs.length = i → es.length = i → OwnOff own [l2, l1] →
      Fr h₀ env.locals h (fun y => if y = Str.ofString "place" then some (.int k t) else if y = Str.ofString "base" then some (.int z tz) else if y = Str.ofString "bases" then some (.ref l1) else if y = Str.ofString "extras" then some (.ref l2) else if [Str.ofString "base", Str.ofString "extra"].contains y then u y else m₀ y) →
      News h₀ env.locals h ([(l2, W.listOf es.toArray ne), (l1, W.listOf bs.toArray nb)] ++ own) →
      wpAny (model prog w) A (execs body env) (InvPostN h₀ env.locals (KstS (lrLed l2 l1) (lrPs l2 l1) (fun _ => True) (Str.ofString "place") [Str.ofString "base", Str.ofString "extra"] m₀ (fun pre c => c.bs.length = i + 1 ∧ c.es.length = i + 1) []) own [l2, l1] { s with heap := h, toks := tk } Q) E { s with heap := h, toks := tk })
    (done : ∀ (bs es : List Value) (nb ne : Nat) (z : Int) (tz : Tok) (u : Str → Option Value) h tk, bs.length = n → es.length = n →
      Fr h₀ env.locals h (fun y => if y = Str.ofString "place" then u y else if y = Str.ofString "base" then some (.int z tz) else if y = Str.ofString "bases" then some (.ref l1) else if y = Str.ofString "extras" then some (.ref l2) else if [Str.ofString "base", Str.ofString "extra"].contains y then u y else m₀ y) →
      News h₀ env.locals h [(l2, W.listOf es.toArray ne), (l1, W.listOf bs.toArray nb)] → Q .next { s with heap := h, toks := tk }) :
    wpAny (model prog w) A (pyIter (.ref r)) (fun it s₂ => LoopAtV prog w A h₀ env (Str.ofString "place") body Q E it s₂) E s := by
  refine kst_range (lrLed l2 l1) (lrPs l2 l1) (fun _ => True) [Str.ofString "base", Str.ofString "extra"] lrP ⟨[], 0, [], 0, b₀, tb⟩ hh hr hsmall hn F N trivial ?_ ⟨rfl, rfl⟩ ?_ ?_
  · intro p hp
    simp only [lrPs, List.mem_cons, List.not_mem_nil, or_false] at hp
    rcases hp with rfl | rfl | rfl <;> assumption
  · rintro ⟨bs, nb, es, ne, z, tz⟩ pre k t u h tk own hk hl hoff _ ⟨h1, h2⟩ F1 N1
    refine wpAny_mono (turn bs es nb ne z tz k pre.length t u h tk own hk hl h1 h2 hoff F1 N1) (fun f s' hf => ?_) fun _ _ x => x
    cases f with
    | ret v => exact hf
    | brk => exact hf
    | next =>
      obtain ⟨h', tk', m', news', nx, e1, e2, e3, e4, e5, e6, c, e7, e8, e9, e10, e11⟩ := hf
      exact ⟨h', tk', m', news', nx, e1, e2, e3, e4, e5, e6, c, e7, e8, e9, e10, by simpa using e11.1, by simpa using e11.2⟩
    | cont =>
      obtain ⟨h', tk', m', news', nx, e1, e2, e3, e4, e5, e6, c, e7, e8, e9, e10, e11⟩ := hf
      exact ⟨h', tk', m', news', nx, e1, e2, e3, e4, e5, e6, c, e7, e8, e9, e10, by simpa using e11.1, by simpa using e11.2⟩
  · rintro ⟨bs, nb, es, ne, z, tz⟩ u h tk _ ⟨h1, h2⟩ F1 N1
    exact done bs es nb ne z tz u h tk (by rw [h1, rangeKs_length]) (by rw [h2, rangeKs_length]) F1 N1

theorem length_rows_c (w : World) :
  Call w 2 (fun fs base h₀ L m news s Q E => 
    ∀ (h' : Heap) (tk' : Nat) (v : Addr), Fr h₀ L h' m → News h₀ L h' news → Q (.ref v) { s with heap := h', toks := tk' }) 193 [] := by
  unfold Call
  k_fill
  intro mean mg mb dp un gd cn cs a ccd cl outer A₀ base h₀ L m news s Q E B F X N T hcs hd hu hret
  refine wpAny_call ?_
  k_dflt (refine' code_iso (binds := []) ?xk1 ?xk2 ?xk3 ?xk4 ?xk5 ?xkA ?xkF ?xkK ?xk6 ?xk7 ?xk8 ?xk9 ?xkB ?_ ?xc2 ?xc3 ?xc4 ?xc5; (case xkA => exact rfl); (case xkF => exact rfl); (case xkK => first | exact rfl | assumption); (case xk1 => k_asm); (case xk2 => k_asm); (case xk3 => k_asm); (case xk4 => k_asm); (case xk5 => k_asm); (case xk6 => k_is); (case xk7 => k_is); (case xk8 => ktr_room); (case xk9 => exact BindsTo.of_eq rfl); (case xc5 => decide); (case xkB => exact locs rfl); (case xc2 => exact rfl); (case xc3 => exact rfl); (case xc4 => exact rfl); k_whole); intro g' L' h' FG' F' N' B' X' T'; (try dsimp only); (try k_lift B'); (try k_fold)
  k_with "pyIter ref" => (refine stop ?_)
  k_steps
  unfold Stop
  rename IsRange _ _ _ _ _ _ _ _ => kR
  rename Fr g' L' _ _ => kF
  rename News g' L' _ [(_, W.listOf #[] 0), (_, W.listOf #[] 0)] => kN
  k_dflt (refine' lr_range (n := 28) rfl kR (by decide) (by decide) kF kN rfl rfl rfl ?turn ?done)
  case done =>
    intro bs es nb ne z tz u h tk hb he F1 N1
    have hz : bs.length ≤ 100 := by omega
    have hz' : es.length ≤ 100 := by omega
    clear kR kF kN
    dsimp only
    k_steps
    rename Fr h₀ L _ m => kF
    rename News h₀ L _ news => kN
    exact hret _ _ _ kF kN
  case turn =>
    intro bs es nb ne z tz k i t u h tk own hk hi hb he hoff F1 N1
    have hz : bs.length ≤ 100 := by omega
    have hz' : es.length ≤ 100 := by omega
    have hk0 : 0 ≤ k := by omega
    have hk1 : k < 28 := by omega
    clear kR kF kN
    dsimp only
    k_steps
    rename Fr g' L' _ _ => kF
    rename News g' L' _ _ => kN
    simp only [List.push_toArray] at kN
    refine ⟨_, _, _, _, [(_, W.listOf (es ++ [_]).toArray (ne + 1)), (_, W.listOf (bs ++ [_]).toArray (nb + 1))], rfl, kF, kN, List.forall_mem_cons.mpr ⟨.head _, List.forall_mem_cons.mpr ⟨.tail _ (.head _), fun p hp => by cases hp⟩⟩, fun p hp => .tail _ (.tail _ hp), rfl,
      ⟨_, nb + 1, _, ne + 1, _, _⟩, rfl, trivial, List.forall_mem_cons.mpr ⟨rfl, List.forall_mem_cons.mpr ⟨rfl, List.forall_mem_cons.mpr ⟨rfl, fun p hp => by cases hp⟩⟩⟩, fun y h1 h2 h3 => ?_, ?_⟩
    · have n1 := h2 _ (.head _)
      have n2 : y ≠ Str.ofString "extra" := fun e => by subst e; exact absurd h3 (by decide)
      dsimp only at n1 h1 ⊢
      rw [if_neg n1, if_neg n2, if_neg h1, if_neg n1, h3]
      split
      · first | rfl | (rename_i e; rw [e]; rfl)
      · split
        · first | rfl | (rename_i e; rw [e]; rfl)
        · rfl
    · dsimp only
      simp only [List.length_append, List.length_cons, List.length_nil]
      exact ⟨by omega, by omega⟩

theorem distance_rows_c (w : World) :
  Call w 2 (fun fs base h₀ L m news s Q E => 
    ∀ (h' : Heap) (tk' : Nat) (v : Addr), Fr h₀ L h' m → News h₀ L h' news → Q (.ref v) { s with heap := h', toks := tk' }) 200 [] := by
  unfold Call
  k_fill
  intro mean mg mb dp un gd cn cs a ccd cl outer A₀ base h₀ L m news s Q E B F X N T hcs hd hu hret
  refine wpAny_call ?_
  k_dflt (refine' code_iso (binds := []) ?xk1 ?xk2 ?xk3 ?xk4 ?xk5 ?xkA ?xkF ?xkK ?xk6 ?xk7 ?xk8 ?xk9 ?xkB ?_ ?xc2 ?xc3 ?xc4 ?xc5; (case xkA => exact rfl); (case xkF => exact rfl); (case xkK => first | exact rfl | assumption); (case xk1 => k_asm); (case xk2 => k_asm); (case xk3 => k_asm); (case xk4 => k_asm); (case xk5 => k_asm); (case xk6 => k_is); (case xk7 => k_is); (case xk8 => ktr_room); (case xk9 => exact BindsTo.of_eq rfl); (case xc5 => decide); (case xkB => exact locs rfl); (case xc2 => exact rfl); (case xc3 => exact rfl); (case xc4 => exact rfl); k_whole); intro g' L' h' FG' F' N' B' X' T'; (try dsimp only); (try k_lift B'); (try k_fold)
  k_with "pyIter ref" => (refine stop ?_)
  k_steps
  unfold Stop
  rename IsRange _ _ _ _ _ _ _ _ => kR
  rename Fr g' L' _ _ => kF
  rename News g' L' _ [(_, W.listOf #[] 0), (_, W.listOf #[] 0)] => kN
  k_dflt (refine' lr_range (n := 30) rfl kR (by decide) (by decide) kF kN rfl rfl rfl ?turn ?done)
  case done =>
    intro bs es nb ne z tz u h tk hb he F1 N1
    have hz : bs.length ≤ 100 := by omega
    have hz' : es.length ≤ 100 := by omega
    clear kR kF kN
    dsimp only
    k_steps
    rename Fr h₀ L _ m => kF
    rename News h₀ L _ news => kN
    exact hret _ _ _ kF kN
  case turn =>
    intro bs es nb ne z tz k i t u h tk own hk hi hb he hoff F1 N1
    have hz : bs.length ≤ 100 := by omega
    have hz' : es.length ≤ 100 := by omega
    have hk0 : 0 ≤ k := by omega
    have hk1 : k < 30 := by omega
    clear kR kF kN
    dsimp only
    k_steps
    rename Fr g' L' _ _ => kF
    rename News g' L' _ _ => kN
    simp only [List.push_toArray] at kN
    refine ⟨_, _, _, _, [(_, W.listOf (es ++ [_]).toArray (ne + 1)), (_, W.listOf (bs ++ [_]).toArray (nb + 1))], rfl, kF, kN, List.forall_mem_cons.mpr ⟨.head _, List.forall_mem_cons.mpr ⟨.tail _ (.head _), fun p hp => by cases hp⟩⟩, fun p hp => .tail _ (.tail _ hp), rfl,
      ⟨_, nb + 1, _, ne + 1, _, _⟩, rfl, trivial, List.forall_mem_cons.mpr ⟨rfl, List.forall_mem_cons.mpr ⟨rfl, List.forall_mem_cons.mpr ⟨rfl, fun p hp => by cases hp⟩⟩⟩, fun y h1 h2 h3 => ?_, ?_⟩
    · have n1 := h2 _ (.head _)
      have n2 : y ≠ Str.ofString "extra" := fun e => by subst e; exact absurd h3 (by decide)
      dsimp only at n1 h1 ⊢
      rw [if_neg n1, if_neg n2, if_neg h1, if_neg n1, h3]
      split
      · first | rfl | (rename_i e; rw [e]; rfl)
      · split
        · first | rfl | (rename_i e; rw [e]; rfl)
        · rfl
    · dsimp only
      simp only [List.length_append, List.length_cons, List.length_nil]
      exact ⟨by omega, by omega⟩

end Mine
end

section
open PySem PySem.W PySem.Calls PyProof.Rows PySem.Builtin.Bytes
set_option Elab.async false
set_option maxRecDepth 100000
set_option maxHeartbeats 8000000
set_option linter.unusedVariables false
namespace Mine
section
variable {prog : Program} {w : World} {A A₀ : Around} {E : Value → Shared → Prop} {s : Shared} {env : Env} {test : PySem.Expr} {body orelse : List Stmt} {Q : Flow → Shared → Prop}

def WhlG (prog : Program) (w : World) (A : Around) (E : Value → Shared → Prop) (env : Env) (test : PySem.Expr) (body orelse : List Stmt) (Q : Flow → Shared → Prop) (s : Shared) : Prop :=
  codeG (model prog w) A (.whileLoop test body orelse env) (fun r s' => match r with | .ok f => Q f s' | .error e => cameBackBy (model prog w) A env E e s') s

def WhlGPost (prog : Program) (w : World) (A : Around) (E : Value → Shared → Prop) (env : Env) (test : PySem.Expr) (body orelse : List Stmt) (Q : Flow → Shared → Prop) (f : Flow) (s : Shared) : Prop :=
  match f with
  | .next => WhlG prog w A E env test body orelse Q s
  | .cont => WhlG prog w A E env test body orelse Q s
  | .brk => Q .next s
  | .ret v => Q (.ret v) s

theorem whlG_start {pos : Pos} (h : WhlG prog w A E env test body orelse Q s) : wpG (model prog w) A (exec (.While test body orelse pos) env) Q E s := wpG_While h

theorem whlG_turn (hE : PassesOwn (model prog w) A env E) (hw : A.under (.whileLoop test body orelse env) = A)
    (h : wpAny (model prog w) A (isTrue test env (eval test env)) (fun b s₂ => WhlIf b (wpG (model prog w) A (execs body env) (WhlGPost prog w A E env test body orelse Q) E s₂) (wpG (model prog w) A (execs orelse env) Q E s₂)) E s) :
    WhlG prog w A E env test body orelse Q s := by
  refine codeG_of_tree free_while ?_
  rw [hw]
  show wpG _ A ((whileTurn test body orelse env).onRaise (fun x => do noteFrame x env; theTreesLotGoes x)) _ _ s
  have noted : ∀ e s', E e s' → wpG (model prog w) A (do noteFrame e env; theTreesLotGoes e) (fun _ s'' => cameBackBy (model prog w) A env E e s'') (fun e' s'' => cameBackBy (model prog w) A env E e' s'') s' :=
    fun e s' he => wpG_any (wpAny_bind (wpAny_mono (hE e s' he) (fun _ _ q => wpAny_theTreesLotGoes q) fun _ _ q => q))
  refine wpG_onRaise (wpG_mono (E := E) ?_ (fun _ _ x => x) fun e s' he => noted e s' he)
  simp only [whileTurn]
  refine wpG_bind (wpG_any (wpAny_mono h (fun b s₂ h₂ => ?_) fun _ _ x => x))
  cases b with
  | false =>
    have h₃ : wpG (model prog w) A (execs orelse env) Q E s₂ := by
      unfold WhlIf at h₂
      rw [if_neg Bool.false_ne_true] at h₂
      exact h₂
    simp only [Bool.false_eq_true, if_false]
    exact wpG_bind (wpG_mono h₃ (fun f s₃ h₄ => wpG_pure h₄) fun _ _ x => x)
  | true =>
    have h₃ : wpG (model prog w) A (execs body env) (WhlGPost prog w A E env test body orelse Q) E s₂ := by
      unfold WhlIf at h₂
      rw [if_pos rfl] at h₂
      exact h₂
    simp only [if_true]
    refine wpG_bind (wpG_mono h₃ (fun f s₃ h₄ => ?_) fun _ _ x => x)
    cases f with
    | next => exact wpG_pure ⟨rfl, h₄⟩
    | cont => exact wpG_pure ⟨rfl, h₄⟩
    | brk => exact wpG_pure h₄
    | ret v => exact wpG_pure h₄
end

def CallG (w : World) (kd : Nat) (P : List Env → Heap → Heap → Addr → (Str → Option Value) → List (Addr × Obj) → Shared → (Value → Shared → Prop) → (Value → Shared → Prop) → Prop) (f : Addr) (vs : List Value) : Prop :=
  ∀ (mean : ExcName → Option Value) (mg mb : Str → Option Value) (dp un : Nat) (gd : Option (List Code)) (cn : Str) (cs : Scope) (a : Addr) (ccd : Value) (cl : List (Str × Addr)) (outer : List Env) (A₀ : Around) (base h₀ : Heap) (L : Addr) (m : Str → Option Value) (news : List (Addr × Obj)) (s : Shared) (Q E : Value → Shared → Prop),
    Below A₀ base outer h₀ → Fr h₀ L s.heap m → (hd173.heap_39 w.params).In h₀ → News h₀ L s.heap news → Top hd173.view_39 (looseW hd173.view_39 [Str.ofString "PaperError", Str.ofString "inflate"]) mean mg mb h₀ → cs.kind = .function → dp + kd < recursionLimit → un + 8 * kd < cLine →
    P (envX cn cs L a ccd cl :: outer) base h₀ L m news s Q E →
      wpG (model PySem.Challenge.rw_og0173_01.row.prog w) (ktrTop dp un gd cn cs L a ccd cl outer) (call (.ref f) vs) Q E s

section
variable {prog : Program} {w : World} {A A₀ : Around} {s : Shared} {base h₀ : Heap} {outer : List Env} {L : Addr} {m mg mb : Str → Option Value} {news : List (Addr × Obj)} {K : Frag} {p : Program} {loose : List Str} {mean : ExcName → Option Value}
theorem codeG_def {env : Env} {R : Result → Shared → Prop} {name qual : Str} {params : Arguments} {body : List Stmt} {scope : Scope} {dV kV doc pm cdv ct oc : Value} {an od : Option Addr} {osl : Array (Option Value)} {f : Addr} {args : Args} {binds : List (Str × Value)}
    (B : Below A₀ base outer h₀) (F : Fr h₀ L s.heap m) (X₀ : K.In h₀) (N : News h₀ L s.heap news) (T : Top p loose mean mg mb h₀) (hA : A.frames = some (env :: outer)) (hf : env.frame = some L) (hke : env.scope.kind = .function)
    (ho : K.lookup f = some ⟨oc, od, .func (fnOf name qual params body scope dV kV doc pm an cdv ct), osl⟩) (hcd : codeIn K cdv qual = true) (hroom : A.depth < recursionLimit)
    (hbind : BindsTo s (fnOf name qual params body scope dV kV doc pm an cdv ct) args binds) (hloc : ∀ y ∈ binds, scope.names.lookup y.1 = some .local)
    (h : ∀ g L' h₁, Fr h₀ L g m → Fr g L' h₁ (fun y => binds.reverse.lookup y) → News g L' h₁ news → Below A base (env :: outer) g → K.In g → Top p loose mean mg mb g →
      wpG (model prog w) (A.deeper (envOf qual scope L' f cdv)) (execs body (envOf qual scope L' f cdv))
        (fun fl s' => LeaveK h₀ L m g R (match fl with | .ret v => v | _ => .none) s')
        (fun e s' => wpAny (model prog w) (A.deeper (envOf qual scope L' f cdv)) (leaving (envOf qual scope L' f cdv) e) (fun _ s'' => R (.error e) s'') (fun e' s'' => R (.error e') s'') s')
        { s with heap := h₁, toks := s.toks + binds.length })
    (hco : scope.isCoroutine = false) (hgen : scope.isGenerator = false) (hk : scope.kind = .function)
    (hcell : ∀ x ∈ scope.names, x.2 ≠ .cell) : codeG (model prog w) A (.call (.ref f) args) R s := by
  obtain ⟨FG, BG, st, lv⟩ := groundX (R := R) B F N hA hf hke
  refine codeG_call_def (fd := fnX name qual params body scope [] dV kV doc pm an cdv ct) (body := body) (binds := binds) hroom ((X₀.keeps F.keep) _ _ ho) rfl (T.nolimit.keeps F.keep) (codeRec_of (X₀.keeps F.keep) hcd) rfl hbind hcell hloc (fun h₁ hns hk₁ => ?_) hco hgen hk
  exact wpG_mono (h _ s.heap.objs.size h₁ FG ⟨hns, fun b o e => hk₁ b o (of_hideAll _ e), Nat.le_of_eq (hideAll_size _ _)⟩
    (fun p hp => ⟨hk₁ _ _ (N p hp).1, Nat.ne_of_lt (Heap.lt_size (N p hp).1), hideAll_none _ (List.mem_map_of_mem hp)⟩) BG (X₀.keeps st) (T.keeps st)) (fun fl s' hl => lv _ _ hl) fun _ _ y => y
end
end Mine
end

section
open PySem PySem.W PySem.Calls PyProof.Rows PySem.Builtin.Bytes
set_option Elab.async false
set_option maxRecDepth 100000
set_option maxHeartbeats 8000000
set_option linter.unusedVariables false
namespace Mine
section
variable {prog : Program} {w : World} {A A₀ : Around} {E : Value → Shared → Prop} {s : Shared} {env : Env}
theorem wpG_Call_method {o : PySem.Expr} {name : Str} {apos pos : Pos} {args : List PySem.Expr} {T id : String} {Q : Value → Shared → Prop}
    (hbase : attributeBase o name env (eval o env) = eval o env)
    (hfew : ((backTo pos (starEach args env)).all (fun x => !x.1) && (backToKw pos (keywordEach [] env)).all (fun x => x.1.isSome)
      && decide (args.length + ([] : List Keyword).length + (if ([] : List Keyword).isEmpty then 0 else 1) < 30)) = true)
    (hline : (apos.endLine == pos.line) = true)
    (pa : PlainAttrs T) (slot : Slot T name id) (hty : typeOf (.builtin id) = pure (.type "method_descriptor"))
    (h : wpAny (model prog w) A (eval o env) (fun ov s₁ => s₁.TypeIs ov T ∧ (∀ a, ov = .ref a → ∃ ob, s₁.heap.get? a = some ob ∧ ob.dict = none) ∧
      wpG (model prog w) A (callWith pos (.builtin id) [ov] (backTo pos (starEach args env)) []) Q E s₁) E s) :
    wpG (model prog w) A (eval (.Call (.Attribute o name apos) args [] pos) env) Q E s := by
  rw [arm_eval_Call, hbase]
  refine wpG_bind (wpG_any (wpAny_mono h (fun ov s₁ h₁ => ?_) fun _ _ e => e))
  obtain ⟨hT, hd, hc⟩ := h₁
  refine wpG_bind (wpG_standAt ?_)
  have hform : methodCallForm (args.length + ([] : List Keyword).length) (backTo pos (starEach args env)) (backToKw pos (keywordEach [] env)) = true := hfew
  have hpos : methodCallPos true o env apos pos = pure pos := by unfold methodCallPos; simp [hline]
  unfold methodCall
  rw [hform]
  refine wpG_bind (wpG_any (wpAny_holding (getMethod_builtin hT pa slot hty hd ?_)))
  exact wpG_bind (wpG_any (wpAny_of_eq hpos hc))

theorem extend_stmt0 {x : Str} {px apos pos pos2 : Pos} {arg : PySem.Expr} {a : Addr} {Q : Flow → Shared → Prop}
    (h : wpAny (model prog w) A (eval (.Name x px) env) (fun ov s₁ => (ov = .ref a ∧ ∃ b₁, s₁.heap.get? a = some (baObj b₁)) ∧
      wpAny (model prog w) A (eval arg env) (fun v s₂ => ∃ r t b, v = .bytes r t ∧ s₂.heap.get? a = some (baObj b) ∧ (b ++ r).size ≤ sizeLine ∧ Q .next { s₂ with heap := s₂.heap.update a (Obj.mapBytearray fun x => x ++ r) }) E s₁) E s)
    (hbase : attributeBase (.Name x px) (Str.ofString "extend") env (eval (.Name x px) env) = eval (.Name x px) env)
    (hargs : starEach [arg] env = [(false, eval arg env)])
    (hline : (apos.endLine == pos.line) = true) (hi : interactive env = false)
    (hs : swapsWith (.Call (.Attribute (.Name x px) (Str.ofString "extend") apos) [arg] [] pos) none pos2.line env = pure false) :
    wpG (model prog w) A (exec (.Expr (.Call (.Attribute (.Name x px) (Str.ofString "extend") apos) [arg] [] pos) pos2) env) Q E s := by
  refine wpG_Expr ?_ hi hs
  have htr : backTo pos (starEach [arg] env) = [(false, eval arg env)] := by rw [hargs]; rfl
  refine wpG_Call_method (T := "bytearray") (id := "bytearray.extend") hbase (by rw [htr]; rfl) hline be_attrs be_slot be_type (wpAny_mono h (fun ov s₁ h₁ => ?_) fun _ _ e => e)
  obtain ⟨⟨rfl, b₁, ho⟩, h₂⟩ := h₁
  refine ⟨⟨_, ho, rfl⟩, fun a' e => by cases e; exact ⟨_, ho, rfl⟩, ?_⟩
  rw [htr]
  refine callG_builtin rfl (evalArgs_plain (spliced_cons (wpAny_mono h₂ (fun v s₂ h₃ => spliced_nil ?_) fun _ _ e => e)))
  obtain ⟨r, t, b, rfl, hb, hz, hq⟩ := h₃
  exact be_extend hb hz hq

def ExtPost (a : Addr) (R : Shared → Prop) (v : Value) (s₂ : Shared) : Prop :=
  ∃ r t b, v = .bytes r t ∧ s₂.heap.get? a = some (baObj b) ∧ (b ++ r).size ≤ sizeLine ∧ R { s₂ with heap := s₂.heap.update a (Obj.mapBytearray fun x => x ++ r) }

theorem extend_stmt {x : Str} {px apos pos pos2 : Pos} {arg : PySem.Expr} {a : Addr} {b₁ : Array UInt8} {m : Str → Option Value} {Q : Flow → Shared → Prop}
    (hn : s.heap.Ns env.locals m) (hm : m x = some (.ref a)) (ho : s.heap.get? a = some (baObj b₁))
    (h : wpAny (model prog w) A (eval arg env) (ExtPost a (Q .next)) E s)
    (hk : env.scope.kind = .function) (hl : env.kindOf x = some .local) (hd : (x == ("__debug__" : Str)) = false)
    (hbase : attributeBase (.Name x px) (Str.ofString "extend") env (eval (.Name x px) env) = eval (.Name x px) env)
    (hargs : starEach [arg] env = [(false, eval arg env)])
    (hline : (apos.endLine == pos.line) = true) (hi : interactive env = false)
    (hs : swapsWith (.Call (.Attribute (.Name x px) (Str.ofString "extend") apos) [arg] [] pos) none pos2.line env = pure false) :
    wpG (model prog w) A (exec (.Expr (.Call (.Attribute (.Name x px) (Str.ofString "extend") apos) [arg] [] pos) pos2) env) Q E s :=
  extend_stmt0 (wpAny_Name (wpAny_loadName_local hk hl hn hm ⟨⟨rfl, _, ho⟩, h⟩) hd) hbase hargs hline hi hs
end
end Mine
end

section
open PySem PySem.W PySem.Calls PyProof.Rows
set_option Elab.async false
set_option maxRecDepth 100000
set_option maxHeartbeats 8000000
set_option linter.unusedVariables false
namespace Mine

/-- A stored block at `a`: its head octet is `fl`, its octets are `p`. -/
def BlockAt (ds : List Int) (a fl : Int) (p : List Int) : Prop :=
  0 ≤ a ∧ a + 5 + (p.length : Int) ≤ ds.length ∧ (fl = 0 ∨ fl = 1) ∧ ds.getD a.toNat 0 = fl ∧ ds.getD (a + 1).toNat 0 = (p.length : Int) ∧ ds.getD (a + 1 + 1).toNat 0 = 0 ∧
    ds.getD (a + 1 + 2).toNat 0 = 255 - (p.length : Int) ∧ ds.getD (a + 1 + 2 + 1).toNat 0 = 255 ∧ (ds.drop (a + 1 + 4).toNat).take p.length = p

def Blocks (ds : List Int) : Int → List (List Int) → Int → Prop
  | _, [], _ => False
  | a, [p], e => BlockAt ds a 1 p ∧ e = a + 1 + 4 + (p.length : Int)
  | a, p :: q :: r, e => BlockAt ds a 0 p ∧ Blocks ds (a + 1 + 4 + (p.length : Int)) (q :: r) e

abbrev inflM (b : Bool) (x o : Addr) (u : Str → Option Value) : Str → Option Value := fun y =>
  if y = Str.ofString "is_last" then some (.bool b) else if y = Str.ofString "bits" then some (.ref x) else if y = Str.ofString "out" then some (.ref o) else u y
theorem inflM_of {b : Bool} {x o : Addr} {u : Str → Option Value} (h1 : u (Str.ofString "is_last") = some (.bool b)) (h2 : u (Str.ofString "bits") = some (.ref x)) (h3 : u (Str.ofString "out") = some (.ref o)) : u = inflM b x o u := by
  funext y
  unfold inflM
  split
  · rename_i e; rw [e]; exact h1
  · split
    · rename_i e; rw [e]; exact h2
    · split
      · rename_i e; rw [e]; exact h3
      · rfl

theorem fr_infl {g : Heap} {L : Addr} {h : Heap} {b : Bool} {x o : Addr} {u : Str → Option Value} (F : Fr g L h u) (h1 : u (Str.ofString "is_last") = some (.bool b)) (h2 : u (Str.ofString "bits") = some (.ref x)) (h3 : u (Str.ofString "out") = some (.ref o)) : Fr g L h (inflM b x o u) := by
  rw [← inflM_of h1 h2 h3]; exact F

abbrev inflL (x dx o : Addr) (k1 k2 k3 k4 : Int × Tok) (D : Array UInt8) (tD : Tok) (a : Int) (ta th tc : Tok) (c : Int) (O : Array UInt8) (rest : List (Addr × Obj)) : List (Addr × Obj) :=
  (x, instObj 114 dx) :: (dx, bitsO k1 k2 k3 k4 D tD a ta 0 th c tc) :: (o, baObj O) :: rest

theorem bInts_append (a b : Array UInt8) : KBw.bInts (a ++ b) = KBw.bInts a ++ KBw.bInts b := by
  unfold KBw.bInts; simp
theorem bInts_length (a : Array UInt8) : (KBw.bInts a).length = a.size := by
  unfold KBw.bInts; simp

theorem ext_end {h₀ : Heap} {L : Addr} {s : Shared} {m : Str → Option Value} {x dx o : Addr} {k1 k2 k3 k4 : Int × Tok} {D : Array UInt8} {tD : Tok} {a : Int} {ta th tc t : Tok} {c : Int} {O r : Array UInt8} {rest : List (Addr × Obj)} {p : List Int} {R : Shared → Prop}
    (F : Fr h₀ L s.heap m) (N : News h₀ L s.heap (inflL x dx o k1 k2 k3 k4 D tD a ta th tc c O rest)) (h1 : @LT.lt Nat _ dx x) (h2 : @LT.lt Nat _ x o) (h3 : ∀ p ∈ rest, @LT.lt Nat _ p.1 dx) (hb : KBw.bInts r = p) (hp : p.length ≤ 255) (hO : O.size ≤ 1000)
    (h : Fr h₀ L (s.heap.update o (Obj.mapBytearray fun y => y ++ r)) m → News h₀ L (s.heap.update o (Obj.mapBytearray fun y => y ++ r)) (inflL x dx o k1 k2 k3 k4 D tD a ta th tc c (O ++ r) rest) → R { s with heap := s.heap.update o (Obj.mapBytearray fun y => y ++ r) }) : ExtPost o R (.bytes r t) s := by
  have hs : r.size ≤ 255 := by rw [← bInts_length, hb]; exact hp
  have up := news_upd (pre := [_, _]) (post := rest) (f := Obj.mapBytearray fun y => y ++ r) (o' := baObj (O ++ r)) F N (List.forall_mem_cons.mpr ⟨Nat.ne_of_lt h2, List.forall_mem_cons.mpr ⟨Nat.ne_of_lt (Nat.lt_trans h1 h2), fun p hp => by cases hp⟩⟩) (fun p hp => Nat.ne_of_lt (Nat.lt_trans (h3 p hp) (Nat.lt_trans h1 h2))) rfl rfl
  exact ⟨r, t, O, rfl, (N _ (.tail _ (.tail _ (.head _)))).1, by rw [Array.size_append, sizeLine_eq]; omega, h up.1 up.2⟩

theorem infl_ind {W : Shared → Prop} {g : Heap} {L' : Addr} {s : Shared} {x dx o : Addr} {rest : List (Addr × Obj)} {k1 k2 k3 k4 : Int × Tok} {D : Array UInt8} {ds : List Int} {tD : Tok}
    (turn : ∀ (fl : Int) (p : List Int) (a : Int) (O : Array UInt8) h tk (u : Str → Option Value) ta th tc, BlockAt ds a fl p → p.length ≤ 255 → O.size ≤ 1000 → Fr g L' h (inflM false x o u) → News g L' h (inflL x dx o k1 k2 k3 k4 D tD a ta th tc 0 O rest) →
      (∀ h' tk' (u' : Str → Option Value) ta' th' tc' r, Fr g L' h' (inflM (fl == 1) x o u') → News g L' h' (inflL x dx o k1 k2 k3 k4 D tD (a + 1 + 4 + (p.length : Int)) ta' th' tc' 0 (O ++ r) rest) → KBw.bInts r = p → W { s with heap := h', toks := tk' }) → W { s with heap := h, toks := tk }) :
    ∀ (ps : List (List Int)) (a e : Int) (O : Array UInt8) h tk (u : Str → Option Value) ta th tc, Blocks ds a ps e → (∀ p ∈ ps, p.length ≤ 255) → O.size + 255 * ps.length ≤ 1000 → Fr g L' h (inflM false x o u) → News g L' h (inflL x dx o k1 k2 k3 k4 D tD a ta th tc 0 O rest) →
      (∀ h' tk' (u' : Str → Option Value) ta' th' tc' O', Fr g L' h' (inflM true x o u') → News g L' h' (inflL x dx o k1 k2 k3 k4 D tD e ta' th' tc' 0 O' rest) → KBw.bInts O' = KBw.bInts O ++ ps.flatten → W { s with heap := h', toks := tk' }) →
      W { s with heap := h, toks := tk } := by
  intro ps
  induction ps with
  | nil => intro a e O h tk u ta th tc hb; exact hb.elim
  | cons p ps ih =>
    intro a e O h tk u ta th tc hb hl hs F N hx
    simp only [List.length_cons] at hs
    cases ps with
    | nil =>
      obtain ⟨hb, rfl⟩ := hb
      refine turn 1 p a O h tk u ta th tc hb (hl p (.head _)) (by omega) F N fun h' tk' u' ta' th' tc' r F' N' hr => ?_
      exact hx h' tk' u' ta' th' tc' (O ++ r) F' N' (by rw [bInts_append, hr]; simp)
    | cons q ps =>
      obtain ⟨hb, hc⟩ := hb
      refine turn 0 p a O h tk u ta th tc hb (hl p (.head _)) (by omega) F N fun h' tk' u' ta' th' tc' r F' N' hr => ?_
      refine ih _ e (O ++ r) h' tk' u' ta' th' tc' hc (fun p' hp => hl p' (.tail _ hp)) ?_ F' N' fun h2 tk2 u2 ta2 th2 tc2 O2 F2 N2 ho => ?_
      · have : r.size ≤ 255 := by rw [← bInts_length, hr]; exact hl p (.head _)
        rw [Array.size_append]
        simp only [List.length_cons] at hs ⊢
        omega
      · refine hx h2 tk2 u2 ta2 th2 tc2 O2 F2 N2 ?_
        rw [ho, bInts_append, hr, List.append_assoc]; simp
end Mine
end

section
open PySem PySem.W PySem.Calls PyProof.Rows
set_option Elab.async false
set_option maxRecDepth 100000
set_option maxHeartbeats 8000000
set_option linter.unusedVariables false
namespace Mine
theorem kw_E2 : True := by k_with_none; w_top off; trivial
local macro_rules | `(tactic| walk_at "call ref") => `(tactic| (k_here; refine wpAny_call ?_; k_dflt (refine' code_def ?xk1 ?xk2 ?xk3 ?xk4 ?xk5 ?xkA ?xkF ?xkK ?xk6 ?xk7 ?xk8 ?xk9 ?xkB ?_ ?xc2 ?xc3 ?xc4 ?xc5; (case xkA => exact rfl); (case xkF => exact rfl); (case xkK => first | exact rfl | assumption); (case xk1 => k_asm); (case xk2 => k_asm); (case xk3 => k_asm); (case xk4 => k_asm); (case xk5 => k_asm); (case xk6 => k_is); (case xk7 => k_is); (case xk8 => ktr_room); (case xk9 => exact BindsTo.of_eq rfl); (case xc5 => decide); (case xkB => exact locs rfl); (case xc2 => exact rfl); (case xc3 => exact rfl); (case xc4 => exact rfl); k_whole); intro g' L' h' FG' F' N' B' X' T'; (try dsimp only); (try k_lift B'); (try k_fold)))
local macro_rules | `(tactic| walk_at "call ref") => `(tactic| (k_here; k_dflt (refine' length_rows_c _ _ _ _ _ _ _ _ _ _ _ _ _ _ _ _ _ _ _ _ _ _ ?xk1 ?xk2 ?xk3 ?xk4 ?xk5 ?xk6 ?xk7 ?xk8 ?_; (case xk1 => k_asm); (case xk2 => k_asm); (case xk3 => k_asm); (case xk5 => k_asm); (case xk6 => first | exact rfl | assumption); (case xk7 => ktr_room); (case xk8 => ktr_units); (case xk4 => k_asm); k_whole); intro h9 tk9 v9 F9 N9; (try dsimp only); (try k_fold)))
local macro_rules | `(tactic| walk_at "call ref") => `(tactic| (k_here; k_dflt (refine' distance_rows_c _ _ _ _ _ _ _ _ _ _ _ _ _ _ _ _ _ _ _ _ _ _ ?xk1 ?xk2 ?xk3 ?xk4 ?xk5 ?xk6 ?xk7 ?xk8 ?_; (case xk1 => k_asm); (case xk2 => k_asm); (case xk3 => k_asm); (case xk5 => k_asm); (case xk6 => first | exact rfl | assumption); (case xk7 => ktr_room); (case xk8 => ktr_units); (case xk4 => k_asm); k_whole); intro h9 tk9 v9 F9 N9; (try dsimp only); (try k_fold)))
local macro_rules | `(tactic| walk_at "call ref") => `(tactic| (k_here; (rename News _ _ _ _ => nN); k_dflt (refine' take1_c _ _ _ _ _ _ _ _ _ _ _ _ _ _ _ _ _ _ _ _ _ _ _ _ _ ?xk1 ?xk2 ?xk3 ?xk4 ?xk5 ?xk6 ?xk7 ?xk8 ⟨_, _, _, _, _, _, _, _, _, _, _, _, rfl, ?xp1, ?xp2, ?xp3, ?xp4, ?xp5, ?xp6, ?xp7, ?_⟩; (case xk4 => first | exact nN | exact news_tail nN | exact news_tail (news_tail nN) | exact news_tail (news_tail (news_tail nN))); (case xk1 => k_asm); (case xk2 => k_asm); (case xk3 => k_asm); (case xk5 => k_asm); (case xk6 => first | exact rfl | assumption); (case xk7 => ktr_room); (case xk8 => ktr_units); (case xp1 => first | assumption | omega); (case xp2 => k_all); (case xp3 => first | assumption | kba_ints); (case xp4 => first | assumption | omega | kba_idx); (case xp5 => first | assumption | omega | kba_idx); (case xp6 => first | assumption | omega | kba_idx); (case xp7 => first | assumption | omega | kba_idx); k_whole); intro h9 tk9 a9 b9 c9 t9 F9 N9; (try dsimp only); (try k_fold)))
local macro_rules | `(tactic| walk_at "call ref") => `(tactic| (k_here; (rename News _ _ _ _ => nN); k_dflt (refine' take2_c _ _ _ _ _ _ _ _ _ _ _ _ _ _ _ _ _ _ _ _ _ _ _ _ _ ?xk1 ?xk2 ?xk3 ?xk4 ?xk5 ?xk6 ?xk7 ?xk8 ⟨_, _, _, _, _, _, _, _, _, _, _, _, rfl, ?xp1, ?xp2, ?xp3, ?xp4, ?xp5, ?xp6, ?_⟩; (case xk4 => first | exact nN | exact news_tail nN | exact news_tail (news_tail nN) | exact news_tail (news_tail (news_tail nN))); (case xk1 => k_asm); (case xk2 => k_asm); (case xk3 => k_asm); (case xk5 => k_asm); (case xk6 => first | exact rfl | assumption); (case xk7 => ktr_room); (case xk8 => ktr_units); (case xp1 => first | assumption | omega); (case xp2 => k_all); (case xp3 => first | assumption | kba_ints); (case xp4 => first | assumption | omega | kba_idx); (case xp5 => first | assumption | omega | kba_idx); (case xp6 => first | assumption | omega | kba_idx); k_whole); intro h9 tk9 a9 b9 c9 t9 F9 N9; (try dsimp only); (try k_fold)))
local macro_rules | `(tactic| walk_at "call ref") => `(tactic| (k_here; (rename News _ _ _ _ => nN); k_dflt (refine' read_stored_c _ _ _ _ _ _ _ _ _ _ _ _ _ _ _ _ _ _ _ _ _ _ _ _ ?xk1 ?xk2 ?xk3 ?xk4 ?xk5 ?xk6 ?xk7 ?xk8 ⟨_, _, _, _, _, _, _, _, _, _, _, _, _, rfl, ?xp1, ?xp2, ?xp3, ?xp4, ?xp5, ?xp6, ?xp7, ?xp8, ?xp9, ?xp10, ?xp11, ?_⟩; (case xk4 => first | exact nN | exact news_tail nN | exact news_tail (news_tail nN) | exact news_tail (news_tail (news_tail nN))); (case xk1 => k_asm); (case xk2 => k_asm); (case xk3 => k_asm); (case xk5 => k_asm); (case xk6 => first | exact rfl | assumption); (case xk7 => ktr_room); (case xk8 => ktr_units); (case xp8 => assumption); (case xp1 => first | assumption | omega); (case xp2 => k_all); (case xp3 => first | assumption | kba_ints); (case xp4 => first | assumption | omega | kba_idx); (case xp5 => first | assumption | omega | kba_idx); (case xp6 => first | assumption | omega | kba_idx); (case xp7 => first | assumption | omega | kba_idx); (case xp9 => first | assumption | omega | kba_idx); (case xp10 => first | assumption | omega | kba_idx); (case xp11 => first | assumption | omega | kba_idx); k_whole); intro h9 tk9 r9 a9 b9 c9 t9 F9 N9 hr9; (try dsimp only); (try k_fold)))
theorem inflate_into_c (w : World) (x dx o : Addr) :
  CallG w 14 (fun fs base h₀ L m news s Q E => ∃ rest k1 k2 k3 k4 D ds tD a ta th tc O ps e, news = inflL x dx o k1 k2 k3 k4 D tD a ta th tc 0 O rest ∧ @LT.lt Nat _ dx x ∧ @LT.lt Nat _ x o ∧ (∀ p ∈ rest, @LT.lt Nat _ p.1 dx) ∧ KBw.bInts D = ds ∧ ds.length < 2 ^ 20 ∧ Blocks ds a ps e ∧ (∀ p ∈ ps, p.length ≤ 255) ∧ O.size + 255 * ps.length ≤ 1000 ∧
    ∀ (h' : Heap) (tk' : Nat) (ta th tc : Tok) (O' : Array UInt8), Fr h₀ L h' m → News h₀ L h' (inflL x dx o k1 k2 k3 k4 D tD e ta th tc 0 O' rest) → KBw.bInts O' = KBw.bInts O ++ ps.flatten → Q .none { s with heap := h', toks := tk' }) 277 [.ref o, .ref x] := by
  unfold CallG
  k_fill
  intro mean mg mb dp un gd cn cs a ccd cl outer A₀ base h₀ L m news s Q E B F X N T hcs hd hu hret
  obtain ⟨rest, k1, k2, k3, k4, D, ds, tD, at_, ta, th, tc, O, ps, e, hn, hlt, hlt2, hr, hD, h2, hBl, hps, hsz, hret⟩ := hret
  subst hn
  refine wpG_call ?_
  k_dflt (refine' codeG_def ?xk1 ?xk2 ?xk3 ?xk4 ?xk5 ?xkA ?xkF ?xkK ?xk6 ?xk7 ?xk8 ?xk9 ?xkB ?_ ?xc2 ?xc3 ?xc4 ?xc5; (case xkA => exact rfl); (case xkF => exact rfl); (case xkK => first | exact rfl | assumption); (case xk1 => k_asm); (case xk2 => k_asm); (case xk3 => k_asm); (case xk4 => k_asm); (case xk5 => k_asm); (case xk6 => k_is); (case xk7 => k_is); (case xk8 => ktr_room); (case xk9 => exact BindsTo.of_eq rfl); (case xc5 => decide); (case xkB => exact locs rfl); (case xc2 => exact rfl); (case xc3 => exact rfl); (case xc4 => exact rfl); k_whole); intro g' L' h' FG' F' N' B' X' T'; (try dsimp only); (try k_lift B'); (try k_fold)
  refine wpG_execs_cons (wpG_any ?_)
  k_steps
  refine wpG_execs_cons (wpG_any ?_)
  k_steps
  refine wpG_execs_cons (whlG_start ?_)
  rename Fr g' L' _ _ => kF
  rename News g' L' _ _ => kN
  refine' infl_ind (W := WhlG _ _ _ _ _ _ _ _ _) ?turn ps at_ e O _ _ _ _ _ _ hBl hps hsz (fr_infl kF rfl rfl rfl) (by first | exact kN | exact news_tail kN | exact news_tail (news_tail kN)) ?exit
  case exit =>
    clear kF kN
    intro h tk u ta th tc O' F1 N1 hO
    k_dflt (refine' whlG_turn ?hE rfl ?_; (case hE => first | passes_own | with_unfolding_all passes_own))
    k_steps
    refine wpG_any (wpAny_execs_nil ?_)
    dsimp only
    refine wpG_any ?_
    k_steps
    rename Fr h₀ L _ m => kF
    rename News h₀ L _ _ => kN
    exact hret _ _ _ _ _ _ kF kN hO
  case turn =>
    clear kF kN
    intro fl p a O h tk u ta th tc hb hp hO F1 N1 hgo
    obtain ⟨hb0, hb1, hb2, hb3, hb4, hb5, hb6, hb7, hb8⟩ := hb
    have hb9 : ds.getD a.toNat 0 = 0 ∨ ds.getD a.toNat 0 = 1 := by rw [hb3]; exact hb2
    k_dflt (refine' whlG_turn ?hE rfl ?_; (case hE => first | passes_own | with_unfolding_all passes_own))
    k_steps
    refine wpG_execs_cons (wpG_any ?_)
    k_steps
    refine wpG_execs_cons (wpG_any ?_)
    k_steps
    refine wpG_execs_cons (wpG_If (wpG_any ?_))
    k_steps
    rename Fr g' L' _ _ => kF
    rename News g' L' _ _ => kN
    refine wpG_execs_cons (extend_stmt (a := o) (b₁ := O) kF.ns rfl (kN _ (.tail _ (.tail _ (.head _)))).1 ?_ rfl rfl (by decide) rfl rfl rfl rfl rfl)
    k_steps
    rename Fr g' L' _ _ => kF2
    rename News g' L' _ _ => kN2
    rename KBw.bInts _ = List.take _ _ => hr9
    have hbi := hr9.trans (show _ = p by rw [Int.toNat_natCast]; exact hb8)
    refine ext_end kF2 kN2 hlt hlt2 hr hbi hp hO fun kF3 kN3 => ?_
    refine wpG_any ?_
    k_steps
    dsimp only [WhlGPost]
    refine hgo _ _ _ _ _ _ _ (fr_infl kF3 (by rw [← hb3]; rfl) rfl rfl) kN3 hbi
end Mine
end

section
open PySem PySem.W PySem.Calls PyProof.Rows
set_option Elab.async false
set_option maxRecDepth 100000
set_option maxHeartbeats 8000000
set_option linter.unusedVariables false
namespace Mine
theorem kw_E3a : True := by k_with_none; w_top off; trivial

theorem bits_new_c (w : World) (D : Array UInt8) (tD tz : Tok) (z : Int) :
  Call w 4 (fun fs base h₀ L m news s Q E => ∀ (h' : Heap) (tk' : Nat) (x dx : Addr) (k1 k2 k3 k4 : Int × Tok) (ta th tc : Tok), Fr h₀ L h' m → News h₀ L h' ((x, instObj 114 dx) :: (dx, bitsO k1 k2 k3 k4 D tD z ta 0 th 0 tc) :: news) → @LT.lt Nat _ dx x → (∀ p ∈ news, p.1 < dx) → Q (.ref x) { s with heap := h', toks := tk' }) 114 [.bytes D tD, .int z tz] := by
  unfold Call
  k_fill
  intro mean mg mb dp un gd cn cs a ccd cl outer A₀ base h₀ L m news s Q E B F X N T hcs hd hu hret
  k_dflt (refine' call_cls ?xx1 ?xx2 ?xx3 ?xx4 ?xx5 ?xx6 ?_; (case xx1 => k_asm); (case xx2 => k_asm); (case xx3 => k_asm); (case xx4 => k_is); (case xx5 => k_is); (case xx6 => k_is); k_whole; intro x' d' h' F' N' l1 l2; (have l3 : @LT.lt Nat _ d' x' := l2))
  k_dflt (refine' code_def ?k1 ?k2 ?k3 ?k4 ?k5 ?kA ?kF ?kK ?k6 ?k7 ?k8 ?k9 ?kB ?_ ?c2 ?c3 ?c4 ?c5; (case kA => exact rfl); (case kF => exact rfl); (case kK => assumption); (case k1 => k_asm); (case k2 => k_asm); (case k3 => k_asm); (case k4 => k_asm); (case k5 => k_asm); (case k6 => k_is); (case k7 => k_is); (case k8 => ktr_room); (case k9 => exact binds_K (X.keeps F'.keep) rfl (by k_is) rfl rfl rfl); (case c5 => decide); (case kB => exact locs rfl); (case c2 => exact rfl); (case c3 => exact rfl); (case c4 => exact rfl); k_whole; intro g' L' h' FG' F' N' B' X' T'; (try dsimp only); (try k_lift B'); (try k_fold))
  k_steps
  (rename Fr h₀ L _ m => kF); (rename News h₀ L _ _ => kN)
  exact hret _ _ _ _ (_, _) (_, _) (_, _) (_, _) _ _ _ kF kN l3 l1
end Mine
end

section
open PySem PySem.W PySem.Calls PyProof.Rows PySem.Builtin.Bytes
set_option Elab.async false
set_option maxRecDepth 100000
set_option maxHeartbeats 8000000
set_option linter.unusedVariables false
namespace Mine
abbrev tupO (vs : List Value) : Obj := { cls := .type "tuple", data := .seq vs.toArray }
section
variable {prog : Program} {w : World} {A A₀ : Around} {E : Value → Shared → Prop} {s : Shared} {env : Env} {h₀ : Heap} {L : Addr} {m : Str → Option Value} {news : List (Addr × Obj)} {Q : Value → Shared → Prop}
theorem callWithG_ba {pos : Pos} (F : Fr h₀ L s.heap m) (N : News h₀ L s.heap news)
    (h : ∀ o h', Fr h₀ L h' m → News h₀ L h' ((o, baObj #[]) :: news) → (∀ p ∈ news, p.1 < o) → Q (.ref o) { s with heap := h' }) :
    wpG (model prog w) A (callWith pos (.type "bytearray") [] [] []) Q E s := by
  refine callG_type rfl (evalArgs_nil3 (callG_bytearray ?_))
  have F1 := F.push (baObj #[])
  have N1 := News.push F N (baObj #[])
  have up := news_upd (pre := []) (post := news) (f := Obj.mapBytearray fun _ => #[]) (o' := baObj #[]) F1 N1 (fun p hp => by cases hp) (fun p hp => Nat.ne_of_lt (Heap.lt_size (N p hp).1)) rfl rfl
  exact h _ _ up.1 up.2 fun p hp => Heap.lt_size (N p hp).1
end
end Mine
end

section
open PySem PySem.W PySem.Calls PyProof.Rows PySem.Builtin.Bytes
set_option Elab.async false
set_option maxRecDepth 100000
set_option maxHeartbeats 8000000
set_option linter.unusedVariables false
namespace Mine
section
variable {prog : Program} {w : World} {M : Model} {A A₀ : Around} {E : Value → Shared → Prop} {s : Shared} {env : Env} {Q : Value → Shared → Prop}
/-- The def at `a` stands, and then P. -/
def FnThen (a : Addr) (h : Heap) (P : Prop) : Prop := (∃ o fd, h.get? a = some o ∧ o.data = .func fd) ∧ P
theorem callG_1 {x : Str} {p pos : Pos} {e₁ : PySem.Expr}
    (h : wpAny M A (eval (.Name x p) env) (fun f s₁ => wpG M A (callWith pos f [] [(false, eval e₁ env)] []) Q E s₁) E s)
    (hs : starEach [e₁] env = [(false, eval e₁ env)]) : wpG M A (eval (.Call (.Name x p) [e₁] [] pos) env) Q E s := wpG_CallName (by rw [hs]; rfl) h
theorem callG_2 {x : Str} {p pos : Pos} {e₁ e₂ : PySem.Expr}
    (h : wpAny M A (eval (.Name x p) env) (fun f s₁ => wpG M A (callWith pos f [] [(false, eval e₁ env), (false, eval e₂ env)] []) Q E s₁) E s)
    (hs : starEach [e₁, e₂] env = [(false, eval e₁ env), (false, eval e₂ env)]) : wpG M A (eval (.Call (.Name x p) [e₁, e₂] [] pos) env) Q E s := wpG_CallName (by rw [hs]; rfl) h
theorem fnG_1 {pos : Pos} {a : Addr} {t₁ : Sem Value} (h : wpAny M A t₁ (fun v₁ s₁ => FnThen a s₁.heap (wpG M A (call (.ref a) [v₁]) Q E s₁)) E s) :
    wpG M A (callWith pos (.ref a) [] [(false, t₁)] []) Q E s := by
  unfold callWith
  refine wpG_bind (wpG_any (wpAny_holding (evalArgs_plain (spliced_cons (wpAny_mono h (fun v s₁ h₁ => spliced_nil ?_) fun _ _ x => x)))))
  obtain ⟨⟨o, fd, ho, hd⟩, h₂⟩ := h₁
  refine wpG_standAt_bind ?_
  simp only [List.any_cons, List.any_nil, Bool.or_false]
  refine wpG_bind (m := keeperOf (.ref a)) (wpG_any ?_)
  unfold keeperOf
  refine wpAny_bind (wpAny_load ho ?_)
  rw [hd]
  exact wpAny_pure (callG_tail (wpG_keep h₂))
theorem fnG_2 {pos : Pos} {a : Addr} {t₁ t₂ : Sem Value} (h : wpAny M A t₁ (fun v₁ s₁ => wpAny M A t₂ (fun v₂ s₂ => FnThen a s₂.heap (wpG M A (call (.ref a) [v₁, v₂]) Q E s₂)) E s₁) E s) :
    wpG M A (callWith pos (.ref a) [] [(false, t₁), (false, t₂)] []) Q E s := by
  unfold callWith
  refine wpG_bind (wpG_any (wpAny_holding (evalArgs_plain (spliced_cons (wpAny_mono h (fun v s₁ h₁ => spliced_cons (wpAny_mono h₁ (fun v' s₂ h₂ => spliced_nil ?_) fun _ _ x => x)) fun _ _ x => x)))))
  obtain ⟨⟨o, fd, ho, hd⟩, h₃⟩ := h₂
  refine wpG_standAt_bind ?_
  simp only [List.any_cons, List.any_nil, Bool.or_false]
  refine wpG_bind (m := keeperOf (.ref a)) (wpG_any ?_)
  unfold keeperOf
  refine wpAny_bind (wpAny_load ho ?_)
  rw [hd]
  exact wpAny_pure (callG_tail (wpG_keep h₃))
end
end Mine
end

section
open PySem PySem.W PySem.Calls PyProof.Rows
set_option Elab.async false
set_option maxRecDepth 100000
set_option maxHeartbeats 8000000
set_option linter.unusedVariables false
namespace Mine
theorem kw_E3 : True := by k_with_none; w_top off; trivial

local macro_rules | `(tactic| walk_at "call ref") => `(tactic| (k_here; refine wpAny_call ?_; k_dflt (refine' code_def ?xk1 ?xk2 ?xk3 ?xk4 ?xk5 ?xkA ?xkF ?xkK ?xk6 ?xk7 ?xk8 ?xk9 ?xkB ?_ ?xc2 ?xc3 ?xc4 ?xc5; (case xkA => exact rfl); (case xkF => exact rfl); (case xkK => first | exact rfl | assumption); (case xk1 => k_asm); (case xk2 => k_asm); (case xk3 => k_asm); (case xk4 => k_asm); (case xk5 => k_asm); (case xk6 => k_is); (case xk7 => k_is); (case xk8 => ktr_room); (case xk9 => first | exact BindsTo.of_eq rfl | exact binds_K (by k_in) rfl (by k_is) rfl rfl rfl); (case xc5 => decide); (case xkB => exact locs rfl); (case xc2 => exact rfl); (case xc3 => exact rfl); (case xc4 => exact rfl); k_whole); intro g' L' h' FG' F' N' B' X' T'; (try dsimp only); (try k_lift B'); (try k_fold)))
local macro_rules | `(tactic| walk_at "call ref") => `(tactic| (k_here; k_dflt (refine' bits_new_c _ _ _ _ _ _ _ _ _ _ _ _ _ _ _ _ _ _ _ _ _ _ _ _ _ _ ?xk1 ?xk2 ?xk3 ?xk4 ?xk5 ?xk6 ?xk7 ?xk8 ?_; (case xk1 => k_asm); (case xk2 => k_asm); (case xk3 => k_asm); (case xk5 => k_asm); (case xk6 => first | exact rfl | assumption); (case xk7 => ktr_room); (case xk8 => ktr_units); (case xk4 => k_asm); k_whole); intro h9 tk9 x9 d9 k91 k92 k93 k94 a9 b9 c9 F9 N9 l91 l92; (try dsimp only); (try k_fold)))

local macro_rules | `(tactic| walk_at "call type:bytes") => `(tactic| (k_here; (with_reducible show wpAny _ _ (call (Value.type "bytes") [Value.ref _]) _ _ _); (rename News _ _ _ _ => nN); refine call_bytes_ba ((nN _ (.tail _ (.tail _ (.head _)))).1) (by rw [sizeLine_eq]; omega) ?_; intro bt9 tk9))

theorem flatten_len {ps : List (List Int)} (h : ∀ p ∈ ps, p.length ≤ 255) : ps.flatten.length ≤ 255 * ps.length := by
  induction ps with
  | nil => exact Nat.le_refl _
  | cons p r ih =>
    have := ih fun q hq => h q (.tail _ hq)
    have := h p (.head _)
    simp only [List.flatten_cons, List.length_append, List.length_cons]
    omega
theorem news_swap {h₀ h : Heap} {L : Addr} {a b c : Addr × Obj} {r : List (Addr × Obj)} (N : News h₀ L h (a :: b :: c :: r)) : News h₀ L h (b :: c :: a :: r) := fun p hp => N p (by
  rcases List.mem_cons.mp hp with rfl | hp
  · exact .tail _ (.head _)
  rcases List.mem_cons.mp hp with rfl | hp
  · exact .tail _ (.tail _ (.head _))
  rcases List.mem_cons.mp hp with rfl | hp
  · exact .head _
  · exact .tail _ (.tail _ (.tail _ hp)))

theorem news_first {h₀ h : Heap} {L : Addr} {a b c d : Addr × Obj} {r : List (Addr × Obj)} (N : News h₀ L h (a :: b :: c :: d :: r)) : News h₀ L h (a :: r) := fun p hp => N p (by
  rcases List.mem_cons.mp hp with rfl | hp
  · exact .head _
  · exact .tail _ (.tail _ (.tail _ (.tail _ hp))))
theorem inflate_c (w : World) (D : Array UInt8) (tD tz : Tok) (z : Int) :
  CallG w 20 (fun fs base h₀ L m news s Q E => ∃ ds ps e, KBw.bInts D = ds ∧ ds.length < 2 ^ 20 ∧ Blocks ds z ps e ∧ (∀ p ∈ ps, p.length ≤ 255) ∧ 255 * ps.length ≤ 1000 ∧
    ∀ (h' : Heap) (tk' : Nat) (v : Addr) (r : Array UInt8) (tr te : Tok), Fr h₀ L h' m → News h₀ L h' ((v, tupO [.bytes r tr, .int e te]) :: news) → (∀ p ∈ news, @LT.lt Nat _ p.1 v) → KBw.bInts r = ps.flatten → Q (.ref v) { s with heap := h', toks := tk' }) 285 [.bytes D tD, .int z tz] := by
  unfold CallG
  k_fill
  intro mean mg mb dp un gd cn cs a ccd cl outer A₀ base h₀ L m news s Q E B F X N T hcs hd hu hret
  obtain ⟨ds, ps, e, hD, h2, hBl, hps, hsz, hret⟩ := hret
  refine wpG_call ?_
  k_dflt (refine' codeG_def ?xk1 ?xk2 ?xk3 ?xk4 ?xk5 ?xkA ?xkF ?xkK ?xk6 ?xk7 ?xk8 ?xk9 ?xkB ?_ ?xc2 ?xc3 ?xc4 ?xc5; (case xkA => exact rfl); (case xkF => exact rfl); (case xkK => first | exact rfl | assumption); (case xk1 => k_asm); (case xk2 => k_asm); (case xk3 => k_asm); (case xk4 => k_asm); (case xk5 => k_asm); (case xk6 => k_is); (case xk7 => k_is); (case xk8 => ktr_room); (case xk9 => exact binds_K (X.keeps F.keep) rfl (by k_is) rfl rfl rfl); (case xc5 => decide); (case xkB => exact locs rfl); (case xc2 => exact rfl); (case xc3 => exact rfl); (case xc4 => exact rfl); k_whole); intro g' L' h' FG' F' N' B' X' T'; (try dsimp only); (try k_lift B'); (try k_fold)
  refine wpG_execs_cons (wpG_any ?_)
  k_steps
  refine wpG_execs_cons (wpG_Assign_Name (wpG_CallName rfl ?_) rfl)
  k_steps
  rename Fr g' L' _ _ => kF
  rename News g' L' _ _ => kN
  rename (_ < _) => l91
  rename (∀ p ∈ news, _) => l92
  refine callWithG_ba kF kN fun o h'' kF kN l93 => ?_
  k_steps
  dsimp only
  refine wpG_execs_cons (wpG_Expr (callG_2 ?_ rfl) rfl rfl)
  k_steps
  refine fnG_2 ?_
  k_steps
  rename Fr g' L' _ _ => kF2
  rename News g' L' _ _ => kN2
  refine ⟨?fn, ?_⟩
  case fn =>
    obtain ⟨o9, h9, fd9, d9⟩ : ∃ o9, (hd173.heap_39 w.params).lookup 277 = some o9 ∧ ∃ fd, o9.data = .func fd := ⟨_, rfl, _, rfl⟩
    exact ⟨o9, fd9, (X'.keeps kF2.keep) _ _ h9, d9⟩
  have kN3 := news_swap kN2
  have l95 : @LT.lt Nat _ _ o := l93 _ (.head _)
  k_dflt (refine' inflate_into_c _ _ _ _ _ _ _ _ _ _ _ _ _ _ _ _ _ _ _ _ _ _ _ _ _ ?xk1 ?xk2 ?xk3 ?xk4 ?xk5 ?xk6 ?xk7 ?xk8 ⟨_, _, _, _, _, _, ds, _, _, _, _, _, #[], ps, e, rfl, l91, l95, l92, hD, h2, hBl, hps, by simpa using hsz, ?_⟩; (case xk4 => exact kN3); (case xk1 => k_asm); (case xk2 => k_asm); (case xk3 => k_asm); (case xk5 => k_asm); (case xk6 => first | exact rfl | assumption); (case xk7 => ktr_room); (case xk8 => ktr_units))
  intro h' tk' ta th tc O' kF3 kN3 hO
  have hO2 : KBw.bInts O' = ps.flatten := by rw [hO]; rfl
  have hsz2 : O'.size ≤ 1000 := by
    rw [← bInts_length, hO2]
    exact Nat.le_trans (flatten_len hps) hsz
  dsimp only
  refine wpG_any ?_
  k_steps
  rename Fr h₀ L _ m => kF4
  rename News h₀ L _ _ => kN4
  rename (_ ∧ _ ∧ _ ∧ AllLt _ news) => l1
  exact hret _ _ _ _ _ _ kF4 (news_first kN4) (fun p hp => Nat.lt_trans (l92 p hp) l1.2.1) hO2
end Mine
end

section
open PySem PySem.W PySem.Calls PyProof.Rows
set_option Elab.async false
set_option maxRecDepth 100000
set_option maxHeartbeats 8000000
set_option linter.unusedVariables false
namespace Mine
local macro_rules | `(tactic| walk_at "zz") => `(tactic| fail)
local macro_rules | `(tactic| walk_at "zz") => `(tactic| fail)
theorem kw_E4 : True := by k_with_none; w_top off; trivial

theorem cf_a {x y : Int} (h : x = 120) (h' : y = 1) : (256 * x + y).fmod 31 = 0 := by subst h; subst h'; decide
theorem cf_b {x : Int} (h : x = 120) : x.fmod 16 = 8 := by subst h; decide
theorem cf_c {x : Int} (h : x = 120) : x.fdiv 16 = 7 := by subst h; decide
theorem cf_d {y : Int} (h : y = 1) : y.fdiv 32 = 0 := by subst h; decide
theorem cf_e : (0 : Int).fmod 2 = 0 := by decide
section
variable {prog : Program} {w : World} {A : Around} {E : Value → Shared → Prop} {s : Shared} {a b : Int} {t u : Tok} {Q : Value → Shared → Prop}
theorem cf_mod {v : Int} (he : a.fmod b = v) (hb : b ≠ 0) (h : Q (.int v s.toks) { s with toks := s.toks + 1 }) : wpAny (model prog w) A (binaryOp .Mod (.int a t) (.int b u)) Q E s := mod_int' hb (by rw [he]; exact h)
theorem cf_div {v : Int} (he : a.fdiv b = v) (hb : b ≠ 0) (h : Q (.int v s.toks) { s with toks := s.toks + 1 }) (hp : b.natAbs < 1073741824) : wpAny (model prog w) A (binaryOp .FloorDiv (.int a t) (.int b u)) Q E s := floordiv_int hb (by rw [he]; exact h) (Or.inl (PyProof.noPylong_small hp))
end
local macro_rules | `(tactic| walk_at "binaryOp Mod int int") => `(tactic| (k_here; (rename List.getD _ (Int.toNat 0) 0 = 120 => z0); (rename List.getD _ (Int.toNat 1) 0 = 1 => z1); first | refine cf_mod (cf_a z0 z1) (by decide) ?_ | refine cf_mod (cf_b z0) (by decide) ?_ | refine cf_mod cf_e (by decide) ?_))
local macro_rules | `(tactic| walk_at "binaryOp FloorDiv int int") => `(tactic| (k_here; (rename List.getD _ (Int.toNat 0) 0 = 120 => z0); (rename List.getD _ (Int.toNat 1) 0 = 1 => z1); first | refine cf_div (cf_c z0) (by decide) ?_ (by decide) | refine cf_div (cf_d z1) (by decide) ?_ (by decide)))
theorem truthy_f {M : Model} {A : Around} {E : Value → Shared → Prop} {s : Shared} {x : Bool} {Q : Bool → Shared → Prop} (hx : x = false) (h : Q false s) : wpAny M A (truthy (.bool x)) Q E s := by subst hx; exact wpAny_truthy_bool h
local macro_rules | `(tactic| walk_at "truthy bool") => `(tactic| (refine truthy_f (by decide) ?_; (try dsimp only); (try rw [if_neg Bool.false_ne_true])))
theorem check_frame_c (w : World) (D : Array UInt8) (tD : Tok) :
  Call w 2 (fun fs base h₀ L m news s Q E => ∃ ds, KBw.bInts D = ds ∧ ds.length < 2 ^ 20 ∧ 2 ≤ ds.length ∧ ds.getD (Int.toNat 0) 0 = 120 ∧ ds.getD (Int.toNat 1) 0 = 1 ∧
    ∀ (h' : Heap) (tk' : Nat), Fr h₀ L h' m → News h₀ L h' news → Q .none { s with heap := h', toks := tk' }) 299 [.bytes D tD] := by
  unfold Call
  k_fill
  intro mean mg mb dp un gd cn cs a ccd cl outer A₀ base h₀ L m news s Q E B F X N T hcs hd hu hret
  obtain ⟨ds, hD, h1, h2, e0, e1, hret⟩ := hret
  refine wpAny_call ?_
  k_dflt cell_enter
  k_steps
  (rename Fr h₀ L _ m => kF); (rename News h₀ L _ _ => kN)
  exact hret _ _ kF kN
end Mine
end

section
open PySem PySem.W PySem.Calls PyProof.Rows PySem.Builtin.Bytes
set_option Elab.async false
set_option maxRecDepth 100000
set_option maxHeartbeats 8000000
set_option linter.unusedVariables false
namespace Mine
theorem wpG_Assign_Tuple {M : Model} {A : Around} {E : Value → Shared → Prop} {s : Shared} {env : Env} {elts k tpos value pos} {Q : Flow → Shared → Prop}
    (h : wpG M A (eval value env) (fun v s₁ => wpAny M A (assign (.Tuple elts k tpos) env v) (fun _ => Q .next) E s₁) E s)
    (hs : swapsWithSole [.Tuple elts k tpos] value pos.line env = pure false := by rfl)
    (hw : swappedStores [.Tuple elts k tpos] value env = pure none := by rfl) :
    wpG M A (exec (.Assign [.Tuple elts k tpos] value pos) env) Q E s := by
  refine wpG_Assign hs (wpG_mono h (fun v s₁ h₁ => ?_) fun _ _ x => x)
  rw [hw]
  refine wpAny_bind (wpAny_pure ?_)
  show wpAny M A (do assignAll v [assign (.Tuple elts k tpos) env]; pure .next) Q E s₁
  exact wpAny_bind (wpAny_mono h₁ (fun _ _ x => wpAny_pure x) fun _ _ x => x)
end Mine
end

section
open PySem PySem.W PySem.Calls PyProof.Rows
set_option Elab.async false
set_option maxRecDepth 100000
set_option maxHeartbeats 8000000
set_option linter.unusedVariables false
namespace Mine
theorem kw_E5 : True := by k_with_none; w_top off; trivial

local macro_rules | `(tactic| walk_at "call ref") => `(tactic| (k_here; refine wpAny_call ?_; k_dflt (refine' code_def ?xk1 ?xk2 ?xk3 ?xk4 ?xk5 ?xkA ?xkF ?xkK ?xk6 ?xk7 ?xk8 ?xk9 ?xkB ?_ ?xc2 ?xc3 ?xc4 ?xc5; (case xkA => exact rfl); (case xkF => exact rfl); (case xkK => first | exact rfl | assumption); (case xk1 => k_asm); (case xk2 => k_asm); (case xk3 => k_asm); (case xk4 => k_asm); (case xk5 => k_asm); (case xk6 => k_is); (case xk7 => k_is); (case xk8 => ktr_room); (case xk9 => first | exact BindsTo.of_eq rfl | exact binds_K (by k_in) rfl (by k_is) rfl rfl rfl); (case xc5 => decide); (case xkB => exact locs rfl); (case xc2 => exact rfl); (case xc3 => exact rfl); (case xc4 => exact rfl); k_whole); intro g' L' h' FG' F' N' B' X' T'; (try dsimp only); (try k_lift B'); (try k_fold)))
local macro_rules | `(tactic| walk_at "call ref") => `(tactic| (k_here; k_dflt (refine' check_frame_c _ _ _ _ _ _ _ _ _ _ _ _ _ _ _ _ _ _ _ _ _ _ _ _ ?xk1 ?xk2 ?xk3 ?xk4 ?xk5 ?xk6 ?xk7 ?xk8 ⟨_, ?xp1, ?xp2, ?xp3, ?xp4, ?xp5, ?_⟩; (case xp1 => assumption); (case xp2 => assumption); (case xp3 => assumption); (case xp4 => assumption); (case xp5 => assumption); (case xk4 => k_asm); (case xk1 => k_asm); (case xk2 => k_asm); (case xk3 => k_asm); (case xk5 => k_asm); (case xk6 => first | exact rfl | assumption); (case xk7 => ktr_room); (case xk8 => ktr_units); k_whole); intro h9 tk9 F9 N9; (try dsimp only); (try k_fold)))
local macro_rules | `(tactic| walk_at "call ref") => `(tactic| (k_here; (rename News _ _ _ (_ :: _) => nN); (have nT := news_tail nN); k_dflt (refine' check_sum_c _ _ _ _ _ _ _ _ _ _ _ _ _ _ _ _ _ _ _ _ _ _ _ _ _ _ _ _ _ _ ?xk1 ?xk2 ?xk3 ?xk4 ?xk5 ?xk6 ?xk7 ?xk8 ⟨?xp1, ?xp2, ?xp3, ?xp4, ?_, ?_⟩; (case xk4 => exact nT); (case xp1 => assumption); (case xp2 => assumption); (case xp3 => assumption); (case xp4 => assumption); (case xk1 => k_asm); (case xk2 => k_asm); (case xk3 => k_asm); (case xk5 => k_asm); (case xk6 => first | exact rfl | assumption); (case xk7 => ktr_room); (case xk8 => ktr_units))))
local macro_rules | `(tactic| walk_at "leaving ref") => `(tactic| (k_here; k_dflt (refine' leave_onD ?xlK ?xlF ?xlR ?xls ?_; (case xlK => assumption); (case xlR => assumption); (case xls => assumption); (case xlF => assumption); k_whole); intro h' R' U'; (try dsimp only at R' U' ⊢)))
theorem zlib_c (w : World) (D : Array UInt8) (tD : Tok) :
  CallG w 24 (fun fs base h₀ L m news s Q E => ∃ ds ps e, KBw.bInts D = ds ∧ ds.length < 2 ^ 20 ∧ 2 ≤ ds.length ∧ ds.getD (Int.toNat 0) 0 = 120 ∧ ds.getD (Int.toNat 1) 0 = 1 ∧ Blocks ds 2 ps e ∧ (∀ p ∈ ps, p.length ≤ 255) ∧ 255 * ps.length ≤ 1000 ∧ 0 ≤ e ∧ e + 4 ≤ ds.length ∧
    (beZ (fourOf ds e) = adlerZ ps.flatten → ∀ (h' : Heap) (tk' : Nat) (r : Array UInt8) (tr : Tok), Fr h₀ L h' m → News h₀ L h' news → KBw.bInts r = ps.flatten → Q (.bytes r tr) { s with heap := h', toks := tk' }) ∧
    (beZ (fourOf ds e) ≠ adlerZ ps.flatten → ∀ (g h' : Heap) (tk' : Nat) (ex dx : Addr) (t1 t2 tx tv : Tok) (hs : Int × Int) (x : Str), Fr h₀ L g m → g.UpToSlots h' →
      RaisedD base fs ex dx ((dx, dictOf [⟨hs.1, .str (Str.ofString "what") t1, .str x tx⟩, ⟨hs.2, .str (Str.ofString "at") t2, .int e tv⟩] 2) :: news) h' → E (.ref ex) { s with heap := h', toks := tk' })) 313 [.bytes D tD] := by
  unfold CallG
  k_fill
  intro mean mg mb dp un gd cn cs a ccd cl outer A₀ base h₀ L m news s Q E B F X N T hcs hd hu hret
  obtain ⟨ds, ps, e, hD, h2, h3, e0, e1, hBl, hps, hsz, he0, he1, hret, hexc⟩ := hret
  refine wpG_call ?_
  k_dflt (refine' codeG_def ?xk1 ?xk2 ?xk3 ?xk4 ?xk5 ?xkA ?xkF ?xkK ?xk6 ?xk7 ?xk8 ?xk9 ?xkB ?_ ?xc2 ?xc3 ?xc4 ?xc5; (case xkA => exact rfl); (case xkF => exact rfl); (case xkK => first | exact rfl | assumption); (case xk1 => k_asm); (case xk2 => k_asm); (case xk3 => k_asm); (case xk4 => k_asm); (case xk5 => k_asm); (case xk6 => k_is); (case xk7 => k_is); (case xk8 => ktr_room); (case xk9 => exact BindsTo.of_eq rfl); (case xc5 => decide); (case xkB => exact locs rfl); (case xc2 => exact rfl); (case xc3 => exact rfl); (case xc4 => exact rfl); k_whole); intro g' L' h' FG' F' N' B' X' T'; (try dsimp only); (try k_lift B'); (try k_fold)
  refine wpG_execs_cons (wpG_any ?_)
  k_steps
  refine wpG_execs_cons (wpG_Assign_Tuple (callG_2 ?_ rfl) rfl rfl)
  k_steps
  refine fnG_2 ?_
  k_steps
  rename Fr g' L' _ _ => kF2
  rename News g' L' _ _ => kN2
  refine ⟨?fn, ?_⟩
  case fn =>
    obtain ⟨o9, h9, fd9, d9⟩ : ∃ o9, (hd173.heap_39 w.params).lookup 285 = some o9 ∧ ∃ fd, o9.data = .func fd := ⟨_, rfl, _, rfl⟩
    exact ⟨o9, fd9, (X'.keeps kF2.keep) _ _ h9, d9⟩
  k_dflt (refine' inflate_c _ _ _ _ _ _ _ _ _ _ _ _ _ _ _ _ _ _ _ _ _ _ _ _ _ _ ?xk1 ?xk2 ?xk3 ?xk4 ?xk5 ?xk6 ?xk7 ?xk8 ⟨ds, ps, e, hD, h2, hBl, hps, hsz, ?_⟩; (case xk4 => exact kN2); (case xk1 => k_asm); (case xk2 => k_asm); (case xk3 => k_asm); (case xk5 => k_asm); (case xk6 => first | exact rfl | assumption); (case xk7 => ktr_room); (case xk8 => ktr_units))
  intro h' tk' v r tr te kF3 kN3 l93 hr
  dsimp only
  k_steps
  refine wpG_any ?_
  k_steps
  · (rename Fr h₀ L _ m => kF); (rename News h₀ L _ _ => kN)
    (rename beZ _ = adlerZ _ => hbe)
    exact hret hbe _ _ _ _ kF kN hr
  · (rename Heap.UpToSlots g' _ => hU); (rename RaisedD base (_ :: _) _ _ _ _ => hR)
    (rename _ ∨ _ => hv)
    rcases hv with ⟨_, hv⟩ | ⟨rfl, _, hv⟩
    · omega
    · exact hexc hv _ _ _ _ _ _ _ _ _ _ _ (by assumption) hU hR
end Mine
end

end

section
open PySem PySem.W PySem.Calls PyProof.Rows PySem.Builtin.Bytes
set_option Elab.async false
set_option maxRecDepth 100000
set_option maxHeartbeats 8000000
set_option linter.unusedVariables false
namespace Mine
theorem enterG_call {M : Model} {A : Around} {s : Shared} {f : Value} {pos : List Value} {kw : List (Str × Value)} {c : ClaimW} {cl : Str → Option Addr} {mean : ExcName → Option Value} {args : List WData} {s₁ : Shared}
    (h : codeG M A (.call f ⟨pos, kw⟩) (GoodWG c cl mean args s₁) s) : wpG M A (PySem.call f pos kw) (fun v s' => GoodWG c cl mean args s₁ (.ok (.ret v)) s') (fun e s' => GoodWG c cl mean args s₁ (.error e) s') s :=
  wpG_call (codeG_mono h fun res s' g => by rcases g.1 with ⟨v, _, _, rfl, _⟩ | ⟨e, _, _, rfl, _⟩ <;> exact g)
theorem callG_cells {prog : Program} {w : World} {A : Around} {R : Result → Shared → Prop} {s : Shared} {name : Str} {params : Arguments} {body : List Stmt} {scope : Scope}
    {pm cd doc : Value} {a : Addr} {o : Obj} {args : List Value} {binds : List (Str × Value)}
    (hroom : A.depth < recursionLimit) (ho : s.heap.get? a = some o) (hdata : o.data = .func (Calls.docDef name params body scope pm cd doc)) (hlim : s.heap.NoLimit) (hcd : s.heap.CodeRec cd name)
    (hbind : bindArgs (Calls.docDef name params body scope pm cd doc) ⟨args, []⟩ = pure binds)
    (hkind : ∀ x ∈ binds, scope.names.lookup x.1 = some .local ∨ (scope.names.lookup x.1 = some .cell ∧ ((cellsFrom (s.heap.objs.size + 1) scope.names []).lookup x.1).isSome = true))
    (hnd : ((cellsFrom 0 scope.names []).map (·.1)).Nodup)
    (h : ∀ h₁ tk cells, Fr s.heap s.heap.objs.size h₁ (bindL (envOfC name scope s.heap.objs.size a cd).kindOf binds fun _ => none) → News s.heap s.heap.objs.size h₁ cells →
      CellsAre (bindC (envOfC name scope s.heap.objs.size a cd).kindOf binds fun _ => none) (cellsFrom (s.heap.objs.size + 1) scope.names []) cells →
      wpG (model prog w) (A.deeper (envOfC name scope s.heap.objs.size a cd)) (execs body (envOfC name scope s.heap.objs.size a cd))
        (fun f s' => R (.ok (.ret (match f with | .ret v => v | _ => .none))) s')
        (fun e s' => wpAny (model prog w) (A.deeper (envOfC name scope s.heap.objs.size a cd)) (leaving (envOfC name scope s.heap.objs.size a cd) e)
          (fun _ s'' => R (.error e) s'') (fun e' s'' => R (.error e') s'') s')
        { s with heap := h₁, toks := tk })
    (hco : scope.isCoroutine = false := by rfl) (hgen : scope.isGenerator = false := by rfl) (hk : scope.kind = .function := by rfl) :
    codeG (model prog w) A (.call (.ref a) ⟨args, []⟩) R s := by
  refine codeG_call_function hroom ho hdata hco hgen rfl hcd (BindsTo.of_eq hbind _ _ _ _ ?_)
  refine wpAny_newFunctionEnv_cells hk hkind fun env' he s' x => ?_
  subst he
  refine ⟨hlim.keeps x.toInCall.keep, codeG_func ?_⟩
  obtain ⟨h₁, tk, rfl, _⟩ := x.done
  have hk₁ := x.toInCall.keep
  obtain ⟨cells, NC, Y⟩ := Cl.news (h₀ := s.heap) (Nat.le_refl _) fun n c hm => ⟨x.cell n c (lookup_of_mem_nodup (cellsFrom_names scope.names 0 (s.heap.objs.size + 1) [] [] rfl ▸ hnd) hm), x.above n c hm⟩
  exact h h₁ tk cells ⟨x.toInCall.ns, hk₁, Nat.le_refl _⟩ NC Y
end Mine
end

section
open PySem PySem.W PySem.Calls PyProof.Rows
set_option Elab.async false
set_option maxRecDepth 100000
set_option maxHeartbeats 8000000
set_option linter.unusedVariables false
namespace Mine

def lawDef : Arguments × List Stmt × Scope := (PySem.Challenge.rw_og0173_01.row.prog.theDef (Str.ofString "law")).getD ⟨default, [], default⟩
def lawBody : List Stmt := lawDef.2.1
def lawScope : Scope := lawDef.2.2
def lawCells (c : Addr) : List (Str × Addr) := [(Str.ofString "mill", c)]

abbrev millO (n : Nat) (x y : Int) (tx ty : Tok) : Obj := W.listOf #[.int x tx, .int y ty] n

/-- The mill stands: its ledger entry, its bounds. -/
def MillOk (x y : Int) (yb : Int) : Prop := 0 ≤ x ∧ x < 2 ^ 1000 ∧ 0 ≤ y ∧ y ≤ yb

def LawIn (w : World) (cs : Scope) (cl : List (Str × Addr)) (c : Addr) (dp un : Nat) (outer : List Env) (A₀ : Around) (base h₀ : Heap) (mean : ExcName → Option Value) (mg mb : Str → Option Value) : Prop :=
  Below A₀ base outer h₀ ∧ (hd173.heap_39 w.params).In h₀ ∧ Top hd173.view_39 (looseW hd173.view_39 [Str.ofString "PaperError", Str.ofString "inflate"]) mean mg mb h₀ ∧ cs = lawScope ∧ cl = lawCells c ∧ dp + 60 < recursionLimit ∧ un + 480 < cLine

abbrev LawRun (w : World) (cs : Scope) (cl : List (Str × Addr)) (dp un : Nat) (gd : Option (List Code)) (a : Addr) (ccd : Value) (outer : List Env) (L : Addr) (Q : Flow → Shared → Prop) (E : Value → Shared → Prop) (body : List Stmt) (s : Shared) : Prop :=
  wpG (model PySem.Challenge.rw_og0173_01.row.prog w) (ktrTop dp un gd (Str.ofString "law") cs L a ccd cl outer) (execs body (envX (Str.ofString "law") cs L a ccd cl)) Q E s

theorem news_mid {h₀ h : Heap} {L : Addr} {q : Addr × Obj} (pre post : List (Addr × Obj)) (N : News h₀ L h (pre ++ q :: post)) : News h₀ L h (q :: (pre ++ post)) :=
  fun p hp => N p (by simp only [List.mem_cons, List.mem_append] at hp ⊢; rcases hp with h | h | h <;> simp [h])
theorem news_mid' {h₀ h : Heap} {L : Addr} {q : Addr × Obj} (pre post : List (Addr × Obj)) (N : News h₀ L h (q :: (pre ++ post))) : News h₀ L h (pre ++ q :: post) :=
  fun p hp => N p (by simp only [List.mem_cons, List.mem_append] at hp ⊢; rcases hp with h | h | h <;> simp [h])

/-- _law_ask, the mill at any place of the ledger. -/
theorem ask_p (w : World) (l : Addr) (many : Int) (tm : Tok) :
  Call w 2 (fun fs base h₀ L m news s Q E => ∃ pre post n x y tx ty, news = pre ++ (l, millO n x y tx ty) :: post ∧ (∀ p ∈ pre, p.1 ≠ l) ∧ (∀ p ∈ post, p.1 ≠ l) ∧ 0 < many ∧ many ≤ 300 ∧ 0 ≤ x ∧ x < 2 ^ 1000 ∧ 0 ≤ y ∧ y < 100 ∧
    ∀ (t : Tok) (h' : Heap) (tk' : Nat) (x' y' : Int) (tx' ty' : Tok) (r : Int), Fr h₀ L h' m → News h₀ L h' (pre ++ (l, millO n x' y' tx' ty') :: post) → 0 ≤ x' → x' < 2 ^ 1000 → y ≤ y' → y' ≤ y + 1 → 0 ≤ r → r < many → Q (.int r t) { s with heap := h', toks := tk' }) 320 [.ref l, .int many tm] := by
  intro mean mg mb dp un gd cn cs a ccd cl outer A₀ base h₀ L m news s Q E B F X N T hcs hd hu hret
  obtain ⟨pre, post, n, x, y, tx, ty, hnews, hpre, hpost, hm0, hm1, hx0, hx1, hy0, hy1, hret⟩ := hret
  subst hnews
  refine law_ask_c w l many tm mean mg mb dp un gd cn cs a ccd cl outer A₀ base h₀ L m _ s Q E B F X (news_mid pre post N) T hcs hd hu
    ⟨pre ++ post, n, x, y, tx, ty, rfl, ?_, hm0, hm1, hx0, hx1, hy0, hy1, fun t h' tk' x' y' tx' ty' r F' N' e1 e2 e3 e4 e5 e6 => hret t h' tk' x' y' tx' ty' r F' (news_mid' pre post N') e1 e2 e3 e4 e5 e6⟩
  intro p hp
  rcases List.mem_append.mp hp with h | h
  · exact hpre p h
  · exact hpost p h

theorem comp_ind {prog : Program} {w : World} {A : Around} {h₀ : Heap} {L : Addr} {m : Str → Option Value} {env : Env} {elt : PySem.Expr} {x : Str} {scope : Scope} {cl : List (Str × Addr)} {s : Shared} {P : Nat → Value → Prop} {Fin : List Value → List (Addr × Obj) → Prop}
    {n : Nat} (J : Nat → List Value → List (Addr × Obj) → Prop) {news : List (Addr × Obj)} (h0 : J 0 [] news)
    (turn : ∀ (i : Nat) (ys : List Value) (nx : List (Addr × Obj)) v I oI C oC D m₂ h tk (E' : Value → Shared → Prop), i < n → J i ys nx → P i v → LCg.NsObj oC m₂ → m₂ x = some v → Fr h₀ L h m → News h₀ L h ((I, oI) :: (C, oC) :: (D, LCg.lst ys) :: nx) → LCg.Off3 I C D nx → ((@Ne Nat I C) ∧ (@Ne Nat I D) ∧ (@Ne Nat C D)) →
      wpAny (model prog w) A (eval elt (compEnvC scope cl C env)) (LCg.CompEnd h₀ L m { s with heap := h, toks := tk } I oI C oC D (LCg.lst ys) (fun _ => True) (fun y nx' => J (i + 1) (ys ++ [y]) nx')) E' { s with heap := h, toks := tk })
    (fin : ∀ ys nx, J n ys nx → Fin ys nx) : LCg.CompRest prog w A h₀ L m env elt x scope cl s (fun _ => True) P Fin n 0 [] news := by
  have key : ∀ (j i : Nat) (ys : List Value) (nx : List (Addr × Obj)), i + j = n → J i ys nx → LCg.CompRest prog w A h₀ L m env elt x scope cl s (fun _ => True) P Fin j i ys nx := by
    intro j
    induction j with
    | zero =>
      intro i ys nx hi hJ
      obtain rfl : i = n := by omega
      exact LCg.CompRest.zero (fin ys nx hJ)
    | succ j ih =>
      intro i ys nx hi hJ
      refine LCg.CompRest.succ ?_
      intro v I oI C oC D m₂ h tk E' hv hC hx F N off ne
      refine wpAny_mono (turn i ys nx v I oI C oC D m₂ h tk E' (by omega) hJ hv hC hx F N off ne) (fun y s₂ hq => ?_) fun _ _ e => e
      obtain ⟨h', tk', nw, e, F', N', off', hS, hJ'⟩ := hq
      exact ⟨h', tk', nw, e, F', N', off', hS, ih (i + 1) _ _ (by omega) hJ'⟩
  exact key n 0 [] news (by omega) h0
end Mine
end

section
open PySem PySem.W PySem.Calls PyProof.Rows Mine
local macro_rules | `(tactic| k_all) => `(tactic| first | assumption | (refine allLt_ne ?_; assumption) | exact List.forall_mem_nil _ | (refine List.forall_mem_cons.mpr ⟨?_, ?_⟩; (focus (first | assumption | exact Ne.symm (by assumption) | k_ne)); k_all))
local macro_rules | `(tactic| walk_at "And") => `(tactic| ((with_reducible show Frag.In _ _ ∧ _); (with_reducible rename Frag.In _ _ => iX); (with_reducible rename Fr _ _ _ _ => iF); refine ⟨Frag.In.keeps iX iF.keep, ?_⟩; (try dsimp only [List.nil_append, List.cons_append])))
section
open PySem PySem.W PySem.Calls PyProof.Rows
set_option Elab.async false
set_option maxRecDepth 100000
set_option maxHeartbeats 8000000
set_option linter.unusedVariables false
namespace Mine
theorem kw_W1 : True := by k_with_none; w_top off; trivial
theorem halt_of {P : Prop} (h : PLift P → P) (p : P) : P := p
def Halt (P : Prop) : Prop := P
theorem of_halt {P : Prop} (h : Halt P) : P := h
local macro_rules | `(tactic| walk_at "call ref") => `(tactic| (k_here; (rename News _ _ _ _ => nN); k_dflt ((first | (refine' ask_p _ _ _ _ _ _ _ _ _ _ _ _ _ _ _ _ _ _ _ _ _ _ _ _ _ ?xk1 ?xk2 ?xk3 ?xk4 ?xk5 ?xk6 ?xk7 ?xk8 ⟨[], _, _, _, _, _, _, rfl, ?xp1, ?xp2, ?xp3, ?xp4, ?xp5, ?xp6, ?xp7, ?xp8, ?_⟩; (case xk4 => exact nN)) | (refine' ask_p _ _ _ _ _ _ _ _ _ _ _ _ _ _ _ _ _ _ _ _ _ _ _ _ _ ?xk1 ?xk2 ?xk3 ?xk4 ?xk5 ?xk6 ?xk7 ?xk8 ⟨[_, _, _], _, _, _, _, _, _, rfl, ?xp1, ?xp2, ?xp3, ?xp4, ?xp5, ?xp6, ?xp7, ?xp8, ?_⟩; (case xk4 => exact nN)) | (refine' ask_p _ _ _ _ _ _ _ _ _ _ _ _ _ _ _ _ _ _ _ _ _ _ _ _ _ ?xk1 ?xk2 ?xk3 ?xk4 ?xk5 ?xk6 ?xk7 ?xk8 ⟨[_, _, _, _, _, _], _, _, _, _, _, _, rfl, ?xp1, ?xp2, ?xp3, ?xp4, ?xp5, ?xp6, ?xp7, ?xp8, ?_⟩; (case xk4 => exact nN))); (case xp1 => k_all); (case xp2 => k_all); (case xk1 => k_asm); (case xk2 => k_asm); (case xk3 => k_asm); (case xk5 => k_asm); (case xk6 => first | exact rfl | assumption); (case xk7 => ktr_room); (case xk8 => ktr_units); (case xp3 => first | decide | omega); (case xp4 => first | decide | omega); (case xp5 => assumption); (case xp6 => assumption); (case xp7 => assumption); (case xp8 => omega); k_whole); intro t9 h9 tk9 x9 y9 tx9 ty9 r9 F9 N9 hx9 hX9 hy9 hY9 hr9 hR9; (try simp only [List.nil_append, List.cons_append] at N9); (try dsimp only); (try k_fold)))
local macro_rules | `(tactic| walk_at "CompSrc") => `(tactic| refine of_halt ?_)
local macro_rules | `(tactic| walk_at "CompEnd") => `(tactic| refine of_halt ?_)
local macro_rules | `(tactic| walk_at "call type:range") => `(tactic| (k_here; (rename Fr _ _ _ _ => kF); (rename News _ _ _ _ => kN); (with_unfolding_all refine range1_rows kF kN ?_); intro h9 tk9 ta9 tb9 tc9 R9 F9 N9 hk9))

theorem law_parts (w : World) (cs : Scope) (cl : List (Str × Addr)) (c : Addr) (dp un : Nat) (gd : Option (List Code)) (a : Addr) (ccd : Value) (outer : List Env) (A₀ : Around) (base h₀ : Heap) (mean : ExcName → Option Value) (mg mb : Str → Option Value) (L : Addr) (Q : Flow → Shared → Prop) (E : Value → Shared → Prop) (body : List Stmt)
    (I : LawIn w cs cl c dp un outer A₀ base h₀ mean mg mb) (hb : body = lawBody.drop 2)
    (l : Addr) (oc : Obj) (n : Nat) (x y : Int) (tx ty : Tok) (m : Str → Option Value) (s : Shared)
    (F : Fr h₀ L s.heap m) (N : News h₀ L s.heap [(l, millO n x y tx ty), (c, oc)]) (hoc : oc.data = .cell (some (.ref l))) (hcl : @Ne Nat c l)
    (hx0 : 0 ≤ x) (hx1 : x < 2 ^ 1000) (hy0 : 0 ≤ y) (hy1 : y ≤ 0)
    (next : ∀ (n : Nat) (x y : Int) (tx ty : Tok) (D : Addr) (bs : List (Array UInt8 × Tok)) (h : Heap) (tk : Nat), Fr h₀ L h (fun z => if z = Str.ofString "parts" then some (.ref D) else m z) →
      News h₀ L h [(l, millO n x y tx ty), (c, oc), (D, LCg.lst (bs.map fun b => .bytes b.1 b.2))] → 0 ≤ x → x < 2 ^ 1000 → 0 ≤ y → y ≤ 33 → bs.length = 3 → (∀ b ∈ bs, b.1.size ≤ 10) → @Ne Nat D l → @Ne Nat D c →
      LawRun w cs cl dp un gd a ccd outer L Q E (lawBody.drop 3) { s with heap := h, toks := tk }) :
    LawRun w cs cl dp un gd a ccd outer L Q E body s := by
  obtain ⟨B, X, T, hcs, hcl', hd, hu⟩ := I
  conv at hcs => rhs; whnf
  conv at hb => rhs; whnf
  conv at hcl' => rhs; whnf
  subst hcs hb hcl'
  unfold LawRun
  revert X; k_fill; intro X
  refine wpG_execs_cons (wpG_any ?_)
  k_dflt (refine LCg.Assign_ListComp_U (F₀ := F) (by rfl) (by with_unfolding_all rfl) (by with_unfolding_all rfl) (by decide) (by rfl) (by decide) (by rfl) (by rfl) (by rfl) ?_)
  k_steps
  (rename Fr _ _ _ _ => kF); (rename News _ _ _ _ => kN); (rename IsRange _ _ _ _ _ _ _ _ => kR)
  unfold Halt
  k_dflt (refine LCg.CompSrc.range (n := 3) (by rfl) kF kN kR (by decide) (by rfl) (by decide) ?_)
  clear kF kN kR
  intro g
  refine comp_ind (fun i ys nx => ∃ n x y tx ty, ∃ bs : List (Array UInt8 × Tok), nx = [(l, millO n x y tx ty), (c, oc)] ∧ 0 ≤ x ∧ x < 2 ^ 1000 ∧ 0 ≤ y ∧ y ≤ 11 * (i : Int) ∧ ys = bs.map (fun b => .bytes b.1 b.2) ∧ bs.length = i ∧ ∀ b ∈ bs, b.1.size ≤ 10) ⟨n, x, y, tx, ty, [], rfl, hx0, hx1, hy0, hy1, rfl, rfl, fun b hb => nomatch hb⟩ ?turn ?fin
  case turn =>
    clear next
    intro i ys nx v I oI C oC D m₂ h tk E' hi hJ hv hC hx F' N' off ne
    obtain ⟨n, x, y, tx, ty, bs, rfl, hx0, hx1, hy0, hy1, rfl, hbl, hbs⟩ := hJ
    have hl1 := off.mem (l, _) (.head _)
    have hpre : ∀ p ∈ [(I, oI), (C, oC), (D, LCg.lst (bs.map fun b => .bytes b.1 b.2))], p.1 ≠ l := List.forall_mem_cons.mpr ⟨Ne.symm hl1.1, List.forall_mem_cons.mpr ⟨Ne.symm hl1.2.1, List.forall_mem_cons.mpr ⟨Ne.symm hl1.2.2, List.forall_mem_nil _⟩⟩⟩
    have hpost : ∀ p ∈ [(c, oc)], p.1 ≠ l := List.forall_mem_cons.mpr ⟨hcl, List.forall_mem_nil _⟩
    clear ne hl1
    k_steps
    (rename Fr _ _ _ _ => kF); (rename News _ _ _ _ => kN); (rename IsRange _ _ _ _ _ _ _ _ => kR)
    unfold Halt
    k_dflt (refine LCg.CompSrc.range (by rfl) kF kN kR (small_one (by decide) (by decide) (by omega) (by omega)) (rangeSize_nat _ _) (by rw [sizeLine_eq]; omega) ?_)
    clear kF kN kR
    intro g2
    refine comp_ind (fun j zs nz => ∃ n x y tx ty, ∃ ks : List Int, nz = [(I, oI), (C, oC), (D, LCg.lst (bs.map fun b => .bytes b.1 b.2)), (l, millO n x y tx ty), (c, oc)] ∧ 0 ≤ x ∧ x < 2 ^ 1000 ∧ 0 ≤ y ∧ y ≤ 11 * (i : Int) + 1 + j ∧ IntsAre zs ks ∧ ks.length = j ∧ KBa.In ks) ⟨_, _, _, _, _, [], rfl, by assumption, by assumption, by omega, by omega, .nil, rfl, fun b hb => nomatch hb⟩ ?turn2 ?fin2
    case turn2 =>
      intro j zs nz v2 I2 oI2 C2 oC2 D2 m₃ h3 tk3 E3 hj hJ2 hv2 hC2 hx2 F3 N3 off2 ne2
      obtain ⟨n2, x2, y2, tx2, ty2, ks, rfl, hx20, hx21, hy20, hy21, hzs, hkl, hks⟩ := hJ2
      have hl2 := off2.mem (l, _) (.tail _ (.tail _ (.tail _ (.head _))))
      have hpre2 : ∀ p ∈ [(I2, oI2), (C2, oC2), (D2, LCg.lst zs), (I, oI), (C, oC), (D, LCg.lst (bs.map fun b => .bytes b.1 b.2))], p.1 ≠ l := List.forall_mem_cons.mpr ⟨Ne.symm hl2.1, List.forall_mem_cons.mpr ⟨Ne.symm hl2.2.1, List.forall_mem_cons.mpr ⟨Ne.symm hl2.2.2, hpre⟩⟩⟩
      have hy100 : y2 < 100 := by omega
      clear ne2 hl2
      k_steps
      (rename Fr _ _ _ _ => kF); (rename News _ _ _ _ => kN)
      unfold Halt
      refine LCg.CompEnd.intro kF kN _ (fun p hp => hp) off2 trivial ⟨_, _, _, _, _, ks ++ [_], rfl, by assumption, by assumption, by omega, by omega, hzs.append (.cons _ _ .nil), by simp [hkl], fun z hz => ?_⟩
      rcases List.mem_append.mp hz with h | h
      · exact hks z h
      · rw [List.mem_singleton.mp h]; exact ⟨by assumption, by assumption⟩
    case fin2 =>
      intro zs nz hJ2
      obtain ⟨n2, x2, y2, tx2, ty2, ks, rfl, hx20, hx21, hy20, hy21, hzs, hkl, hks⟩ := hJ2
      intro D3 h3 tk3 F3 N3 off3
      dsimp only
      k_steps
      (rename Fr _ _ _ _ => kF); (rename News _ _ _ _ => kN)
      unfold Halt
      refine LCg.CompEnd.intro kF (news_tail kN) _ (fun p hp => hp) off trivial ⟨_, _, _, _, _, bs ++ [(byteArr ks, _)], rfl, hx20, hx21, hy20, by omega, by rw [List.map_append]; rfl, by simp [hbl], fun b hb => ?_⟩
      rcases List.mem_append.mp hb with h | h
      · exact hbs b h
      · rw [List.mem_singleton.mp h]; show (byteArr ks).size ≤ 10; rw [byteArr_size]; omega
  case fin =>
    intro ys nx hJ
    obtain ⟨n, x, y, tx, ty, bs, rfl, hx0, hx1, hy0, hy1, rfl, hbl, hbs⟩ := hJ
    intro D h tk F' N' off
    simp only [LCg.Off1, and_true] at off
    refine next n x y tx ty D bs h tk F' (fun p hp => N' p ?_) hx0 hx1 hy0 hy1 hbl hbs (Ne.symm off.1) (Ne.symm off.2)
    simp only [List.mem_cons, List.not_mem_nil, or_false] at hp ⊢
    rcases hp with hp | hp | hp <;> simp [hp]
end Mine
end

section
open PySem PySem.W PySem.Calls PyProof.Rows
namespace Mine
def hiZ : List Int → Int
  | [] => 0
  | b :: r => hiZ r + (1 + b) + (r.length : Int) * b
theorem hiZ_append (p q : List Int) : hiZ (p ++ q) = hiZ p + hiZ q + (q.length : Int) * p.sum := by
  induction p with
  | nil => simp [hiZ]
  | cons b r ih =>
    simp only [List.cons_append, hiZ, List.length_append, List.sum_cons, ih]
    have : ((r.length + q.length : Nat) : Int) = (r.length : Int) + q.length := by omega
    rw [this]
    grind
theorem fmod_e (x : Int) : x.fmod 65521 = x % 65521 := Int.fmod_eq_emod_of_nonneg _ (by decide)
theorem adPair_eq (bs : List Int) : adPair bs = ((1 + bs.sum) % 65521, hiZ bs % 65521) := by
  rw [← List.reverse_reverse bs]
  induction bs.reverse with
  | nil => rfl
  | cons b r ih =>
    rw [List.reverse_cons, adPair_snoc, ih, hiZ_append]
    unfold adStep
    simp only [fmod_e, List.sum_append, hiZ, List.sum_cons, List.sum_nil, List.length_cons, List.length_nil]
    generalize r.reverse.sum = S
    generalize hiZ r.reverse = H
    refine Prod.ext ?_ ?_ <;> dsimp only <;> omega
theorem mod_of_add {x y : Int} (k : Int) (h : x = y + 65521 * k) : x % 65521 = y % 65521 := by rw [h, Int.add_mul_emod_self_left]
theorem adler_parts (bs : List Int) : (adlerZ bs).fmod 65536 = (1 + bs.sum) % 65521 ∧ (adlerZ bs).fdiv 65536 = hiZ bs % 65521 := by
  unfold adlerZ
  rw [adPair_eq]
  dsimp only
  rw [Int.fmod_eq_emod_of_nonneg _ (by decide), Int.fdiv_eq_ediv_of_nonneg _ (by decide)]
  omega
theorem joined_pair (p q : List Int) : joinedZ (adlerZ p) (adlerZ q) q.length = adlerZ (p ++ q) := by
  unfold joinedZ
  rw [(adler_parts p).1, (adler_parts p).2, (adler_parts q).1, (adler_parts q).2, fmod_e, fmod_e]
  unfold adlerZ
  rw [adPair_eq, hiZ_append, List.sum_append]
  dsimp only
  generalize hS : p.sum = S
  generalize q.sum = S'
  generalize hH : hiZ p = H
  generalize hiZ q = H'
  generalize (q.length : Int) = n
  have e1 : ((1 + S) % 65521 + (1 + S') % 65521 - 1) % 65521 = (1 + (S + S')) % 65521 := by omega
  have e2 : (H % 65521 + H' % 65521 + n * ((1 + S) % 65521 - 1)) % 65521 = (H + H' + n * S) % 65521 := by
    have d1 := Int.emod_add_mul_ediv H 65521
    have d2 := Int.emod_add_mul_ediv H' 65521
    have d3 := Int.emod_add_mul_ediv (1 + S) 65521
    refine mod_of_add (-(H / 65521) - H' / 65521 - n * ((1 + S) / 65521)) ?_
    generalize H % 65521 = a at *
    generalize H' % 65521 = b at *
    generalize (1 + S) % 65521 = e at *
    generalize H / 65521 = a' at *
    generalize H' / 65521 = b' at *
    generalize (1 + S) / 65521 = e' at *
    have hS : S = e + 65521 * e' - 1 := by omega
    have hH : H = a + 65521 * a' := by omega
    have hH' : H' = b + 65521 * b' := by omega
    subst hS hH hH'
    grind
  rw [e1, e2]
theorem adlerZ_joined {p q r : List Int} : adlerZ (p ++ q ++ r) = joinedZ (joinedZ (adlerZ p) (adlerZ q) q.length) (adlerZ r) r.length := by
  rw [joined_pair, joined_pair]
theorem adler_run (b : Int) (n : Nat) : adlerZ (List.replicate n b) = ((n : Int) + b * n * (n + 1) / 2) % 65521 * 65536 + (1 + n * b) % 65521 := by
  have hs : (List.replicate n b).sum = n * b := by
    induction n with
    | zero => simp
    | succ n ih => rw [List.replicate_succ, List.sum_cons, ih]; grind
  have hh : 2 * hiZ (List.replicate n b) = 2 * n + b * n * (n + 1) := by
    clear hs
    induction n with
    | zero => simp [hiZ]
    | succ n ih =>
      rw [List.replicate_succ, hiZ, List.length_replicate]
      have : ((n + 1 : Nat) : Int) = (n : Int) + 1 := by omega
      rw [this]
      grind
  have hd : hiZ (List.replicate n b) = (n : Int) + b * n * (n + 1) / 2 := by omega
  unfold adlerZ
  rw [adPair_eq, hs, hd]
theorem sum_set {p q : List Int} {a b : Int} : (p ++ [a] ++ q).sum - (p ++ [b] ++ q).sum = a - b := by
  simp only [List.sum_append, List.sum_cons, List.sum_nil]; omega
/-- One octet changed changes the sum. -/
theorem adler_change {p q : List Int} {a b : Int} (h0 : a ≠ b) (h1 : a - b < 65521) (h2 : b - a < 65521) : adlerZ (p ++ [a] ++ q) ≠ adlerZ (p ++ [b] ++ q) := by
  intro h
  have e1 := (adler_parts (p ++ [a] ++ q)).1
  have e2 := (adler_parts (p ++ [b] ++ q)).1
  rw [h, e2] at e1
  have := sum_set (p := p) (q := q) (a := a) (b := b)
  omega
end Mine
end

section
open PySem PySem.W PySem.Calls PyProof.Rows
set_option Elab.async false
set_option maxRecDepth 100000
set_option maxHeartbeats 8000000
set_option linter.unusedVariables false
namespace Mine
theorem kw_W2 : True := by k_with_none; w_top off; trivial

theorem adPair_in (bs : List Int) : 0 ≤ (adPair bs).1 ∧ (adPair bs).1 < 65521 ∧ 0 ≤ (adPair bs).2 ∧ (adPair bs).2 < 65521 := by
  rw [← List.reverse_reverse bs]
  induction bs.reverse with
  | nil => exact ⟨by decide, by decide, by decide, by decide⟩
  | cons b r ih =>
    rw [List.reverse_cons, adPair_snoc]
    exact ⟨(fmod_in _).1, (fmod_in _).2, (fmod_in _).1, (fmod_in _).2⟩
theorem adlerZ_in (bs : List Int) : 0 ≤ adlerZ bs ∧ adlerZ bs < 2 ^ 32 := by
  have h := adPair_in bs
  unfold adlerZ
  omega
theorem joinedZ_in (a b n : Int) : 0 ≤ joinedZ a b n ∧ joinedZ a b n < 2 ^ 32 := by
  have h1 := fmod_in (a.fdiv 65536 + b.fdiv 65536 + n * (a.fmod 65536 - 1))
  have h2 := fmod_in (a.fmod 65536 + b.fmod 65536 - 1)
  unfold joinedZ
  omega
local macro_rules | `(tactic| walk_at "call ref") => `(tactic| (k_here; k_dflt (refine' adler_c _ _ _ _ _ _ _ _ _ _ _ _ _ _ _ _ _ _ _ _ _ _ _ _ ?xk1 ?xk2 ?xk3 ?xk4 ?xk5 ?xk6 ?xk7 ?xk8 ?_; (case xk1 => k_asm); (case xk2 => k_asm); (case xk3 => k_asm); (case xk4 => k_asm); (case xk5 => k_asm); (case xk6 => first | exact rfl | assumption); (case xk7 => ktr_room); (case xk8 => ktr_units); k_whole); intro t9 h9 tk9 F9 N9; (try dsimp only); (try k_fold)))
local macro_rules | `(tactic| walk_at "call ref") => `(tactic| (k_here; k_dflt (refine' joined_c _ _ _ _ _ _ _ _ _ _ _ _ _ _ _ _ _ _ _ _ _ _ _ _ _ _ _ _ ?xk1 ?xk2 ?xk3 ?xk4 ?xk5 ?xk6 ?xk7 ?xk8 ⟨?xp1, ?xp2, ?xp3, ?xp4, ?xp5, ?xp6, ?_⟩; (case xk1 => k_asm); (case xk2 => k_asm); (case xk3 => k_asm); (case xk4 => k_asm); (case xk5 => k_asm); (case xk6 => first | exact rfl | assumption); (case xk7 => ktr_room); (case xk8 => ktr_units); (case xp1 => first | with_reducible exact (adlerZ_in _).1 | with_reducible exact (adlerZ_in _).2 | with_reducible exact (joinedZ_in _ _ _).1 | with_reducible exact (joinedZ_in _ _ _).2 | omega); (case xp2 => first | with_reducible exact (adlerZ_in _).1 | with_reducible exact (adlerZ_in _).2 | with_reducible exact (joinedZ_in _ _ _).1 | with_reducible exact (joinedZ_in _ _ _).2 | omega); (case xp3 => first | with_reducible exact (adlerZ_in _).1 | with_reducible exact (adlerZ_in _).2 | with_reducible exact (joinedZ_in _ _ _).1 | with_reducible exact (joinedZ_in _ _ _).2 | omega); (case xp4 => first | with_reducible exact (adlerZ_in _).1 | with_reducible exact (adlerZ_in _).2 | with_reducible exact (joinedZ_in _ _ _).1 | with_reducible exact (joinedZ_in _ _ _).2 | omega); (case xp5 => first | with_reducible exact (adlerZ_in _).1 | with_reducible exact (adlerZ_in _).2 | with_reducible exact (joinedZ_in _ _ _).1 | with_reducible exact (joinedZ_in _ _ _).2 | omega); (case xp6 => first | with_reducible exact (adlerZ_in _).1 | with_reducible exact (adlerZ_in _).2 | with_reducible exact (joinedZ_in _ _ _).1 | with_reducible exact (joinedZ_in _ _ _).2 | omega); k_whole); intro t9 h9 tk9 F9 N9; (try dsimp only); (try k_fold)))

theorem law_sums (w : World) (cs : Scope) (cl : List (Str × Addr)) (c : Addr) (dp un : Nat) (gd : Option (List Code)) (a : Addr) (ccd : Value) (outer : List Env) (A₀ : Around) (base h₀ : Heap) (mean : ExcName → Option Value) (mg mb : Str → Option Value) (L : Addr) (Q : Flow → Shared → Prop) (E : Value → Shared → Prop) (body : List Stmt)
    (I : LawIn w cs cl c dp un outer A₀ base h₀ mean mg mb) (hb : body = lawBody.drop 3)
    (l D : Addr) (oc : Obj) (n : Nat) (x y : Int) (tx ty t0 t1 t2 : Tok) (b0 b1 b2 : Array UInt8) (m : Str → Option Value) (s : Shared)
    (F : Fr h₀ L s.heap (fun z => if z = Str.ofString "parts" then some (.ref D) else m z)) (N : News h₀ L s.heap [(l, millO n x y tx ty), (c, oc), (D, LCg.lst [.bytes b0 t0, .bytes b1 t1, .bytes b2 t2])])
    (p0 p1 p2 : List Int) (hb0 : KBw.bInts b0 = p0) (hb1 : KBw.bInts b1 = p1) (hb2 : KBw.bInts b2 = p2) (hz0 : p0.length ≤ 10) (hz1 : p1.length ≤ 10) (hz2 : p2.length ≤ 10)
    (next : ∀ (wh : Array UInt8) (tw tt : Tok) (h : Heap) (tk : Nat), KBw.bInts wh = p0 ++ p1 ++ p2 → Fr h₀ L h (fun z => if z = Str.ofString "total" then some (.int (adlerZ (p0 ++ p1 ++ p2)) tt) else if z = Str.ofString "whole" then some (.bytes wh tw) else if z = Str.ofString "parts" then some (.ref D) else m z) →
      News h₀ L h [(l, millO n x y tx ty), (c, oc), (D, LCg.lst [.bytes b0 t0, .bytes b1 t1, .bytes b2 t2])] →
      LawRun w cs cl dp un gd a ccd outer L Q E (lawBody.drop 6) { s with heap := h, toks := tk }) :
    LawRun w cs cl dp un gd a ccd outer L Q E body s := by
  obtain ⟨B, X, T, hcs, hcl', hd, hu⟩ := I
  conv at hcs => rhs; whnf
  conv at hb => rhs; whnf
  conv at hcl' => rhs; whnf
  subst hcs hb hcl'
  unfold LawRun
  revert X; k_fill; intro X
  refine wpG_execs_cons (wpG_any ?_)
  k_steps
  refine wpG_execs_cons (wpG_any ?_)
  k_steps
  refine wpG_execs_cons (wpG_any ?_)
  k_steps
  all_goals (rename KBw.bInts _ = p0 ++ p1 ++ p2 => hw)
  all_goals have he : adlerZ (KBw.bInts (b0 ++ b1 ++ b2)) = joinedZ (joinedZ (adlerZ (KBw.bInts b0)) (adlerZ (KBw.bInts b1)) p1.length) (adlerZ (KBw.bInts b2)) p2.length := (by rw [hw, hb0, hb1, hb2]; exact adlerZ_joined)
  · exact absurd he (by assumption)
  · (rename Fr h₀ L _ _ => kF); (rename News h₀ L _ _ => kN)
    rw [← he, hw] at kF
    exact next _ _ _ _ _ hw kF kN
end Mine
end

section
open PySem PySem.W PySem.Calls PyProof.Rows
set_option Elab.async false
set_option maxRecDepth 100000
set_option maxHeartbeats 8000000
set_option linter.unusedVariables false
namespace Mine
section
variable {prog : Program} {w : World} {A : Around} {E : Value → Shared → Prop} {s : Shared} {h₀ : Heap} {L D : Addr} {m : PySem.Str → Option Value} {news : List (Addr × Obj)} {vs : List Value} {ns : List Int} {b : Array UInt8} {t u : Tok} {n : Int}
theorem make_M {Q : Value → Shared → Prop} (F : Fr h₀ L s.heap m) (N : News h₀ L s.heap news) (hh : A.handled = none) (hl : s.heap.IsList D vs.toArray) (hi : IntsAre vs ns) (hr : KBa.In ns) (hn : ns.length ≤ 16777216)
    (h : ∀ (b : Array UInt8) h' t' k, Fr h₀ L h' m → News h₀ L h' news → KBw.bInts b = ns → Q (.bytes b t') { s with heap := h', toks := k }) : wpAny (model prog w) A (call (.type "bytes") [.ref D]) Q E s :=
  KBa.make_K F N hh hl hi hr hn fun h' t' k F' N' hin => h _ h' t' k F' N' (KBa.ints_make hin)
theorem mul_M {Q : Value → Shared → Prop} (hb : KBw.bInts b = ns) (hne : ns ≠ []) (h0 : 0 ≤ n) (h1 : n ≤ 1048576) (hs : ns.length ≤ 16)
    (h : ∀ (b' : Array UInt8) t' k, KBw.bInts b' = (List.replicate n.toNat ns).flatten → Q (.bytes b' t') { s with toks := k }) :
    wpAny (model prog w) A (binaryOp .Mult (.bytes b t) (.int n u)) Q E s := by
  have hsz : b.toList.length = ns.length := by rw [← hb]; simp [KBw.bInts]
  have key := bytes_mul_any (prog := prog) (w := w) (A := A) (E := E) (s := s) (b := b.toList) (n := n) (t := t) (u := u) (Q := Q) (fun e => hne (List.length_eq_zero_iff.mp (by rw [← hsz, e]; rfl))) (by omega) h1 (by rw [hsz]; exact hs)
    (fun t' k => h _ t' k (by subst hb; unfold KBw.bInts; simp [List.map_flatten]))
  rwa [Array.toArray_toList] at key
end
theorem run_fact {b' : Array UInt8} {r many : Int} (hb : KBw.bInts b' = (List.replicate many.toNat [r]).flatten) (h0 : 0 ≤ many) :
    adlerZ (KBw.bInts b') = ((many + (r * many * (many + 1)).fdiv 2).fmod 65521) * 65536 + (1 + many * r).fmod 65521 := by
  have e : (List.replicate many.toNat [r]).flatten = List.replicate many.toNat r := by simp
  rw [hb, e, adler_run, fmod_e, fmod_e, Int.fdiv_eq_ediv_of_nonneg _ (by decide)]
  have hm : ((many.toNat : Nat) : Int) = many := by omega
  rw [hm]
abbrev lawM (D : Addr) (wh : Array UInt8) (tw : Tok) (tot : Int) (tt : Tok) (u : Str → Option Value) : Str → Option Value := fun z =>
  if z = Str.ofString "total" then some (.int tot tt) else if z = Str.ofString "whole" then some (.bytes wh tw) else if z = Str.ofString "parts" then some (.ref D) else u z
theorem lawM_of {D : Addr} {wh : Array UInt8} {tw : Tok} {tot : Int} {tt : Tok} {u : Str → Option Value} (h1 : u (Str.ofString "total") = some (.int tot tt)) (h2 : u (Str.ofString "whole") = some (.bytes wh tw)) (h3 : u (Str.ofString "parts") = some (.ref D)) : u = lawM D wh tw tot tt u := by
  funext z
  unfold lawM
  split
  · rename_i e; rw [e]; exact h1
  · split
    · rename_i e; rw [e]; exact h2
    · split
      · rename_i e; rw [e]; exact h3
      · rfl
theorem fr_law {g : Heap} {L : Addr} {h : Heap} {D : Addr} {wh : Array UInt8} {tw : Tok} {tot : Int} {tt : Tok} {u : Str → Option Value} (F : Fr g L h u) (h1 : u (Str.ofString "total") = some (.int tot tt)) (h2 : u (Str.ofString "whole") = some (.bytes wh tw)) (h3 : u (Str.ofString "parts") = some (.ref D)) : Fr g L h (lawM D wh tw tot tt u) := by
  rw [← lawM_of h1 h2 h3]; exact F
end Mine
end

section
open PySem PySem.W PySem.Calls PyProof.Rows
set_option linter.unusedVariables false
namespace Mine
theorem list_at {q : List Int} {k : Nat} (h : k < q.length) : q = q.take k ++ [q.getD k 0] ++ q.drop (k + 1) := by
  have e : q.getD k 0 = q[k] := by simp [List.getD, h]
  rw [e]
  simp
theorem turned_ne {b r : Int} (h0 : 0 ≤ b) (h1 : b < 256) (hr0 : 0 ≤ r) (hr1 : r < 255) : (b + 1 + r).fmod 256 ≠ b ∧ 0 ≤ (b + 1 + r).fmod 256 ∧ (b + 1 + r).fmod 256 < 256 := by
  rw [Int.fmod_eq_emod_of_nonneg _ (by decide)]
  omega
theorem other_fact {q : List Int} {i r : Int} {wh : Array UInt8} (hwh : KBw.bInts wh = q) (h0 : 0 ≤ i) (h1 : i < q.length) (hr0 : 0 ≤ r) (hr1 : r < 255) :
    adlerZ (List.take (clipAt q.length i) q ++ [(q.getD i.toNat 0 + 1 + r).fmod 256] ++ List.take (q.length - clipAt q.length (i + 1)) (List.drop (clipAt q.length (i + 1)) q)) ≠ adlerZ q := by
  have e1 : clipAt q.length i = i.toNat := PyProof.Rows.clipAt_in h0 (by omega)
  have e2 : clipAt q.length (i + 1) = i.toNat + 1 := (PyProof.Rows.clipAt_in (by omega) (by omega)).trans (by omega)
  have hb := byte_in hwh i.toNat
  have ht := turned_ne hb.1 hb.2 hr0 hr1
  have e5 : List.take (q.length - (i.toNat + 1)) (List.drop (i.toNat + 1) q) = List.drop (i.toNat + 1) q := List.take_of_length_le (by simp)
  rw [e1, e2, e5]
  intro h
  have hk : i.toNat < q.length := by omega
  have hq := list_at hk
  generalize q.getD i.toNat 0 = v at *
  have h' := h.trans (congrArg adlerZ hq)
  exact adler_change ht.1 (by omega) (by omega) h'
end Mine
end

section
open PySem PySem.W PySem.Calls PyProof.Rows Mine
local macro_rules | `(tactic| kba_in) => `(tactic| first | exact List.forall_mem_nil _ | (refine List.forall_mem_cons.mpr ⟨⟨by kba_bound, by kba_bound⟩, ?_⟩; kba_in))
local macro_rules | `(tactic| walk_at "call type:bytes") => `(tactic| (k_here; (with_reducible show wpAny _ _ (call (Value.type "bytes") [Value.ref _]) _ _ _); k_dflt (refine' make_M ?kbaF ?kbaN ?kbah ?kbal ?kbai ?kbar ?kban ?_; (case kbaF => k_asm); (case kbaN => k_asm); (case kbah => rfl); (case kbal => kba_isList); (case kbai => first | exact IntsAre.cons _ _ .nil | exact IntsAre.cons _ _ (.cons _ _ (.cons _ _ (.cons _ _ .nil))) | kba_listInts); (case kbar => kba_in); (case kban => first | decide | kba_size)); intro b9 h9 t9 k9 F9 N9 hb9))
section
open PySem PySem.W PySem.Calls PyProof.Rows Mine
local macro_rules | `(tactic| walk_at "call ref") => `(tactic| (k_here; k_dflt (refine' adler_c _ _ _ _ _ _ _ _ _ _ _ _ _ _ _ _ _ _ _ _ _ _ _ _ ?xk1 ?xk2 ?xk3 ?xk4 ?xk5 ?xk6 ?xk7 ?xk8 ?_; (case xk1 => k_asm); (case xk2 => k_asm); (case xk3 => k_asm); (case xk4 => k_asm); (case xk5 => k_asm); (case xk6 => first | exact rfl | assumption); (case xk7 => ktr_room); (case xk8 => ktr_units); k_whole); intro t9 h9 tk9 F9 N9; (try dsimp only); (try k_fold)))
local macro_rules | `(tactic| walk_at "call ref") => `(tactic| (k_here; (rename News _ _ _ _ => nN); k_dflt (refine' ask_p _ _ _ _ _ _ _ _ _ _ _ _ _ _ _ _ _ _ _ _ _ _ _ _ _ ?xk1 ?xk2 ?xk3 ?xk4 ?xk5 ?xk6 ?xk7 ?xk8 ⟨[], _, _, _, _, _, _, rfl, ?xp1, ?xp2, ?xp3, ?xp4, ?xp5, ?xp6, ?xp7, ?xp8, ?_⟩; (case xk4 => first | exact nN | exact news_tail nN | exact news_tail (news_tail nN)); (case xk1 => k_asm); (case xk2 => k_asm); (case xk3 => k_asm); (case xk5 => k_asm); (case xk6 => first | exact rfl | assumption); (case xk7 => ktr_room); (case xk8 => ktr_units); (case xp1 => exact List.forall_mem_nil _); (case xp2 => k_all); (case xp3 => first | decide | omega); (case xp4 => first | decide | omega); (case xp5 => assumption); (case xp6 => assumption); (case xp7 => first | assumption | omega); (case xp8 => omega); k_whole); intro t9 h9 tk9 x9 y9 tx9 ty9 r9 F9 N9 hx9 hX9 hy9 hY9 hr9 hR9; (try simp only [List.nil_append, List.cons_append] at N9); (try dsimp only); (try k_fold)))
local macro_rules | `(tactic| walk_at "binaryOp Mult bytes int") => `(tactic| (k_here; k_dflt (refine' mul_M ?xa ?xb ?xc ?xd ?xe ?_; (case xa => assumption); (case xb => exact List.cons_ne_nil _ _); (case xc => first | omega | l_fact); (case xd => first | omega | l_fact); (case xe => first | decide | (simp only [List.length_cons, List.length_nil]; decide))); intro b9 t9 k9 hb9))
section
open PySem PySem.W PySem.Calls PyProof.Rows
set_option Elab.async false
set_option maxRecDepth 100000
set_option maxHeartbeats 8000000
set_option linter.unusedVariables false
namespace Mine
theorem kw_W3 : True := by k_with_none; w_top off; trivial

theorem law_run (w : World) (cs : Scope) (cl : List (Str × Addr)) (c : Addr) (dp un : Nat) (gd : Option (List Code)) (a : Addr) (ccd : Value) (outer : List Env) (A₀ : Around) (base h₀ : Heap) (mean : ExcName → Option Value) (mg mb : Str → Option Value) (L : Addr) (Q : Flow → Shared → Prop) (E : Value → Shared → Prop) (body : List Stmt)
    (I : LawIn w cs cl c dp un outer A₀ base h₀ mean mg mb) (hb : body = lawBody.drop 6)
    (l D : Addr) (oc : Obj) (n : Nat) (x y : Int) (tx ty tw tt : Tok) (oD : Obj) (wh : Array UInt8) (tot : Int) (u : Str → Option Value) (s : Shared)
    (F : Fr h₀ L s.heap (lawM D wh tw tot tt u)) (N : News h₀ L s.heap [(l, millO n x y tx ty), (c, oc), (D, oD)])
    (hoc : oc.data = .cell (some (.ref l))) (hpost : ∀ p ∈ [(c, oc), (D, oD)], p.1 ≠ l) (hx0 : 0 ≤ x) (hx1 : x < 2 ^ 1000) (hy0 : 0 ≤ y) (hy1 : y ≤ 33)
    (next : ∀ (n : Nat) (x y : Int) (tx ty : Tok) (u : Str → Option Value) (h : Heap) (tk : Nat), Fr h₀ L h (lawM D wh tw tot tt u) →
      News h₀ L h [(l, millO n x y tx ty), (c, oc), (D, oD)] → 0 ≤ x → x < 2 ^ 1000 → 0 ≤ y → y ≤ 36 → 
      LawRun w cs cl dp un gd a ccd outer L Q E (lawBody.drop 9) { s with heap := h, toks := tk }) :
    LawRun w cs cl dp un gd a ccd outer L Q E body s := by
  obtain ⟨B, X, T, hcs, hcl', hd, hu⟩ := I
  conv at hcs => rhs; whnf
  conv at hb => rhs; whnf
  conv at hcl' => rhs; whnf
  subst hcs hb hcl'
  unfold LawRun
  revert X; k_fill; intro X
  refine wpG_execs_cons (wpG_any ?_)
  k_steps
  refine wpG_execs_cons (wpG_any ?_)
  k_steps
  refine wpG_execs_cons (wpG_any ?_)
  k_steps
  all_goals (rename KBw.bInts _ = (List.replicate _ _).flatten => hw)
  all_goals have he := run_fact hw (by l_fact)
  · exact absurd he (by assumption)
  · (rename Fr h₀ L _ _ => kF); (rename News h₀ L _ _ => kN)
    exact next _ _ _ _ _ _ _ _ (fr_law kF rfl rfl rfl) (by first | exact kN | exact news_tail kN | exact news_tail (news_tail kN) | exact news_tail (news_tail (news_tail kN)) | exact news_tail (news_tail (news_tail (news_tail kN)))) (by assumption) (by assumption) (by omega) (by omega)
end Mine
end

section
open PySem PySem.W PySem.Calls PyProof.Rows
set_option Elab.async false
set_option maxRecDepth 100000
set_option maxHeartbeats 8000000
set_option linter.unusedVariables false
namespace Mine
local macro_rules | `(tactic| walk_at "zz") => `(tactic| fail)
theorem kw_W4 : True := by k_with_none; w_top off; trivial

theorem law_other (w : World) (cs : Scope) (cl : List (Str × Addr)) (c : Addr) (dp un : Nat) (gd : Option (List Code)) (a : Addr) (ccd : Value) (outer : List Env) (A₀ : Around) (base h₀ : Heap) (mean : ExcName → Option Value) (mg mb : Str → Option Value) (L : Addr) (Q : Flow → Shared → Prop) (E : Value → Shared → Prop) (body : List Stmt)
    (I : LawIn w cs cl c dp un outer A₀ base h₀ mean mg mb) (hb : body = lawBody.drop 9)
    (l D : Addr) (oc : Obj) (n : Nat) (x y : Int) (tx ty tw tt : Tok) (oD : Obj) (wh : Array UInt8) (q : List Int) (u : Str → Option Value) (s : Shared)
    (hwh : KBw.bInts wh = q) (hq : q.length ≤ 30)
    (F : Fr h₀ L s.heap (lawM D wh tw (adlerZ q) tt u)) (N : News h₀ L s.heap [(l, millO n x y tx ty), (c, oc), (D, oD)])
    (hoc : oc.data = .cell (some (.ref l))) (hpost : ∀ p ∈ [(c, oc), (D, oD)], p.1 ≠ l) (hx0 : 0 ≤ x) (hx1 : x < 2 ^ 1000) (hy0 : 0 ≤ y) (hy1 : y ≤ 36)
    (next : ∀ (n : Nat) (x y : Int) (tx ty : Tok) (u : Str → Option Value) (h : Heap) (tk : Nat), Fr h₀ L h (lawM D wh tw (adlerZ q) tt u) →
      News h₀ L h [(l, millO n x y tx ty), (c, oc), (D, oD)] → 0 ≤ x → x < 2 ^ 1000 → 0 ≤ y → y ≤ 38 → 
      LawRun w cs cl dp un gd a ccd outer L Q E (lawBody.drop 10) { s with heap := h, toks := tk }) :
    LawRun w cs cl dp un gd a ccd outer L Q E body s := by
  obtain ⟨B, X, T, hcs, hcl', hd, hu⟩ := I
  conv at hcs => rhs; whnf
  conv at hb => rhs; whnf
  conv at hcl' => rhs; whnf
  subst hcs hb hcl'
  unfold LawRun
  revert X; k_fill; intro X
  refine wpG_execs_cons (wpG_any ?_)
  k_steps
  · (rename KBw.bInts _ = _ ++ _ ++ _ => hw); (rename adlerZ _ = _ => he)
    rw [hw] at he
    exact absurd he (other_fact hwh (by assumption) (by assumption) (by assumption) (by assumption))
  · (rename Fr h₀ L _ _ => kF); (rename News h₀ L _ _ => kN)
    exact next _ _ _ _ _ _ _ _ (fr_law kF rfl rfl rfl) (by first | exact kN | exact news_tail kN | exact news_tail (news_tail kN) | exact news_tail (news_tail (news_tail kN)) | exact news_tail (news_tail (news_tail (news_tail kN)))) (by assumption) (by assumption) (by omega) (by omega)
  · (rename Fr h₀ L _ _ => kF); (rename News h₀ L _ _ => kN)
    exact next _ _ _ _ _ _ _ _ (fr_law kF rfl rfl rfl) (by first | exact kN | exact news_tail kN | exact news_tail (news_tail kN) | exact news_tail (news_tail (news_tail kN)) | exact news_tail (news_tail (news_tail (news_tail kN)))) (by assumption) (by assumption) (by omega) (by omega)
end Mine
end

end

section
open PySem PySem.W PySem.Calls PyProof.Rows
set_option Elab.async false
set_option maxRecDepth 100000
set_option maxHeartbeats 8000000
set_option linter.unusedVariables false
namespace Mine

abbrev lawN (D : Addr) (wh : Array UInt8) (tw : Tok) (tot : Int) (tt : Tok) (ah : Array UInt8) (tah : Tok) (fo : Array UInt8) (tfo : Tok) (u : Str → Option Value) : Str → Option Value := fun z =>
  if z = Str.ofString "ahead" then some (.bytes ah tah) else if z = Str.ofString "four" then some (.bytes fo tfo) else lawM D wh tw tot tt u z
theorem fr_lawN {g : Heap} {L : Addr} {h : Heap} {D : Addr} {wh : Array UInt8} {tw : Tok} {tot : Int} {tt : Tok} {ah : Array UInt8} {tah : Tok} {fo : Array UInt8} {tfo : Tok} {u : Str → Option Value} (F : Fr g L h u) (h1 : u (Str.ofString "total") = some (.int tot tt)) (h2 : u (Str.ofString "whole") = some (.bytes wh tw)) (h3 : u (Str.ofString "parts") = some (.ref D))
    (h4 : u (Str.ofString "ahead") = some (.bytes ah tah)) (h5 : u (Str.ofString "four") = some (.bytes fo tfo)) : Fr g L h (lawN D wh tw tot tt ah tah fo tfo u) := by
  have e : u = lawN D wh tw tot tt ah tah fo tfo u := by
    funext z
    unfold lawN
    split
    · rename_i e; rw [e]; exact h4
    · split
      · rename_i e; rw [e]; exact h5
      · rw [← lawM_of h1 h2 h3]
  rw [← e]; exact F

theorem fr_if {g : Heap} {L : Addr} {h : Heap} {u : Str → Option Value} {x : Str} {v : Value} (F : Fr g L h u) (e : u x = some v) : Fr g L h (fun z => if z = x then some v else u z) := by
  have e' : (fun z => if z = x then some v else u z) = u := by
    funext z
    by_cases hz : z = x
    · rw [if_pos hz, hz, e]
    · rw [if_neg hz]
  rw [e']; exact F
def headZ (f : Int) (p : List Int) : List Int := [f, (p.length : Int), 0, 255 - (p.length : Int), 255]
def frameZ (p0 p1 p2 : List Int) : List Int := [120, 1] ++ headZ 0 p0 ++ p0 ++ headZ 0 p1 ++ p1 ++ headZ 1 p2 ++ p2
abbrev lawP (D : Addr) (wh : Array UInt8) (tw : Tok) (tot : Int) (tt : Tok) (ah : Array UInt8) (tah : Tok) (fo : Array UInt8) (tfo : Tok) (fr : Array UInt8) (tfr : Tok) (u : Str → Option Value) : Str → Option Value := fun z =>
  if z = Str.ofString "frame" then some (.bytes fr tfr) else lawN D wh tw tot tt ah tah fo tfo u z
def fourZ (t : Int) : List Int := [t.fdiv 16777216, (t.fdiv 65536).fmod 256, (t.fdiv 256).fmod 256, t.fmod 256]
theorem be_four {t : Int} (h0 : 0 ≤ t) (h1 : t < 2 ^ 32) : beZ (fourZ t) = t := by
  show 256 * (256 * (256 * (256 * 0 + t.fdiv 16777216) + (t.fdiv 65536).fmod 256) + (t.fdiv 256).fmod 256) + t.fmod 256 = t
  simp only [Int.fdiv_eq_ediv_of_nonneg _ (show (0 : Int) ≤ 16777216 by decide), Int.fdiv_eq_ediv_of_nonneg _ (show (0 : Int) ≤ 65536 by decide), Int.fdiv_eq_ediv_of_nonneg _ (show (0 : Int) ≤ 256 by decide), Int.fmod_eq_emod_of_nonneg _ (show (0 : Int) ≤ 256 by decide)]
  omega
theorem four_in {t : Int} (h0 : 0 ≤ t) (h1 : t < 2 ^ 32) : KBa.In (fourZ t) := by
  unfold fourZ
  simp only [Int.fdiv_eq_ediv_of_nonneg _ (show (0 : Int) ≤ 16777216 by decide), Int.fdiv_eq_ediv_of_nonneg _ (show (0 : Int) ≤ 65536 by decide), Int.fdiv_eq_ediv_of_nonneg _ (show (0 : Int) ≤ 256 by decide), Int.fmod_eq_emod_of_nonneg _ (show (0 : Int) ≤ 256 by decide)]
  intro n hn
  simp only [List.mem_cons, List.not_mem_nil, or_false] at hn
  rcases hn with rfl | rfl | rfl | rfl <;> omega
theorem fourOf_mid {a b c : List Int} (hb : b.length = 4) : fourOf (a ++ b ++ c) (a.length : Int) = b := by
  unfold fourOf
  rw [Int.toNat_natCast, List.append_assoc, List.drop_left' rfl, ← hb, List.take_left' rfl]
end Mine
end

section
open PySem PySem.W PySem.Calls PyProof.Rows
set_option Elab.async false
set_option maxRecDepth 100000
set_option maxHeartbeats 8000000
set_option linter.unusedVariables false
namespace Mine
theorem kw_W5 : True := by k_with_none; w_top off; trivial
local macro_rules | `(tactic| walk_at "call ref") => `(tactic| (k_here; (rename News _ _ _ _ => nN); k_dflt (refine' check_sum_c _ _ _ _ _ _ _ _ _ _ _ _ _ _ _ _ _ _ _ _ _ _ _ _ _ _ _ _ _ _ ?xk1 ?xk2 ?xk3 ?xk4 ?xk5 ?xk6 ?xk7 ?xk8 ⟨?xp1, ?xp2, ?xp3, ?xp4, ?_, ?_⟩; (case xk4 => exact nN); (case xp1 => kba_ints); (case xp2 => kba_ints); (case xp3 => first | omega | l_fact); (case xp4 => first | omega | kba_size); (case xk1 => k_asm); (case xk2 => k_asm); (case xk3 => k_asm); (case xk5 => k_asm); (case xk6 => first | exact rfl | assumption); (case xk7 => ktr_room); (case xk8 => ktr_units))))
local macro_rules | `(tactic| walk_at "call ref") => `(tactic| (k_here; (rename News _ _ _ _ => nN); k_dflt (refine' law_ask_c _ _ _ _ _ _ _ _ _ _ _ _ _ _ _ _ _ _ _ _ _ _ _ _ _ ?xk1 ?xk2 ?xk3 ?xk4 ?xk5 ?xk6 ?xk7 ?xk8 ⟨_, _, _, _, _, _, rfl, ?xp2, ?xp3, ?xp4, ?xp5, ?xp6, ?xp7, ?xp8, ?_⟩; (case xk4 => first | exact nN | (have nT := news_tail nN; first | exact nT | (have nU := news_tail nT; first | exact nU | (have nV := news_tail nU; exact nV)))); (case xk1 => k_asm); (case xk2 => k_asm); (case xk3 => k_asm); (case xk5 => k_asm); (case xk6 => first | exact rfl | assumption); (case xk7 => ktr_room); (case xk8 => ktr_units); (case xp2 => k_all); (case xp3 => first | decide | omega); (case xp4 => first | decide | omega); (case xp5 => assumption); (case xp6 => assumption); (case xp7 => first | assumption | omega); (case xp8 => omega); k_whole); intro t9 h9 tk9 x9 y9 tx9 ty9 r9 F9 N9 hx9 hX9 hy9 hY9 hr9 hR9; (try simp only [List.nil_append, List.cons_append] at N9); (try dsimp only); (try k_fold)))

theorem law_lets (w : World) (cs : Scope) (cl : List (Str × Addr)) (c : Addr) (dp un : Nat) (gd : Option (List Code)) (a : Addr) (ccd : Value) (outer : List Env) (A₀ : Around) (base h₀ : Heap) (mean : ExcName → Option Value) (mg mb : Str → Option Value) (L : Addr) (Q : Flow → Shared → Prop) (E : Value → Shared → Prop) (body : List Stmt)
    (I : LawIn w cs cl c dp un outer A₀ base h₀ mean mg mb) (hb : body = lawBody.drop 10)
    (l D : Addr) (oc : Obj) (n : Nat) (x y : Int) (tx ty tw tt t0 t1 t2 : Tok) (b0 b1 b2 : Array UInt8) (p0 p1 p2 : List Int) (hb0 : KBw.bInts b0 = p0) (hb1 : KBw.bInts b1 = p1) (hb2 : KBw.bInts b2 = p2) (hz0 : p0.length ≤ 10) (hz1 : p1.length ≤ 10) (hz2 : p2.length ≤ 10) (wh : Array UInt8) (q : List Int) (tot : Int) (u : Str → Option Value) (s : Shared)
    (hwh : KBw.bInts wh = q) (htot : tot = adlerZ q) (ht0 : 0 ≤ tot) (ht1 : tot < 2 ^ 32)
    (F : Fr h₀ L s.heap (lawM D wh tw tot tt u)) (N : News h₀ L s.heap [(l, millO n x y tx ty), (c, oc), (D, LCg.lst [.bytes b0 t0, .bytes b1 t1, .bytes b2 t2])])
    (hoc : oc.data = .cell (some (.ref l))) (hpost : ∀ p ∈ [(c, oc), (D, LCg.lst [.bytes b0 t0, .bytes b1 t1, .bytes b2 t2])], p.1 ≠ l) (hx0 : 0 ≤ x) (hx1 : x < 2 ^ 1000) (hy0 : 0 ≤ y) (hy1 : y ≤ 38)
    (next : ∀ (n : Nat) (x y : Int) (tx ty tah tfo : Tok) (ah fo : Array UInt8) (pa : List Int) (u : Str → Option Value) (h : Heap) (tk : Nat), KBw.bInts ah = pa → pa.length ≤ 10 → KBw.bInts fo = fourZ tot → Fr h₀ L h (lawN D wh tw tot tt ah tah fo tfo u) →
      News h₀ L h [(l, millO n x y tx ty), (c, oc), (D, LCg.lst [.bytes b0 t0, .bytes b1 t1, .bytes b2 t2])] → 0 ≤ x → x < 2 ^ 1000 → 0 ≤ y → y ≤ 39 → 
      LawRun w cs cl dp un gd a ccd outer L Q E (lawBody.drop 13) { s with heap := h, toks := tk }) :
    LawRun w cs cl dp un gd a ccd outer L Q E body s := by
  obtain ⟨B, X, T, hcs, hcl', hd, hu⟩ := I
  conv at hcs => rhs; whnf
  conv at hb => rhs; whnf
  conv at hcl' => rhs; whnf
  subst hcs hb hcl'
  unfold LawRun
  revert X; k_fill; intro X
  refine wpG_execs_cons (wpG_any ?_)
  k_steps
  refine wpG_execs_cons (wpG_any ?_)
  k_steps
  refine wpG_execs_cons (wpG_any ?_)
  k_steps
  · (rename Fr h₀ L _ _ => kF); (rename News h₀ L _ _ => kN); (rename KBw.bInts (KBy.picked _ _ _) = _ => hah)
    exact next _ _ _ _ _ _ _ _ _ _ _ _ _ hah (by rw [List.length_take]; omega) (by assumption) (fr_lawN kF rfl rfl rfl rfl rfl) kN (by assumption) (by assumption) (by omega) (by omega)
  · exfalso
    rename _ ∨ _ => hv
    rw [← List.length_take] at hv
    rcases hv with ⟨_, hv⟩ | ⟨_, _, hv⟩
    · simp only [List.length_append, List.length_cons, List.length_nil] at hv
      omega
    · exact hv ((congrArg beZ (fourOf_mid (b := fourZ tot) (c := p2) rfl)).trans ((be_four ht0 ht1).trans htot))
end Mine
end

section
open PySem PySem.W PySem.Calls PyProof.Rows
set_option linter.unusedVariables false
namespace Mine
theorem getD_mid (pre X : List Int) (k : Nat) : (pre ++ X).getD (pre.length + k) 0 = X.getD k 0 := by
  simp [List.getD, List.getElem?_append_right]
theorem block_mid {pre p post ds : List Int} {fl a : Int} (hds : ds = pre ++ (headZ fl p ++ (p ++ post))) (ha : a = (pre.length : Int)) (hfl : fl = 0 ∨ fl = 1) : BlockAt ds a fl p := by
  subst hds ha
  have e0 : ((pre.length : Int)).toNat = pre.length + 0 := by omega
  have e1 : ((pre.length : Int) + 1).toNat = pre.length + 1 := by omega
  have e2 : ((pre.length : Int) + 1 + 1).toNat = pre.length + 2 := by omega
  have e3 : ((pre.length : Int) + 1 + 2).toNat = pre.length + 3 := by omega
  have e4 : ((pre.length : Int) + 1 + 2 + 1).toNat = pre.length + 4 := by omega
  have e5 : ((pre.length : Int) + 1 + 4).toNat = pre.length + 5 := by omega
  refine ⟨by omega, ?_, hfl, ?_, ?_, ?_, ?_, ?_, ?_⟩
  · simp only [List.length_append, headZ, List.length_cons, List.length_nil]; omega
  · rw [e0, getD_mid]; rfl
  · rw [e1, getD_mid]; rfl
  · rw [e2, getD_mid]; rfl
  · rw [e3, getD_mid]; rfl
  · rw [e4, getD_mid]; rfl
  · have h : pre ++ (headZ fl p ++ (p ++ post)) = (pre ++ headZ fl p) ++ (p ++ post) := by rw [List.append_assoc]
    rw [e5, h, List.drop_left' (by simp [headZ]), List.take_left' rfl]
theorem frame_len (p0 p1 p2 : List Int) : ((frameZ p0 p1 p2).length : Int) = 2 + 1 + 4 + p0.length + 1 + 4 + p1.length + 1 + 4 + p2.length := by
  simp only [frameZ, headZ, List.length_append, List.length_cons, List.length_nil]; omega
theorem frame_blocks (p0 p1 p2 rest : List Int) : Blocks (frameZ p0 p1 p2 ++ rest) 2 [p0, p1, p2] ((frameZ p0 p1 p2).length : Int) := by
  refine ⟨block_mid (pre := [120, 1]) (post := headZ 0 p1 ++ p1 ++ headZ 1 p2 ++ p2 ++ rest) (by simp [frameZ, List.append_assoc]) rfl (.inl rfl),
    block_mid (pre := [120, 1] ++ headZ 0 p0 ++ p0) (post := headZ 1 p2 ++ p2 ++ rest) (by simp [frameZ, List.append_assoc]) ?_ (.inl rfl),
    block_mid (pre := [120, 1] ++ headZ 0 p0 ++ p0 ++ headZ 0 p1 ++ p1) (post := rest) (by simp [frameZ, List.append_assoc]) ?_ (.inr rfl), ?_⟩
  · simp only [headZ, List.length_append, List.length_cons, List.length_nil]; omega
  · simp only [headZ, List.length_append, List.length_cons, List.length_nil]; omega
  · rw [frame_len]
theorem zl_facts {p0 p1 p2 f c : List Int} (hf : f.length = 4) (h0 : p0.length ≤ 10) (h1 : p1.length ≤ 10) (h2 : p2.length ≤ 10) (hc : c.length ≤ 10) :
    (frameZ p0 p1 p2 ++ f ++ c).length < 2 ^ 20 ∧ 2 ≤ (frameZ p0 p1 p2 ++ f ++ c).length ∧ (frameZ p0 p1 p2 ++ f ++ c).getD (Int.toNat 0) 0 = 120 ∧ (frameZ p0 p1 p2 ++ f ++ c).getD (Int.toNat 1) 0 = 1 ∧
      Blocks (frameZ p0 p1 p2 ++ f ++ c) 2 [p0, p1, p2] ((frameZ p0 p1 p2).length : Int) ∧ (∀ p ∈ [p0, p1, p2], p.length ≤ 255) ∧ 255 * [p0, p1, p2].length ≤ 1000 ∧ 0 ≤ ((frameZ p0 p1 p2).length : Int) ∧
      ((frameZ p0 p1 p2).length : Int) + 4 ≤ (frameZ p0 p1 p2 ++ f ++ c).length ∧ fourOf (frameZ p0 p1 p2 ++ f ++ c) ((frameZ p0 p1 p2).length : Int) = f := by
  have hl := frame_len p0 p1 p2
  have hlen : (frameZ p0 p1 p2 ++ f ++ c).length = (frameZ p0 p1 p2).length + 4 + c.length := by rw [List.length_append, List.length_append, hf]
  refine ⟨by omega, by omega, rfl, rfl, ?_, ?_, by simp, by omega, by omega, fourOf_mid hf⟩
  · rw [List.append_assoc]; exact frame_blocks _ _ _ _
  · intro p hp
    simp only [List.mem_cons, List.not_mem_nil, or_false] at hp
    rcases hp with rfl | rfl | rfl <;> omega
end Mine
end

section
open PySem PySem.W PySem.Calls PyProof.Rows
set_option Elab.async false
set_option maxRecDepth 100000
set_option maxHeartbeats 8000000
set_option linter.unusedVariables false
namespace Mine
theorem kw_LB : True := by k_with_none; w_top off; trivial
section
variable {prog : Program} {w : World} {A : Around} {E : Value → Shared → Prop} {s : Shared}
abbrev emptyL : Obj := { cls := .type "list", data := .seq #[] }
def OctetAt (b : Array UInt8) (i : Nat) (v : Value) : Prop := ∃ c u, b[i]? = some c ∧ v = .int (c.toNat : Int) u

/-- An empty list takes the octets of a bytes one by one. -/
theorem lb_fill {R : Result → Shared → Prop} {b : Array UInt8} {t : Tok} {S : Addr} {res : Value} {k₀ : Nat} (hh : A.handled = none) (hn : b.size ≤ sizeLine) (hS : s.heap.get? S = some { cls := .type "list", data := .seq #[] k₀ })
    (hR : ∀ h' tk acc k', (∀ a o, a ≠ S → s.heap.get? a = some o → h'.get? a = some o) → h'.get? S = some { cls := .type "list", data := .seq acc k' } → ItemsOf (OctetAt b) acc b.size → R (.ok (.ret res)) { s with heap := h', toks := tk }) :
    wpAny (model prog w) A.in1 (Builtin.List.listExtendWith (.ref S) (.bytes b t) res)
      (fun fin s' => match fin with | .done f => R (.ok f) s' | .again c' => c'.quiet = true ∧ codeAny (model prog w) A c' R s') (fun e s' => R (.error e) s') s := by
  have hT : ∀ s' : Shared, s'.TypeIs (.bytes b t) "bytes" := fun s' => PySem.W.typeIs_bytes s' b t
  have lt := Heap.lt_size hS
  unfold Builtin.List.listExtendWith
  refine wpAny_bind (wpAny_typeOf (hT _) ?_)
  have no : (Builtin.List.listSameRef (.ref S) (.bytes b t) || Value.type "bytes" == Value.type "list" || Value.type "bytes" == Value.type "tuple") = false := by
    show (false || Value.type "bytes" == Value.type "list" || Value.type "bytes" == Value.type "tuple") = false
    decide
  rw [no, if_neg Bool.false_ne_true]
  refine wpAny_bind (KBw.pyIter_bytes ?_)
  have up : ∀ a o, s.heap.get? a = some o → (s.heap.push { cls := .type "bytes_iterator", data := .fields #[.bytes b t, .int 0 0] }).get? a = some o := fun a o e => Heap.get?_push_of_some _ e
  refine wpAny_bind (wpAny_holding ?_)
  unfold Builtin.List.listLengthHint
  refine wpAny_bind (wpAny_specialOf (hT _) FB.slot_bytes_len.lookup ?_)
  wp_delta
  refine wpAny_bind (wpAny_isInstance (T := "bytes") (b := true) (hT _) (by rw [isSubtype_type]; kernel_rfl) ?_)
  show wpAny _ _ (typeOf (Value.bytes b t) >>= _) _ _ _
  refine wpAny_bind (wpAny_typeOf (hT _) ?_)
  refine wpAny_pure ?_
  rw [if_neg (by decide)]
  have W := KBw.walks (prog := prog) (w := w) (A := A.in1) hh s.heap.objs.size b t
  have off : S ∉ [s.heap.objs.size] := fun hm => absurd (List.mem_singleton.mp hm) (Nat.ne_of_lt lt)
  refine wpAny_pure ⟨plainId_quiet F.plain_extend_loop _, codeAny_extend_loopS W.toS hn S off res b.size 0 _ #[] k₀ rfl (Nat.zero_le _) ⟨_, Heap.get?_push_size _ rfl, rfl, rfl⟩ (up _ _ hS) (ItemsOf.nil _) fun s' acc k' hm hS' hacc => ?_⟩
  rw [Moved.eq_with hm]
  refine hR s'.heap s'.toks acc k' (fun a o ha e => hm.heap a o (fun hx => ?_) (up _ _ e)) hS' hacc
  rcases List.mem_cons.mp hx with q | q
  · exact ha q
  · exact absurd (List.mem_singleton.mp q) (Nat.ne_of_lt (Heap.lt_size e))

theorem lb_call {b : Array UInt8} {t : Tok} {Q : Value → Shared → Prop} (hh : A.handled = none) (hn : b.size ≤ sizeLine)
    (hQ : ∀ h' tk acc k', (∀ a o, s.heap.get? a = some o → h'.get? a = some o) → h'.get? s.heap.objs.size = some { cls := .type "list", data := .seq acc k' } → ItemsOf (OctetAt b) acc b.size → Q (.ref s.heap.objs.size) { s with heap := h', toks := tk }) :
    wpAny (model prog w) A (call (.type "list") [.bytes b t]) Q E s := by
  refine callType_codes (Q₁ := fun obj s₁ => obj = .ref s.heap.objs.size ∧ s₁ = { s with heap := s.heap.push emptyL }) F.called_list (F.typeCall_list_1 _) F.entry_list_init (code_list_new _ ⟨rfl, rfl⟩) fun obj s₁ h₁ => ?_
  obtain ⟨rfl, rfl⟩ := h₁
  have hS : (s.heap.push emptyL).get? s.heap.objs.size = some emptyL := Heap.get?_push_size _ rfl
  refine ⟨⟨_, hS, rfl⟩, F.args_list_init_2 _ _, ?_⟩
  show wpAny _ _ (do let old ← Builtin.List.listItems (.ref s.heap.objs.size); Builtin.List.listUpdate (.ref s.heap.objs.size) (fun _ => #[]); letGo old.toList.reverse; Builtin.List.listExtendWith (.ref s.heap.objs.size) (.bytes b t) .none) _ _ _
  refine wpAny_bind ?_
  unfold Builtin.List.listItems
  refine wpAny_bind (wpAny_seqItems hS rfl (wpAny_pure ?_))
  refine wpAny_bind (m := updateSeq s.heap.objs.size fun _ => #[]) (wpAny_updateSeq hS rfl ?_)
  refine wpAny_bind (wpAny_letGo ?_)
  refine lb_fill hh hn (Heap.get?_update_self (Obj.mapSeq fun _ => (#[] : Array Value)) hS rfl) fun h' tk acc k' hk hS' hacc => ?_
  refine ⟨rfl, hQ h' tk acc k' (fun a o e => ?_) hS' hacc⟩
  have ne : a ≠ s.heap.objs.size := Nat.ne_of_lt (Heap.lt_size e)
  exact hk a o ne ((Heap.get?_update_other _ _ (Ne.symm ne)).trans (Heap.get?_push_of_some _ e))

theorem octets_ints {b : Array UInt8} {acc : Array Value} (h : ItemsOf (OctetAt b) acc b.size) : IntsAre acc.toList (KBw.bInts b) := by
  obtain ⟨hs, hi⟩ := h
  have key : ∀ (n : Nat), n ≤ b.size → IntsAre (acc.toList.take n) ((KBw.bInts b).take n) := by
    intro n
    induction n with
    | zero => intro _; simp only [List.take_zero]; exact .nil
    | succ n ih =>
      intro hn
      have hlt : n < acc.size := by omega
      obtain ⟨c, u, hc, hv⟩ := hi n acc[n] (by simp [hlt])
      have e1 : acc.toList[n]? = some (.int (c.toNat : Int) u) := by rw [Array.getElem?_toList, Array.getElem?_eq_getElem hlt, hv]
      have e2 := KBw.ints_get hc
      rw [List.take_add_one, List.take_add_one, e1, e2]
      exact IntsAre.append (ih (by omega)) (.cons _ _ .nil)
  have h1 := key b.size (Nat.le_refl _)
  rwa [List.take_of_length_le (by simp [hs]), List.take_of_length_le (by simp [KBw.ints_length])] at h1

theorem list_bytes_M {h₀ : Heap} {L : Addr} {m : PySem.Str → Option Value} {news : List (Addr × Obj)} {b : Array UInt8} {t : Tok} {ks : List Int} {Q : Value → Shared → Prop} (F : Fr h₀ L s.heap m) (N : News h₀ L s.heap news) (hh : A.handled = none) (hb : KBw.bInts b = ks) (hn : ks.length ≤ 16777216)
    (hQ : ∀ (B : Addr) (vs : List Value) (k : Nat) h' tk, IntsAre vs ks → Fr h₀ L h' m → News h₀ L h' (news ++ [(B, W.listOf vs.toArray k)]) → (∀ p ∈ news, @LT.lt Nat _ p.1 B) → Q (.ref B) { s with heap := h', toks := tk }) :
    wpAny (model prog w) A (call (.type "list") [.bytes b t]) Q E s := by
  refine lb_call hh (by rw [← KBw.ints_length b, hb, sizeLine_eq]; exact hn) fun h' tk acc k' hk hS hacc => ?_
  have hi := octets_ints hacc
  rw [hb] at hi
  have N' := N.grown hk
  refine hQ s.heap.objs.size acc.toList k' h' tk hi (F.keptAll hk) (fun p hp => ?_) fun p hp => Heap.lt_size (N p hp).1
  rcases List.mem_append.mp hp with hp | hp
  · exact N' p hp
  · rw [List.mem_singleton.mp hp]
    refine ⟨?_, Ne.symm (Nat.ne_of_lt F.ns.lt), next_is_new F⟩
    rw [hS]
end
end Mine
end

section
open PySem PySem.W PySem.Calls PyProof.Rows
set_option linter.unusedVariables false
namespace Mine
theorem in_four {a b c d : Int} : KBa.In [a, b, c, d] ↔ (0 ≤ a ∧ a < 256) ∧ (0 ≤ b ∧ b < 256) ∧ (0 ≤ c ∧ c < 256) ∧ (0 ≤ d ∧ d < 256) := by
  unfold KBa.In
  constructor
  · intro h
    exact ⟨h a (by simp), h b (by simp), h c (by simp), h d (by simp)⟩
  · rintro ⟨ha, hb, hc, hd⟩ n hn
    simp only [List.mem_cons, List.not_mem_nil, or_false] at hn
    rcases hn with rfl | rfl | rfl | rfl <;> assumption
theorem be_lit (a b c d : Int) : beZ [a, b, c, d] = 16777216 * a + 65536 * b + 256 * c + d := by
  show 256 * (256 * (256 * (256 * 0 + a) + b) + c) + d = _
  omega
theorem bent_fact {t i r : Int} (h0 : 0 ≤ t) (h1 : t < 2 ^ 32) (hi0 : 0 ≤ i) (hi1 : i < 4) (hr0 : 0 ≤ r) (hr1 : r < 255) :
    ((fourZ t).set i.toNat (((fourZ t).getD i.toNat 0 + 1 + r).fmod 256)).length = 4 ∧ KBa.In ((fourZ t).set i.toNat (((fourZ t).getD i.toNat 0 + 1 + r).fmod 256)) ∧ beZ ((fourZ t).set i.toNat (((fourZ t).getD i.toNat 0 + 1 + r).fmod 256)) ≠ t := by
  have hin := four_in h0 h1
  have he := be_four h0 h1
  obtain ⟨a, b, c, d, e⟩ : ∃ a b c d, fourZ t = [a, b, c, d] := ⟨_, _, _, _, rfl⟩
  rw [e] at hin he ⊢
  rw [in_four] at hin
  rw [be_lit] at he
  obtain ⟨ha, hb, hc, hd⟩ := hin
  have hcase : i = 0 ∨ i = 1 ∨ i = 2 ∨ i = 3 := by omega
  rcases hcase with rfl | rfl | rfl | rfl
  · have ht := turned_ne ha.1 ha.2 hr0 hr1
    refine ⟨rfl, in_four.mpr ⟨ht.2, hb, hc, hd⟩, ?_⟩
    show beZ [(a + 1 + r).fmod 256, b, c, d] ≠ t
    rw [be_lit]
    generalize (a + 1 + r).fmod 256 = v at *
    omega
  · have ht := turned_ne hb.1 hb.2 hr0 hr1
    refine ⟨rfl, in_four.mpr ⟨ha, ht.2, hc, hd⟩, ?_⟩
    show beZ [a, (b + 1 + r).fmod 256, c, d] ≠ t
    rw [be_lit]
    generalize (b + 1 + r).fmod 256 = v at *
    omega
  · have ht := turned_ne hc.1 hc.2 hr0 hr1
    refine ⟨rfl, in_four.mpr ⟨ha, hb, ht.2, hd⟩, ?_⟩
    show beZ [a, b, (c + 1 + r).fmod 256, d] ≠ t
    rw [be_lit]
    generalize (c + 1 + r).fmod 256 = v at *
    omega
  · have ht := turned_ne hd.1 hd.2 hr0 hr1
    refine ⟨rfl, in_four.mpr ⟨ha, hb, hc, ht.2⟩, ?_⟩
    show beZ [a, b, c, (d + 1 + r).fmod 256] ≠ t
    rw [be_lit]
    generalize (d + 1 + r).fmod 256 = v at *
    omega
theorem news_ends {h₀ h : Heap} {L : Addr} {p a b c q : Addr × Obj} (N : News h₀ L h [p, a, b, c, q]) : News h₀ L h [p, q] := fun z hz => by
  rcases List.mem_cons.mp hz with rfl | hz
  · exact N _ (.head _)
  · rw [List.mem_singleton.mp hz]
    exact N _ (.tail _ (.tail _ (.tail _ (.tail _ (.head _)))))
abbrev lawB (wh : Array UInt8) (tw : Tok) (ah : Array UInt8) (tah : Tok) (fo : Array UInt8) (tfo : Tok) (fr : Array UInt8) (tfr : Tok) (B : Addr) (spot : Int) (tsp : Tok) (C1 : Addr) (u : Str → Option Value) : Str → Option Value := fun z =>
  if z = Str.ofString "caught" then some (.ref C1) else if z = Str.ofString "spot" then some (.int spot tsp) else if z = Str.ofString "bent" then some (.ref B) else if z = Str.ofString "frame" then some (.bytes fr tfr) else
  if z = Str.ofString "ahead" then some (.bytes ah tah) else if z = Str.ofString "four" then some (.bytes fo tfo) else if z = Str.ofString "whole" then some (.bytes wh tw) else u z
theorem fr_lawB {g : Heap} {L : Addr} {h : Heap} {wh : Array UInt8} {tw : Tok} {ah : Array UInt8} {tah : Tok} {fo : Array UInt8} {tfo : Tok} {fr : Array UInt8} {tfr : Tok} {B : Addr} {spot : Int} {tsp : Tok} {C1 : Addr} {u : Str → Option Value} (F : Fr g L h u)
    (h1 : u (Str.ofString "caught") = some (.ref C1)) (h2 : u (Str.ofString "spot") = some (.int spot tsp)) (h3 : u (Str.ofString "bent") = some (.ref B)) (h4 : u (Str.ofString "frame") = some (.bytes fr tfr)) (h5 : u (Str.ofString "ahead") = some (.bytes ah tah))
    (h6 : u (Str.ofString "four") = some (.bytes fo tfo)) (h7 : u (Str.ofString "whole") = some (.bytes wh tw)) : Fr g L h (lawB wh tw ah tah fo tfo fr tfr B spot tsp C1 u) := by
  have key : lawB wh tw ah tah fo tfo fr tfr B spot tsp C1 u = u := by
    funext z
    unfold lawB
    split
    · rename_i e; rw [e, h1]
    · split
      · rename_i e; rw [e, h2]
      · split
        · rename_i e; rw [e, h3]
        · split
          · rename_i e; rw [e, h4]
          · split
            · rename_i e; rw [e, h5]
            · split
              · rename_i e; rw [e, h6]
              · split
                · rename_i e; rw [e, h7]
                · rfl
  rw [key]; exact F
end Mine
end

section
open PySem PySem.W PySem.Calls PyProof.Rows Builtin Builtin.ObjectAttr
set_option Elab.async false
set_option maxRecDepth 100000
set_option maxHeartbeats 8000000
set_option linter.unusedVariables false
namespace Mine
section
variable {w : World} {A : Around} {E : Value → Shared → Prop} {s : Shared} {e dx : Addr} {oe od : Obj} {name : Str} {v : Value} {expr : Bool} {Q : Value → Shared → Prop}
/-- A field of an own exception, read. -/
theorem exc_get (X : (hd173.heap_39 w.params).In s.heap) (I : InstAt s.heap e oe 52 (some od)) (hf : findObj (hd173.heap_39 w.params) 52 (some od) name = some (.value v)) (hh : handedIn v = true) (h : Q v { s with toks := s.toks + 1 }) :
    wpAny (model PySem.Challenge.rw_og0173_01.row.prog w) A (getAttr (.ref e) name expr) Q E s := by
  obtain ⟨hp, g, d, t, os⟩ := s
  have FX := PySem.F.attr_Exception
  have L0 := I.type (M := model PySem.Challenge.rw_og0173_01.row.prog w)
  have L1 : Looks (model PySem.Challenge.rw_og0173_01.row.prog w) hp (typeLookup (.ref 52) "__getattribute__") (some (.builtin "BaseException.__getattribute__")) := looks_findIn X (by kernel_rfl)
  have L2 : Looks (model PySem.Challenge.rw_og0173_01.row.prog w) hp (typeLookup (.ref 52) "__getattr__") none := looks_findIn X (by kernel_rfl)
  have L3 := looks_find (M := model PySem.Challenge.rw_og0173_01.row.prog w) X I hf
  have L4 : Looks (model PySem.Challenge.rw_og0173_01.row.prog w) hp (isInstance (.ref e) (.type "BaseException")) true := L0.andThen (looks_subIn X (by kernel_rfl))
  have e1 : callGetattribute (.ref e) (.str name t) (.builtin "BaseException.__getattribute__") expr = boundAndCalled (.builtin "BaseException.__getattribute__") (.ref e) (.str name t) := by
    unfold callGetattribute
    rw [show (expr && onTheHeap (Value.builtin "BaseException.__getattribute__")) = false from by cases expr <;> rfl]
    rfl
  unfold getAttr getAttrBy
  refine wpAny_bind (wpAny_mkText (wpAny_holding (wpAny_bind (L0.at (wpAny_bind (L1.at ?_))))))
  dsimp only
  rw [if_neg (by decide +kernel)]
  unfold getAttrByItsOwn hookBefore
  refine wpAny_bind (m := typeLookup (.ref 52) "__getattr__") (L2.at ?_)
  refine wpAny_bind (wpAny_attempt (wpAny_holding ?_))
  rw [e1]
  unfold boundAndCalled
  rw [FX.ga.bind (.ref e)]
  refine wpAny_bind (wpAny_pure (wpAny_call ?_))
  refine codeAny_call_builtin FX.ga.plain PySem.F.entry_bexc_ga (@check_slot (model PySem.Challenge.rw_og0173_01.row.prog w) _ _ ⟨hp, g, d, t + 1, os⟩ "BaseException.__getattribute__" "BaseException" "__getattribute__" (.ref e) [.str name t] [] _ (by decide +kernel) (by decide +kernel) L4 (PySem.F.args_bexc_ga (.ref e) (.str name t)) ?_)
  unfold Builtin.«object.__getattribute__»
  refine wpAny_bind (wpAny_of_eq (a := (Value.ref e, [Value.str name t])) rfl ?_)
  refine wpAny_bind (wpAny_of_eq (a := name) rfl ?_)
  refine wpAny_bind (L0.at (wpAny_bind (L3.at ?_)))
  refine wpAny_pure ?_
  show wpAny _ _ (handedOut v) _ _ _
  rw [handedOut_of hh]
  exact wpAny_pure h
end
end Mine
end

section
open PySem PySem.W PySem.Calls PyProof.Rows
set_option Elab.async false
set_option maxRecDepth 100000
set_option maxHeartbeats 8000000
set_option linter.unusedVariables false
namespace Mine
theorem ff_name (P : Params) : nsIn (hd173.heap_39 P) mainGlobals (Str.ofString "FilterFault") = some (some (.ref 52)) := by kernel_rfl

section
variable {w : World} {E : Value → Shared → Prop} {s' : Shared} {h₀ h : Heap} {dp un : Nat} {gd : Option (List Code)} {cn n : Str} {cs : Scope} {L a e dx : Addr} {ccd : Value} {cl : List (Str × Addr)} {outer : List Env} {m mg mb : Str → Option Value} {mean : ExcName → Option Value} {p : Program} {loose : List Str}
  {np pos : Pos} {b₀ : Stmt} {suite : List Stmt} {rest : List ExceptHandler} {Q : Flow → Shared → Prop} {news : List (Addr × Obj)}

theorem caught_D (F : Fr h₀ L h m) (hsm : h.UpToSlots s'.heap) (R : RaisedD h₀ (envX cn cs L a ccd cl :: outer) e dx news s'.heap) (X : (hd173.heap_39 w.params).In h₀) (T : Top p loose mean mg mb h₀)
    (k : ∀ h' tk oe, Fr h₀ L h' (fun y => if y = n then some (.ref e) else m y) → News h₀ L h' ((e, oe) :: news) → oe.cls = .ref 52 → oe.dict = some dx → notCls oe = true →
      wpAny (model PySem.Challenge.rw_og0173_01.row.prog w) ((ktrTop dp un gd cn cs L a ccd cl outer).mark (some (.ref e))) (execs (b₀ :: suite) (envX cn cs L a ccd cl))
        (fun f s₄ => wpAny (model PySem.Challenge.rw_og0173_01.row.prog w) (ktrTop dp un gd cn cs L a ccd cl outer) (do bindName (envX cn cs L a ccd cl) n .none; unbindBehindTheSuite (envX cn cs L a ccd cl) n pos) (fun _ s₅ => Q f s₅) E s₄)
        (AsSuiteRaised (model PySem.Challenge.rw_og0173_01.row.prog w) ((ktrTop dp un gd cn cs L a ccd cl outer).mark (some (.ref e))) (envX cn cs L a ccd cl) n pos (notedBy (model PySem.Challenge.rw_og0173_01.row.prog w) ((ktrTop dp un gd cn cs L a ccd cl outer).mark (some (.ref e))) (envX cn cs L a ccd cl) (cameBackBy (model PySem.Challenge.rw_og0173_01.row.prog w) (ktrTop dp un gd cn cs L a ccd cl outer) (envX cn cs L a ccd cl) E)))
        { s' with heap := h', toks := tk })
    (hk : cs.kind = .function) (hx : (envX cn cs L a ccd cl).kindOf (Str.ofString "FilterFault") = some .globalImplicit) (hlo : (envX cn cs L a ccd cl).kindOf n = some .local) :
    wpAny (model PySem.Challenge.rw_og0173_01.row.prog w) (ktrTop dp un gd cn cs L a ccd cl outer) (noteFrame (.ref e) (envX cn cs L a ccd cl))
      (fun _ s₂ => wpAny (model PySem.Challenge.rw_og0173_01.row.prog w) (ktrTop dp un gd cn cs L a ccd cl outer) (setFlight (.ref e) none) (fun _ s₃ =>
        wpAny (model PySem.Challenge.rw_og0173_01.row.prog w) (ktrTop dp un gd cn cs L a ccd cl outer) (handleBy (.ref e) (envX cn cs L a ccd cl) (.ExceptHandler (some (.Name (Str.ofString "FilterFault") np)) (some n) (b₀ :: suite) pos :: rest)) Q E s₃) E s₂) E s' := by
  obtain ⟨B, hB, hl, hfl⟩ := R
  have hL : B.get? L = none := by
    obtain ⟨_, _, ⟨_, ⟨L', _, hf, hn', _⟩, _⟩, _⟩ := hfl
    obtain rfl : L = L' := Option.some.inj hf
    exact hn'
  refine noteNextD rfl rfl hfl fun h₁ x₁ u₁ => ?_
  refine setFlightD x₁ fun h₂ x₂ u₂ => ?_
  have st : ∀ {g : Heap} {fl : Value}, FlyD B (envX cn cs L a ccd cl :: outer) e dx fl g → h₀.StaysIn g := fun x b o q => x.1 b o (hB b o q)
  have F₂ := F.of_stays (st x₂) ((hsm.trans u₁).trans u₂)
  refine wpAny_handleBy_cons (codeAny_handlers_test (nameX_K (s := { s' with heap := h₂ }) F₂ X (topRead_of T) (ff_name w.params) ?_ hk hx)) (by intro q; cases q)
  obtain ⟨hp, g, d, tk, os⟩ := s'
  obtain ⟨oe₂, vs₂, _, _, _, he₂, hcl₂, _⟩ := x₂.2.2.2
  refine wpAny_excMatches_sub_self ((X.keeps F₂.keep) _ _ (ff_look w.params)) he₂ hcl₂ (by decide +kernel) ?_
  refine codeAny_handlers_suite_as (setFlightD (s := ⟨h₂, g, d, tk, os⟩) x₂ fun h₃ x₃ u₃ => ?_)
  have F₃ := F₂.of_stays (st x₃) u₃
  obtain ⟨oe, vs, T', oT, ts, he, hcl, hdx, hd, _⟩ := x₃.2.2.2
  have N₃ : News h₀ L h₃ ((e, oe) :: news) := News.more F₃ (fun q hq => ⟨x₃.1 _ _ (hl q hq).1, (fun z => by have := (hl q hq).1; rw [z, hL] at this; cases this), (hl q hq).2⟩) he
    (fun es n q => by rw [hd] at q; cases q) (fresh_of_stays hB x₃.2.1)
  refine wpAny_storeName_local hlo F₃.ns (fun h₄ hn₄ hs₄ => ?_) (by show (cs.kind == .class || (cs.kind == .module && L != mainGlobals)) = false; rw [hk]; rfl)
  exact k h₄ _ oe (F₃.set hn₄ hs₄) (N₃.set hs₄) hcl hdx (by unfold notCls; rw [hd])

theorem fault_goes {M : Model} {A : Around} {s : Shared} {Q : Unit → Shared → Prop} (F : Fr h₀ L s.heap m) (N : News h₀ L s.heap news)
    (h : ∀ h' v, Fr h₀ L h' (fun x => if x = n then v else m x) → News h₀ L h' news → Q () { s with heap := h', toks := s.toks + 1 })
    (hk : cs.kind = .function) (hl : (envX cn cs L a ccd cl).kindOf n = some .local) :
    wpAny M A (do bindName (envX cn cs L a ccd cl) n .none; unbindBehindTheSuite (envX cn cs L a ccd cl) n pos) Q E s :=
  wpAny_nameGoes_keeps hl F.ns (by show (cs.kind == .class || (cs.kind == .module && L != mainGlobals)) = false; rw [hk]; rfl) fun h' v hn hs => h h' v (F.set hn hs) (N.set hs)
end
end Mine
end

section
open PySem PySem.W PySem.Calls PyProof.Rows
set_option Elab.async false
set_option maxRecDepth 100000
set_option maxHeartbeats 8000000
set_option linter.unusedVariables false
namespace Mine
theorem ff_at (P : Params) (hs : Int × Int) (t1 t2 tx tv : Tok) (x : Str) (v : Int) : findObj (hd173.heap_39 P) 52 (some (dictOf [⟨hs.1, .str (Str.ofString "what") t1, .str x tx⟩, ⟨hs.2, .str (Str.ofString "at") t2, .int v tv⟩] 2)) (Str.ofString "at") = some (.value (.int v tv)) := by kernel_rfl
theorem exc_get_at {w : World} {A : Around} {E : Value → Shared → Prop} {s : Shared} {h₀ : Heap} {L e dx : Addr} {m : Str → Option Value} {oe : Obj} {hs : Int × Int} {t1 t2 tx tv : Tok} {x : Str} {v : Int} {news : List (Addr × Obj)} {expr : Bool} {Q : Value → Shared → Prop} (X : (hd173.heap_39 w.params).In h₀) (F : Fr h₀ L s.heap m)
    (N : News h₀ L s.heap ((e, oe) :: (dx, dictOf [⟨hs.1, .str (Str.ofString "what") t1, .str x tx⟩, ⟨hs.2, .str (Str.ofString "at") t2, .int v tv⟩] 2) :: news)) (hcl : oe.cls = .ref 52) (hdx : oe.dict = some dx) (hno : notCls oe = true) (h : Q (.int v tv) { s with toks := s.toks + 1 }) :
    wpAny (model PySem.Challenge.rw_og0173_01.row.prog w) A (getAttr (.ref e) (Str.ofString "at") expr) Q E s := by
  refine exc_get (X.keeps F.keep) ⟨(N _ (.head _)).1, hcl, hno, ?_⟩ (ff_at w.params hs t1 t2 tx tv x v) rfl h
  rw [hdx]; exact (N _ (.tail _ (.head _))).1
def sumFault (ds : List Int) (at_ : Int) : Int := if (ds.length : Int) < at_ + 4 then (ds.length : Int) else at_
theorem check_bad (w : World) (d o : Array UInt8) (ds os : List Int) (at_ : Int) (t1 t2 t3 : Tok) :
  Call w 8 (fun fs base h₀ L m news s Q E => KBw.bInts d = ds ∧ KBw.bInts o = os ∧ 0 ≤ at_ ∧ ds.length < 2 ^ 20 ∧ ¬ (at_ + 4 ≤ ds.length ∧ beZ (fourOf ds at_) = adlerZ os) ∧
    (∀ (g h' : Heap) (tk' : Nat) (e dx : Addr) (t1 t2 tx tv : Tok) (hs : Int × Int) (x : Str), Fr h₀ L g m → g.UpToSlots h' →
      RaisedD base fs e dx ((dx, dictOf [⟨hs.1, .str (Str.ofString "what") t1, .str x tx⟩, ⟨hs.2, .str (Str.ofString "at") t2, .int (sumFault ds at_) tv⟩] 2) :: news) h' → E (.ref e) { s with heap := h', toks := tk' })) 306 [.bytes d t1, .int at_ t2, .bytes o t3] := by
  intro mean mg mb dp un gd cn cs a ccd cl outer A₀ base h₀ L m news s Q E B F X N T hcs hd hu hret
  obtain ⟨h1, h2, h3, h4, h5, hE⟩ := hret
  refine check_sum_c w d o ds os at_ t1 t2 t3 mean mg mb dp un gd cn cs a ccd cl outer A₀ base h₀ L m news s Q E B F X N T hcs hd hu ⟨h1, h2, h3, h4, fun a b => absurd ⟨a, b⟩ h5, ?_⟩
  intro v hv g h' tk' e dx t1 t2 tx tv hs x F' hU hR
  have e1 : v = sumFault ds at_ := by
    unfold sumFault
    split
    · rcases hv with ⟨hv, _⟩ | ⟨_, hv, _⟩
      · exact hv
      · omega
    · rcases hv with ⟨_, hv⟩ | ⟨hv, _, _⟩
      · omega
      · exact hv
  subst e1
  exact hE g h' tk' e dx t1 t2 tx tv hs x F' hU hR
theorem bad_one {pa bt q : List Int} {tot : Int} (hbl : bt.length = 4) (hbe : beZ bt ≠ tot) (ht : tot = adlerZ q) : ¬ ((pa.length : Int) + 4 ≤ ((pa ++ bt).length : Int) ∧ beZ (fourOf (pa ++ bt) (pa.length : Int)) = adlerZ q) := by
  rintro ⟨_, h⟩
  have e := fourOf_mid (a := pa) (b := bt) (c := []) hbl
  rw [List.append_nil] at e
  rw [e] at h
  exact hbe (h.trans ht.symm)
theorem val_one {pa bt : List Int} (hbl : bt.length = 4) : sumFault (pa ++ bt) (pa.length : Int) = (pa.length : Int) := by
  unfold sumFault
  rw [List.length_append, hbl, if_neg (by omega)]
theorem cut_len {t spot : Int} (h0 : 0 ≤ spot) (h1 : spot < 4) : ((List.take (clipAt (fourZ t).length spot) (fourZ t)).length : Int) = spot := by
  have e : clipAt (fourZ t).length spot = spot.toNat := PyProof.Rows.clipAt_in h0 (by show spot ≤ 4; omega)
  rw [e, List.length_take]
  have : (fourZ t).length = 4 := rfl
  omega
theorem bad_two {pa q : List Int} {t spot : Int} (h0 : 0 ≤ spot) (h1 : spot < 4) : ¬ ((pa.length : Int) + 4 ≤ ((pa ++ List.take (clipAt (fourZ t).length spot) (fourZ t)).length : Int) ∧ beZ (fourOf (pa ++ List.take (clipAt (fourZ t).length spot) (fourZ t)) (pa.length : Int)) = adlerZ q) := by
  rintro ⟨h, _⟩
  have := cut_len (t := t) h0 h1
  rw [List.length_append] at h
  omega
theorem val_two {pa : List Int} {t spot : Int} (h0 : 0 ≤ spot) (h1 : spot < 4) : sumFault (pa ++ List.take (clipAt (fourZ t).length spot) (fourZ t)) (pa.length : Int) = (pa.length : Int) + spot := by
  have := cut_len (t := t) h0 h1
  unfold sumFault
  rw [List.length_append, if_pos (by omega)]
  omega
end Mine
end

section
open PySem PySem.W PySem.Calls PyProof.Rows
set_option Elab.async false
set_option maxRecDepth 100000
set_option maxHeartbeats 8000000
set_option linter.unusedVariables false
namespace Mine
theorem kw_W6 : True := by k_with_none; w_top off; trivial
local macro_rules | `(tactic| walk_at "exec For Name Call cons nil") => `(tactic| (k_here; (rename Fr _ _ _ _ => lF'); (with_unfolding_all refine' For_invVF (hE := ?k3) lF' ?k1 ?k2 ?_; (case k1 => exact rfl); (case k2 => exact rfl); (case k3 => assumption); k_whole)))
theorem law_frame (w : World) (cs : Scope) (cl : List (Str × Addr)) (c : Addr) (dp un : Nat) (gd : Option (List Code)) (a : Addr) (ccd : Value) (outer : List Env) (A₀ : Around) (base h₀ : Heap) (mean : ExcName → Option Value) (mg mb : Str → Option Value) (L : Addr) (Q : Flow → Shared → Prop) (E : Value → Shared → Prop) (body : List Stmt)
    (I : LawIn w cs cl c dp un outer A₀ base h₀ mean mg mb) (hb : body = lawBody.drop 13) (hE : PassesOwn (model PySem.Challenge.rw_og0173_01.row.prog w) (ktrTop dp un gd (Str.ofString "law") cs L a ccd cl outer) (envX (Str.ofString "law") cs L a ccd cl) E)
    (l D : Addr) (oc : Obj) (n : Nat) (x y : Int) (tx ty tw tt tah tfo t0 t1 t2 : Tok) (b0 b1 b2 ah fo : Array UInt8) (p0 p1 p2 pa : List Int) (hb0 : KBw.bInts b0 = p0) (hb1 : KBw.bInts b1 = p1) (hb2 : KBw.bInts b2 = p2) (hz0 : p0.length ≤ 10) (hz1 : p1.length ≤ 10) (hz2 : p2.length ≤ 10) (hah : KBw.bInts ah = pa) (hza : pa.length ≤ 10) (wh : Array UInt8) (q : List Int) (tot : Int) (u : Str → Option Value) (s : Shared)
    (hwh : KBw.bInts wh = q) (hq : q = p0 ++ p1 ++ p2) (htot : tot = adlerZ q) (ht0 : 0 ≤ tot) (ht1 : tot < 2 ^ 32) (hfo : KBw.bInts fo = fourZ tot)
    (F : Fr h₀ L s.heap (lawN D wh tw tot tt ah tah fo tfo u)) (N : News h₀ L s.heap [(l, millO n x y tx ty), (c, oc), (D, LCg.lst [.bytes b0 t0, .bytes b1 t1, .bytes b2 t2])])
    (next : ∀ (tfr : Tok) (fr : Array UInt8) (u : Str → Option Value) (h : Heap) (tk : Nat), KBw.bInts fr = frameZ p0 p1 p2 → Fr h₀ L h (lawP D wh tw tot tt ah tah fo tfo fr tfr u) →
      News h₀ L h [(l, millO n x y tx ty), (c, oc), (D, LCg.lst [.bytes b0 t0, .bytes b1 t1, .bytes b2 t2])] → 
      LawRun w cs cl dp un gd a ccd outer L Q E (lawBody.drop 15) { s with heap := h, toks := tk }) :
    LawRun w cs cl dp un gd a ccd outer L Q E body s := by
  obtain ⟨B, X, T, hcs, hcl', hd, hu⟩ := I
  conv at hcs => rhs; whnf
  conv at hb => rhs; whnf
  conv at hcl' => rhs; whnf
  subst hcs hb hcl'
  unfold LawRun
  revert X; k_fill; intro X
  refine wpG_execs_cons (wpG_any ?_)
  k_steps
  refine wpG_execs_cons (wpG_any ?_)
  k_steps
  (rename Fr h₀ _ _ _ => kF); (rename News h₀ _ _ _ => kN); (rename KBw.bInts _ = _ ++ _ ++ p2 => hw)
  exact next _ _ _ _ _ (hw.trans rfl) (fr_if (fr_lawN kF rfl rfl rfl rfl rfl) rfl) (news_tail (news_tail (news_tail kN)))
end Mine
end

section
open PySem PySem.W PySem.Calls PyProof.Rows
set_option Elab.async false
set_option maxRecDepth 100000
set_option maxHeartbeats 8000000
set_option linter.unusedVariables false
namespace Mine
theorem kw_W7 : True := by k_with_none; w_top off; trivial

theorem bInts_inj {a b : Array UInt8} (h : KBw.bInts a = KBw.bInts b) : a = b := by
  unfold KBw.bInts at h
  have h1 : a.toList = b.toList := List.map_inj_right (f := fun c : UInt8 => (c.toNat : Int)) (fun x y e => UInt8.toNat_inj.mp (by omega)) |>.mp h
  exact Array.toList_inj.mp h1
theorem law_zlib (w : World) (cs : Scope) (cl : List (Str × Addr)) (c : Addr) (dp un : Nat) (gd : Option (List Code)) (a : Addr) (ccd : Value) (outer : List Env) (A₀ : Around) (base h₀ : Heap) (mean : ExcName → Option Value) (mg mb : Str → Option Value) (L : Addr) (Q : Flow → Shared → Prop) (E : Value → Shared → Prop) (body : List Stmt)
    (I : LawIn w cs cl c dp un outer A₀ base h₀ mean mg mb) (hb : body = lawBody.drop 15)
    (l D : Addr) (oc : Obj) (n : Nat) (x y : Int) (tx ty tw tt tah tfo t0 t1 t2 : Tok) (b0 b1 b2 ah fo : Array UInt8) (p0 p1 p2 pa : List Int) (hb0 : KBw.bInts b0 = p0) (hb1 : KBw.bInts b1 = p1) (hb2 : KBw.bInts b2 = p2) (hz0 : p0.length ≤ 10) (hz1 : p1.length ≤ 10) (hz2 : p2.length ≤ 10) (hah : KBw.bInts ah = pa) (hza : pa.length ≤ 10) (wh : Array UInt8) (q : List Int) (tot : Int) (u : Str → Option Value) (s : Shared)
    (hwh : KBw.bInts wh = q) (hq : q = p0 ++ p1 ++ p2) (htot : tot = adlerZ q) (ht0 : 0 ≤ tot) (ht1 : tot < 2 ^ 32) (hfo : KBw.bInts fo = fourZ tot)
    (tfr : Tok) (fr : Array UInt8) (hfr : KBw.bInts fr = frameZ p0 p1 p2)
    (F : Fr h₀ L s.heap (lawP D wh tw tot tt ah tah fo tfo fr tfr u)) (N : News h₀ L s.heap [(l, millO n x y tx ty), (c, oc), (D, LCg.lst [.bytes b0 t0, .bytes b1 t1, .bytes b2 t2])])
    (next : ∀ (u : Str → Option Value) (h : Heap) (tk : Nat), Fr h₀ L h (lawP D wh tw tot tt ah tah fo tfo fr tfr u) →
      News h₀ L h [(l, millO n x y tx ty), (c, oc), (D, LCg.lst [.bytes b0 t0, .bytes b1 t1, .bytes b2 t2])] → 
      LawRun w cs cl dp un gd a ccd outer L Q E (lawBody.drop 16) { s with heap := h, toks := tk }) :
    LawRun w cs cl dp un gd a ccd outer L Q E body s := by
  obtain ⟨B, X, T, hcs, hcl', hd, hu⟩ := I
  conv at hcs => rhs; whnf
  conv at hb => rhs; whnf
  conv at hcl' => rhs; whnf
  subst hcs hb hcl'
  unfold LawRun
  revert X; k_fill; intro X
  have zl := zl_facts (p0 := p0) (p1 := p1) (p2 := p2) (f := fourZ tot) (c := pa) rfl hz0 hz1 hz2 hza
  have hfl : (frameZ p0 p1 p2).length ≤ 60 := by have := frame_len p0 p1 p2; omega
  have hf4 : (fourZ tot).length = 4 := rfl
  refine wpG_execs_cons (wpG_If (wpG_isTrue_Compare1 (callG_1 ?_ rfl)))
  k_steps
  refine fnG_1 ?_
  k_steps
  (rename Fr h₀ L _ _ => kF2); (rename News h₀ L _ _ => kN2); (rename Frag.In _ _ => kX); (rename KBw.bInts _ = _ ++ _ ++ pa => kD)
  refine ⟨?fn, ?_⟩
  case fn =>
    obtain ⟨o9, h9, fd9, d9⟩ : ∃ o9, (hd173.heap_39 w.params).lookup 313 = some o9 ∧ ∃ fd, o9.data = .func fd := ⟨_, rfl, _, rfl⟩
    exact ⟨o9, fd9, (kX.keeps kF2.keep) _ _ h9, d9⟩
  k_dflt (refine' zlib_c _ _ _ _ _ _ _ _ _ _ _ _ _ _ _ _ _ _ _ _ _ _ _ _ ?xk1 ?xk2 ?xk3 ?xk4 ?xk5 ?xk6 ?xk7 ?xk8 ⟨_, [p0, p1, p2], _, kD, zl.1, zl.2.1, zl.2.2.1, zl.2.2.2.1, zl.2.2.2.2.1, zl.2.2.2.2.2.1, zl.2.2.2.2.2.2.1, zl.2.2.2.2.2.2.2.1, zl.2.2.2.2.2.2.2.2.1, ?zok, ?zbad⟩; (case xk4 => exact kN2); (case xk1 => k_asm); (case xk2 => k_asm); (case xk3 => k_asm); (case xk5 => k_asm); (case xk6 => first | exact rfl | assumption); (case xk7 => ktr_room); (case xk8 => ktr_units))
  case zbad =>
    intro hne
    exact absurd ((congrArg beZ zl.2.2.2.2.2.2.2.2.2).trans ((be_four ht0 ht1).trans (htot.trans (by rw [hq]; simp)))) hne
  case zok =>
    intro _ h' tk' r tr F3 N3 hr
    have hr' : r = wh := bInts_inj (hr.trans (by rw [hwh, hq]; simp))
    clear hr
    subst hr'
    k_steps
    · (rename (_ != _) = true => hb9)
      exact absurd hb9 (by simp)
    · refine wpG_any (wpAny_execs_nil ?_)
      exact next _ _ _ F3 N3
end Mine
end

section
open PySem PySem.W PySem.Calls PyProof.Rows
set_option Elab.async false
set_option maxRecDepth 100000
set_option maxHeartbeats 8000000
set_option linter.unusedVariables false
namespace Mine
theorem kw_W8 : True := by k_with_none; w_top off; trivial
local macro_rules | `(tactic| walk_at "call ref") => `(tactic| (k_here; (rename News _ _ _ _ => nN); k_dflt (refine' law_ask_c _ _ _ _ _ _ _ _ _ _ _ _ _ _ _ _ _ _ _ _ _ _ _ _ _ ?xk1 ?xk2 ?xk3 ?xk4 ?xk5 ?xk6 ?xk7 ?xk8 ⟨_, _, _, _, _, _, rfl, ?xp2, ?xp3, ?xp4, ?xp5, ?xp6, ?xp7, ?xp8, ?_⟩; (case xk4 => first | exact nN | (have nT := news_tail nN; first | exact nT | (have nU := news_tail nT; first | exact nU | (have nV := news_tail nU; exact nV)))); (case xk1 => k_asm); (case xk2 => k_asm); (case xk3 => k_asm); (case xk5 => k_asm); (case xk6 => first | exact rfl | assumption); (case xk7 => ktr_room); (case xk8 => ktr_units); (case xp2 => k_all); (case xp3 => first | decide | omega); (case xp4 => first | decide | omega); (case xp5 => assumption); (case xp6 => assumption); (case xp7 => first | assumption | omega); (case xp8 => omega); k_whole); intro t9 h9 tk9 x9 y9 tx9 ty9 r9 F9 N9 hx9 hX9 hy9 hY9 hr9 hR9; (try simp only [List.nil_append, List.cons_append] at N9); (try dsimp only); (try k_fold)))
local macro_rules | `(tactic| walk_at "call type:list") => `(tactic| (k_here; (with_reducible show wpAny _ _ (call (Value.type "list") [Value.bytes _ _]) _ _ _); k_dflt (refine' list_bytes_M ?xF ?xN ?xh ?xb ?xn ?_; (case xF => k_asm); (case xN => k_asm); (case xh => exact rfl); (case xb => kba_ints); (case xn => kba_size)); intro B9 vs9 k9 h9 tk9 hi9 F9 N9 hl9; (try simp only [List.nil_append, List.cons_append] at N9)))
theorem law_bent (w : World) (cs : Scope) (cl : List (Str × Addr)) (c : Addr) (dp un : Nat) (gd : Option (List Code)) (a : Addr) (ccd : Value) (outer : List Env) (A₀ : Around) (base h₀ : Heap) (mean : ExcName → Option Value) (mg mb : Str → Option Value) (L : Addr) (Q : Flow → Shared → Prop) (E : Value → Shared → Prop) (body : List Stmt)
    (I : LawIn w cs cl c dp un outer A₀ base h₀ mean mg mb) (hb : body = lawBody.drop 16)
    (l D : Addr) (oc : Obj) (n : Nat) (x y : Int) (tx ty tw tt tah tfo t0 t1 t2 : Tok) (b0 b1 b2 ah fo : Array UInt8) (p0 p1 p2 pa : List Int) (hb0 : KBw.bInts b0 = p0) (hb1 : KBw.bInts b1 = p1) (hb2 : KBw.bInts b2 = p2) (hz0 : p0.length ≤ 10) (hz1 : p1.length ≤ 10) (hz2 : p2.length ≤ 10) (hah : KBw.bInts ah = pa) (hza : pa.length ≤ 10) (wh : Array UInt8) (q : List Int) (tot : Int) (u : Str → Option Value) (s : Shared)
    (hwh : KBw.bInts wh = q) (hq : q = p0 ++ p1 ++ p2) (htot : tot = adlerZ q) (ht0 : 0 ≤ tot) (ht1 : tot < 2 ^ 32) (hfo : KBw.bInts fo = fourZ tot)
    (tfr : Tok) (fr : Array UInt8) (hfr : KBw.bInts fr = frameZ p0 p1 p2)
    (F : Fr h₀ L s.heap (lawP D wh tw tot tt ah tah fo tfo fr tfr u)) (N : News h₀ L s.heap [(l, millO n x y tx ty), (c, oc), (D, LCg.lst [.bytes b0 t0, .bytes b1 t1, .bytes b2 t2])])
    (hoc : oc.data = .cell (some (.ref l))) (hpost : ∀ p ∈ [(c, oc), (D, LCg.lst [.bytes b0 t0, .bytes b1 t1, .bytes b2 t2])], p.1 ≠ l) (hx0 : 0 ≤ x) (hx1 : x < 2 ^ 1000) (hy0 : 0 ≤ y) (hy1 : y ≤ 39)
    (next : ∀ (C1 B : Addr) (vs : List Value) (k : Nat) (bt : List Int) (spot : Int) (tsp : Tok) (u : Str → Option Value) (h : Heap) (tk : Nat), Fr h₀ L h (lawB wh tw ah tah fo tfo fr tfr B spot tsp C1 u) →
      News h₀ L h [(C1, W.listOf #[] 0), (B, W.listOf vs.toArray k)] → @Ne Nat B C1 → IntsAre vs bt → bt.length = 4 → KBa.In bt → beZ bt ≠ tot → 0 ≤ spot → spot < 4 →
      LawRun w cs cl dp un gd a ccd outer L Q E (lawBody.drop 20) { s with heap := h, toks := tk }) :
    LawRun w cs cl dp un gd a ccd outer L Q E body s := by
  obtain ⟨B, X, T, hcs, hcl', hd, hu⟩ := I
  conv at hcs => rhs; whnf
  conv at hb => rhs; whnf
  conv at hcl' => rhs; whnf
  subst hcs hb hcl'
  unfold LawRun
  revert X; k_fill; intro X
  have hf4 : (fourZ tot).length = 4 := rfl
  refine wpG_execs_cons (wpG_any ?_)
  k_steps
  (rename IntsAre _ (fourZ tot) => hi); (rename ∀ p ∈ _, @LT.lt Nat _ _ _ => hlt)
  have hcl : @Ne Nat c l := hpost _ (.head _)
  have hDl : @Ne Nat D l := hpost _ (.tail _ (.head _))
  have hBl := Ne.symm (Nat.ne_of_lt (hlt (l, _) (.head _)))
  have hcB := Nat.ne_of_lt (hlt (c, _) (.tail _ (.head _)))
  have hDB := Nat.ne_of_lt (hlt (D, _) (.tail _ (.tail _ (.head _))))
  dsimp only at hBl hcB hDB
  clear hpost hlt
  refine wpG_execs_cons (wpG_any ?_)
  k_steps
  refine wpG_execs_cons (wpG_any ?_)
  k_steps
  refine wpG_execs_cons (wpG_any ?_)
  k_steps
  (rename Fr h₀ _ _ _ => kF); (rename News h₀ _ _ _ => kN); (rename IntsAre _ (List.set _ _ _) => hi2); (rename _ ∧ _ ∧ _ ∧ _ => l9)
  refine next _ _ _ _ _ _ _ _ _ _ (fr_lawB kF rfl rfl rfl rfl rfl rfl rfl) (news_ends kN) (Nat.ne_of_lt l9.2.2.2) hi2 ?e1 ?e2 ?e3 (by assumption) (by assumption)
  case e1 => refine And.left (bent_fact (t := tot) ht0 ht1 ?_ ?_ ?_ ?_) <;> assumption
  case e2 => refine And.left (And.right (bent_fact (t := tot) ht0 ht1 ?_ ?_ ?_ ?_)) <;> assumption
  case e3 => refine And.right (And.right (bent_fact (t := tot) ht0 ht1 ?_ ?_ ?_ ?_)) <;> assumption
end Mine
end

section
open PySem PySem.W PySem.Calls PyProof.Rows
set_option Elab.async false
set_option maxRecDepth 100000
set_option maxHeartbeats 8000000
set_option linter.unusedVariables false
namespace Mine
theorem kw_W9 : True := by k_with_none; w_top off; trivial

theorem law_try (w : World) (cs : Scope) (cl : List (Str × Addr)) (c : Addr) (dp un : Nat) (gd : Option (List Code)) (a : Addr) (ccd : Value) (outer : List Env) (A₀ : Around) (h₀ : Heap) (mean : ExcName → Option Value) (mg mb : Str → Option Value) (L : Addr) (Q : Flow → Shared → Prop) (E : Value → Shared → Prop) (body : List Stmt)
    (I : LawIn w cs cl c dp un outer A₀ h₀ h₀ mean mg mb) (hb : body = lawBody.drop 20)
    (C1 B : Addr) (vs : List Value) (k : Nat) (bt : List Int) (spot : Int) (tw tah tfo tfr tsp : Tok) (wh ah fo fr : Array UInt8) (p0 p1 p2 pa q : List Int) (tot : Int) (u : Str → Option Value) (s : Shared)
    (hz0 : p0.length ≤ 10) (hz1 : p1.length ≤ 10) (hz2 : p2.length ≤ 10) (hah : KBw.bInts ah = pa) (hza : pa.length ≤ 10) (hwh : KBw.bInts wh = q) (hq : q = p0 ++ p1 ++ p2) (htot : tot = adlerZ q) (ht0 : 0 ≤ tot) (ht1 : tot < 2 ^ 32) (hfo : KBw.bInts fo = fourZ tot) (hfr : KBw.bInts fr = frameZ p0 p1 p2)
    (F : Fr h₀ L s.heap (lawB wh tw ah tah fo tfo fr tfr B spot tsp C1 u)) (hBC : @Ne Nat B C1) (hi : IntsAre vs bt) (hbl : bt.length = 4) (hbi : KBa.In bt) (hbe : beZ bt ≠ tot) (hs0 : 0 ≤ spot) (hs1 : spot < 4)
    (N : News h₀ L s.heap [(C1, W.listOf #[] 0), (B, W.listOf vs.toArray k)])
    (next : ∀ (tc : Tok) (n : Nat) (u : Str → Option Value) (h : Heap) (tk : Nat), Fr h₀ L h (lawB wh tw ah tah fo tfo fr tfr B spot tsp C1 u) →
      News h₀ L h [(C1, W.listOf #[.int 0 tc] n), (B, W.listOf vs.toArray k)] → 
      LawRun w cs cl dp un gd a ccd outer L Q E (lawBody.drop 21) { s with heap := h, toks := tk }) :
    LawRun w cs cl dp un gd a ccd outer L Q E body s := by
  obtain ⟨B, X, T, hcs, hcl', hd, hu⟩ := I
  conv at hcs => rhs; whnf
  conv at hb => rhs; whnf
  conv at hcl' => rhs; whnf
  subst hcs hb hcl'
  unfold LawRun
  revert X; k_fill; intro X
  have zl := zl_facts (p0 := p0) (p1 := p1) (p2 := p2) (f := bt) (c := []) hbl hz0 hz1 hz2 (Nat.zero_le _)
  have hfl : (frameZ p0 p1 p2).length ≤ 60 := by have := frame_len p0 p1 p2; omega
  refine wpG_execs_cons (wpG_Try rfl ?_)
  refine wpG_execs_cons (wpG_Expr (callG_1 ?_ rfl) rfl rfl)
  k_steps
  refine fnG_1 ?_
  k_steps
  (rename Fr h₀ L _ _ => kF2); (rename News h₀ L _ _ => kN2); (rename Frag.In _ _ => kX); (rename KBw.bInts _ = _ ++ bt => kD)
  refine ⟨?fn, ?_⟩
  case fn =>
    obtain ⟨o9, h9, fd9, d9⟩ : ∃ o9, (hd173.heap_39 w.params).lookup 313 = some o9 ∧ ∃ fd, o9.data = .func fd := ⟨_, rfl, _, rfl⟩
    exact ⟨o9, fd9, (kX.keeps kF2.keep) _ _ h9, d9⟩
  k_dflt (refine' zlib_c _ _ _ _ _ _ _ _ _ _ _ _ _ _ _ _ _ _ _ _ _ _ _ _ ?xk1 ?xk2 ?xk3 ?xk4 ?xk5 ?xk6 ?xk7 ?xk8 ⟨_, [p0, p1, p2], _, kD.trans (List.append_nil _).symm, zl.1, zl.2.1, zl.2.2.1, zl.2.2.2.1, zl.2.2.2.2.1, zl.2.2.2.2.2.1, zl.2.2.2.2.2.2.1, zl.2.2.2.2.2.2.2.1, zl.2.2.2.2.2.2.2.2.1, ?zok, ?zbad⟩; (case xk4 => exact kN2); (case xk1 => k_asm); (case xk2 => k_asm); (case xk3 => k_asm); (case xk5 => k_asm); (case xk6 => first | exact rfl | assumption); (case xk7 => ktr_room); (case xk8 => ktr_units))
  case zok =>
    intro hbe'
    exact absurd ((congrArg beZ zl.2.2.2.2.2.2.2.2.2).symm.trans (hbe'.trans (by rw [htot, hq]; simp))) hbe
  case zbad =>
    intro _ g h' tk' ex dx t1 t2 tx tv hs x F3 hU hR
    refine caught_D F3 hU hR kX T ?_ rfl rfl rfl
    intro h5 tk5 oe F5 N5 hcl hdx hno
    clear F3 hU hR kF2 kN2
    k_steps
    (rename Frag.In _ _ => kX); (rename Fr h₀ L _ _ => F5); (rename News h₀ L _ _ => N5)
    refine exc_get (kX.keeps F5.keep) ⟨(N5 _ (.head _)).1, hcl, hno, ?_⟩ (ff_at w.params hs t1 t2 tx tv x ((frameZ p0 p1 p2).length : Int)) rfl ?_
    · rw [hdx]; exact (N5 _ (.tail _ (.head _))).1
    have N6 := news_tail (news_tail N5)
    clear N5
    k_steps
    (rename Fr h₀ L _ _ => F7); (rename News h₀ L _ _ => N7)
    refine fault_goes F7 N7 (fun h8 v8 F8 N8 => ?_) rfl rfl
    rw [Int.sub_self] at N8
    exact next _ _ _ _ _ (fr_lawB F8 rfl rfl rfl rfl rfl rfl rfl) N8
end Mine
end

section
open PySem PySem.W PySem.Calls PyProof.Rows
set_option Elab.async false
set_option maxRecDepth 100000
set_option maxHeartbeats 8000000
set_option linter.unusedVariables false
namespace Mine
theorem kw_W10 : True := by k_with_none; w_top off; trivial
local macro_rules | `(tactic| walk_at "call ref") => `(tactic| (k_here; (rename News _ _ _ _ => nN); k_dflt (refine' check_bad _ _ _ _ _ _ _ _ _ _ _ _ _ _ _ _ _ _ _ _ _ _ _ _ _ _ _ _ _ _ ?xk1 ?xk2 ?xk3 ?xk4 ?xk5 ?xk6 ?xk7 ?xk8 ⟨?xp1, ?xp2, ?xp3, ?xp4, ?xp5, ?_⟩; (case xk4 => exact nN); (case xp1 => kba_ints); (case xp2 => kba_ints); (case xp3 => first | omega | l_fact); (case xp4 => first | omega | kba_size); (case xp5 => assumption); (case xk1 => k_asm); (case xk2 => k_asm); (case xk3 => k_asm); (case xk5 => k_asm); (case xk6 => first | exact rfl | assumption); (case xk7 => ktr_room); (case xk8 => ktr_units)); intro g9 h9 tk9 ex9 dx9 ta9 tb9 tc9 td9 hs9 x9 F9 U9 R9))
local macro_rules | `(tactic| walk_at "exec For Name Tuple cons nil") => `(tactic| (k_here; (rename Fr _ _ _ _ => lF'); (with_unfolding_all refine' For_turns (hE := ?k3) lF' ?_; (case k3 => assumption); k_whole)))
local macro_rules | `(tactic| walk_at "exec Try") => `(tactic| (k_here; refine wpAny_Try_except ?_))
local macro_rules | `(tactic| walk_at "noteFrame ref") => `(tactic| (k_here; (rename RaisedD _ _ _ _ _ _ => rR); (rename Heap.UpToSlots _ _ => rU); (rename Frag.In _ _ => rX); (rename Top _ _ _ _ _ _ => rT); (rename Fr _ _ _ _ => rF); k_dflt (refine caught_D rF rU rR rX rT ?_ rfl rfl rfl); (clear rF rU rR); intro h9 tk9 oe9 F9 N9 hcl9 hdx9 hno9))
local macro_rules | `(tactic| walk_at "getAttr ref") => `(tactic| (k_here; (rename Frag.In _ _ => rX); (rename Fr _ _ _ _ => rF); (rename News _ _ _ _ => rN); (rename Obj.cls _ = _ => rC); (rename Obj.dict _ = _ => rD); (rename notCls _ = _ => rO); k_dflt (refine exc_get_at rX rF rN rC rD rO ?_); (have rM := news_tail (news_tail rN)); (clear rN)))
local macro_rules | `(tactic| walk_at "bind") => `(tactic| (k_here; (rename Fr _ _ _ _ => rF); (rename News _ _ _ _ => rN); k_dflt (refine fault_goes rF rN (fun h9 v9 F9 N9 => ?_) rfl rfl)))

theorem news_one {h₀ h : Heap} {L : Addr} {a b : Addr × Obj} (N : News h₀ L h [a, b]) : News h₀ L h [a] := fun p hp => by
  rw [List.mem_singleton.mp hp]; exact N _ (.head _)
theorem law_two (w : World) (cs : Scope) (cl : List (Str × Addr)) (c : Addr) (dp un : Nat) (gd : Option (List Code)) (a : Addr) (ccd : Value) (outer : List Env) (A₀ : Around) (h₀ : Heap) (mean : ExcName → Option Value) (mg mb : Str → Option Value) (L : Addr) (Q : Flow → Shared → Prop) (E : Value → Shared → Prop) (body : List Stmt)
    (I : LawIn w cs cl c dp un outer A₀ h₀ h₀ mean mg mb) (hb : body = lawBody.drop 21) (hE : PassesOwn (model PySem.Challenge.rw_og0173_01.row.prog w) (ktrTop dp un gd (Str.ofString "law") cs L a ccd cl outer) (envX (Str.ofString "law") cs L a ccd cl) E)
    (C1 B : Addr) (vs : List Value) (k : Nat) (bt : List Int) (spot : Int) (tw tah tfo tfr tsp : Tok) (wh ah fo fr : Array UInt8) (p0 p1 p2 pa q : List Int) (tot : Int) (u : Str → Option Value) (s : Shared)
    (hz0 : p0.length ≤ 10) (hz1 : p1.length ≤ 10) (hz2 : p2.length ≤ 10) (hah : KBw.bInts ah = pa) (hza : pa.length ≤ 10) (hwh : KBw.bInts wh = q) (hq : q = p0 ++ p1 ++ p2) (htot : tot = adlerZ q) (ht0 : 0 ≤ tot) (ht1 : tot < 2 ^ 32) (hfo : KBw.bInts fo = fourZ tot) (hfr : KBw.bInts fr = frameZ p0 p1 p2)
    (F : Fr h₀ L s.heap (lawB wh tw ah tah fo tfo fr tfr B spot tsp C1 u)) (hBC : @Ne Nat B C1) (hi : IntsAre vs bt) (hbl : bt.length = 4) (hbi : KBa.In bt) (hbe : beZ bt ≠ tot) (hs0 : 0 ≤ spot) (hs1 : spot < 4)
    (tc : Tok) (nc : Nat) (N : News h₀ L s.heap [(C1, W.listOf #[.int 0 tc] nc), (B, W.listOf vs.toArray k)])
    (next : ∀ (ta tb : Tok) (n : Nat) (u : Str → Option Value) (h : Heap) (tk : Nat), Fr h₀ L h (lawB wh tw ah tah fo tfo fr tfr B spot tsp C1 u) →
      News h₀ L h [(C1, W.listOf #[.int 0 tc, .int (pa.length : Int) ta, .int ((pa.length : Int) + spot) tb] n)] → 
      LawRun w cs cl dp un gd a ccd outer L Q E (lawBody.drop 22) { s with heap := h, toks := tk }) :
    LawRun w cs cl dp un gd a ccd outer L Q E body s := by
  obtain ⟨B, X, T, hcs, hcl', hd, hu⟩ := I
  conv at hcs => rhs; whnf
  conv at hb => rhs; whnf
  conv at hcl' => rhs; whnf
  subst hcs hb hcl'
  unfold LawRun
  revert X; k_fill; intro X
  have hf4 : (fourZ tot).length = 4 := rfl
  have f1 := bad_one (pa := pa) hbl hbe htot
  have f2 := bad_two (pa := pa) (q := q) (t := tot) hs0 hs1
  refine wpG_execs_cons (wpG_any ?_)
  k_steps
  (rename Fr h₀ _ _ _ => kF); (rename News h₀ _ _ _ => kN)
  rw [val_one hbl, val_two hs0 hs1] at kN
  have kN2 := news_tail kN
  refine next _ _ _ _ _ _ (fr_lawB kF rfl rfl rfl rfl rfl rfl rfl) (news_one kN2)
end Mine
end

end

section
open PySem PySem.W PySem.Calls PyProof.Rows
set_option Elab.async false
set_option maxRecDepth 100000
set_option maxHeartbeats 8000000
set_option linter.unusedVariables false
namespace Mine
theorem kw_W11 : True := by k_with_none; w_top off; trivial

theorem law_end (w : World) (cs : Scope) (cl : List (Str × Addr)) (c : Addr) (dp un : Nat) (gd : Option (List Code)) (a : Addr) (ccd : Value) (outer : List Env) (A₀ : Around) (h₀ : Heap) (mean : ExcName → Option Value) (mg mb : Str → Option Value) (L : Addr) (Q : Flow → Shared → Prop) (E : Value → Shared → Prop) (body : List Stmt)
    (I : LawIn w cs cl c dp un outer A₀ h₀ h₀ mean mg mb) (hb : body = lawBody.drop 22)
    (C1 B : Addr) (vs : List Value) (k : Nat) (bt : List Int) (spot : Int) (tw tah tfo tfr tsp : Tok) (wh ah fo fr : Array UInt8) (p0 p1 p2 pa q : List Int) (tot : Int) (u : Str → Option Value) (s : Shared)
    (hz0 : p0.length ≤ 10) (hz1 : p1.length ≤ 10) (hz2 : p2.length ≤ 10) (hah : KBw.bInts ah = pa) (hza : pa.length ≤ 10) (hwh : KBw.bInts wh = q) (hq : q = p0 ++ p1 ++ p2) (htot : tot = adlerZ q) (ht0 : 0 ≤ tot) (ht1 : tot < 2 ^ 32) (hfo : KBw.bInts fo = fourZ tot) (hfr : KBw.bInts fr = frameZ p0 p1 p2)
    (F : Fr h₀ L s.heap (lawB wh tw ah tah fo tfo fr tfr B spot tsp C1 u)) (hBC : @Ne Nat B C1) (hi : IntsAre vs bt) (hbl : bt.length = 4) (hbi : KBa.In bt) (hbe : beZ bt ≠ tot) (hs0 : 0 ≤ spot) (hs1 : spot < 4)
    (tc ta tb : Tok) (nc : Nat) (N : News h₀ L s.heap [(C1, W.listOf #[.int 0 tc, .int (pa.length : Int) ta, .int ((pa.length : Int) + spot) tb] nc)])
    (next : ∀ (m : Str → Option Value) (news : List (Addr × Obj)) (h : Heap) (tk : Nat), Fr h₀ L h m → News h₀ L h news → Q (.ret (.bool true)) { s with heap := h, toks := tk }) :
    LawRun w cs cl dp un gd a ccd outer L Q E body s := by
  obtain ⟨B, X, T, hcs, hcl', hd, hu⟩ := I
  conv at hcs => rhs; whnf
  conv at hb => rhs; whnf
  conv at hcl' => rhs; whnf
  subst hcs hb hcl'
  unfold LawRun
  revert X; k_fill; intro X
  refine wpG_execs_cons (wpG_any ?_)
  k_steps
  (rename Fr h₀ _ _ _ => kF); (rename News h₀ _ _ _ => kN)
  exact next _ _ _ _ kF kN
end Mine
end

end

section
open PySem PySem.W PySem.Calls PyProof.Rows
set_option Elab.async false
set_option maxRecDepth 100000
set_option maxHeartbeats 8000000
set_option linter.unusedVariables false
namespace Mine
abbrev millLed (D l c : Addr) (ws : List Value) (o : Obj) (v : Int) (tv : Tok) (t0 : Tok) (k : Nat) : List (Addr × Obj) :=
  [(D, W.listOf ws.toArray 0), (l, W.listOf #[.int v tv, .int 0 t0] k), (c, o)]
def MillJ (D l c : Addr) (ws : List Value) (o : Obj) (t0 : Tok) (m₀ : Str → Option Value) (i : Nat) (m' : Str → Option Value) (nx : List (Addr × Obj)) : Prop :=
  (∀ z, z ≠ Str.ofString "cell" → m' z = m₀ z) ∧ ∃ v tv k, nx = millLed D l c ws o v tv t0 k ∧ 0 ≤ v ∧ v < 4099 ^ i

theorem mill_loop {prog : Program} {w : World} {A : Around} {E : Value → Shared → Prop} {s : Shared} {env : Env} {h₀ : Heap} {body : List Stmt} {Q : Flow → Shared → Prop} {m₀ : Str → Option Value}
    {D l c : Addr} {ws : List Value} {ns : List Int} {o : Obj} {tv t0 : Tok}
    (hh : A.handled = none) (hi : IntsAre ws ns) (F : Fr h₀ env.locals s.heap m₀) (N : News h₀ env.locals s.heap (millLed D l c ws o 0 tv t0 0))
    (turn : ∀ (i : Nat) (n v : Int) (tv t : Tok) (k : Nat) h tk own, ns[i]? = some n → 0 ≤ v → v < 4099 ^ i → OwnOff own [D, l, c] →
      Fr h₀ env.locals h (fun y => if y = Str.ofString "cell" then some (.int n t) else m₀ y) → News h₀ env.locals h (millLed D l c ws o v tv t0 k ++ own) →
      wpAny (model prog w) A (execs body env) (InvPostN h₀ env.locals (MillJ D l c ws o t0 m₀ (i + 1)) own [D, l, c] { s with heap := h, toks := tk } Q) E { s with heap := h, toks := tk })
    (done : ∀ (v : Int) (tv : Tok) (k : Nat) (u : Str → Option Value) h tk, 0 ≤ v → v < 4099 ^ ns.length → Fr h₀ env.locals h (fun y => if y = Str.ofString "cell" then u y else m₀ y) →
      News h₀ env.locals h (millLed D l c ws o v tv t0 k) → Q .next { s with heap := h, toks := tk }) :
    wpAny (model prog w) A (pyIter (.ref D)) (fun it s₂ => LoopAtV prog w A h₀ env (Str.ofString "cell") body Q E it s₂) E s := by
  refine iter_invNL (nn := 0) (MillJ D l c ws o t0 m₀) hh (.head _) hi F N ⟨fun _ _ => rfl, 0, tv, 0, rfl, Int.le_refl _, by decide⟩ ?_ ?_
  · rintro i n t m₁ nx h tk own hn _ hoff _ ⟨hm, v, tv', k, rfl, hv0, hv1⟩ F1 N1
    have em : (fun y => if y = Str.ofString "cell" then some (Value.int n t) else m₁ y) = fun y => if y = Str.ofString "cell" then some (Value.int n t) else m₀ y := by
      funext y
      by_cases hy : y = Str.ofString "cell"
      · rw [if_pos hy, if_pos hy]
      · rw [if_neg hy, if_neg hy, hm y hy]
    rw [em] at F1
    refine wpAny_mono (turn i n v tv' t k h tk own hn hv0 hv1 hoff F1 N1) (fun f s' hf => ?_) fun _ _ x => x
    cases f with
    | ret v => exact hf
    | brk => exact hf
    | next =>
      obtain ⟨h', tk', m', news', nx, e1, e2, e3, e4, e5, e6, e7, v', tv2, k', rfl, e8, e9⟩ := hf
      exact ⟨h', tk', m', news', _, e1, e2, e3, e4, e5, e6, .head _, e7, v', tv2, k', rfl, e8, e9⟩
    | cont =>
      obtain ⟨h', tk', m', news', nx, e1, e2, e3, e4, e5, e6, e7, v', tv2, k', rfl, e8, e9⟩ := hf
      exact ⟨h', tk', m', news', _, e1, e2, e3, e4, e5, e6, .head _, e7, v', tv2, k', rfl, e8, e9⟩
  · rintro m₁ nx h tk _ ⟨hm, v, tv', k, rfl, hv0, hv1⟩ F1 N1
    refine done v tv' k m₁ h tk hv0 hv1 ?_ N1
    have em : (fun y => if y = Str.ofString "cell" then m₁ y else m₀ y) = m₁ := by
      funext y
      by_cases hy : y = Str.ofString "cell"
      · rw [if_pos hy]
      · rw [if_neg hy, hm y hy]
    rw [em]; exact F1
theorem mill_end {h₀ h' : Heap} {L D l c : Addr} {ws : List Value} {o : Obj} {v : Int} {tv t0 : Tok} {k i tk : Nat} {m₀ m' : Str → Option Value} {own : List (Addr × Obj)} {s₁ : Shared} (F : Fr h₀ L h' m')
    (N : News h₀ L h' ((D, W.listOf ws.toArray 0) :: (l, W.listOf #[.int v tv, .int 0 t0] k) :: (c, o) :: own)) (hm : ∀ z, z ≠ Str.ofString "cell" → m' z = m₀ z) (h0 : 0 ≤ v) (h1 : v < 4099 ^ i) :
    InvEndN h₀ L (MillJ D l c ws o t0 m₀ i) own [D, l, c] s₁ { s₁ with heap := h', toks := tk } := by
  refine InvEndN.intro F N (nx := millLed D l c ws o v tv t0 k) ⟨hm, v, tv, k, rfl, h0, h1⟩ rfl ?_ ?_
  · intro p hp
    simp only [List.mem_cons, List.not_mem_nil, or_false] at hp
    rcases hp with rfl | rfl | rfl
    · exact .head _
    · exact .tail _ (.head _)
    · exact .tail _ (.tail _ (.head _))
  · intro p hp
    exact .tail _ (.tail _ (.tail _ hp))
end Mine
end

section
open PySem PySem.W PySem.Calls PyProof.Rows
set_option Elab.async false
set_option maxRecDepth 100000
set_option maxHeartbeats 8000000
set_option linter.unusedVariables false
namespace Mine
local macro_rules | `(tactic| walk_at "zz") => `(tactic| fail)
local macro_rules | `(tactic| walk_at "zz") => `(tactic| fail)
theorem kw_W12 : True := by k_with_none; w_top off; trivial
theorem three_of {α : Type} : ∀ {l : List α}, l.length = 3 → ∃ a b c, l = [a, b, c]
  | [a, b, c], _ => ⟨a, b, c, rfl⟩
  | [], h => by simp at h
  | [_], h => by simp at h
  | [_, _], h => by simp at h
  | _ :: _ :: _ :: _ :: _, h => by simp at h
theorem mill_turn {v n : Int} {i : Nat} (h0 : 0 ≤ v) (h1 : v < 4099 ^ i) : 0 ≤ v * 4099 + n.fmod 4099 ∧ v * 4099 + n.fmod 4099 < 4099 ^ (i + 1) := by
  have hr : 0 ≤ n.fmod 4099 ∧ n.fmod 4099 < 4099 := by
    rw [Int.fmod_eq_emod_of_nonneg _ (by decide)]
    exact ⟨Int.emod_nonneg _ (by decide), Int.emod_lt_of_pos _ (by decide)⟩
  rw [Int.pow_succ]
  generalize (4099 : Int) ^ i = P at *
  omega
theorem mill_bound {v : Int} {k : Nat} (h : v < 4099 ^ k) (hk : k ≤ 63) : v < 2 ^ 1000 := by
  have h1 : (4099 : Nat) ^ k ≤ 4099 ^ 63 := Nat.pow_le_pow_right (by decide) hk
  have h2 : (4099 : Nat) ^ 63 < 2 ^ 1000 := by decide +kernel
  have e : ((4099 : Int) ^ k) = (((4099 : Nat) ^ k : Nat) : Int) := by simp
  have h3 : (4099 : Nat) ^ k < 2 ^ 1000 := Nat.lt_of_le_of_lt h1 h2
  rw [e] at h
  refine Int.lt_trans h ?_
  exact_mod_cast h3
local macro_rules | `(tactic| walk_at "exec For Name Subscript cons nil") => `(tactic| (k_here; (rename Fr _ _ _ _ => lF'); (with_unfolding_all refine' For_invVF lF' ?k1 ?k2 ?_; (case k1 => exact rfl); (case k2 => exact rfl); k_whole)))
theorem law_holds : PySem.Challenge.rw_og0173_01.Holds := by
  refine hd173 (by rfl) (by rfl) (by rfl) ?_
  k_fill
  intro w s₀ s₁ mg mb G Y fa o pm cd doc dV kV ho hd hcd hD hmg hg args vals as hpre hlay hrd hwl hlo
  have KX := kIn_of Y
  have X := (Ground.X G).1
  have V := (Ground.X G).2
  refine Ground.open G ?_
  intro T B D TE TW
  try (refine guard_noD D (by decide +kernel) ?_; clear D)
  obtain ⟨_, _, M⟩ := bmod_of_top T
  have TA := at_of_top T
  try (obtain ⟨_, _, he, B0⟩ := based_of_top T rfl hmg ho hd; have he' : cd = _ := he; subst he'; clear he)
  clear hmg
  wrow_args hpre hlay hrd hwl hlo
  refine enterG_call ?_
  have K0 := below_caller (Top.heap T)
  have he := Dflts.none hD rfl; subst he; have he := Dflts.noKw hD; subst he
  refine callG_cells (by decide) ho (fd_plain hd) (Top.nolimit T) hcd rfl (kinds_of (by kinds_ok)) (by decide) fun h₁ tk₁ cells F N0 X0 => ?_
  cells_open X0
  clear hd TA
  k_drop
  dsimp only at F X0 N0 K0 ⊢
  refine wpG_execs_cons (wpG_any ?_)
  k_steps
  refine wpG_execs_cons (wpG_any ?_)
  k_steps
  rename Fr s₁.heap _ _ _ => kF
  rename News s₁.heap _ _ [_, _, _] => kN
  rename IntsAre _ (List.reverse _) => hI
  rename ¬ _ < ((List.length _ : Nat) : Int) => hlen
  clear hcd ho
  k_dflt (refine' mill_loop rfl hI kF kN ?turn ?done)
  case done =>
    intro v tv k u h tk hv0 hv1 F1 N1
    clear kF kN
    have hv2 : v < 2 ^ 1000 := mill_bound hv1 (by rw [List.length_reverse]; omega)
    rename _ = Data.cell (some _) => hoc
    rename @LT.lt Nat _ (s₁.heap.objs.size + 1) _ => hcl
    k_dflt (refine (fun I => law_parts w lawScope (lawCells (s₁.heap.objs.size + 1)) (s₁.heap.objs.size + 1) _ _ _ fa _ [] callerA s₁.heap s₁.heap (ExcName.means s₀.heap) mg mb _ _ _ _ I rfl _ _ _ _ _ _ _ _ _ F1 (news_tail N1) hoc (Nat.ne_of_lt hcl) hv0 hv2 (Int.le_refl 0) (Int.le_refl 0) ?next) ?I0)
    case I0 => exact ⟨K0, KX, T, rfl, rfl, by decide, by decide⟩
    case next =>
      intro n x y tx ty D bs h2 tk2 F2 N2 hx0 hx1 hy0 hy1 hbl hbs hDl hDc
      obtain ⟨⟨b0, t0⟩, ⟨b1, t1⟩, ⟨b2, t2⟩, rfl⟩ := three_of hbl
      have z0 : (KBw.bInts b0).length ≤ 10 := by rw [KBw.ints_length]; exact hbs (b0, t0) (.head _)
      have z1 : (KBw.bInts b1).length ≤ 10 := by rw [KBw.ints_length]; exact hbs (b1, t1) (.tail _ (.head _))
      have z2 : (KBw.bInts b2).length ≤ 10 := by rw [KBw.ints_length]; exact hbs (b2, t2) (.tail _ (.tail _ (.head _)))
      refine law_sums (I := I) (hb := rfl) (F := F2) (N := N2) (hb0 := rfl) (hb1 := rfl) (hb2 := rfl) (hz0 := z0) (hz1 := z1) (hz2 := z2) (next := ?_)
      intro wh tw tt h3 tk3 hwh F3 N3
      refine law_run (I := I) (hb := rfl) (F := F3) (N := N3) (hoc := hoc) (hpost := List.forall_mem_cons.mpr ⟨Nat.ne_of_lt hcl, List.forall_mem_cons.mpr ⟨hDl, List.forall_mem_nil _⟩⟩) (hx0 := hx0) (hx1 := hx1) (hy0 := hy0) (hy1 := hy1) (next := ?_)
      clear F3 N3 hx0 hx1 hy0 hy1
      intro n x y tx ty u h4 tk4 F4 N4 hx0 hx1 hy0 hy1
      have hq : (KBw.bInts b0 ++ KBw.bInts b1 ++ KBw.bInts b2).length ≤ 30 := by rw [List.length_append, List.length_append]; omega
      refine law_other (I := I) (hb := rfl) (hwh := hwh) (hq := hq) (F := F4) (N := N4) (hoc := hoc) (hpost := List.forall_mem_cons.mpr ⟨Nat.ne_of_lt hcl, List.forall_mem_cons.mpr ⟨hDl, List.forall_mem_nil _⟩⟩) (hx0 := hx0) (hx1 := hx1) (hy0 := hy0) (hy1 := hy1) (next := ?_)
      clear F4 N4 hx0 hx1 hy0 hy1
      intro n x y tx ty u h5 tk5 F5 N5 hx0 hx1 hy0 hy1
      have hr := adlerZ_in (KBw.bInts b0 ++ KBw.bInts b1 ++ KBw.bInts b2)
      refine law_lets (I := I) (hb := rfl) (hb0 := rfl) (hb1 := rfl) (hb2 := rfl) (hz0 := z0) (hz1 := z1) (hz2 := z2) (hwh := hwh) (htot := rfl) (ht0 := hr.1) (ht1 := hr.2) (F := F5) (N := N5) (hoc := hoc) (hpost := List.forall_mem_cons.mpr ⟨Nat.ne_of_lt hcl, List.forall_mem_cons.mpr ⟨hDl, List.forall_mem_nil _⟩⟩) (hx0 := hx0) (hx1 := hx1) (hy0 := hy0) (hy1 := hy1) (next := ?_)
      clear F5 N5 hx0 hx1 hy0 hy1
      intro n x y tx ty tah tfo ah fo pa u h6 tk6 hah hza hfo F6 N6 hx0 hx1 hy0 hy1
      refine law_frame (I := I) (hb := rfl) (hE := by with_unfolding_all passes_own) (hb0 := rfl) (hb1 := rfl) (hb2 := rfl) (hz0 := z0) (hz1 := z1) (hz2 := z2) (hah := hah) (hza := hza) (hwh := hwh) (hq := rfl) (htot := rfl) (ht0 := hr.1) (ht1 := hr.2) (hfo := hfo) (F := F6) (N := N6) (next := ?_)
      clear F6 N6
      intro tfr fr u h7 tk7 hfr F7 N7
      refine law_zlib (I := I) (hb := rfl) (hb0 := rfl) (hb1 := rfl) (hb2 := rfl) (hz0 := z0) (hz1 := z1) (hz2 := z2) (hah := hah) (hza := hza) (hwh := hwh) (hq := rfl) (htot := rfl) (ht0 := hr.1) (ht1 := hr.2) (hfo := hfo) (hfr := hfr) (F := F7) (N := N7) (next := ?_)
      clear F7 N7
      intro u h8 tk8 F8 N8
      refine law_bent (I := I) (hb := rfl) (hb0 := rfl) (hb1 := rfl) (hb2 := rfl) (hz0 := z0) (hz1 := z1) (hz2 := z2) (hah := hah) (hza := hza) (hwh := hwh) (hq := rfl) (htot := rfl) (ht0 := hr.1) (ht1 := hr.2) (hfo := hfo) (hfr := hfr) (F := F8) (N := N8) (hoc := hoc) (hpost := List.forall_mem_cons.mpr ⟨Nat.ne_of_lt hcl, List.forall_mem_cons.mpr ⟨hDl, List.forall_mem_nil _⟩⟩) (hx0 := hx0) (hx1 := hx1) (hy0 := hy0) (hy1 := hy1) (next := ?_)
      clear F8 N8 hx0 hx1 hy0 hy1
      intro C1 B1 vs kb bt spot tsp u h9 tk9 F9 N9 hBC hi hbt hbi hbe hs0 hs1
      refine law_try (I := I) (hb := rfl) (hz0 := z0) (hz1 := z1) (hz2 := z2) (hah := hah) (hza := hza) (hwh := hwh) (hq := rfl) (htot := rfl) (ht0 := hr.1) (ht1 := hr.2) (hfo := hfo) (hfr := hfr) (F := F9) (hBC := hBC) (hi := hi) (hbl := hbt) (hbi := hbi) (hbe := hbe) (hs0 := hs0) (hs1 := hs1) (N := N9) (next := ?_)
      clear F9 N9
      intro tc nc u h10 tk10 F10 N10
      refine law_two (I := I) (hb := rfl) (hE := by with_unfolding_all passes_own) (hz0 := z0) (hz1 := z1) (hz2 := z2) (hah := hah) (hza := hza) (hwh := hwh) (hq := rfl) (htot := rfl) (ht0 := hr.1) (ht1 := hr.2) (hfo := hfo) (hfr := hfr) (F := F10) (hBC := hBC) (hi := hi) (hbl := hbt) (hbi := hbi) (hbe := hbe) (hs0 := hs0) (hs1 := hs1) (N := N10) (next := ?_)
      clear F10 N10
      intro ta tb nc u h11 tk11 F11 N11
      refine law_end (I := I) (gd := _) (a := _) (ccd := _) (E := _) (k := 0) (hb := rfl) (hz0 := z0) (hz1 := z1) (hz2 := z2) (hah := hah) (hza := hza) (hwh := hwh) (hq := rfl) (htot := rfl) (ht0 := hr.1) (ht1 := hr.2) (hfo := hfo) (hfr := hfr) (F := F11) (hBC := hBC) (hi := hi) (hbl := hbt) (hbi := hbi) (hbe := hbe) (hs0 := hs0) (hs1 := hs1) (N := N11) (next := ?_)
      clear F11 N11
      intro m news h12 tk12 F12 N12
      dsimp only
      refine GoodW.toG ?_
      wrow_close
  case turn =>
    intro i n v tv t k h tk own hn hv0 hv1 hoff F1 N1
    clear kF kN
    k_steps
    rename Fr s₁.heap _ _ _ => kF
    rename News s₁.heap _ _ _ => kN
    have hm := mill_turn (n := n) hv0 hv1
    exact mill_end kF kN (fun z hz => if_neg hz) hm.1 hm.2
end Mine
end

set_option maxRecDepth 100000 in
set_option maxHeartbeats 8000000 in
theorem PySem.Challenge.cw_og0173_01_holds : PySem.Challenge.rw_og0173_01.Holds :=
  Mine.law_holds
