import PyProof.Rows.All
import Wide.All
import OpenK.AllK
import Wide.FinOn
import PySem.Challenge.RW_no0404_01
set_option Elab.async false
set_option rowWalk.seconds 0
set_option compiler.extract_closed false

section
open PySem PySem.W PyProof.Rows
set_option Elab.async false
set_option maxRecDepth 100000
set_option maxHeartbeats 4000000
namespace Mine
open Sem (wp)

/-- a builtin whose frame may hold a bytearray's memory -/
def holdsBuf : Code → Bool
  | .builtin id _ => ["bytearray.__contains__", "bytearray.__mod__", "bytearray.__rmod__", "_struct.pack_into.held", "bytearray.find.held"].contains id || Builtin.Bytes.decodersThatHold.contains id
  | _ => false

def CleanL (l : List (Code × Pos)) : Prop := ∀ x ∈ l, holdsBuf x.1 = false

def wpC {α : Type} (M : Model) (A : Around) (t : Sem α) (Q : α → Shared → Prop) (E : Value → Shared → Prop) (s : Shared) : Prop :=
  ∀ Γ p, Γ.In A → holdsBuf Γ.code = false → CleanL Γ.below → wp M Γ t (fun a _ s' => Q a s') (fun e _ s' => E e s') p s

def codeC (M : Model) (A : Around) (c : Code) (R : Result → Shared → Prop) (s : Shared) : Prop :=
  ∀ Γ p, Γ.code = c → Γ.Below A → CleanL Γ.below → wpCode M Γ R p s

section
variable {α β : Type} {M : Model} {A : Around} {E : Value → Shared → Prop} {s : Shared}

theorem cOf {t : Sem α} {Q : α → Shared → Prop} (h : wpAny M A t Q E s) : wpC M A t Q E s := fun Γ p hΓ _ _ => h Γ p hΓ
theorem codeC_of {c : Code} {R : Result → Shared → Prop} (h : codeAny M A c R s) : codeC M A c R s := fun Γ p hc hΓ _ => h Γ p hc hΓ

theorem wpC_mono {t : Sem α} {Q Q' : α → Shared → Prop} {E' : Value → Shared → Prop} (h : wpC M A t Q E s) (hQ : ∀ a s, Q a s → Q' a s) (hE : ∀ e s, E e s → E' e s) : wpC M A t Q' E' s :=
  fun Γ p hΓ h1 h2 => Sem.wp_mono M Γ t (fun a _ s => hQ a s) (fun e _ s => hE e s) p s (h Γ p hΓ h1 h2)
theorem codeC_mono {c : Code} {R R' : Result → Shared → Prop} (h : codeC M A c R s) (hR : ∀ r s, R r s → R' r s) : codeC M A c R' s :=
  fun Γ p hc hΓ h2 => wpCode_mono hR (h Γ p hc hΓ h2)
theorem wpC_pure {a : α} {Q : α → Shared → Prop} (h : Q a s) : wpC M A (pure a) Q E s := fun _ _ _ _ _ => h
theorem wpC_bind {m : Sem α} {f : α → Sem β} {Q : β → Shared → Prop} (h : wpC M A m (fun a s' => wpC M A (f a) Q E s') E s) : wpC M A (m >>= f) Q E s := fun Γ p hΓ h1 h2 => by
  rw [Sem.wp_bind']
  exact Sem.wp_mono M Γ m (fun a p' s' h' => h' Γ p' hΓ h1 h2) (fun _ _ _ h' => h') p s (h Γ p hΓ h1 h2)
/-- the head of a bind by the kit's own predicate -/
theorem aBind {m : Sem α} {f : α → Sem β} {Q : β → Shared → Prop} (h : wpAny M A m (fun a s' => wpC M A (f a) Q E s') E s) : wpC M A (m >>= f) Q E s := wpC_bind (cOf h)
theorem wpC_onRaise {m : Sem α} {k : Value → Sem Unit} {Q : α → Shared → Prop}
    (h : wpC M A m Q (fun e s' => wpC M A (k e) (fun _ s'' => E e s'') E s') s) : wpC M A (m.onRaise k) Q E s := fun Γ p hΓ h1 h2 => by
  rw [Sem.wp_onRaise]
  exact Sem.wp_mono M Γ m (fun _ _ _ h' => h') (fun e p' s' h' => h' Γ p' hΓ h1 h2) p s (h Γ p hΓ h1 h2)
theorem wpC_attempt {m : Sem α} {Q : Except Value α → Shared → Prop} (h : wpC M A m (fun a => Q (.ok a)) (fun e => Q (.error e)) s) :
    wpC M A m.attempt Q E s := fun Γ p hΓ h1 h2 => by rw [Sem.wp_attempt]; exact h Γ p hΓ h1 h2
theorem wpC_holding {vs : List Value} {m : Sem α} {Q : α → Shared → Prop} (h : wpC M A m Q E s) : wpC M A (holding vs m) Q E s :=
  fun Γ p hΓ h1 h2 => by rw [Sem.wp_holding]; exact h Γ p hΓ h1 h2
theorem wpC_keep {vs : List Value} {m : Sem α} {Q : α → Shared → Prop} (h : wpC M A m Q E s) : wpC M A (m.keep vs) Q E s :=
  fun Γ p hΓ h1 h2 => by rw [Sem.wp_keep]; exact h Γ p hΓ h1 h2
theorem wpC_standAt {pos : Pos} {f : Unit → Sem α} {Q : α → Shared → Prop} (h : wpC M A (f ()) Q E s) : wpC M A (standAt pos >>= f) Q E s := aBind (wpAny_standAt h)
theorem wpC_operate {vs : List Value} {m : Sem Value} {Q : Value → Shared → Prop} (h : wpC M A m Q E s) : wpC M A (operate vs m) Q E s :=
  fun Γ p hΓ h1 h2 => by rw [Sem.wp_operate]; exact h Γ p hΓ h1 h2
theorem wpC_ite {c : Prop} [Decidable c] {a b : Sem α} {Q : α → Shared → Prop} (h : if c then wpC M A a Q E s else wpC M A b Q E s) : wpC M A (if c then a else b) Q E s := by
  split <;> simp_all
theorem wpC_noRaise {t : Sem α} {Q : α → Shared → Prop} (h : wpC M A t Q (fun _ _ => False) s) : wpC M A t Q E s := wpC_mono h (fun _ _ x => x) fun _ _ x => x.elim

theorem clean_enter {Γ : Ctx} (h1 : holdsBuf Γ.code = false) (h2 : CleanL Γ.below) (c : Code) (h : Option Value) (p : Pos) : CleanL (Γ.enter c h p).below := by
  intro x hx
  rcases List.mem_cons.mp hx with rfl | hx
  · exact h1
  · exact h2 x hx

theorem wpC_run {c : Code} {h : Option Value} {Q : Flow → Shared → Prop}
    (hc : codeC M (A.mark h) c (fun r s' => match r with | .ok f => Q f s' | .error e => E e s') s) (hnb : h ≠ some byPass := by intro x; cases x) :
    wpC M A (run c h) Q E s :=
  fun Γ p hΓ h1 h2 => by rw [Sem.wp_run]; exact hc _ p rfl (hΓ.enter c h p hnb) (clean_enter h1 h2 c h p)
theorem wpC_runOwn {c : Code} {env : Env} {Q : Flow → Shared → Prop}
    (hc : codeC M A c (fun r s' => match r with | .ok f => Q f s' | .error _ => False) s) : wpC M A (runOwn c env) Q E s := by
  unfold runOwn
  refine wpC_noRaise (wpC_onRaise (wpC_run (codeC_mono hc fun r s' h => ?_)))
  cases r with
  | ok f => exact h
  | error e => exact h.elim
theorem wpC_runValue {c : Code} {Q : Value → Shared → Prop}
    (hc : codeC M A c (fun r s' => match r with | .ok (.ret v) => Q v s' | .ok _ => False | .error e => E e s') s) :
    wpC M A (runValue c) Q E s := fun Γ p hΓ h1 h2 => by rw [Sem.wp_runValue]; exact hc _ p rfl (hΓ.enter c none p (by intro x; cases x)) (clean_enter h1 h2 c none p)
theorem wpC_call {f : Value} {pos : List Value} {kw : List (Str × Value)} {Q : Value → Shared → Prop}
    (hc : codeC M A (.call f ⟨pos, kw⟩) (fun r s' => match r with | .ok (.ret v) => Q v s' | .ok _ => False | .error e => E e s') s) :
    wpC M A (call f pos kw) Q E s := wpC_runValue hc

/-- what a code's tree must show -/
def finC (M : Model) (A : Around) (R : Result → Shared → Prop) (fin : Fin) (s' : Shared) : Prop :=
  match fin with | .done f => R (.ok f) s' | .again c' => c'.quiet = true ∧ codeC M A c' R s'

theorem codeC_of_tree {c : Code} {R : Result → Shared → Prop} (hb : holdsBuf c = false)
    (h : wpC M (A.under c) (M.den c) (finC M A R) (fun e s' => R (.error e) s') s) : codeC M A c R s := fun Γ p hc hΓ h2 => by
  rw [wpCode_iff_wp, hc]
  refine Sem.wp_mono M Γ _ (fun fin p' s' h' => ?_) (fun _ _ _ h' => h') p s (h Γ p (hc ▸ hΓ.in) (hc ▸ hb) h2)
  cases fin with
  | done f => exact h'
  | again c' => exact ⟨h'.1, h'.2 (Γ.goto c') p' rfl (hΓ.goto c') h2⟩

theorem codeC_loop {c : Code} {R : Result → Shared → Prop} (hb : holdsBuf c = false) (hq : c.quiet = true) (I : Nat → Shared → Prop)
    (turn : ∀ n s, I n s → wpC M (A.under c) (M.den c)
      (fun fin s' => match fin with
        | .done f => R (.ok f) s'
        | .again c' => (c' = c ∧ ∃ m, m < n ∧ I m s') ∨ (c'.quiet = true ∧ codeC M A c' R s')) (fun e s' => R (.error e) s') s)
    (n : Nat) (h : I n s) : codeC M A c R s := by
  induction n using Nat.strongRecOn generalizing s with
  | ind n ih =>
    refine codeC_of_tree hb (wpC_mono (turn n s h) (fun fin s' hf => ?_) fun _ _ h' => h')
    cases fin with
    | done f => exact hf
    | again c' =>
      rcases hf with ⟨rfl, m, hm, hI⟩ | hf
      · exact ⟨hq, ih m hm hI⟩
      · exact hf

/-- a look over the stack that finds no holder -/
theorem wpC_stackAny {f : Code × Pos → Bool} {Q : Bool → Shared → Prop} (hf : ∀ c p, holdsBuf c = false → f (c, p) = false) (h : Q false s) : wpC M A (do return (← stack).any f) Q E s := fun Γ p _ h1 h2 => by
  have e : ((Γ.code, p) :: Γ.below).any f = false := by
    rw [List.any_eq_false]
    intro x hx
    rcases List.mem_cons.mp hx with rfl | hx
    · rw [hf _ _ h1]; exact Bool.false_ne_true
    · obtain ⟨c, q⟩ := x
      rw [hf c q (h2 _ hx)]; exact Bool.false_ne_true
  show Q (((Γ.code, p) :: Γ.below).any f) s
  rw [e]; exact h

theorem wpC_exported {a : Addr} {Q : Bool → Shared → Prop} (h : Q false s) : wpC M A (Builtin.Bytes.exported (.ref a)) Q E s := by
  refine wpC_stackAny (fun c p hc => ?_) h
  cases c with
  | builtin id args =>
    simp only [holdsBuf, Bool.or_eq_false_iff] at hc
    obtain ⟨hc1, hc2⟩ := hc
    simp only [List.contains_cons, List.contains_nil, Bool.or_false, Bool.or_eq_false_iff, beq_eq_false_iff_ne, ne_eq] at hc1
    split
    all_goals first
      | (rename_i e; cases e; simp at hc1; done)
      | (rename_i e; cases e; rw [hc2, Bool.and_false])
      | rfl
      | skip
  | _ => rfl
end
end Mine
end

section
open PySem PySem.W PyProof.Rows
set_option Elab.async false
set_option maxRecDepth 100000
set_option maxHeartbeats 4000000
namespace Mine
open Sem (wp)
section
variable {M : Model} {A : Around} {E : Value → Shared → Prop} {s : Shared} {env : Env}

theorem wpC_execs_nil {Q : Flow → Shared → Prop} (h : Q .next s) : wpC M A (execs [] env) Q E s := wpC_pure h
theorem wpC_execs_cons {st rest} {Q : Flow → Shared → Prop}
    (h : wpC M A (exec st env) (fun f s' => match f with | .next => wpC M A (execs rest env) Q E s' | f => Q f s') E s) :
    wpC M A (execs (st :: rest) env) Q E s := by
  rw [execs_cons]
  refine wpC_bind (wpC_mono h (fun f s' h' => ?_) fun _ _ x => x)
  cases f <;> first | exact h' | exact wpC_pure h'
/-- a statement of the kit's own walk -/
theorem aExecs_cons {st rest} {Q : Flow → Shared → Prop}
    (h : wpAny M A (exec st env) (fun f s' => match f with | .next => wpC M A (execs rest env) Q E s' | f => Q f s') E s) :
    wpC M A (execs (st :: rest) env) Q E s := wpC_execs_cons (cOf h)
theorem wpC_Expr {e pos} {Q : Flow → Shared → Prop} (h : wpC M A (eval e env) (fun v s' => match v with | .ref _ => False | _ => Q .next s') E s)
    (hi : interactive env = false := by rfl) (hs : swapsWith e none pos.line env = pure false := by rfl) :
    wpC M A (exec (.Expr e pos) env) Q E s := by
  rw [exec_Expr env e pos hi hs]
  refine wpC_standAt (wpC_bind (wpC_mono h (fun v s' h' => ?_) fun _ _ x => x))
  have hv : ∀ a, v ≠ .ref a := fun a hva => by subst hva; exact h'
  rw [dropValue_plain hv]
  refine wpC_pure ?_
  cases v <;> first | exact h' | exact (hv _ rfl).elim
theorem wpC_Assign_Name {x pos' value pos} {Q : Flow → Shared → Prop}
    (h : wpC M A (eval value env) (fun v s₁ => wpAny M A (storeName env x v) (fun _ => Q .next) E s₁) E s)
    (hs : swapsWith value (some (.Name x pos')) pos.line env = pure false := by rfl) :
    wpC M A (exec (.Assign [.Name x pos'] value pos) env) Q E s := by
  rw [exec_Assign_Name env x pos' value pos hs]
  refine wpC_standAt (wpC_bind (wpC_mono h (fun v s₁ h₁ => wpC_standAt (aBind (wpAny_bindName (wpAny_mono h₁ (fun _ _ q => wpC_pure q) fun _ _ x => x)))) fun _ _ x => x))
theorem wpC_Assign_Attribute {o attr pos' value pos} {Q : Flow → Shared → Prop}
    (h : wpC M A (eval value env) (fun v s₁ => wpAny M A (eval o env) (fun ov s₂ => wpAny M A (setAttr ov attr v) (fun _ => Q .next) E s₂) E s₁) E s)
    (hs : swapsWith value (some (.Attribute o attr pos')) pos.line env = pure false := by rfl) :
    wpC M A (exec (.Assign [.Attribute o attr pos'] value pos) env) Q E s := by
  rw [plainObj_exec_Assign_Attribute o attr pos' value pos hs]
  refine wpC_standAt (wpC_bind (wpC_mono h (fun v s₁ h₁ => ?_) fun _ _ x => x))
  refine aBind (fun Γ p hΓ => ?_)
  simp only [assign_Attribute, Sem.wp_bind', Sem.wp_holding, Sem.wp_cmd_standAt, Sem.wp_release]
  refine Sem.wp_mono M Γ _ (fun ov _ s₂ h₂ => ?_) (fun _ _ _ h' => h') _ _ (h₁ Γ p hΓ)
  refine Sem.wp_mono M Γ _ (fun _ _ s₃ q => ?_) (fun _ _ _ x => x) _ _ (h₂ Γ _ hΓ)
  exact wpC_pure q
theorem wpC_Return_some {e pos} {Q : Flow → Shared → Prop} (h : wpC M A (eval e env) (fun v => Q (.ret v)) E s) :
    wpC M A (exec (.Return (some e) pos) env) Q E s := by
  rw [exec_Return_some]
  exact wpC_standAt (wpC_bind (wpC_mono h (fun v s₁ q => wpC_pure q) fun _ _ x => x))
theorem wpC_If {test body orelse pos} {Q : Flow → Shared → Prop}
    (h : wpC M A (isTrue test env (eval test env)) (fun b s₂ => if b then wpC M A (execs body env) Q E s₂ else wpC M A (execs orelse env) Q E s₂) E s) :
    wpC M A (exec (.If test body orelse pos) env) Q E s := by
  rw [exec_If]
  refine wpC_standAt (wpC_bind (wpC_mono h (fun b s₂ h₂ => ?_) fun _ _ x => x))
  cases b <;> exact h₂
theorem aIf {test body orelse pos} {Q : Flow → Shared → Prop}
    (h : wpAny M A (isTrue test env (eval test env)) (fun b s₂ => if b then wpC M A (execs body env) Q E s₂ else wpC M A (execs orelse env) Q E s₂) E s) :
    wpC M A (exec (.If test body orelse pos) env) Q E s := wpC_If (cOf h)
theorem wpC_Compare1 {l op r pos} {Q : Value → Shared → Prop}
    (h : wpC M A (eval l env) (fun a s₁ => wpC M A (eval r env) (fun b s₂ => wpC M A (compareOp op a b) Q E s₂) E s₁) E s)
    (hm : behindInMarks op r = false := by with_unfolding_all rfl) :
    wpC M A (eval (.Compare l [op] [r] pos) env) Q E s := by
  rw [eval_Compare1, markedBehindIn_of_false hm]
  refine wpC_bind (wpC_mono h (fun a s₁ h₁ => ?_) fun _ _ x => x)
  exact wpC_bind (wpC_holding (wpC_mono h₁ (fun b s₂ h₂ => wpC_standAt (wpC_operate h₂)) fun _ _ x => x))
theorem wpC_isTrue_Compare1 {l op r pos whole} {Q : Bool → Shared → Prop}
    (h : wpC M A (eval l env) (fun a s₁ => wpC M A (eval r env) (fun b s₂ => wpC M A (compareOp op a b) (fun c s₃ => wpC M A (truthy c) Q E s₃) E s₂) E s₁) E s)
    (hm : behindInMarks op r = false := by with_unfolding_all rfl) : wpC M A (isTrue (.Compare l [op] [r] pos) env whole) Q E s := by
  rw [isTrue_Compare1, markedBehindIn_of_false hm]
  refine wpC_bind (wpC_mono h (fun a s₁ h₁ => ?_) fun _ _ x => x)
  refine wpC_bind (wpC_holding (wpC_mono h₁ (fun b s₂ h₂ => wpC_standAt (wpC_bind (wpC_operate (wpC_mono h₂ (fun c s₃ h₃ => wpC_holding h₃) fun _ _ x => x)))) fun _ _ x => x))
/-- a body that does not raise under a try -/
theorem wpC_Try {body orelse : List Stmt} {h₀ : ExceptHandler} {hs : List ExceptHandler} {pos : Pos} {Q : Flow → Shared → Prop}
    (h : wpC M A (execs body env) (fun f s₁ => match f with | .next => wpC M A (execs orelse env) Q E s₁ | f => Q f s₁) (fun _ _ => False) s) :
    wpC M A (exec (.Try body (h₀ :: hs) orelse [] pos) env) Q E s := by
  rw [arm_exec_Try]
  refine wpC_standAt ?_
  unfold tryStmt
  simp only [List.isEmpty_nil, if_true]
  refine wpC_bind (wpC_attempt (wpC_mono h (fun f s₁ h₁ => ?_) fun e s₁ h₁ => h₁.elim))
  cases f <;> first | exact h₁ | exact wpC_pure h₁

theorem wpC_spliced_nil {Q : List Value → Shared → Prop} (h : Q [] s) : wpC M A (spliced []) Q E s := wpC_pure h
theorem wpC_spliced_cons {x : Sem Value} {rest : List (Bool × Sem Value)} {Q : List Value → Shared → Prop}
    (h : wpC M A x (fun v s₁ => wpC M A (spliced rest) (fun vs s₂ => Q (v :: vs) s₂) E s₁) E s) : wpC M A (spliced ((false, x) :: rest)) Q E s := by
  rw [spliced]
  refine wpC_bind (wpC_mono h (fun v s₁ h₁ => ?_) fun _ _ x => x)
  simp only [Bool.false_eq_true, if_false]
  exact wpC_bind (wpC_pure (wpC_bind (wpC_holding (wpC_mono h₁ (fun vs s₂ h₂ => wpC_pure h₂) fun _ _ x => x))))
theorem wpC_evalArgs_plain {f : Value} {x : Sem Value} {rest : List (Bool × Sem Value)} {Q : Args → Shared → Prop}
    (h : wpC M A (spliced ((false, x) :: rest)) (fun vs s' => Q ⟨vs, []⟩ s') E s) : wpC M A (evalArgs f true ((false, x) :: rest) []) Q E s := by
  unfold evalArgs
  show wpC M A (spliced ((false, x) :: rest) >>= _) Q E s
  refine wpC_bind (wpC_mono h (fun vs s' h' => ?_) fun _ _ x => x)
  refine wpC_holding ?_
  exact wpC_bind (wpC_pure (wpC_bind (wpC_pure (wpC_pure h'))))
theorem wpC_evalArgs_nil {f : Value} {Q : Args → Shared → Prop} (h : Q ⟨[], []⟩ s) : wpC M A (evalArgs f true [] []) Q E s := by
  unfold evalArgs
  show wpC M A (spliced [] >>= _) Q E s
  refine wpC_bind (wpC_spliced_nil ?_)
  refine wpC_bind (wpC_pure (wpC_holding ?_))
  exact wpC_bind (wpC_pure (wpC_bind (wpC_pure (wpC_pure h))))

/-- a call in the tree's form -/
theorem wpC_callWith {P : Heap → Prop} {pos : Pos} {f : Value} {first : List Value} {args : List (Bool × Sem Value)} {Q : Value → Shared → Prop} (hplain : args.any (·.1) = false)
    (hk : ∀ h, P h → ∃ k, (k = Keeper.frame ∨ k = Keeper.machine ∨ k = Keeper.boundFrame) ∧ Looks M h (keeperOf f) k)
    (h : wpC M A (evalArgs f true args []) (fun a s₁ => P s₁.heap ∧ wpC M A (call f (first ++ a.pos) a.kw) Q E s₁) E s) : wpC M A (callWith pos f first args []) Q E s := by
  unfold callWith
  refine wpC_bind (wpC_holding (wpC_mono h (fun a s₁ h₁ => wpC_standAt ?_) fun _ _ x => x))
  obtain ⟨k, hk', L⟩ := hk _ h₁.1
  simp only [hplain, List.any_nil, Bool.or_false]
  refine aBind (L.here ?_)
  have tail : ∀ {t : Sem Value}, wpC M A t Q E s₁ → wpC M A (t >>= fun r => holding [r] point >>= fun _ => pure r) Q E s₁ :=
    fun ht => wpC_bind (wpC_mono ht (fun r s₂ hr => aBind (wpAny_holding (wpAny_point (wpC_pure hr)))) fun _ _ x => x)
  have marked (mk : Value) : wpC M A (callMarked mk f (first ++ a.pos) a.kw) Q E s₁ := by unfold callMarked; exact wpC_keep h₁.2
  rcases hk' with rfl | rfl | rfl <;> (try dsimp only) <;> first | exact tail h₁.2 | (split <;> first | exact tail h₁.2 | exact tail (marked _))

/-- the keeper of a built-in function, of a built-in type -/
theorem keeps_builtin {id : String} (h : Heap) (_ : True) : ∃ k, (k = Keeper.frame ∨ k = Keeper.machine ∨ k = Keeper.boundFrame) ∧ Looks M h (keeperOf (.builtin id)) k :=
  ⟨.machine, .inr (.inl rfl), Looks.of_pure rfl⟩
theorem keeps_type {T : String} (h : Heap) (_ : True) : ∃ k, (k = Keeper.frame ∨ k = Keeper.machine ∨ k = Keeper.boundFrame) ∧ Looks M h (keeperOf (.type T)) k :=
  ⟨.machine, .inr (.inl rfl), Looks.of_pure rfl⟩
end

section
variable {prog : Program} {w : World} {A₀ A : Around} {s : Shared} {E : Value → Shared → Prop} {env : Env}

theorem codeC_func {R : Result → Shared → Prop} {body env}
    (h : wpC (model prog w) (A.deeper env) (execs body env) (fun f s' => R (.ok (.ret (match f with | .ret v => v | _ => .none))) s') (fun _ _ => False) s) :
    codeC (model prog w) A (.func body env) R s := by
  refine codeC_of_tree rfl ?_
  show wpC _ (A.deeper env) (do point; match ← (execs body env).onRaise (leaving env) with | .ret v => ret v | _ => ret .none) _ _ s
  refine aBind (wpAny_point (wpC_bind (wpC_onRaise (wpC_mono h (fun f s' h' => ?_) fun _ _ h' => h'.elim))))
  cases f <;> exact wpC_pure h'

theorem codeC_block {stmts : List Stmt} {env : Env} {R : Result → Shared → Prop}
    (h : wpC (model prog w) A (execs stmts env) (fun f s' => R (.ok f) s') (fun _ _ => False) s) : codeC (model prog w) A (.block stmts env) R s := by
  refine codeC_of_tree rfl ?_
  show wpC _ A (do return Fin.done (← (execs stmts env).onRaise (fun x => do noteFrame x env; theTreesLotGoes x))) _ _ s
  exact wpC_bind (wpC_onRaise (wpC_mono h (fun f s' h' => wpC_pure h') fun _ _ h' => h'.elim))

theorem codeC_whileLoop {R : Result → Shared → Prop} {test body orelse env} (I : Nat → Shared → Prop)
    (turn : ∀ n s, I n s →
      wpC (model prog w) A (isTrue test env (eval test env)) (fun b s₂ =>
        if b then wpC (model prog w) A (execs body env) (fun f s₃ => match f with
            | .next | .cont => ∃ m, m < n ∧ I m s₃
            | .brk => R (.ok .next) s₃
            | .ret v => R (.ok (.ret v)) s₃) (fun _ _ => False) s₂
        else wpC (model prog w) A (execs orelse env) (fun f s₃ => R (.ok f) s₃) (fun _ _ => False) s₂)
        (fun _ _ => False) s)
    (n : Nat) (h : I n s) : codeC (model prog w) A (.whileLoop test body orelse env) R s := by
  refine codeC_loop rfl rfl I (fun n s hI => ?_) n h
  show wpC _ A ((whileTurn test body orelse env).onRaise (fun x => do noteFrame x env; theTreesLotGoes x)) _ _ s
  refine wpC_noRaise (wpC_onRaise (wpC_mono (Q := fun fin s' => match fin with
        | .done f => R (.ok f) s'
        | .again c' => (c' = .whileLoop test body orelse env ∧ ∃ m, m < n ∧ I m s') ∨ (c'.quiet = true ∧ codeC (model prog w) A c' R s')) ?_ (fun _ _ x => x) fun _ _ x => False.elim x))
  simp only [whileTurn]
  refine wpC_bind (wpC_mono (turn n s hI) (fun b s₂ h₂ => ?_) fun _ _ h' => h')
  cases b with
  | false =>
    simp only [Bool.false_eq_true, if_false] at h₂ ⊢
    exact wpC_bind (wpC_mono h₂ (fun f s₃ h₃ => wpC_pure h₃) fun _ _ h' => h')
  | true =>
    simp only [if_true] at h₂ ⊢
    refine wpC_bind (wpC_mono h₂ (fun f s₃ h₃ => ?_) fun _ _ h' => h')
    cases f with
    | next => exact wpC_pure (.inl ⟨rfl, h₃⟩)
    | cont => exact wpC_pure (.inl ⟨rfl, h₃⟩)
    | brk => exact wpC_pure h₃
    | ret v => exact wpC_pure h₃

theorem codeC_forLoop {R : Result → Shared → Prop} {target it body orelse env} (I : Nat → Shared → Prop)
    (turn : ∀ n s, I n s → wpAny (model prog w) A (pyNext it) (fun r s₁ => match r with
      | none => wpC (model prog w) A (execs orelse env) (fun f s₃ => R (.ok f) s₃) (fun _ _ => False) s₁
      | some v => wpAny (model prog w) A (assign target env v) (fun _ s₂ => wpC (model prog w) A (execs body env) (fun f s₃ => match f with
          | .next | .cont => ∃ m, m < n ∧ I m s₃
          | .brk => R (.ok .next) s₃
          | .ret v => R (.ok (.ret v)) s₃) (fun _ _ => False) s₂) (fun _ _ => False) s₁) (fun _ _ => False) s)
    (n : Nat) (h : I n s) (ht : ∀ v, letOwnedTupleGo target it v = pure () := by intro _; rfl) : codeC (model prog w) A (.forLoop target it body orelse env) R s := by
  refine codeC_loop rfl rfl I (fun n s hI => ?_) n h
  show wpC _ _ ((forTurn target it body orelse env).onRaise (fun x => do noteFrame x env; theTreesLotGoes x)) _ _ s
  refine wpC_noRaise (wpC_onRaise (wpC_mono (Q := fun fin s' => match fin with
        | .done f => R (.ok f) s'
        | .again c' => (c' = .forLoop target it body orelse env ∧ ∃ m, m < n ∧ I m s') ∨ (c'.quiet = true ∧ codeC (model prog w) A c' R s')) ?_ (fun _ _ x => x) fun _ _ x => False.elim x))
  simp only [forTurn]
  refine wpC_standAt (wpC_bind (wpC_onRaise (cOf (wpAny_mono (turn n s hI) (fun r s₁ h₁ => ?_) fun _ _ h' => h'.elim))))
  cases r with
  | none => exact wpC_pure (.inr ⟨rfl, codeC_block h₁⟩)
  | some v =>
    refine aBind (wpAny_of_eq (ht v) ?_)
    refine aBind (wpAny_mono h₁ (fun _ s₂ h₂ => wpC_bind (wpC_mono h₂ (fun f s₃ h₃ => ?_) fun _ _ h' => h')) fun _ _ h' => h')
    cases f with
    | next => exact wpC_pure (.inl ⟨rfl, h₃⟩)
    | cont => exact wpC_pure (.inl ⟨rfl, h₃⟩)
    | brk => exact wpC_pure h₃
    | ret v => exact wpC_pure h₃

theorem wpC_While {test body orelse pos} {Q : Flow → Shared → Prop}
    (h : codeC (model prog w) A (.whileLoop test body orelse env) (fun r s' => match r with | .ok f => Q f s' | .error _ => False) s) :
    wpC (model prog w) A (exec (.While test body orelse pos) env) Q E s := by
  rw [exec_While]; exact wpC_standAt (wpC_runOwn h)
theorem wpC_For {target iter body orelse pos} {Q : Flow → Shared → Prop}
    (h : wpAny (model prog w) A (eval iter env) (fun x s₁ => wpAny (model prog w) A (pyIter x) (fun it s₂ =>
      codeC (model prog w) A (.forLoop target it body orelse env) (fun r s' => match r with | .ok f => Q f s' | .error _ => False) s₂) E s₁) E s)
    (hs : ∀ x, foldedSetIterable iter env x = pure x := by intro _; rfl) :
    wpC (model prog w) A (exec (.For target iter body orelse pos) env) Q E s := by
  rw [exec_For]
  refine wpC_standAt (aBind (wpAny_mono h (fun x s₁ h₁ => aBind (wpAny_of_eq (hs x) (wpC_standAt (aBind (wpAny_holding (wpAny_mono h₁ (fun it s₂ h₂ => wpC_runOwn h₂) fun _ _ x => x)))))) fun _ _ x => x))
end

section
variable {prog : Program} {w : World} {A₀ A : Around} {s : Shared} {base h₀ : Heap} {env : Env} {outer : List Env} {L : Addr} {m : Str → Option Value} {news : List (Addr × Obj)} {K : Frag}
  {R : Result → Shared → Prop} {name qual : Str} {params : Arguments} {body : List Stmt} {scope : Scope} {dV kV doc pm cdv ct oc : Value} {an od : Option Addr} {osl : Array (Option Value)} {f : Addr} {args : Args} {binds : List (Str × Value)}
  {p : Program} {loose : List Str} {mean : ExcName → Option Value} {mg mb : Str → Option Value}

/-- a call of a plain def of the written part, its body by wpC, no exception -/
theorem codeC_def (B : Below A₀ base outer h₀) (F : Fr h₀ L s.heap m) (X₀ : K.In h₀) (N : News h₀ L s.heap news) (T : Top p loose mean mg mb h₀) (hA : A.frames = some (env :: outer)) (hf : env.frame = some L) (hke : env.scope.kind = .function)
    (ho : K.lookup f = some ⟨oc, od, .func (fnOf name qual params body scope dV kV doc pm an cdv ct), osl⟩) (hcd : codeIn K cdv qual = true) (hroom : A.depth < recursionLimit)
    (hbind : BindsTo s (fnOf name qual params body scope dV kV doc pm an cdv ct) args binds) (hloc : ∀ y ∈ binds, scope.names.lookup y.1 = some .local)
    (h : ∀ g L' h₁, Fr h₀ L g m → Fr g L' h₁ (fun y => binds.reverse.lookup y) → News g L' h₁ news → Below A base (env :: outer) g → K.In g → Top p loose mean mg mb g → (∀ p ∈ news, p.1 < L') → (∀ b o, s.heap.get? b = some o → b ∉ news.map (·.1) → g.get? b = some o) →
      wpC (model prog w) (A.deeper (envOf qual scope L' f cdv)) (execs body (envOf qual scope L' f cdv))
        (fun fl s' => LeaveK h₀ L m g R (match fl with | .ret v => v | _ => .none) s') (fun _ _ => False)
        { s with heap := h₁, toks := s.toks + binds.length })
    (hco : scope.isCoroutine = false) (hgen : scope.isGenerator = false) (hk : scope.kind = .function)
    (hcell : ∀ x ∈ scope.names, x.2 ≠ .cell) : codeC (model prog w) A (.call (.ref f) args) R s := by
  obtain ⟨FG, BG, st, lv⟩ := groundX (R := R) B F N hA hf hke
  have X := X₀.keeps F.keep
  have hlim := T.nolimit.keeps F.keep
  have hcd' := codeRec_of X hcd
  refine codeC_of_tree rfl ?_
  show wpC _ A.in1 (callAny (.ref f) args) _ _ s
  simp only [callAny]
  refine aBind (wpAny_load (X _ _ ho) ?_)
  obtain ⟨c, oc', vs, tq, rfl, hoc, hdc, hq⟩ := hcd'
  simp only [callFunction, hco, hgen]
  refine aBind (m := field (.ref c) 1) (wpAny_field hoc hdc hq (aBind (wpAny_pure ?_)))
  refine aBind (hbind _ _ _ _ ?_)
  refine aBind (wpAny_newFunctionEnv hcell hloc (fun h₁ hns hsb => ?_) hk)
  have hk₁ : ∀ b o, s.heap.get? b = some o → h₁.get? b = some o := fun b o e => hsb.extBut b o (Nat.ne_of_lt (Heap.lt_size e)) (Heap.get?_push_of_some _ e)
  refine aBind (wpAny_enterFrame (hlim.fresh _ hsb) hroom ?_)
  refine wpC_pure (And.intro rfl (codeC_func ?_))
  exact wpC_mono (h _ s.heap.objs.size h₁ FG ⟨hns, fun b o e => hk₁ b o (of_hideAll _ e), Nat.le_of_eq (hideAll_size _ _)⟩
    (fun p hp => ⟨hk₁ _ _ (N p hp).1, Nat.ne_of_lt (Heap.lt_size (N p hp).1), hideAll_none _ (List.mem_map_of_mem hp)⟩) BG (X₀.keeps st) (T.keeps st) (fun p hp => Heap.lt_size (N p hp).1) (fun b o e hb => hideAll_get _ e hb)) (fun fl s' hl => lv _ _ hl) fun _ _ y => y

theorem codeC_call_builtin {id : String} {args : Args} {b : Builtin} (hh : holdsBuf (.builtin id args) = false) (hq : plainId id = true) (hb : entryFor table id = some b)
    (h : wpAny (model prog w) A.in1 (checkBuiltinCall id args) (fun _ s₁ => wpC (model prog w) A.in1 (b args) (finC (model prog w) A R) (fun e s' => R (.error e) s') s₁)
      (fun e s' => R (.error e) s') s) : codeC (model prog w) A (.call (.builtin id) args) R s := by
  refine codeC_of_tree rfl ?_
  show wpC _ A.in1 (do checkBuiltinCall id args; again (.builtin id args)) _ _ s
  refine aBind (wpAny_mono h (fun _ s₁ h₁ => wpC_pure (And.intro (plainId_quiet hq args) (codeC_of_tree hh ?_))) fun _ _ h' => h')
  rw [Around.under_plainId hq args]
  show wpC _ _ (match entryFor table id with | some b => b args | none => unsupported ((withoutEnding? id "#data").getD id)) _ _ s₁
  rw [hb]; exact h₁
end
end Mine
end

section
open PySem PySem.W PyProof.Rows
set_option Elab.async false
set_option maxRecDepth 100000
set_option maxHeartbeats 4000000
namespace Mine
open Sem (wp)
open PySem.F

theorem ba_mro : mroOf (.type "bytearray") = pure [.type "bytearray", .type "object"] := by rw [mroOf_type]; kernel_rfl
theorem ba_lookup_new : typeLookup (.type "bytearray") "__new__" = pure (some (.builtin "bytearray.__new__")) := by rw [typeLookup_type, builtinLookup_eq_fast]; kernel_rfl
theorem ba_slot_init : Slot "bytearray" "__init__" "bytearray.__init__" :=
  .of (owner := "bytearray") (n := "__init__") (by rw [typeLookup_type, builtinLookup_eq_fast]; kernel_rfl) (by decide +kernel) (by decide +kernel) (by decide +kernel)
    (by first | exact .inl (by decide +kernel) | exact .inr (by decide +kernel)) (by rw [isSubtype_type]; kernel_rfl)
theorem ba_called : TypeCalled "bytearray" "bytearray.__new__" "bytearray.__init__" :=
  ⟨by decide +kernel, by decide +kernel, ⟨_, _, ba_mro⟩, madeBy_type ba_mro ba_lookup_new (by decide +kernel), by decide +kernel, by rw [isSubtype_type]; kernel_rfl, ba_slot_init⟩
theorem ba_typeCall0 : checkTypeCall "bytearray" ⟨[], []⟩ = pure () := by kernel_rfl
theorem ba_typeCall1 (a : Value) : checkTypeCall "bytearray" ⟨[a], []⟩ = pure () := by kernel_rfl
theorem ba_newCall0 : checkBuiltinCall "bytearray.__new__" ⟨[.type "bytearray"], []⟩ = pure () := by kernel_rfl
theorem ba_newCall1 (a : Value) : checkBuiltinCall "bytearray.__new__" ⟨[.type "bytearray", a], []⟩ = pure () := by kernel_rfl
theorem ba_entry_new : entryFor table "bytearray.__new__" = some Builtin.«list.__new__» := entryFor_alias (id' := "list.__new__") (by rw [fastTable_eq_tree]; kernel_rfl) (by first | rfl | decide +kernel) (by decide +kernel) (by rw [fastTable_eq_tree]; kernel_rfl)
theorem ba_plain_new : plainId "bytearray.__new__" = true := by decide +kernel
theorem ba_owner : ("bytearray.__new__".splitOn ".__new__").headD "" = "bytearray" := by simp +decide [String.splitOn, String.splitOnAux]
theorem ba_sub : isSubtype (.type "bytearray") (.type "bytearray") = pure true := by rw [isSubtype_type]; kernel_rfl
theorem ba_entry_init : entryFor table "bytearray.__init__" = some Builtin.«bytearray.__init__» := by first | exact entryFor_of_fast (by kernel_rfl) | exact entryFor_of_tree (by kernel_rfl)
theorem ba_args0 (a : Value) : argsOk "bytearray.__init__" ⟨[a], []⟩ := by unfold argsOk; kernel_rfl
theorem ba_args1 (a b : Value) : argsOk "bytearray.__init__" ⟨[a, b], []⟩ := by unfold argsOk; kernel_rfl

abbrev baObj (b : Array UInt8) : Obj := { cls := .type "bytearray", data := .bytearray b }

section
variable {prog : Program} {w : World} {A : Around} {E : Value → Shared → Prop} {s : Shared}

theorem code_ba_new (rest : List Value) {Q₁ : Value → Shared → Prop} (hn : checkBuiltinCall "bytearray.__new__" ⟨.type "bytearray" :: rest, []⟩ = pure ())
    (h : Q₁ (.ref s.heap.objs.size) { s with heap := s.heap.push (baObj #[]) }) :
    codeAny (model prog w) A (.call (.builtin "bytearray.__new__") ⟨.type "bytearray" :: rest, []⟩) (wants Q₁ E) s := by
  refine codeAny_of_tree ?_
  show wpAny _ A.in1 (do checkBuiltinCall "bytearray.__new__" ⟨.type "bytearray" :: rest, []⟩; again (.builtin "bytearray.__new__" ⟨.type "bytearray" :: rest, []⟩)) _ _ s
  refine wpAny_bind (wpAny_of_eq hn (wpAny_pure ⟨plainId_quiet ba_plain_new _, codeAny_builtin_stack ba_entry_new rfl fun p st => ?_⟩))
  rw [Around.under_plainId ba_plain_new _]
  have hsub := ba_sub
  have hown := ba_owner
  obtain ⟨hp, g, d, tk, os⟩ := s
  simp only [hown]
  wp_walk
  exact h

theorem typeCall_tree {T newId : String} {args : List Value} (h1 : (Value.type T == Value.type "type") = false)
    (h2 : ((Manifest.find? T).bind (·.mro.findSome? fun t => (Manifest.find? t).bind fun b => if b.noNew then some true else if b.attrs.any (·.1 == "__new__") then some false else none)).getD false = false)
    (hct : checkTypeCall T ⟨args, []⟩ = pure ()) {c : Value} {tl : List Value} (hm : mroOf (.type T) = pure (c :: tl)) (hmade : Bind.madeBy (.type T) = pure (some newId)) :
    Builtin.«type.__call__» ⟨.type T :: args, []⟩ = (do
      let obj ← holding [.builtin newId] (call (.builtin newId) (.type T :: args) [])
      if !(← isInstance obj (.type T)) then do rule "type.call.new-gave-other-type"; return ← ret obj
      match ← holding [obj] (callSpecial? obj "__init__" args []) with
      | none => ret obj
      | some r =>
        if r != .none then
          rule "type.call.init-returned-value"
          raiseError "TypeError" s!"__init__() should return None, not '{← typeNameOf r}'"
        ret obj) := by
  unfold Builtin.«type.__call__»
  simp only [h1, h2, hct, hm, hmade, pure_bind, Bool.false_eq_true, if_false, List.isEmpty_cons]
  rfl

theorem codeC_builtin {id : String} {args : Args} {b : Builtin} {R : Result → Shared → Prop} (hh : holdsBuf (.builtin id args) = false) (hb : entryFor table id = some b)
    (h : wpC (model prog w) (A.under (.builtin id args)) (b args) (finC (model prog w) A R) (fun e s' => R (.error e) s') s) : codeC (model prog w) A (.builtin id args) R s := by
  refine codeC_of_tree hh ?_
  show wpC _ _ (match entryFor table id with | some b => b args | none => unsupported ((withoutEnding? id "#data").getD id)) _ _ s
  rw [hb]; exact h

/-- a call of a built-in type whose __init__ is shown by wpC -/
theorem wpC_callType {T newId initId : String} {Bi : Builtin} {args : List Value} {Q Q₁ : Value → Shared → Prop} (ft : TypeCalled T newId initId)
    (hct : checkTypeCall T ⟨args, []⟩ = pure ()) (entryI : entryFor table initId = some Bi) (hh : ∀ obj, holdsBuf (.builtin initId ⟨obj :: args, []⟩) = false)
    (hnew : codeAny (model prog w) A.in1 (.call (.builtin newId) ⟨.type T :: args, []⟩) (wants Q₁ E) s)
    (hnext : ∀ obj s₁, Q₁ obj s₁ → s₁.TypeIs obj T ∧ argsOk initId ⟨obj :: args, []⟩ ∧
      wpC (model prog w) A.in1.in1 (Bi ⟨obj :: args, []⟩) (finC (model prog w) A.in1 (wants (fun r s₂ => r = .none ∧ Q obj s₂) E))
        (fun e s' => wants (fun r s₂ => r = .none ∧ Q obj s₂) E (.error e) s') s₁) :
    wpC (model prog w) A (call (.type T) args) Q E s := by
  obtain ⟨c, tl, hmro⟩ := ft.mro
  have hmade := ft.made
  have hsub := ft.sub
  refine wpC_call (codeC_of_tree rfl ?_)
  show wpC _ _ (callAny (.type T) _) _ _ _
  refine wpC_pure ⟨Code.quiet_builtin _ (by decide +kernel), codeC_builtin rfl F.entry_type_call ?_⟩
  rw [Around.under_plain (weight_type_call_type T args []) rfl]
  rw [typeCall_tree ft.notType ft.canCreate hct hmro hmade]
  refine wpC_bind (wpC_holding (wpC_call (codeC_mono (codeC_of hnew) fun r s₁ hr => ?_)))
  cases r with
  | error e => exact hr
  | ok fl =>
    cases fl with
    | ret obj =>
      obtain ⟨hT, hok, hsi⟩ := hnext _ _ hr
      refine aBind (wpAny_isInstance hT hsub ?_)
      rw [if_neg (by decide)]
      refine wpC_bind (wpC_holding ?_)
      unfold callSpecial?
      have hli := ft.init.lookup
      have hbi := ft.init.bind obj
      refine aBind (wpAny_specialOf hT hli ?_)
      dsimp only
      refine wpC_holding (aBind (wpAny_of_eq hbi ?_))
      refine wpC_bind (wpC_call (codeC_mono (codeC_call_builtin (hh obj) ft.init.plain entryI (ft.init.check _ _ _ _ _ _ _ _ hT hok hsi)) fun r₂ s₂ hr₂ => ?_))
      cases r₂ with
      | error e => exact hr₂
      | ok fl₂ =>
        cases fl₂ with
        | ret r =>
          obtain ⟨rfl, hq⟩ := hr₂
          exact wpC_pure (wpC_pure hq)
        | _ => exact hr₂.elim
    | _ => exact hr.elim
end
end Mine
end

section
open PySem PySem.W PyProof.Rows
set_option Elab.async false
set_option maxRecDepth 100000
set_option maxHeartbeats 4000000
namespace Mine
open Sem (wp)
open PySem.F Builtin

theorem ba_look_buffer : typeLookup (.type "bytearray") "__buffer__" = pure (some (.builtin "bytearray.__buffer__")) := by rw [typeLookup_type, builtinLookup_eq_fast]; kernel_rfl
theorem ba_look_release : typeLookup (.type "bytearray") "__release_buffer__" = pure (some (.builtin "bytearray.__release_buffer__")) := by rw [typeLookup_type, builtinLookup_eq_fast]; kernel_rfl
theorem ba_look_index : typeLookup (.type "bytearray") "__index__" = pure none := by rw [typeLookup_type, builtinLookup_eq_fast]; kernel_rfl
theorem ba_rel_name : ("bytearray.__release_buffer__".endsWith ("." ++ "__release_buffer__")) = true := by decide +kernel
theorem ba_rel_owner : "bytearray.__release_buffer__".dropRight ("__release_buffer__".length + 1) = "bytearray" := by decide +kernel
theorem ba_buf_name : ("bytearray.__buffer__".endsWith ("." ++ "__buffer__")) = true := by decide +kernel
theorem ba_buf_owner : "bytearray.__buffer__".dropRight ("__buffer__".length + 1) = "bytearray" := by decide +kernel

section
variable {prog : Program} {w : World} {M : Model} {A : Around} {E : Value → Shared → Prop} {s : Shared} {a : Addr} {b : Array UInt8}

theorem ba_type (h : s.heap.get? a = some (baObj b)) : s.TypeIs (.ref a) "bytearray" := ⟨_, h, rfl⟩

theorem ba_ownRelease {Q : Bool → Shared → Prop} (h : s.heap.get? a = some (baObj b)) (q : Q false s) : wpAny M A (Bytes.ownRelease (.ref a)) Q E s := by
  unfold Bytes.ownRelease Bytes.slotIsOwn
  refine wpAny_bind (wpAny_bind (wpAny_specialOf (ba_type h) ba_look_release ?_))
  dsimp only
  rw [ba_rel_name, ba_rel_owner]
  exact wpAny_isInstance (ba_type h) ba_sub (wpAny_pure q)

theorem ba_ownBuffer {Q : Bool → Shared → Prop} (h : s.heap.get? a = some (baObj b)) (q : Q true s) : wpAny M A (Bytes.slotIsOwn (.ref a) "__buffer__") Q E s := by
  unfold Bytes.slotIsOwn
  refine wpAny_bind (wpAny_specialOf (ba_type h) ba_look_buffer ?_)
  dsimp only
  rw [ba_buf_name, ba_buf_owner]
  exact wpAny_isInstance (ba_type h) ba_sub q

theorem ba_payload {Q : Array UInt8 → Shared → Prop} (h : s.heap.get? a = some (baObj b)) (q : Q b s) : wpAny M A (Bytes.payload (.ref a)) Q E s := by
  unfold Bytes.payload Bytes.payload?
  exact wpAny_bind (wpAny_bind (wpAny_load h (wpAny_pure (wpAny_pure q))))

theorem ba_buffer {id : String} {full : Bool} {Q : Option (Array UInt8) → Shared → Prop} (h : s.heap.get? a = some (baObj b)) (q : Q (some b) s) : wpAny M A (Bytes.buffer? id (.ref a) full) Q E s := by
  unfold Bytes.buffer?
  refine wpAny_bind (wpAny_specialOf (ba_type h) ba_look_buffer ?_)
  refine wpAny_bind (ba_ownBuffer h ?_)
  rw [if_neg (by decide)]
  refine wpAny_bind (wpAny_specialOf (ba_type h) ba_look_buffer ?_)
  dsimp only
  refine wpAny_bind (ba_ownRelease h ?_)
  rw [if_neg (by decide)]
  exact wpAny_bind (ba_payload h (wpAny_pure q))

/-- a write upon a bytearray -/
theorem ba_write {f : Array UInt8 → Array UInt8} {Q : Unit → Shared → Prop} (h : s.heap.get? a = some (baObj b)) (hz : (f b).size ≤ sizeLine)
    (q : Q () { s with heap := s.heap.update a (Obj.mapBytearray f) }) : wpAny M A (Bytes.write (.ref a) f) Q E s := by
  show wpAny M A (updateBytearray a f) Q E s
  unfold updateBytearray
  refine wpAny_bind (wpAny_load h ?_)
  show wpAny _ _ (update a (Obj.mapBytearray f) >>= fun _ => lookBehind a) _ _ _
  refine wpAny_bind (wpAny_update h ?_)
  have h₂ : (s.heap.update a (Obj.mapBytearray f)).get? a = some (baObj (f b)) := Heap.get?_update_self (Obj.mapBytearray f) h rfl
  refine wpAny_lookBehind h₂ ?_ q
  show (if (f b).size > sizeLine then some "bytearray:memory" else none) = none
  rw [if_neg (by omega)]

theorem ba_exportsOf {Q : Nat → Shared → Prop} (h : s.heap.get? a = some (baObj b)) (q : Q 0 s) : wpAny M A (Bytes.exportsOf (.ref a)) Q E s := by
  unfold Bytes.exportsOf
  exact wpAny_bind (wpAny_load h (wpAny_pure q))

theorem ba_checkResize {Q : Unit → Shared → Prop} (h : s.heap.get? a = some (baObj b)) (q : Q () s) : wpC M A (Bytes.checkResize (.ref a)) Q E s := by
  unfold Bytes.checkResize
  refine wpC_bind ?_
  show wpC M A (Bytes.exported (.ref a) >>= fun r => _) _ _ _
  refine wpC_bind (wpC_exported ?_)
  refine aBind (ba_exportsOf h (wpC_pure ?_))
  exact wpC_pure q

theorem ba_addAtEnd {more : Array UInt8} {Q : Fin → Shared → Prop} (h : s.heap.get? a = some (baObj b)) (hz : (b ++ more).size ≤ sizeLine)
    (q : Q (.done (.ret .none)) { s with heap := s.heap.update a (Obj.mapBytearray (· ++ more)) }) :
    wpC M A (do
      if !more.isEmpty then Bytes.checkResize (.ref a)
      Bytes.write (.ref a) (· ++ more)
      ret .none) Q E s := by
  have fin : wpC M A (do Bytes.write (.ref a) (· ++ more); ret .none) Q E s := aBind (ba_write h hz (wpC_pure q))
  by_cases he : (!more.isEmpty) = true
  · rw [if_pos he]
    exact wpC_bind (ba_checkResize h fin)
  · rw [if_neg he]
    exact fin

theorem ba_bind0 : Bytes.bindOptional "bytearray.__init__" "bytearray" ["source", "encoding", "errors"] [] [] = pure [none, none, none] := by kernel_rfl
theorem ba_bind1 (v : Value) : Bytes.bindOptional "bytearray.__init__" "bytearray" ["source", "encoding", "errors"] [v] [] = pure [some v, none, none] := by kernel_rfl

theorem ba_exported {α : Type} {f : Bool → Sem α} {Q : α → Shared → Prop} (h : s.heap.get? a = some (baObj b)) (q : wpC M A (f false) Q E s) :
    wpC M A ((Bytes.exported (.ref a) <||> do return (← Bytes.exportsOf (.ref a)) > 0) >>= f) Q E s := by
  refine wpC_bind ?_
  show wpC M A (Bytes.exported (.ref a) >>= fun r => _) _ _ _
  refine wpC_bind (wpC_exported ?_)
  exact aBind (ba_exportsOf h (wpC_pure q))

theorem ba_init0 {Q : Fin → Shared → Prop} (h : s.heap.get? a = some (baObj b)) (q : Q (.done (.ret .none)) { s with heap := s.heap.update a (Obj.mapBytearray fun _ => #[]) }) :
    wpC M A (Builtin.«bytearray.__init__» ⟨[.ref a], []⟩) Q E s := by
  unfold Builtin.«bytearray.__init__»
  refine aBind (ba_ownRelease h ?_)
  rw [if_neg (by decide)]
  refine aBind (wpAny_of_eq ba_bind0 ?_)
  refine aBind (wpAny_of_eq (a := ()) rfl ?_)
  refine aBind (wpAny_of_eq (a := ()) rfl ?_)
  refine ba_exported h ?_
  refine aBind (ba_write h (Nat.zero_le _) ?_)
  exact wpC_pure q

theorem ba_init1 {c : Addr} {bc : Array UInt8} {Q : Fin → Shared → Prop} (h : s.heap.get? a = some (baObj b)) (hc : s.heap.get? c = some (baObj bc)) (hne : c ≠ a) (hz : bc.size ≤ sizeLine)
    (q : Q (.done (.ret .none)) { s with heap := (s.heap.update a (Obj.mapBytearray fun _ => #[])).update a (Obj.mapBytearray fun _ => bc) }) :
    wpC M A (Builtin.«bytearray.__init__» ⟨[.ref a, .ref c], []⟩) Q E s := by
  unfold Builtin.«bytearray.__init__»
  refine aBind (ba_ownRelease h ?_)
  rw [if_neg (by decide)]
  refine aBind (wpAny_of_eq (ba_bind1 _) ?_)
  refine aBind (wpAny_of_eq (a := ()) rfl ?_)
  refine aBind (wpAny_of_eq (a := ()) rfl ?_)
  refine ba_exported h ?_
  refine aBind (ba_write h (Nat.zero_le _) ?_)
  have h1 : (s.heap.update a (Obj.mapBytearray fun _ => #[])).get? a = some (baObj #[]) := Heap.get?_update_self (Obj.mapBytearray fun _ => #[]) h rfl
  have hc1 : (s.heap.update a (Obj.mapBytearray fun _ => #[])).get? c = some (baObj bc) := (Heap.get?_update_other _ _ (Ne.symm hne)).trans hc
  have hT : ({ s with heap := s.heap.update a (Obj.mapBytearray fun _ => #[]) } : Shared).TypeIs (.ref c) "bytearray" := ⟨_, hc1, rfl⟩
  refine aBind (m := asStr? (.ref c)) ?_
  unfold asStr?
  refine wpAny_bind (wpAny_load hc1 (wpAny_pure ?_))
  refine aBind (wpAny_of_eq (a := ()) rfl ?_)
  refine aBind (wpAny_specialOf hT ba_look_index ?_)
  refine aBind (ba_buffer (s := { s with heap := s.heap.update a (Obj.mapBytearray fun _ => #[]) }) hc1 ?_)
  refine aBind (wpAny_rule ?_)
  exact aBind (ba_write (s := { s with heap := s.heap.update a (Obj.mapBytearray fun _ => #[]) }) h1 hz (wpC_pure q))

theorem ba_append {n : Int} {t : Tok} {Q : Fin → Shared → Prop} (h : s.heap.get? a = some (baObj b)) (h0 : 0 ≤ n) (h1 : n < 256) (hz : b.size + 1 ≤ sizeLine)
    (q : Q (.done (.ret .none)) { s with heap := s.heap.update a (Obj.mapBytearray (·.push n.toNat.toUInt8)) }) :
    wpC M A (Builtin.«bytearray.append» ⟨[.ref a, .int n t], []⟩) Q E s := by
  unfold Builtin.«bytearray.append»
  refine aBind (wpAny_of_eq (a := (.ref a, .int n t)) rfl ?_)
  refine aBind (m := Bytes.byteValue (.int n t)) ?_
  unfold Bytes.byteValue
  refine wpAny_bind (wpAny_of_eq (rfl : asIndex (.int n t) = pure n) ?_)
  rw [if_neg (by simp only [Bool.or_eq_true, decide_eq_true_eq]; omega)]
  refine wpAny_pure ?_
  refine wpC_bind (ba_checkResize h ?_)
  exact aBind (ba_write h (by rw [Array.size_push]; exact hz) (wpC_pure q))

theorem take_eq {id : String} {c : Array UInt8} {t : Tok} : Bytes.takeBuffer? id (.bytes c t) 0 = pure (some (c, none)) := by
  unfold Bytes.takeBuffer?
  rw [KBy.special_eq KBy.look_buffer, KBy.own_buffer, show ((0 : Int) == Bytes.fullReadOnly) = false from by decide, KBy.buffer_eq]
  kernel_rfl
theorem takeQ_eq {id : String} {c : Array UInt8} {t : Tok} : Bytes.takeBufferQuiet? id (.bytes c t) 0 = pure (some (c, none)) := by
  unfold Bytes.takeBufferQuiet?
  rw [take_eq]
  rfl

theorem ba_extend {more : Array UInt8} {t : Tok} {Q : Fin → Shared → Prop} (h : s.heap.get? a = some (baObj b)) (hz : (b ++ more).size ≤ sizeLine)
    (q : Q (.done (.ret .none)) { s with heap := s.heap.update a (Obj.mapBytearray (· ++ more)) }) :
    wpC M A (Builtin.«bytearray.extend» ⟨[.ref a, .bytes more t], []⟩) Q E s := by
  unfold Builtin.«bytearray.extend»
  refine aBind (wpAny_of_eq (a := (.ref a, .bytes more t)) rfl ?_)
  refine aBind (wpAny_of_eq (KBy.special_eq KBy.look_buffer) ?_)
  rw [if_pos (by decide)]
  refine aBind (wpAny_rule ?_)
  refine aBind (ba_payload h ?_)
  refine aBind (wpAny_of_eq takeQ_eq ?_)
  exact ba_addAtEnd h hz q

theorem ba_slot_append : Slot "bytearray" "append" "bytearray.append" :=
  .of (owner := "bytearray") (n := "append") (by rw [typeLookup_type, builtinLookup_eq_fast]; kernel_rfl) (by decide +kernel) (by decide +kernel) (by decide +kernel)
    (by first | exact .inr (by decide +kernel) | exact .inl (by decide +kernel)) ba_sub
theorem ba_slot_extend : Slot "bytearray" "extend" "bytearray.extend" :=
  .of (owner := "bytearray") (n := "extend") (by rw [typeLookup_type, builtinLookup_eq_fast]; kernel_rfl) (by decide +kernel) (by decide +kernel) (by decide +kernel)
    (by first | exact .inr (by decide +kernel) | exact .inl (by decide +kernel)) ba_sub
theorem ba_entry_append : entryFor table "bytearray.append" = some Builtin.«bytearray.append» := entryFor_of_tree (by kernel_rfl)
theorem ba_entry_extend : entryFor table "bytearray.extend" = some Builtin.«bytearray.extend» := entryFor_of_tree (by kernel_rfl)
theorem ba_args_append (x y : Value) : argsOk "bytearray.append" ⟨[x, y], []⟩ := by unfold argsOk; kernel_rfl
theorem ba_args_extend (x y : Value) : argsOk "bytearray.extend" ⟨[x, y], []⟩ := by unfold argsOk; kernel_rfl

theorem wpC_entry {id : String} {T : String} {nm : Str} {bi : Builtin} {self : Value} {rest : List Value} {Q : Value → Shared → Prop} (sl : Slot T nm id) (he : entryFor table id = some bi) (hh : holdsBuf (.builtin id ⟨self :: rest, []⟩) = false)
    (hT : s.TypeIs self T) (ha : argsOk id ⟨self :: rest, []⟩)
    (h : wpC (model prog w) A.in1 (bi ⟨self :: rest, []⟩) (fun fin s' => ∃ v, fin = .done (.ret v) ∧ Q v s') E s) : wpC (model prog w) A (call (.builtin id) (self :: rest)) Q E s := by
  refine wpC_call (codeC_call_builtin hh sl.plain he (sl.check _ _ _ _ _ _ _ _ hT ha (wpC_mono h (fun fin s' hf => ?_) fun _ _ x => x)))
  obtain ⟨v, rfl, hq⟩ := hf
  exact hq

theorem call_append {n : Int} {t : Tok} {Q : Value → Shared → Prop} (h : s.heap.get? a = some (baObj b)) (h0 : 0 ≤ n) (h1 : n < 256) (hz : b.size + 1 ≤ sizeLine)
    (q : Q .none { s with heap := s.heap.update a (Obj.mapBytearray (·.push n.toNat.toUInt8)) }) :
    wpC (model prog w) A (call (.builtin "bytearray.append") [.ref a, .int n t]) Q E s :=
  wpC_entry ba_slot_append ba_entry_append rfl (ba_type h) (ba_args_append _ _) (ba_append h h0 h1 hz ⟨_, rfl, q⟩)
theorem call_extend {more : Array UInt8} {t : Tok} {Q : Value → Shared → Prop} (h : s.heap.get? a = some (baObj b)) (hz : (b ++ more).size ≤ sizeLine)
    (q : Q .none { s with heap := s.heap.update a (Obj.mapBytearray (· ++ more)) }) :
    wpC (model prog w) A (call (.builtin "bytearray.extend") [.ref a, .bytes more t]) Q E s :=
  wpC_entry ba_slot_extend ba_entry_extend rfl (ba_type h) (ba_args_extend _ _) (ba_extend h hz ⟨_, rfl, q⟩)

/-- bytearray() and bytearray(b): a new object -/
theorem call_ba0 {Q : Value → Shared → Prop} (q : ∀ h', (∀ b o, s.heap.get? b = some o → h'.get? b = some o) → h'.get? s.heap.objs.size = some (baObj #[]) → h'.objs.size = s.heap.objs.size + 1 → Q (.ref s.heap.objs.size) { s with heap := h' }) :
    wpC (model prog w) A (call (.type "bytearray") []) Q E s := by
  refine wpC_callType (Q₁ := fun obj s₁ => obj = .ref s.heap.objs.size ∧ s₁ = { s with heap := s.heap.push (baObj #[]) }) ba_called ba_typeCall0 ba_entry_init (fun _ => rfl) (code_ba_new [] ba_newCall0 ⟨rfl, rfl⟩) fun obj s₁ h₁ => ?_
  obtain ⟨rfl, rfl⟩ := h₁
  have h : (s.heap.push (baObj #[])).get? s.heap.objs.size = some (baObj #[]) := Heap.get?_push_size _ rfl
  refine ⟨⟨_, h, rfl⟩, ba_args0 _, ba_init0 (s := { s with heap := s.heap.push (baObj #[]) }) h ⟨rfl, q _ (fun b o e => ?_) ?_ ?_⟩⟩
  · exact (Heap.get?_update_other _ _ (Nat.ne_of_gt (Heap.lt_size e))).trans (Heap.get?_push_of_some _ e)
  · exact Heap.get?_update_self (Obj.mapBytearray fun _ => #[]) h rfl
  · show (Heap.update (Heap.push s.heap _) _ _).objs.size = _
    rw [Heap.size_update, Heap.size_push]

theorem call_ba1 {c : Addr} {bc : Array UInt8} {Q : Value → Shared → Prop} (hc : s.heap.get? c = some (baObj bc)) (hz : bc.size ≤ sizeLine)
    (q : ∀ h', (∀ b o, s.heap.get? b = some o → h'.get? b = some o) → h'.get? s.heap.objs.size = some (baObj bc) → h'.objs.size = s.heap.objs.size + 1 → Q (.ref s.heap.objs.size) { s with heap := h' }) :
    wpC (model prog w) A (call (.type "bytearray") [.ref c]) Q E s := by
  refine wpC_callType (Q₁ := fun obj s₁ => obj = .ref s.heap.objs.size ∧ s₁ = { s with heap := s.heap.push (baObj #[]) }) ba_called (ba_typeCall1 _) ba_entry_init (fun _ => rfl) (code_ba_new [.ref c] (ba_newCall1 _) ⟨rfl, rfl⟩) fun obj s₁ h₁ => ?_
  obtain ⟨rfl, rfl⟩ := h₁
  have h : (s.heap.push (baObj #[])).get? s.heap.objs.size = some (baObj #[]) := Heap.get?_push_size _ rfl
  have h1 : ((s.heap.push (baObj #[])).update s.heap.objs.size (Obj.mapBytearray fun _ => #[])).get? s.heap.objs.size = some (baObj #[]) := Heap.get?_update_self (Obj.mapBytearray fun _ => #[]) h rfl
  refine ⟨⟨_, h, rfl⟩, ba_args1 _ _, ba_init1 (s := { s with heap := s.heap.push (baObj #[]) }) h (Heap.get?_push_of_some _ hc) (Nat.ne_of_lt (Heap.lt_size hc)) hz ⟨rfl, q _ (fun b o e => ?_) ?_ ?_⟩⟩
  · exact (Heap.get?_update_other _ _ (Nat.ne_of_gt (Heap.lt_size e))).trans ((Heap.get?_update_other _ _ (Nat.ne_of_gt (Heap.lt_size e))).trans (Heap.get?_push_of_some _ e))
  · exact Heap.get?_update_self (Obj.mapBytearray fun _ => bc) h1 rfl
  · show (Heap.update (Heap.update (Heap.push s.heap _) _ _) _ _).objs.size = _
    rw [Heap.size_update, Heap.size_update, Heap.size_push]
end
end Mine
end

section
open PySem PySem.W PyProof.Rows PySem.Calls
set_option Elab.async false
set_option maxRecDepth 100000
set_option maxHeartbeats 4000000
namespace Mine

/-- the walk that the head asks for, by wpC: the law's caller stands alone below -/
abbrev WalkC (q : Program) (loose : List Str) (XP : (Str → Option Value) → Heap → Prop) (YP : World → Heap → Prop) (r : RowW) (d : DefRec) (kwd : List (Str × Expr)) : Prop :=
  ∀ (w : World) (s₀ s₁ : Shared) (mg mb : Str → Option Value), Ground q loose r.records XP w s₀ mg mb s₁.heap → YP w s₁.heap → ∀ (a : Addr) (o : Obj) (pm cd doc dV kV : Value), s₁.heap.get? a = some o →
    o.data = .func { docDef d.name d.params d.body d.scope pm cd doc with defaults := dV, kwdefaults := kV } → s₁.heap.CodeRec cd d.name → Dflts mg s₁.heap d.params kwd dV kV → mg d.name = some (.ref a) → s₁.gens = #[] →
    ∀ (args : List WData) (vals : List Value) (as : List Addr), r.claim.pre args = true → WData.layableAll args = true → ReadsAllW r.records (classAt s₀.heap) s₁.heap vals args as → WellAll w.params s₁.heap vals args → (∀ a ∈ as, (a == sysModules) = false) →
      wpC (model r.prog w) callerA (PySem.call (.ref a) vals) (fun v s' => GoodWG r.claim (classAt s₀.heap) (ExcName.means s₀.heap) args s₁ (.ok (.ret v)) s')
        (fun e s' => GoodWG r.claim (classAt s₀.heap) (ExcName.means s₀.heap) args s₁ (.error e) s') s₁

theorem threadC {prog : Program} {w : World} {t : Sem PySem.Fin} {s : Shared} {R : Result → Shared → Prop} (hreg : s.asleep)
    (h : wpC (model prog w) callerA t (fun fin s' => ∃ f, fin = .done f ∧ (R (.ok f) s' ∧ leftWithCleanup s'.gens = false)) (fun e s' => R (.error e) s' ∧ leftWithCleanup s'.gens = false) s) :
    ∃ n r s' s'', runN (denote table) prog w n s ⟨t, .builtin "claim.caller" {}, default, []⟩ = .halted (outcomeOf r) s' ∧
      schedN (denote table) prog w n (.single s ⟨t, .builtin "claim.caller" {}, default, []⟩) = .halted (outcomeOf r) s' ∧ s'.forget = s''.forget ∧ R r s'' := by
  have hw : Sem.wp (model prog w) ⟨.builtin "claim.caller" {}, none, none, [], none⟩ t (Sem.finPost (model prog w) ⟨.builtin "claim.caller" {}, none, none, [], none⟩ fun r s' => R r s' ∧ leftWithCleanup s'.gens = false)
      (fun e _ s' => R (.error e) s' ∧ leftWithCleanup s'.gens = false) default s := by
    refine Sem.wp_mono _ _ t (fun fin p' s' h' => ?_) (fun _ _ _ h' => h') default s (h ⟨.builtin "claim.caller" {}, none, none, [], none⟩ default caller_in rfl (fun x hx => nomatch hx))
    obtain ⟨f, rfl, hf⟩ := h'
    exact hf
  obtain ⟨n, r, s₁, s₂, hs, hn, hfo, hR⟩ := wp_halts_full (M := model prog w) (R := R) hreg hw
  exact ⟨n, r, s₂, s₁, hn, hs, hfo, hR⟩

theorem callFromC {c : ClaimW} {tree : List Value → Sem PySem.Fin} {w : World} {s : Shared} {free : Addr → Prop} {gens : Prop} {kept : Heap → Prop} (hz : s.asleep) (hgens : s.gens = #[])
    (hspec : ∀ args, c.pre args = true → WData.layableAll args = true →
      ∀ ord : List DictEntry → List DictEntry, (∀ l, (ord l).Perm l) →
      ∃ vs s₁, layAllW c.records (classAt s.heap) w.params ord args s = some (vs, s₁) ∧
        wpC (model c.prog w) callerA (tree vs) (fun fin s' => ∃ f, fin = .done f ∧ (c.Ends s args vs s₁ (.ok f) s' ∧ s'.os = s.os ∧ AllBare s'.gens ∧ kept s'.heap))
          (fun e s' => c.Ends s args vs s₁ (.error e) s' ∧ s'.os = s.os ∧ AllBare s'.gens ∧ kept s'.heap) s₁) :
    c.CallFrom (fun vs => ⟨tree vs, .builtin "claim.caller" {}, default, []⟩) w free gens kept s := by
  intro args hpre hlay ord hord
  obtain ⟨vs, s₁, hlaid, hcode⟩ := hspec args hpre hlay ord hord
  have hal := layAllW_rest _ _ _ hlaid
  obtain ⟨k, r, s', s'', hrun, hsched, hfo, hcase, hos, hkp⟩ := threadC (prog := c.prog) (w := w) (t := tree vs) (s := s₁)
    (R := fun r s' => c.Ends s args vs s₁ r s' ∧ s'.os = s.os ∧ kept s'.heap)
    (Shared.asleep_of_life hal.2.2.2 hz)
    (wpC_mono hcode (by
      rintro fin s' ⟨f, e, h1, h2, h3, h4⟩
      exact ⟨f, e, ⟨h1, h2, h4⟩, leftWithCleanup_false_of_bare h3⟩) (by
      rintro e s' ⟨h1, h2, h3, h4⟩
      exact ⟨⟨h1, h2, h4⟩, leftWithCleanup_false_of_bare h3⟩))
  obtain ⟨eh, _, _, eo, _⟩ := Shared.forget_eq hfo
  have hcase := hcase.congr eh
  rw [← eh] at hkp
  rw [← eo] at hos
  have hlife : s'.heap.life = s.heap.life := (runN_life _ _ _ hrun).trans hal.2.2.2
  refine ⟨vs, s₁, hlaid, k, _, s', hsched, ?_, (fun _ i x hx => by rw [hgens] at hx; simp at hx), hkp, by rw [hlife], Shared.rest_eq hos⟩
  rcases hcase with ⟨v, rfl, d1, d2, d3, d4, d5⟩ | ⟨e, ob, cls, rfl, d1, d2, d3, d4, d5⟩
  · exact .inl ⟨v, rfl, d1, d2, d3, fun b o y _ => d4 b o y, d5⟩
  · exact .inr ⟨e, ob, cls, rfl, d1, d2, d3, d4, fun b o y _ => d5 b o y⟩

/-- the head of a plain open row, its walk by wpC. The name's end is the kit's own, so that the kit's tactic for heads lands here. -/
theorem PySem.W.holds_open {r : OpenRow} {q : Program} {loose : List Str} {Xt : Shared → Bool} {XP : (Str → Option Value) → Heap → Prop} {α : Type} {Yf : Shared → α} {Ya : World → α} {YP : World → Heap → Prop} {d : DefRec} {kwd : List (Str × Expr)} {N : Nat}
    (left : LeftO r.prog q loose Xt Yf Ya N) (hY : ∀ w s, Yf s = Ya w → YP w s.heap) (hYk : ∀ w h h', YP w h → (∀ b o, h.get? b = some o → h'.get? b = some o) → YP w h')
    (hX : ∀ s, Xt s = true → XP (s.heap.nsMap mainGlobals) s.heap) (hXk : ∀ mg h h', XP mg h → (∀ b o, h.get? b = some o → h'.get? b = some o) → XP mg h')
    (hdef : defOf q r.name = some (d, kwd)) (hp : r.prog.theDef r.name = some (d.params, d.body, d.scope)) (hk : kwWritten? d.params.kwonlyargs d.params.kw_defaults = some kwd) (hRf : ∀ s, Xt s = true → RecFacts r.records s.heap) (hwr : (!r.writes || r.records.isEmpty) = true)
    (k1 : r.wellSaid = true) (ok : (chainsOk q && opensWell r.prog && (frees r.toRowW && r.within.isEmpty)) = true) (hb : r.prog.bare) (hw : r.toRowW.promised)
    (walk : WalkC q loose XP YP r.toRowW d kwd) : r.Holds := by
  refine ⟨k1, hw, ?_⟩
  obtain ⟨ok, k5⟩ := Bool.and_eq_true_iff.mp ok
  obtain ⟨hch, o1⟩ := Bool.and_eq_true_iff.mp ok
  obtain ⟨k5, k6⟩ := Bool.and_eq_true_iff.mp k5
  obtain ⟨hsame, hu, ha, hap, hm⟩ := frees_parts k5
  refine ⟨⟨hb, o1, by show r.toRowW.makers.map _ = []; rw [hm]; rfl⟩, hw.witness, fun w => ⟨(left.behind hX hch w).1, fun s' hs' => ?_⟩⟩
  obtain ⟨s₀, hf, hg0, s, hT, hz, hgens, hg, G00, y⟩ := (left.behind (XP := fun mg h => XP mg h ∧ RecFacts r.records h) (fun s hs => ⟨hX s hs, hRf s hs⟩) hch w).2 s' hs'
  have G0 : Ground q loose [] XP w s (s.heap.nsMap mainGlobals) (s.heap.nsMap builtinsNs) s.heap := ⟨G00.T, G00.B, G00.D, G00.TE, G00.TD, G00.W, G00.X.1, G00.cls, G00.has, G00.apart, G00.once, G00.K⟩
  have RF := G00.X.2
  have hT' := hT
  refine ⟨s₀, hf, hg0, s, hT, fun n hn => ?_, RF.1, RF.2.1, ?_⟩
  · obtain rfl : n = r.name := by split at hn <;> simp_all
    exact pinned_of_view hg G0 hdef hp hk
  have hgens : s.gens = #[] := Array.eq_empty_of_size_eq_zero (beq_iff_eq.mp hgens)
  have G : Ground q loose r.records XP w s _ _ s.heap := RF.ground G0
  refine callFromC (c := r.toRowW.claim) (tree := fun vs => do match ← nsGet mainNs r.name with
      | some f => do ret (← PySem.call f vs)
      | none => unsupported "claim.caller:no-such-global") hz hgens fun args hpre hlay ord hord => ?_
  obtain ⟨⟨vs, s₁⟩, hlaid⟩ := Option.isSome_iff_exists.mp (layAllW_isSome (P := w.params) (ord := ord) G.has args r.args s (pre_splitW hpre).1)
  have keeps := layAllW_keeps _ _ _ hlaid
  have hal := layAllW_rest _ _ _ hlaid
  obtain ⟨as, hrd, hin, hold⟩ := reads_layAllW hord _ _ _ hlaid hlay s₁.heap (fun _ _ e => e)
  have L : Laid r.records w s s₁ args vs as := ⟨⟨ord, hord, hlaid⟩, hrd, hin, hold, keeps, hal.1.trans hgens, hal.2.2.1⟩
  have G₁ := G.keeps hXk keeps
  obtain ⟨a, o, pm, cd, doc, dV, kV, h1, h2, h3, h4, h5⟩ := G₁.fn hdef
  have h := walk w s s₁ _ _ G₁ (hYk _ _ _ (hY w s y) keeps) a o pm cd doc dV kV h2 h3 h4 h5 (defOf_name hdef ▸ h1) L.gens args vs as hpre hlay L.reads L.well (L.low G.low)
  have hi := ident_freeW hu ha hap
  have hwi : r.toRowW.claim.within = [] := List.isEmpty_iff.mp k6
  refine ⟨vs, s₁, hlaid, aBind (wpAny_nsGet G₁.T.g ?_)⟩
  rw [h1]
  refine wpC_bind (wpC_mono h (fun v s' g => wpC_pure ⟨_, rfl, ?_⟩) fun e s' g => ?_)
  · have z := g.laid (c := r.toRowW.claim) hsame hwi hi L
    exact ⟨z.1, z.2.1, z.2.2, fun q => ⟨namesKept_of hT' hg _ keeps g.2.1.old, noTable hwr q⟩⟩
  · have z := g.laid (c := r.toRowW.claim) hsame hwi hi L
    exact ⟨z.1, z.2.1, z.2.2, fun q => ⟨namesKept_of hT' hg _ keeps g.2.1.old, noTable hwr q⟩⟩
end Mine
end

section
open PySem PySem.W PyProof.Rows
set_option Elab.async false
set_option maxRecDepth 100000
set_option maxHeartbeats 4000000
namespace Mine
open PySem.F Builtin

/-- lexical order of octets as the model says it -/
abbrev ord (x y : List UInt8) : Ordering := Bytes.order x y
def ltB (x y : List UInt8) : Bool := Bytes.order x y == .lt

theorem slot_bytes_lt : Slot "bytes" (cmpInfo .Lt).2.1 "bytes.__lt__" :=
  .of (owner := "bytes") (n := "__lt__") (by rw [typeLookup_type, builtinLookup_eq_fast]; kernel_rfl) (by decide +kernel) (by decide +kernel) (by decide +kernel)
    (by first | exact .inl (by decide +kernel) | exact .inr (by decide +kernel)) F.sub_bytes_bytes
theorem entry_bytes_lt : entryFor table "bytes.__lt__" = some Builtin.«bytes.__lt__» := entryFor_of_tree (by kernel_rfl)
theorem args_bytes_lt (a b : Value) : argsOk "bytes.__lt__" ⟨[a, b], []⟩ := by unfold argsOk; kernel_rfl
theorem slot_bytes_gt : Slot "bytes" (cmpInfo .Gt).2.1 "bytes.__gt__" :=
  .of (owner := "bytes") (n := "__gt__") (by rw [typeLookup_type, builtinLookup_eq_fast]; kernel_rfl) (by decide +kernel) (by decide +kernel) (by decide +kernel)
    (by first | exact .inl (by decide +kernel) | exact .inr (by decide +kernel)) F.sub_bytes_bytes
theorem entry_bytes_gt : entryFor table "bytes.__gt__" = some Builtin.«bytes.__gt__» := entryFor_of_tree (by kernel_rfl)
theorem args_bytes_gt (a b : Value) : argsOk "bytes.__gt__" ⟨[a, b], []⟩ := by unfold argsOk; kernel_rfl
theorem gives_lt (b c : Array UInt8) (t u : Tok) : Gives (Builtin.«bytes.__lt__» ⟨[.bytes b t, .bytes c u], []⟩) (.val (.bool (Bytes.order b.toList c.toList == .lt))) := by
  refine .of_wp fun M A E s Q hq => ?_
  show wpAny M A (isInstance (.bytes c u) (.type "bytes") >>= fun r => _) _ E s
  refine wpAny_bind (wpAny_isInstance (typeIs_bytes s c u) F.sub_bytes_bytes ?_)
  exact wpAny_pure ⟨_, rfl, hq⟩
theorem gives_gt (b c : Array UInt8) (t u : Tok) : Gives (Builtin.«bytes.__gt__» ⟨[.bytes b t, .bytes c u], []⟩) (.val (.bool (Bytes.order b.toList c.toList == .gt))) := by
  refine .of_wp fun M A E s Q hq => ?_
  show wpAny M A (isInstance (.bytes c u) (.type "bytes") >>= fun r => _) _ E s
  refine wpAny_bind (wpAny_isInstance (typeIs_bytes s c u) F.sub_bytes_bytes ?_)
  exact wpAny_pure ⟨_, rfl, hq⟩

theorem order_swap : ∀ x y : List UInt8, (Bytes.order x y == .gt) = (Bytes.order y x == .lt)
  | [], [] | [], _ :: _ | _ :: _, [] => rfl
  | a :: x, b :: y => by
    simp only [Bytes.order]
    by_cases h1 : a < b
    · have h2 : ¬ a > b := UInt8.not_lt.mpr (UInt8.le_of_lt h1)
      have h3 : ¬ b < a := h2
      simp [h1, h3]
    · by_cases h2 : a > b
      · have h3 : b < a := h2
        simp [h1, h3]
      · have h3 : ¬ b < a := h2
        simp only [h1, h2, if_false]
        exact order_swap x y

section
variable {prog : Program} {w : World} {A : Around} {E : Value → Shared → Prop} {s : Shared} {x y : List UInt8} {t u : Tok} {h₀ : Heap} {L : Addr} {m : Str → Option Value} {news : List (Addr × Obj)} {Q : Value → Shared → Prop}

theorem r_add (hsz : x.length + y.length ≤ 16777216) (h : ∀ t' k, Q (.bytes (x ++ y).toArray t') { s with toks := k }) : wpAny (model prog w) A (binaryOp .Add (.bytes x.toArray t) (.bytes y.toArray u)) Q E s := by
  refine KBy.add_bytes (by simpa using hsz) fun t' k => ?_
  rw [List.append_toArray]
  exact h t' k
theorem r_len (hz : x.length ≤ 16777216) (h : ∀ t' k, Q (.int x.length t') { s with toks := k }) : wpAny (model prog w) A (call (.builtin "len") [.bytes x.toArray t]) Q E s :=
  len_bytes (by simpa using Nat.le_trans hz (by decide)) (by rw [List.size_toArray]; exact h _ _)
theorem r_eq (h : Q (.bool (decide (x = y))) s) : wpAny (model prog w) A (compareOp .Eq (.bytes x.toArray t) (.bytes y.toArray u)) Q E s := by
  refine eq_bytes ?_
  have e : (x.toArray.toList == y.toArray.toList) = decide (x = y) := by
    show (x == y) = _
    by_cases h : x = y <;> simp [h]
  rw [e]; exact h
theorem r_ne (h : Q (.bool (!decide (x = y))) s) : wpAny (model prog w) A (compareOp .NotEq (.bytes x.toArray t) (.bytes y.toArray u)) Q E s := by
  refine ne_bytes ?_
  have e : (x.toArray.toList != y.toArray.toList) = !decide (x = y) := by
    show (x != y) = _
    by_cases h : x = y <;> simp [h]
  rw [e]; exact h
theorem r_lt (h : Q (.bool (ltB x y)) s) : wpAny (model prog w) A (compareOp .Lt (.bytes x.toArray t) (.bytes y.toArray u)) Q E s :=
  compareOp_gives (op := .Lt) (typeIs_bytes s _ t) (typeIs_bytes s _ u) slot_bytes_lt entry_bytes_lt (args_bytes_lt _ _) (gives_lt _ _ t u) (fun e => nomatch e) h
theorem r_gt (h : Q (.bool (ltB y x)) s) : wpAny (model prog w) A (compareOp .Gt (.bytes x.toArray t) (.bytes y.toArray u)) Q E s :=
  compareOp_gives (op := .Gt) (typeIs_bytes s _ t) (typeIs_bytes s _ u) slot_bytes_gt entry_bytes_gt (args_bytes_gt _ _) (gives_gt _ _ t u) (fun e => nomatch e) (by
    show Q (.bool (Bytes.order x y == .gt)) s
    rw [order_swap]; exact h)

theorem r_sl {value slice : PySem.Expr} {l u' : Value} {lo hi : Option Int} (hF : Fr h₀ L s.heap m) (hN : News h₀ L s.heap news) (hl : IsPart l lo) (hu : IsPart u' hi) (hz : x.length ≤ 16777216)
    (h : ∀ h' t' k, Fr h₀ L h' m → News h₀ L h' news → Q (.bytes ((x.drop (lo.elim 0 (clipAt x.length))).take (hi.elim x.length (clipAt x.length) - lo.elim 0 (clipAt x.length))).toArray t') { s with heap := h', toks := k })
    (hs : subscripted slice false (.bytes x.toArray t) (.ref s.heap.objs.size) = operate [.ref s.heap.objs.size, .bytes x.toArray t] (getItem (.bytes x.toArray t) (.ref s.heap.objs.size)) := by with_unfolding_all rfl)
    (ht : ∀ r, letTemporaryGo value (.bytes x.toArray t) r = pure () := by intro _; with_unfolding_all rfl) :
    wpAny (model prog w) A (subscriptTail value slice (.bytes x.toArray t) (.ref s.heap.objs.size)) Q E { s with heap := s.heap.push { cls := .type "slice", data := .fields #[l, u', .none] } } := by
  refine KBc.slice_K (ks := KBw.bInts x.toArray) hF hN rfl hl hu (by rw [KBw.ints_length]; simpa using hz) (fun h' t' k F' N' _ => ?_) hs ht
  have e := KBc.picked_eq x.toArray lo hi
  rw [List.size_toArray] at e
  rw [e]
  exact h h' t' k F' N'
theorem clip_pos {n : Nat} {k : Int} (h : 0 ≤ k) : clipAt n k = min k.toNat n := by
  obtain ⟨j, rfl⟩ := Int.eq_ofNat_of_zero_le h
  rw [clipAt_nat]; simp
/-- x[:k] -/
theorem r_take {value slice : PySem.Expr} {k : Int} {tk : Tok} (h0 : 0 ≤ k) (hF : Fr h₀ L s.heap m) (hN : News h₀ L s.heap news) (hz : x.length ≤ 16777216)
    (h : ∀ h' t' k', Fr h₀ L h' m → News h₀ L h' news → Q (.bytes (x.take k.toNat).toArray t') { s with heap := h', toks := k' })
    (hs : subscripted slice false (.bytes x.toArray t) (.ref s.heap.objs.size) = operate [.ref s.heap.objs.size, .bytes x.toArray t] (getItem (.bytes x.toArray t) (.ref s.heap.objs.size)) := by with_unfolding_all rfl)
    (ht : ∀ r, letTemporaryGo value (.bytes x.toArray t) r = pure () := by intro _; with_unfolding_all rfl) :
    wpAny (model prog w) A (subscriptTail value slice (.bytes x.toArray t) (.ref s.heap.objs.size)) Q E { s with heap := s.heap.push { cls := .type "slice", data := .fields #[.none, .int k tk, .none] } } := by
  refine r_sl (lo := none) (hi := some k) hF hN .none (.int k tk) hz (fun h' t' k' F' N' => ?_) hs ht
  simp only [Option.elim, List.drop_zero, Nat.sub_zero, clip_pos h0]
  have e : x.take (min k.toNat x.length) = x.take k.toNat := by
    rw [← List.take_take, List.take_of_length_le (Nat.le_refl _)]
  rw [e]
  exact h h' t' k' F' N'
/-- x[k:] -/
theorem r_drop {value slice : PySem.Expr} {k : Int} {tk : Tok} (h0 : 0 ≤ k) (hF : Fr h₀ L s.heap m) (hN : News h₀ L s.heap news) (hz : x.length ≤ 16777216)
    (h : ∀ h' t' k', Fr h₀ L h' m → News h₀ L h' news → Q (.bytes (x.drop k.toNat).toArray t') { s with heap := h', toks := k' })
    (hs : subscripted slice false (.bytes x.toArray t) (.ref s.heap.objs.size) = operate [.ref s.heap.objs.size, .bytes x.toArray t] (getItem (.bytes x.toArray t) (.ref s.heap.objs.size)) := by with_unfolding_all rfl)
    (ht : ∀ r, letTemporaryGo value (.bytes x.toArray t) r = pure () := by intro _; with_unfolding_all rfl) :
    wpAny (model prog w) A (subscriptTail value slice (.bytes x.toArray t) (.ref s.heap.objs.size)) Q E { s with heap := s.heap.push { cls := .type "slice", data := .fields #[.int k tk, .none, .none] } } := by
  refine r_sl (lo := some k) (hi := none) hF hN (.int k tk) .none hz (fun h' t' k' F' N' => ?_) hs ht
  simp only [Option.elim, clip_pos h0]
  have e : (x.drop (min k.toNat x.length)).take (x.length - min k.toNat x.length) = x.drop k.toNat := by
    rcases Nat.le_total k.toNat x.length with hk | hk
    · rw [Nat.min_eq_left hk, List.take_of_length_le (by rw [List.length_drop]; exact Nat.le_refl _)]
    · rw [Nat.min_eq_right hk, List.drop_of_length_le (Nat.le_refl _), List.drop_of_length_le hk]; simp
  rw [e]
  exact h h' t' k' F' N'
theorem r_item {value slice : PySem.Expr} {i : Int} {ui : Tok} (hfit : x.length ≤ 16777216) (h0 : 0 ≤ i) (h1 : i < (x.length : Int)) (h : ∀ t' k, Q (.int (x.getD i.toNat 0).toNat t') { s with toks := k })
    (hs : subscripted slice false (.bytes x.toArray t) (.int i ui) = operate [.bytes x.toArray t, .int i ui] (getItem (.bytes x.toArray t) (.int i ui)) := by with_unfolding_all rfl)
    (ht : ∀ r, letTemporaryGo value (.bytes x.toArray t) r = pure () := by intro _; with_unfolding_all rfl) :
    wpAny (model prog w) A (subscriptTail value slice (.bytes x.toArray t) (.int i ui)) Q E s :=
  KBy.item_N (Nat.le_trans hfit (by decide)) h0 h1 (h _ _) hs ht

def octets (ns : List Int) : List UInt8 := ns.map fun n => n.toNat.toUInt8
/-- bytes([..]) -/
theorem r_bytes_list {l : Addr} {vs : List Value} {ns : List Int} {e : Nat} (F : Fr h₀ L s.heap m) (N : News h₀ L s.heap news) (hh : A.handled = none) (hm : (l, listOf vs.toArray e) ∈ news) (hi : IntsAre vs ns) (hr : ∀ n ∈ ns, 0 ≤ n ∧ n < 256) (hn : ns.length ≤ 16777216)
    (h : ∀ h' t' k, Fr h₀ L h' m → News h₀ L h' news → Q (.bytes (octets ns).toArray t') { s with heap := h', toks := k }) : wpAny (model prog w) A (call (.type "bytes") [.ref l]) Q E s :=
  call_bytes_ints (News.isList N hm) hi hr (by rw [hi.length, sizeLine_eq]; exact hn) hh fun h' t' k hk => h h' t' k (F.keptAll hk) (N.grown hk)

theorem look_bytes_bytes : typeLookup (.type "bytes") "__bytes__" = pure (some (.builtin "bytes.__bytes__")) := by rw [typeLookup_type, builtinLookup_eq_fast]; kernel_rfl
theorem ba_no_bytes : typeLookup (.type "bytearray") "__bytes__" = pure none := by rw [typeLookup_type, builtinLookup_eq_fast]; kernel_rfl
theorem code_bytes_bytes {b : Array UInt8} {Q₁ : Value → Shared → Prop} (h : Q₁ (.bytes b t) s) :
    codeAny (model prog w) A (.call (.builtin "bytes.__new__") ⟨[.type "bytes", .bytes b t], []⟩) (wants Q₁ E) s := by
  refine codeAny_of_tree ?_
  show wpAny _ A.in1 (do checkBuiltinCall "bytes.__new__" ⟨[.type "bytes", .bytes b t], []⟩; again (.builtin "bytes.__new__" ⟨[.type "bytes", .bytes b t], []⟩)) _ _ s
  refine wpAny_bind (wpAny_of_eq (F.bm_newCall _) (wpAny_pure ⟨plainId_quiet F.bm_plain _, codeAny_builtin F.bm_entry ?_⟩))
  rw [Around.under_plainId F.bm_plain _]
  unfold Builtin.«bytes.__new__»
  refine wpAny_bind (wpAny_of_eq (a := true) rfl ?_)
  refine bm_if_false rfl ?_
  refine wpAny_bind (wpAny_of_eq F.bm_sub ?_)
  refine bm_if_false rfl ?_
  refine wpAny_bind (wpAny_of_eq (F.bm_bind _) ?_)
  refine wpAny_bind (wpAny_of_eq (a := ()) rfl ?_)
  refine wpAny_bind (wpAny_of_eq (a := ()) rfl ?_)
  refine bm_if_false rfl ?_
  refine wpAny_bind (wpAny_specialOf (typeIs_bytes s b t) look_bytes_bytes ?_)
  refine wpAny_bind (wpAny_rule ?_)
  refine wpAny_bind (wpAny_typeOf (typeIs_bytes s b t) ?_)
  refine bm_if_true rfl ?_
  exact wpAny_pure h
/-- bytes(b) of bytes -/
theorem r_bytes_bytes (h : Q (.bytes x.toArray t) s) : wpAny (model prog w) A (call (.type "bytes") [.bytes x.toArray t]) Q E s := by
  refine callType_codes (Q₁ := fun obj s₁ => s₁.TypeIs obj "bytes" ∧ Q obj s₁) F.bm_called (F.bm_typeCall _) F.entry_object_init
    (code_bytes_bytes ⟨typeIs_bytes _ _ _, h⟩) fun obj s₁ h₁ => ?_
  exact ⟨h₁.1, F.args_object_init_2 obj _, object_init_meets F.bm_called.init.lookup F.bm_called.made (by decide) prog w A.in1 _ s₁ ⟨h₁.1, rfl, h₁.2⟩⟩

theorem code_bytes_ba {a : Addr} {b : Array UInt8} {Q₁ : Value → Shared → Prop} (ha : s.heap.get? a = some (baObj b)) (hz : b.size ≤ sizeLine) (h : ∀ t' k, Q₁ (.bytes b t') { s with toks := k }) :
    codeAny (model prog w) A (.call (.builtin "bytes.__new__") ⟨[.type "bytes", .ref a], []⟩) (wants Q₁ E) s := by
  refine codeAny_of_tree ?_
  show wpAny _ A.in1 (do checkBuiltinCall "bytes.__new__" ⟨[.type "bytes", .ref a], []⟩; again (.builtin "bytes.__new__" ⟨[.type "bytes", .ref a], []⟩)) _ _ s
  refine wpAny_bind (wpAny_of_eq (F.bm_newCall _) (wpAny_pure ⟨plainId_quiet F.bm_plain _, codeAny_builtin F.bm_entry ?_⟩))
  rw [Around.under_plainId F.bm_plain _]
  unfold Builtin.«bytes.__new__»
  refine wpAny_bind (wpAny_of_eq (a := true) rfl ?_)
  refine bm_if_false rfl ?_
  refine wpAny_bind (wpAny_of_eq F.bm_sub ?_)
  refine bm_if_false rfl ?_
  refine wpAny_bind (wpAny_of_eq (F.bm_bind _) ?_)
  refine wpAny_bind (wpAny_of_eq (a := ()) rfl ?_)
  refine wpAny_bind (wpAny_of_eq (a := ()) rfl ?_)
  refine bm_if_false rfl ?_
  refine wpAny_bind (wpAny_specialOf (ba_type ha) ba_no_bytes ?_)
  refine wpAny_bind (wpAny_bind ?_)
  show wpAny _ _ (load a >>= _) _ _ _
  refine wpAny_bind (wpAny_load ha ?_)
  refine wpAny_pure (wpAny_pure ?_)
  refine bm_if_false rfl ?_
  refine wpAny_bind (wpAny_specialOf (ba_type ha) ba_look_index ?_)
  refine bm_if_true rfl ?_
  first
    | show wpAny _ _ (Builtin.Bytes.buffer? "bytes.__new__" (.ref a) true >>= _) _ _ _
    | (refine wpAny_bind ?_; show wpAny _ _ (Builtin.Bytes.buffer? "bytes.__new__" (.ref a) true >>= _) _ _ _)
  refine wpAny_bind (ba_buffer ha ?_)
  refine wpAny_bind (wpAny_rule ?_)
  refine wpAny_bind (wpAny_mkBytes ?_ hz)
  first
    | exact wpAny_pure (h _ _)
    | exact wpAny_bind (wpAny_pure (wpAny_pure (h _ _)))
/-- bytes(a) of a bytearray -/
theorem r_bytes_ba {a : Addr} (ha : s.heap.get? a = some (baObj x.toArray)) (hz : x.length ≤ 16777216) (h : ∀ t' k, Q (.bytes x.toArray t') { s with toks := k }) : wpAny (model prog w) A (call (.type "bytes") [.ref a]) Q E s := by
  refine callType_codes (Q₁ := fun obj s₁ => s₁.TypeIs obj "bytes" ∧ Q obj s₁) F.bm_called (F.bm_typeCall _) F.entry_object_init
    (code_bytes_ba ha (by rw [sizeLine_eq]; simpa using hz) fun t' k => ⟨typeIs_bytes _ _ _, h t' k⟩) fun obj s₁ h₁ => ?_
  exact ⟨h₁.1, F.args_object_init_2 obj _, object_init_meets F.bm_called.init.lookup F.bm_called.made (by decide) prog w A.in1 _ s₁ ⟨h₁.1, rfl, h₁.2⟩⟩

theorem ba_slot_len : Slot "bytearray" "__len__" "bytearray.__len__" :=
  .of (owner := "bytearray") (n := "__len__") (by rw [typeLookup_type, builtinLookup_eq_fast]; kernel_rfl) (by decide +kernel) (by decide +kernel) (by decide +kernel)
    (by first | exact .inl (by decide +kernel) | exact .inr (by decide +kernel)) ba_sub
theorem ba_entry_len : entryFor table "bytearray.__len__" = some Builtin.«bytearray.__len__» := entryFor_of_tree (by kernel_rfl)
theorem ba_args_len (a : Value) : argsOk "bytearray.__len__" ⟨[a], []⟩ := by unfold argsOk; kernel_rfl
theorem ba_len_meets (a : Addr) (b : Array UInt8) : Meets (Builtin.«bytearray.__len__» ⟨[.ref a], []⟩) (fun _ R s => s.heap.get? a = some (baObj b) ∧ R (.ok (.ret (.int b.size s.toks))) { s with toks := s.toks + 1 }) := by
  refine .of_wp fun prog w A R s hs => ?_
  obtain ⟨ha, h⟩ := hs
  show wpAny _ _ (Bytes.payload (.ref a) >>= fun r => _) _ _ s
  exact wpAny_bind (ba_payload ha (wpAny_bind (wpAny_mkInt (wpAny_pure ⟨_, rfl, h⟩))))
theorem r_len_ba {a : Addr} (ha : s.heap.get? a = some (baObj x.toArray)) (hz : x.length ≤ 16777216) (h : ∀ t' k, Q (.int x.length t') { s with toks := k }) : wpAny (model prog w) A (call (.builtin "len") [.ref a]) Q E s := by
  refine call_len_meets (n := (x.length : Int)) (ba_type ha) ba_slot_len ba_entry_len (ba_args_len _) (ba_len_meets a x.toArray) (by omega) (by omega) (fun Q' q => ⟨ha, ?_⟩) (h _ _)
  rw [List.size_toArray]
  exact q
theorem fd_pos (a : Int) {b : Int} (h : 0 ≤ b) : Int.fdiv a b = a / b := Int.fdiv_eq_ediv_of_nonneg a h
theorem fm_pos (a : Int) {b : Int} (h : 0 ≤ b) : Int.fmod a b = a % b := Int.fmod_eq_emod_of_nonneg a h
end
end Mine
end

section
open PySem PySem.W PyProof.Rows PySem.Calls
set_option Elab.async false
set_option maxRecDepth 100000
set_option maxHeartbeats 4000000
namespace Mine
section
variable {prog : Program} {w : World} {A : Around} {K : Frag} {C x : Addr} {s : Shared} {h₀ : Heap} {L : Addr} {m : Str → Option Value} {news : List (Addr × Obj)} {R : Result → Shared → Prop}

theorem codeC_call_builtin_at {id : String} {args : Args} {b : Builtin} (hh : holdsBuf (.builtin id args) = false) (hq : (Code.builtin id args).quiet = true) (hb : entryFor table id = some b)
    (h : wpAny (model prog w) A.in1 (checkBuiltinCall id args) (fun _ s₁ => wpC (model prog w) (A.under (.builtin id args)) (b args) (finC (model prog w) A R) (fun e s' => R (.error e) s') s₁)
      (fun e s' => R (.error e) s') s) : codeC (model prog w) A (.call (.builtin id) args) R s := by
  refine codeC_of_tree rfl ?_
  show wpC _ A.in1 (do checkBuiltinCall id args; again (.builtin id args)) _ _ s
  exact aBind (wpAny_mono h (fun _ s₁ h₁ => wpC_pure (And.intro hq (codeC_builtin hh hb h₁))) fun _ _ h' => h')

/-- a class of the text is called, its __init__ by wpC -/
theorem codeC_make {rest : List Value} {fI : Addr} (F : Fr h₀ L s.heap m) (N : News h₀ L s.heap news) (X : K.In s.heap) (hmk : makesIn K C = true)
    (hfi : findIn K (.ref C) "__init__" = some (some (.ref fI))) (hf : typeIn K (.ref fI) = some (.type "function"))
    (h : ∀ x dx h', Fr h₀ L h' m → News h₀ L h' ((x, instObj C dx) :: (dx, emptyDict) :: news) → (∀ p ∈ news, p.1 < dx) → dx < x →
      codeC (model prog w) (A.under (.builtin "type.__call__" ⟨.ref C :: rest, []⟩)) (.call (.ref fI) ⟨.ref x :: rest, []⟩) (InitBack x R) { s with heap := h' }) :
    codeC (model prog w) A (.call (.ref C) ⟨rest, []⟩) R s := by
  obtain ⟨hh, g, d, t, os⟩ := s
  have Y := makes_of (M := model prog w) X hmk
  have Y' := Y
  have hi : Looks (model prog w) hh (typeLookup (.ref C) "__init__") (some (.ref fI)) := looks_findIn X hfi
  have hb : ∀ self, Looks (model prog w) hh (bindSpecial (.ref fI) self) (.ref fI, [self]) := fun self => bind_fn X self hf
  have hq := h (hh.objs.size + 1) hh.objs.size _ ((F.push emptyDict).push (instObj C hh.objs.size)) (by
    have := (N.push F emptyDict).push (F.push _) (instObj C hh.objs.size)
    rwa [Heap.size_push] at this) (fun p hp => Heap.lt_size (N p hp).1) (Nat.lt_succ_self _)
  obtain ⟨⟨oc, od, cd, sl, hC, e1, e2, e4⟩, made, bas, self, top, call, typ⟩ := Y
  refine codeC_of_tree rfl ?_
  show wpC _ _ (callAny (.ref C) _) _ _ _
  refine aBind (m := load C) (wpAny_load hC ?_)
  show wpC _ _ (callAny.viaDunder (.ref C) _) _ _ _
  unfold callAny.viaDunder
  refine aBind (call.at ?_)
  dsimp only
  rw [tc_bind]
  refine aBind (wpAny_pure (aBind (wpAny_pure ?_)))
  refine wpC_pure (a := Fin.again (.call (.builtin "type.__call__") ⟨.ref C :: rest, []⟩)) (And.intro rfl ?_)
  refine codeC_call_builtin_at rfl (Code.quiet_builtin _ (by decide +kernel)) entry_typeCall (check_slot tc_kind tc_split typ (tc_args _ _ _) ?_)
  unfold Builtin.«type.__call__»
  have hm : Looks (model prog w) hh (mroOf (.ref C)) cd.mro := ((Looks.ld (part := none) hC).andThen .now).andThen .now
  dsimp only
  rw [if_neg (show ¬ ((Value.ref C == Value.type "type") = true) from Bool.false_ne_true)]
  refine aBind (hm.here ?_)
  rw [if_neg (by rw [e4]; exact Bool.false_ne_true)]
  refine aBind (made.here ?_)
  refine aBind (wpAny_pure ?_)
  refine wpC_bind (wpC_holding (wpC_call (codeC_of (new_K Y' hi (.inl rfl) ?_))))
  have k : ∀ b o, hh.get? b = some o → ((hh.push emptyDict).push (instObj C hh.objs.size)).get? b = some o := fun b o e => Heap.get?_push_of_some _ (Heap.get?_push_of_some _ e)
  have hx : ((hh.push emptyDict).push (instObj C hh.objs.size)).get? (hh.objs.size + 1) = some (instObj C hh.objs.size) := by heap_get
  have t1 : Looks (model prog w) ((hh.push emptyDict).push (instObj C hh.objs.size)) (typeOf (.ref (hh.objs.size + 1))) (.ref C) := (Looks.ld hx).andThen .now
  have s1 := self.keeps k
  have i1 := hi.keeps k
  have b1 := (hb (.ref (hh.objs.size + 1))).keeps k
  have hin : Looks (model prog w) ((hh.push emptyDict).push (instObj C hh.objs.size)) (isInstance (.ref (hh.objs.size + 1)) (.ref C)) true := t1.andThen s1
  refine aBind (hin.here ?_)
  rw [if_neg (by decide)]
  refine wpC_bind (wpC_holding ?_)
  unfold callSpecial? specialOf
  refine aBind (wpAny_bind (t1.here (i1.here ?_)))
  dsimp only
  refine wpC_holding (aBind (b1.here ?_))
  refine wpC_bind (wpC_call (codeC_mono hq fun r s' z => ?_))
  rcases r with e | (v | _ | _ | _) <;> first | exact z | exact z.elim | skip
  obtain ⟨rfl, z⟩ := z
  exact wpC_pure (wpC_pure z)
end
end Mine
end

section
open PySem PySem.W PyProof.Rows PySem.Calls
set_option Elab.async false
set_option maxRecDepth 100000
set_option maxHeartbeats 4000000
namespace Mine
section
variable {M : Model} {A : Around} {E : Value → Shared → Prop} {s : Shared} {env : Env}
theorem wpC_CallName {f : Expr} {args : List Expr} {pos : Pos} {Q : Value → Shared → Prop}
    (h : wpAny M A (eval f env) (fun fv s₁ => wpC M A (callWith pos fv [] (backTo pos (starEach args env)) []) Q E s₁) E s)
    (he : eval (.Call f args [] pos) env = (do callWith pos (← eval f env) [] (backTo pos (starEach args env)) []) := by rfl) :
    wpC M A (eval (.Call f args [] pos) env) Q E s := by
  rw [he]
  exact aBind h
theorem wpC_CallMeth {o : Expr} {name : Str} {apos pos : Pos} {args : List Expr} {pl : Sem Bool} {Q : Value → Shared → Prop}
    (h : wpAny M A (eval o env) (fun ov s₁ => wpAny M A (getMethod ov name pl) (fun fx s₂ => wpC M A (callWith pos fx.1 fx.2 (backTo pos (starEach args env)) []) Q E s₂) E s₁) E s)
    (he : eval (.Call (.Attribute o name apos) args [] pos) env = (do
      let ov ← eval o env
      standAt apos.atName
      let (f, first) ← holding [ov] (getMethod ov name pl)
      callWith pos f first (backTo pos (starEach args env)) []) := by rfl) :
    wpC M A (eval (.Call (.Attribute o name apos) args [] pos) env) Q E s := by
  rw [he]
  refine aBind (wpAny_mono h (fun ov s₁ h₁ => wpC_standAt (aBind (wpAny_holding (wpAny_mono h₁ (fun fx s₂ h₂ => ?_) fun _ _ x => x)))) fun _ _ x => x)
  exact h₂
/-- no argument -/
theorem wpC_with0 {P : Heap → Prop} {pos : Pos} {f : Value} {first : List Value} {Q : Value → Shared → Prop}
    (hk : ∀ h, P h → ∃ k, (k = Keeper.frame ∨ k = Keeper.machine ∨ k = Keeper.boundFrame) ∧ Looks M h (keeperOf f) k) (hP : P s.heap)
    (h : wpC M A (call f (first ++ [])) Q E s) : wpC M A (callWith pos f first (backTo pos (starEach [] env)) []) Q E s :=
  wpC_callWith rfl hk (wpC_evalArgs_nil ⟨hP, h⟩)
/-- arguments of the kit's walk -/
theorem wpC_withA {P : Heap → Prop} {pos : Pos} {f : Value} {first : List Value} {e : Expr} {rest : List Expr} {Q : Value → Shared → Prop}
    (hk : ∀ h, P h → ∃ k, (k = Keeper.frame ∨ k = Keeper.machine ∨ k = Keeper.boundFrame) ∧ Looks M h (keeperOf f) k)
    (h : wpAny M A (spliced (backTo pos (starEach (e :: rest) env))) (fun vs s₁ => P s₁.heap ∧ wpC M A (call f (first ++ vs)) Q E s₁) E s)
    (he : starEach (e :: rest) env = (false, eval e env) :: starEach rest env := by rfl) (hplain : (backTo pos (starEach rest env)).any (·.1) = false := by rfl) :
    wpC M A (callWith pos f first (backTo pos (starEach (e :: rest) env)) []) Q E s := by
  rw [he] at h ⊢
  exact wpC_callWith (by show (false || (backTo pos (starEach rest env)).any (·.1)) = false; rw [hplain]; rfl) hk (cOf (evalArgs_plain h))
/-- one argument that is itself a call by wpC -/
theorem wpC_withC {P : Heap → Prop} {pos : Pos} {f : Value} {first : List Value} {e : Expr} {Q : Value → Shared → Prop}
    (hk : ∀ h, P h → ∃ k, (k = Keeper.frame ∨ k = Keeper.machine ∨ k = Keeper.boundFrame) ∧ Looks M h (keeperOf f) k)
    (h : wpC M A (eval e env) (fun v s₁ => P s₁.heap ∧ wpC M A (call f (first ++ [v])) Q E s₁) E s)
    (he : starEach [e] env = [(false, eval e env)] := by rfl) :
    wpC M A (callWith pos f first (backTo pos (starEach [e] env)) []) Q E s := by
  rw [he]
  exact wpC_callWith rfl hk (wpC_evalArgs_plain (wpC_spliced_cons (wpC_mono h (fun v s₁ h₁ => wpC_spliced_nil h₁) fun _ _ x => x)))
end

section
variable {prog : Program} {w : World} {A : Around} {E : Value → Shared → Prop} {s : Shared} {h₀ : Heap} {L : Addr} {m : Str → Option Value} {news : List (Addr × Obj)} {a : Addr}

theorem led_new {h h' : Heap} {o : Obj} (F : Fr h₀ L h m) (N : News h₀ L h news) (hk : ∀ b o, h.get? b = some o → h'.get? b = some o) (hg : h'.get? h.objs.size = some o) :
    Fr h₀ L h' m ∧ News h₀ L h' ((h.objs.size, o) :: news) ∧ ∀ p ∈ news, p.1 < h.objs.size := by
  obtain ⟨oL, _, _, hL, _⟩ := F.ns
  refine ⟨F.keptAll hk, fun p hp => ?_, fun p hp => Heap.lt_size (N p hp).1⟩
  rcases List.mem_cons.mp hp with rfl | hp
  · refine ⟨hg, Nat.ne_of_gt (Heap.lt_size hL), ?_⟩
    cases hq : h₀.get? h.objs.size with
    | none => rfl
    | some o' => exact absurd (Heap.lt_size (F.keep _ _ hq)) (Nat.lt_irrefl _)
  · exact N.grown hk p hp

theorem c_ba0 {Q : Value → Shared → Prop} (F : Fr h₀ L s.heap m) (N : News h₀ L s.heap news)
    (q : ∀ b h', Fr h₀ L h' m → News h₀ L h' ((b, baObj #[]) :: news) → (∀ p ∈ news, p.1 < b) → Q (.ref b) { s with heap := h' }) :
    wpC (model prog w) A (call (.type "bytearray") []) Q E s :=
  call_ba0 fun h' hk hg _ => let ⟨a1, a2, a3⟩ := led_new F N hk hg; q _ h' a1 a2 a3
theorem c_ba1 {Q : Value → Shared → Prop} {c : Addr} {x : List UInt8} (F : Fr h₀ L s.heap m) (N : News h₀ L s.heap news) (hc : (c, baObj x.toArray) ∈ news) (hz : x.length ≤ 16777216)
    (q : ∀ b h', Fr h₀ L h' m → News h₀ L h' ((b, baObj x.toArray) :: news) → (∀ p ∈ news, p.1 < b) → Q (.ref b) { s with heap := h' }) :
    wpC (model prog w) A (call (.type "bytearray") [.ref c]) Q E s :=
  call_ba1 (N.get hc) (by rw [sizeLine_eq]; simpa using hz) fun h' hk hg _ => let ⟨a1, a2, a3⟩ := led_new F N hk hg; q _ h' a1 a2 a3

/-- append and extend upon the ledger -/
theorem c_append {Q : Value → Shared → Prop} {x : List UInt8} {n : Int} {t : Tok} {news' : List (Addr × Obj)} (F : Fr h₀ L s.heap m) (N : News h₀ L s.heap news) (U : Upd a (baObj x.toArray) (baObj (x ++ [n.toNat.toUInt8]).toArray) news news')
    (h0 : 0 ≤ n) (h1 : n < 256) (hz : x.length < 16777216) (q : ∀ h', Fr h₀ L h' m → News h₀ L h' news' → Q .none { s with heap := h' }) :
    wpC (model prog w) A (call (.builtin "bytearray.append") [.ref a, .int n t]) Q E s := by
  obtain ⟨pre, post, rfl, rfl, p1, p2⟩ := U.split
  have z := news_upd (f := Obj.mapBytearray (·.push n.toNat.toUInt8)) F N p1 p2 (o' := baObj (x ++ [n.toNat.toUInt8]).toArray) (by show baObj (x.toArray.push _) = _; rw [List.push_toArray]) rfl
  exact call_append (N.get (List.mem_append_right _ (.head _))) h0 h1 (by rw [sizeLine_eq, List.size_toArray]; omega) (q _ z.1 z.2)
theorem c_extend {Q : Value → Shared → Prop} {x y : List UInt8} {t : Tok} {news' : List (Addr × Obj)} (F : Fr h₀ L s.heap m) (N : News h₀ L s.heap news) (U : Upd a (baObj x.toArray) (baObj (x ++ y).toArray) news news')
    (hz : x.length + y.length ≤ 16777216) (q : ∀ h', Fr h₀ L h' m → News h₀ L h' news' → Q .none { s with heap := h' }) :
    wpC (model prog w) A (call (.builtin "bytearray.extend") [.ref a, .bytes y.toArray t]) Q E s := by
  obtain ⟨pre, post, rfl, rfl, p1, p2⟩ := U.split
  have z := news_upd (f := Obj.mapBytearray (· ++ y.toArray)) F N p1 p2 (o' := baObj (x ++ y).toArray) (by show baObj (x.toArray ++ y.toArray) = _; rw [List.append_toArray]) rfl
  exact call_extend (N.get (List.mem_append_right _ (.head _))) (by rw [sizeLine_eq, List.append_toArray, List.size_toArray, List.length_append]; exact hz) (q _ z.1 z.2)

theorem ba_attrs : PlainAttrs "bytearray" := ⟨⟨"bytearray.__getattribute__", by rw [typeLookup_type, builtinLookup_eq_fast]; kernel_rfl, by decide +kernel⟩, by rw [typeLookup_type, builtinLookup_eq_fast]; kernel_rfl⟩
theorem ba_ty_append : typeOf (.builtin "bytearray.append") = pure (.type "method_descriptor") := by show builtinType _ = _; rw [builtinType_eq_fast]; kernel_rfl
theorem ba_ty_extend : typeOf (.builtin "bytearray.extend") = pure (.type "method_descriptor") := by show builtinType _ = _; rw [builtinType_eq_fast]; kernel_rfl
theorem ba_get_append {pl : Sem Bool} {b : Array UInt8} {Q : Value × List Value → Shared → Prop} (N : News h₀ L s.heap news) (hm : (a, baObj b) ∈ news) (h : Q (.builtin "bytearray.append", [.ref a]) s) : wpAny (model prog w) A (getMethod (.ref a) "append" pl) Q E s :=
  getMethod_builtin (ba_type (N.get hm)) ba_attrs ba_slot_append ba_ty_append (fun a' e => by cases e; exact ⟨_, N.get hm, rfl⟩) h
theorem ba_get_extend {pl : Sem Bool} {b : Array UInt8} {Q : Value × List Value → Shared → Prop} (N : News h₀ L s.heap news) (hm : (a, baObj b) ∈ news) (h : Q (.builtin "bytearray.extend", [.ref a]) s) : wpAny (model prog w) A (getMethod (.ref a) "extend" pl) Q E s :=
  getMethod_builtin (ba_type (N.get hm)) ba_attrs ba_slot_extend ba_ty_extend (fun a' e => by cases e; exact ⟨_, N.get hm, rfl⟩) h
end
end Mine
end

section
open PySem PySem.W PyProof.Rows
set_option Elab.async false
set_option maxRecDepth 1000000
set_option maxHeartbeats 0
namespace Mine
/-- the view: the text without the five names of its files -/
def vw : Program := { PySem.Challenge.pw_no0404_01 with main := { PySem.Challenge.pw_no0404_01.main with body := [0,2,3,4,5,6,7,9,10,11,12,13,14,16,17,19,20,21,22,23,24,26,27,28,29,30,31,32,33,34].filterMap fun i => PySem.Challenge.pw_no0404_01.main.body[i]? } }
abbrev PW := PySem.Challenge.pw_no0404_01
theorem op_e : opening PW = plainProg PW.main.scope.names := by rfl
theorem op_f : ∀ s, fenceModules? PW s = some s := fun s => by rfl
theorem op : ∀ w : World, (fencedOpening treeTable PW w 6826).map (fun s => (s.heap, s.gens, s.drawn, s.toks)) = some (boot_heap w.params, Array.mk [], boot_drawn, boot_toks) := boot_open op_e (by decide) op_f
theorem left_of {p q : Program} {loose : List Str} {Xt : Shared → Bool} {α : Type} {Yf : Shared → α} {Ya : World → α} {N : Nat} {g0 : Bool} {H₀ : Params → Heap} {gs₀ : Array GenState} {d₀ : Drawn} {k₀ m₀ : Nat} {ann : Option Value}
    (open_ : ∀ w : World, (fencedOpening treeTable p w N).map (fun s => (s.heap, s.gens, s.drawn, s.toks)) = some (H₀ w.params, gs₀, d₀, k₀))
    (size : ∀ w : World, ((H₀ w.params).isNs mainGlobals && gs₀.size == 0, (H₀ w.params).objs.size, (H₀ w.params).nsMap mainGlobals "__annotations__") = (true, m₀, ann))
    (run : ∀ (w : World) (os : OsState), (topRun treeTable p w m₀ ann N ⟨H₀ w.params, gs₀, d₀, k₀, os⟩ (topStub p)).map (fun s => (staticsOk (importedModules p.main.body) (H₀ w.params) s.heap && namesBound p s.heap && gensDone s && laidKept (H₀ w.params) s.heap,
        openSeen q loose (importedModules p.main.body) Xt g0 s, Yf s)) = some (true, openGood q loose, Ya w)) : LeftO p q loose Xt Yf Ya N g0 := fun w => by
  obtain ⟨⟨h, gs, d, k, os⟩, e, e'⟩ := Option.map_eq_some_iff.mp (open_ w)
  obtain ⟨rfl, rfl, rfl, rfl⟩ : h = H₀ w.params ∧ gs = gs₀ ∧ d = d₀ ∧ k = k₀ := by simpa using e'
  obtain ⟨z1, z2, z3⟩ : _ ∧ _ ∧ _ := by simpa only [Prod.mk.injEq] using size w
  obtain ⟨s, r, l⟩ := Option.map_eq_some_iff.mp (run w os)
  obtain ⟨l1, l2, l3⟩ : _ ∧ _ ∧ _ := by simpa only [Prod.mk.injEq] using l
  have t : topFrom treeTable p w N ⟨H₀ w.params, gs, d, k, os⟩ = some s := by
    unfold topFrom
    dsimp only
    rw [z1, z2, z3, r]
    show (match staticsOk (importedModules p.main.body) (H₀ w.params) s.heap && namesBound p s.heap && gensDone s && laidKept (H₀ w.params) s.heap with | true => _ | false => _) = _
    rw [l1]
  unfold openEnds
  rw [e]
  show (topFrom treeTable p w N _).map _ = _
  rw [t]
  show some (openSeen q loose (importedModules p.main.body) Xt g0 s, Yf s) = _
  rw [l2, l3]
theorem siz : ∀ w : World, ((boot_heap w.params).isNs mainGlobals && (Array.mk [] : Array GenState).size == 0, (boot_heap w.params).objs.size, (boot_heap w.params).nsMap mainGlobals "__annotations__") = (true, 11, some (.ref 6)) := by
  intro w; kernel_rfl
def goT (F : SharedT → Thread → Option (SharedT × Thread)) (ok : Thread → Bool) : Nat → SharedT → Thread → Option SharedT
  | 0, _, _ => none
  | n + 1, s, t => match through t with
    | true => some s
    | false => match ok t with
      | false => none
      | true => match F s t with
        | some (s', t') => goT F ok n s' t'
        | none => none
theorem goT_spec {tb : String → Option Builtin} {p : Program} {w : World} {n₀ : Nat} {ann : Option Value} : ∀ {n : Nat} {s s' : SharedT} {t : Thread},
    goT (stepT (denote tb) p w) (stepOk n₀ ann) n s t = some s' → topRun tb p w n₀ ann n s.abs t = some s'.abs
  | 0, _, _, _, h => by cases h
  | n + 1, s, s', t, h => by
    unfold goT at h
    unfold topRun
    cases ht : through t with
    | true => rw [ht] at h; cases h; rfl
    | false =>
      rw [ht] at h
      cases hk : stepOk n₀ ann t with
      | false => rw [hk] at h; cases h
      | true =>
        rw [hk] at h
        cases hs : stepT (denote tb) p w s t with
        | none => rw [hs] at h; cases h
        | some q =>
          obtain ⟨s₂, t₂⟩ := q
          rw [hs] at h
          rw [stepT_spec hs]
          exact goT_spec h
theorem left_ofT {p q : Program} {loose : List Str} {Xt : Shared → Bool} {α : Type} {Yf : Shared → α} {Ya : World → α} {N : Nat} {g0 : Bool} {H₀ : Params → Heap} {gs₀ : Array GenState} {d₀ : Drawn} {k₀ m₀ : Nat} {ann : Option Value} {S₀ : World → OsState → SharedT}
    (open_ : ∀ w : World, (fencedOpening treeTable p w N).map (fun s => (s.heap, s.gens, s.drawn, s.toks)) = some (H₀ w.params, gs₀, d₀, k₀))
    (size : ∀ w : World, ((H₀ w.params).isNs mainGlobals && gs₀.size == 0, (H₀ w.params).objs.size, (H₀ w.params).nsMap mainGlobals "__annotations__") = (true, m₀, ann))
    (abs0 : ∀ w os, (S₀ w os).abs = ⟨H₀ w.params, gs₀, d₀, k₀, os⟩)
    (run : ∀ (w : World) (os : OsState), (goT (stepT (denote treeTable) p w) (stepOk m₀ ann) N (S₀ w os) (topStub p)).map (fun s => (staticsOk (importedModules p.main.body) (H₀ w.params) s.abs.heap && namesBound p s.abs.heap && gensDone s.abs && laidKept (H₀ w.params) s.abs.heap,
        openSeen q loose (importedModules p.main.body) Xt g0 s.abs, Yf s.abs)) = some (true, openGood q loose, Ya w)) : LeftO p q loose Xt Yf Ya N g0 :=
  left_of open_ size fun w os => by
    obtain ⟨s, r, l⟩ := Option.map_eq_some_iff.mp (run w os)
    rw [← abs0 w os, goT_spec r]
    exact congrArg some l
noncomputable def tree0 (P : Params) : BT := ((((((((((BT.nil.ins 0 (boot_o_0 P)).ins 1 (boot_o_1 P)).ins 2 (boot_o_2 P)).ins 3 (boot_o_3 P)).ins 4 (boot_o_4 P)).ins 5 (boot_o_5 P)).ins 6 (boot_o_6 P)).ins 7 (boot_o_7 P)).ins 8 (boot_o_8 P)).ins 9 (boot_o_9 P)).ins 10 (boot_o_10 P)
noncomputable def S0 (w : World) (os : OsState) : SharedT := ⟨tree0 w.params, 11, (boot_heap w.params).life, Array.mk [], boot_drawn, boot_toks, os⟩
theorem abs0 : ∀ w os, (S0 w os).abs = ⟨boot_heap w.params, Array.mk [], boot_drawn, boot_toks, os⟩ := by
  intro w os; kernel_rfl
theorem said : OpenLaw.wellSaid PySem.Challenge.rw_no0404_01 = true := by
  rw [PySem.W.Fast.te9446332074065402090]
  kernel_rfl
local macro_rules | `(tactic| o_law) => `(tactic| (refine holds_law said fun said => ?_))
local macro_rules | `(tactic| o_head $H) => `(tactic| (refine PySem.W.holds_open (q := vw) (loose := []) (Xt := fun s => xlAt vw [] s && recOk [] s) (XP := XL vw []) (Yf := Hook.obs $H) (Ya := Hook.val $H) (YP := Hook.says $H) (N := 6826) ?hl (Hook.of $H) (Hook.keeps $H) (fun s e => xl_of s (Bool.and_eq_true_iff.mp e).1) XL.keeps (by rfl) (by rfl) (by rfl) (fun s e => recFacts_of (Bool.and_eq_true_iff.mp e).2) (by rfl) (by first | assumption | decide +kernel) (by decide +kernel) ⟨rfl, rfl, rfl, rfl, rfl, by decide +kernel⟩ ?hw ?hc; (case hl => (refine left_ofT op siz abs0 ?_; rw [PySem.W.Fast.te10156331382660048174, PySem.W.Fast.te11892475500146522536, PySem.W.Fast.te14364793385576792824, PySem.W.Fast.te6613529449190102663, PySem.W.Fast.te4187177175401517315]; intro w os; kernel_rfl))))
open_top hd for PySem.Challenge.rw_no0404_01
end Mine
end

theorem Mine.top_off : True := by
  w_top off
  trivial

section
open PySem PySem.W PyProof.Rows PySem.Calls
set_option Elab.async false
set_option maxRecDepth 100000
set_option maxHeartbeats 4000000
namespace Mine

/-- a builder's own table: its eight attributes -/
abbrev bd (w : World) (k1 k2 k3 k4 k5 k6 k7 k8 : Nat) (iv : Int) (ti : Nat) (o bf rl : Addr) (sn : Int) (ts : Nat) (en : Int) (te : Nat) (fin : Bool) (lk : List UInt8) (tl : Nat) : Obj :=
  dictOf [⟨PyData.keyHash w.params (Str.ofString "interval"), .str (Str.ofString "interval") k1, .int iv ti⟩,
    ⟨PyData.keyHash w.params (Str.ofString "order"), .str (Str.ofString "order") k2, .ref o⟩,
    ⟨PyData.keyHash w.params (Str.ofString "buffer"), .str (Str.ofString "buffer") k3, .ref bf⟩,
    ⟨PyData.keyHash w.params (Str.ofString "restarts"), .str (Str.ofString "restarts") k4, .ref rl⟩,
    ⟨PyData.keyHash w.params (Str.ofString "since"), .str (Str.ofString "since") k5, .int sn ts⟩,
    ⟨PyData.keyHash w.params (Str.ofString "entries"), .str (Str.ofString "entries") k6, .int en te⟩,
    ⟨PyData.keyHash w.params (Str.ofString "finished"), .str (Str.ofString "finished") k7, .bool fin⟩,
    ⟨PyData.keyHash w.params (Str.ofString "last_key"), .str (Str.ofString "last_key") k8, .bytes lk.toArray tl⟩] 8

/-- a builder's four objects and what they say, with the rest of the ledger apart from them -/
def Has (w : World) (h₀ : Heap) (L : Addr) (h : Heap) (x : Addr) (iv : Int) (o : Addr) (body : List UInt8) (ps : List Int) (sn en : Int) (fin : Bool) (lk : List UInt8) (news : List (Addr × Obj)) : Prop :=
  ∃ (dx bf rl : Addr) (k1 k2 k3 k4 k5 k6 k7 k8 ti ts te tl ep : Nat) (vs : List Value),
    News h₀ L h ((x, instObj 188 dx) :: (dx, bd w k1 k2 k3 k4 k5 k6 k7 k8 iv ti o bf rl sn ts en te fin lk tl) :: (bf, baObj body.toArray) :: (rl, W.listOf vs.toArray ep) :: news) ∧
    IntsAre vs ps ∧ OwnOff news [x, dx, bf, rl] ∧ (@Ne Nat x dx ∧ @Ne Nat x bf ∧ @Ne Nat x rl ∧ @Ne Nat dx bf ∧ @Ne Nat dx rl ∧ @Ne Nat bf rl)

theorem Has.elim {w : World} {h₀ : Heap} {L : Addr} {h : Heap} {x : Addr} {iv : Int} {o : Addr} {body : List UInt8} {ps : List Int} {sn en : Int} {fin : Bool} {lk : List UInt8} {news : List (Addr × Obj)} {C : Prop} (H : Has w h₀ L h x iv o body ps sn en fin lk news)
    (k : ∀ (dx bf rl : Addr) (k1 k2 k3 k4 k5 k6 k7 k8 ti ts te tl ep : Nat) (vs : List Value),
      News h₀ L h ((x, instObj 188 dx) :: (dx, bd w k1 k2 k3 k4 k5 k6 k7 k8 iv ti o bf rl sn ts en te fin lk tl) :: (bf, baObj body.toArray) :: (rl, W.listOf vs.toArray ep) :: news) → IntsAre vs ps → OwnOff news [x, dx, bf, rl] →
      @Ne Nat x dx → @Ne Nat x bf → @Ne Nat x rl → @Ne Nat dx bf → @Ne Nat dx rl → @Ne Nat bf rl → C) : C := by
  obtain ⟨dx, bf, rl, k1, k2, k3, k4, k5, k6, k7, k8, ti, ts, te, tl, ep, vs, N, hvs, off, n1, n2, n3, n4, n5, n6⟩ := H
  exact k dx bf rl k1 k2 k3 k4 k5 k6 k7 k8 ti ts te tl ep vs N hvs off n1 n2 n3 n4 n5 n6

theorem ownOff4 {news : List (Addr × Obj)} {a b c d : Addr} (h1 : ∀ p ∈ news, p.1 ≠ a) (h2 : ∀ p ∈ news, p.1 ≠ b) (h3 : ∀ p ∈ news, p.1 ≠ c) (h4 : ∀ p ∈ news, p.1 ≠ d) : OwnOff news [a, b, c, d] := by
  intro p hp q hq
  simp only [List.mem_cons, List.not_mem_nil, or_false] at hq
  rcases hq with rfl | rfl | rfl | rfl
  · exact h1 p hp
  · exact h2 p hp
  · exact h3 p hp
  · exact h4 p hp
theorem has_of {w : World} {h₀ h : Heap} {L x dx bf rl : Addr} {iv : Int} {o : Addr} {body : List UInt8} {ps : List Int} {sn en : Int} {fin : Bool} {lk : List UInt8} {l news : List (Addr × Obj)}
    {k1 k2 k3 k4 k5 k6 k7 k8 ti ts te tl ep : Nat} {vs : List Value} (N : News h₀ L h l)
    (m1 : (x, instObj 188 dx) ∈ l) (m2 : (dx, bd w k1 k2 k3 k4 k5 k6 k7 k8 iv ti o bf rl sn ts en te fin lk tl) ∈ l) (m3 : (bf, baObj body.toArray) ∈ l) (m4 : (rl, W.listOf vs.toArray ep) ∈ l)
    (hs : ∀ p ∈ news, p ∈ l) (hi : IntsAre vs ps) (ho : OwnOff news [x, dx, bf, rl])
    (n1 : @Ne Nat x dx) (n2 : @Ne Nat x bf) (n3 : @Ne Nat x rl) (n4 : @Ne Nat dx bf) (n5 : @Ne Nat dx rl) (n6 : @Ne Nat bf rl) : Has w h₀ L h x iv o body ps sn en fin lk news := by
  refine ⟨dx, bf, rl, k1, k2, k3, k4, k5, k6, k7, k8, ti, ts, te, tl, ep, vs, ?_, hi, ho, n1, n2, n3, n4, n5, n6⟩
  intro p hp
  simp only [List.mem_cons] at hp
  rcases hp with rfl | rfl | rfl | rfl | hp
  · exact N _ m1
  · exact N _ m2
  · exact N _ m3
  · exact N _ m4
  · exact N _ (hs _ hp)
/-- the rest of the ledger alone -/
theorem Has.rest {w : World} {h₀ h : Heap} {L x : Addr} {iv : Int} {o : Addr} {body : List UInt8} {ps : List Int} {sn en : Int} {fin : Bool} {lk : List UInt8} {news : List (Addr × Obj)}
    (H : Has w h₀ L h x iv o body ps sn en fin lk news) : News h₀ L h news := by
  obtain ⟨dx, bf, rl, k1, k2, k3, k4, k5, k6, k7, k8, ti, ts, te, tl, ep, vs, N, -, -⟩ := H
  exact fun p hp => N p (.tail _ (.tail _ (.tail _ (.tail _ hp))))

/-- an order: of plain octets, of internal keys -/
def Ord (w : World) (internal : Bool) (o : Addr) (news : List (Addr × Obj)) : Prop :=
  if internal then ∃ d u du : Addr, ∃ k : Nat, ((o, instObj 333 d) ∈ news ∧ (d, dictOf [⟨PyData.keyHash w.params (Str.ofString "user_order"), .str (Str.ofString "user_order") k, .ref u⟩] 1) ∈ news ∧ (u, instObj 279 du) ∈ news ∧ (du, emptyDict) ∈ news)
  else ∃ d : Addr, (o, instObj 279 d) ∈ news ∧ (d, emptyDict) ∈ news
end Mine
end

section
open PySem PySem.W PyProof.Rows PySem.Calls
set_option Elab.async false
set_option maxRecDepth 100000
set_option maxHeartbeats 4000000
namespace Mine

/-- how many first octets two lists share -/
def cpl : List UInt8 → List UInt8 → Nat
  | a :: x, b :: y => if a = b then cpl x y + 1 else 0
  | _, _ => 0
theorem cpl_le_left : ∀ x y, cpl x y ≤ x.length
  | [], _ => Nat.zero_le _
  | _ :: _, [] => Nat.zero_le _
  | a :: x, b :: y => by unfold cpl; split <;> simp [cpl_le_left x y]
theorem cpl_le_right : ∀ x y, cpl x y ≤ y.length
  | [], _ => Nat.zero_le _
  | _ :: _, [] => Nat.zero_le _
  | a :: x, b :: y => by unfold cpl; split <;> simp [cpl_le_right x y]
/-- the first octets are alike up to there, and not there -/
theorem cpl_of : ∀ (x y : List UInt8) (k : Nat), k ≤ x.length → k ≤ y.length → (∀ j, j < k → x.getD j 0 = y.getD j 0) → (k < x.length → k < y.length → x.getD k 0 ≠ y.getD k 0) → k = cpl x y
  | [], y, k, h1, _, _, _ => by simp at h1; subst h1; rfl
  | _ :: _, [], k, _, h2, _, _ => by simp at h2; subst h2; rfl
  | a :: x, b :: y, 0, _, _, _, h4 => by
    have h := h4 (by simp) (by simp)
    simp at h
    unfold cpl; rw [if_neg h]
  | a :: x, b :: y, k + 1, h1, h2, h3, h4 => by
    have e : a = b := by simpa using h3 0 (by omega)
    unfold cpl; rw [if_pos e]
    rw [← cpl_of x y k (by simpa using h1) (by simpa using h2) (fun j hj => by simpa using h3 (j + 1) (by omega)) (fun p q => by simpa using h4 (by simpa using p) (by simpa using q))]
/-- the same, as the walk says it -/
theorem cpl_walk {x y : List UInt8} {M k : Int} (hM : M ≤ x.length ∧ M ≤ y.length ∧ (M = x.length ∨ M = y.length)) (h0 : 0 ≤ k) (h1 : k ≤ max 0 M)
    (h2 : ∀ j : Int, 0 ≤ j → j < k → (if j < M then if ((↑(x.getD j.toNat 0).toNat : Int) == ↑(y.getD j.toNat 0).toNat) = true then true else false else false) = true)
    (h3 : (if k < M then if ((↑(x.getD k.toNat 0).toNat : Int) == ↑(y.getD k.toNat 0).toNat) = true then true else false else false) = false) : k = cpl x y := by
  obtain ⟨n, rfl⟩ := Int.eq_ofNat_of_zero_le h0
  have := cpl_of x y n (by omega) (by omega) (fun j hj => by
    have := h2 j (by omega) (by omega)
    have hM' : (j : Int) < M := by
      by_cases hjM : (j : Int) < M
      · exact hjM
      · rw [if_neg hjM] at this; cases this
    rw [if_pos hM'] at this
    simp only [Int.toNat_natCast] at this
    have h' : (x.getD j 0).toNat = (y.getD j 0).toNat := by
      by_cases q : ((x.getD j 0).toNat : Int) == ((y.getD j 0).toNat : Int)
      · have := beq_iff_eq.mp q; omega
      · rw [if_neg q] at this; cases this
    exact UInt8.toNat_inj.mp h') (fun p q e => by
    have hM' : (n : Int) < M := by omega
    rw [if_pos hM'] at h3
    simp only [Int.toNat_natCast] at h3
    have h' : ((x.getD n 0).toNat : Int) = ((y.getD n 0).toNat : Int) := by rw [e]
    rw [if_pos (by rw [h']; exact beq_self_eq_true _)] at h3
    cases h3)
  omega

def var (n : Int) : List UInt8 := if n < 128 then octets [n] else octets [n % 128 + 128, n / 128]
def fix (i : Int) : List UInt8 := octets [i % 256, i / 256, 0, 0]
def ent (last key value : List UInt8) (whole : Bool) : List UInt8 :=
  var (if whole then 0 else (cpl last key : Int)) ++ var ((key.length : Int) - (if whole then 0 else (cpl last key : Int))) ++ var value.length ++ key.drop (if whole then 0 else cpl last key) ++ value
/-- three-way comparison of octets -/
def cmpB (a b : List UInt8) : Int := if ltB a b then -1 else if ltB b a then 1 else 0
def uk (x : List UInt8) : List UInt8 := x.take (x.length - 8)
def tg (x : List UInt8) (i : Nat) : Int := (x.getD (x.length - 8 + i) 0).toNat
/-- an internal key as the law makes them -/
def IK (x : List UInt8) : Prop := 8 ≤ x.length ∧ tg x 0 < 2 ∧ tg x 1 < 3 ∧ ∀ i, 2 ≤ i → i < 8 → tg x i = 0
def cmpI (a b : List UInt8) : Int := if cmpB (uk a) (uk b) ≠ 0 then cmpB (uk a) (uk b) else if tg a 0 + 256 * tg a 1 > tg b 0 + 256 * tg b 1 then -1 else if tg a 0 + 256 * tg a 1 < tg b 0 + 256 * tg b 1 then 1 else 0
def rises (internal : Bool) (a b : List UInt8) : Bool :=
  if internal then (if uk a ≠ uk b then ltB (uk a) (uk b) else decide (tg a 1 > tg b 1 ∨ (tg a 1 = tg b 1 ∧ tg a 0 > tg b 0))) else ltB a b

section
variable {h₀ h' : Heap} {L : Addr} {m : Str → Option Value} {news : List (Addr × Obj)} {s : Shared} {Q : Value → Shared → Prop} {t : Tok} {tk' : Nat}
theorem retI {x y : Int} (hret : ∀ (t : Tok) (h' : Heap) (tk' : Nat), Fr h₀ L h' m → News h₀ L h' news → Q (.int x t) { s with heap := h', toks := tk' }) (e : y = x) (F : Fr h₀ L h' m) (N : News h₀ L h' news) : Q (.int y t) { s with heap := h', toks := tk' } := by
  subst e
  exact hret t h' tk' F N
theorem retB {x y : List UInt8} (hret : ∀ (t : Tok) (h' : Heap) (tk' : Nat), Fr h₀ L h' m → News h₀ L h' news → Q (.bytes x.toArray t) { s with heap := h', toks := tk' }) (e : y = x) (F : Fr h₀ L h' m) (N : News h₀ L h' news) : Q (.bytes y.toArray t) { s with heap := h', toks := tk' } := by
  subst e
  exact hret t h' tk' F N
theorem retD {x y : Bool} (hret : ∀ (h' : Heap) (tk' : Nat), Fr h₀ L h' m → News h₀ L h' news → Q (.bool x) { s with heap := h', toks := tk' }) (e : y = x) (F : Fr h₀ L h' m) (N : News h₀ L h' news) : Q (.bool y) { s with heap := h', toks := tk' } := by
  subst e
  exact hret h' tk' F N
end
theorem retW {h₀ h' : Heap} {L : Addr} {m : Str → Option Value} {news : List (Addr × Obj)} {s : Shared} {Q : Value → Shared → Prop} {t : Tok} {tk' : Nat} {a : Array UInt8}
    (hret : ∀ (r : List UInt8) (t : Tok) (h' : Heap) (tk' : Nat), r.length ≤ 3 → Fr h₀ L h' m → News h₀ L h' news → Q (.bytes r.toArray t) { s with heap := h', toks := tk' }) (e : a.size ≤ 3) (F : Fr h₀ L h' m) (N : News h₀ L h' news) : Q (.bytes a t) { s with heap := h', toks := tk' } := by
  have := hret a.toList t h' tk' (by simpa using e) F N
  simpa using this
theorem p3_ne (k : Int) : (3 : Int) ^ k.toNat ≠ 0 := Int.ne_of_gt (Int.pow_pos (by decide))
theorem p3_small {k : Int} (h : k < 4) : ((3 : Int) ^ k.toNat).natAbs < 1073741824 := by
  have h' : k.toNat = 0 ∨ k.toNat = 1 ∨ k.toNat = 2 ∨ k.toNat = 3 := by omega
  rcases h' with h | h | h | h <;> rw [h] <;> decide
theorem draw_bound {ns : List Int} (hb : ∀ n ∈ ns, 0 ≤ n ∧ n < 1000000) (i : Nat) : 0 ≤ ns.getD i 0 ∧ ns.getD i 0 < 1000000 := by
  rw [List.getD_eq_getElem?_getD]
  cases e : ns[i]? with
  | none => simp
  | some v => exact hb v (List.mem_of_getElem? e)
theorem fd100 {i : Int} {n : Nat} (h0 : 0 ≤ i) (h1 : i < 100) (hn : 0 < n) : 0 ≤ i.fdiv n ∧ i.fdiv n < 100 := by
  rw [Int.fdiv_eq_ediv_of_nonneg _ (by omega)]
  refine ⟨Int.ediv_nonneg h0 (by omega), ?_⟩
  have := Int.ediv_le_self (n : Int) h0
  omega
theorem rises_same {x y : List UInt8} (h : x.take (x.length - 8) = y.take (y.length - 8)) :
    (if ((x.getD (x.length - 8 + 1) 0).toNat : Int) = (y.getD (y.length - 8 + 1) 0).toNat then decide (((y.getD (y.length - 8) 0).toNat : Int) < (x.getD (x.length - 8) 0).toNat)
      else decide (((y.getD (y.length - 8 + 1) 0).toNat : Int) < (x.getD (x.length - 8 + 1) 0).toNat)) = rises true x y := by
  have h' : ¬ uk x ≠ uk y := fun q => q h
  have e : rises true x y = decide (tg x 1 > tg y 1 ∨ (tg x 1 = tg y 1 ∧ tg x 0 > tg y 0)) := by simp only [rises, if_true, if_neg h']
  rw [e]
  show (if tg x 1 = tg y 1 then decide (tg y 0 < tg x 0) else decide (tg y 1 < tg x 1)) = _
  generalize tg x 1 = a, tg y 1 = b, tg x 0 = c, tg y 0 = d
  split <;> (rw [decide_eq_decide]; omega)
theorem rises_other {x y : List UInt8} (h : ¬ x.take (x.length - 8) = y.take (y.length - 8)) : ltB (x.take (x.length - 8)) (y.take (y.length - 8)) = rises true x y := by
  have h' : uk x ≠ uk y := h
  simp only [rises, if_true, if_pos h']
  rfl
def rf (x : List UInt8) (i : Int) : Int := Builtin.bitOr
      (Builtin.bitOr (Builtin.bitOr (↑(x.getD i.toNat 0).toNat) (↑(x.getD (i + 1).toNat 0).toNat * 2 ^ Int.toNat 8))
        (↑(x.getD (i + 2).toNat 0).toNat * 2 ^ Int.toNat 16))
      (↑(x.getD (i + 3).toNat 0).toNat * 2 ^ Int.toNat 24)
theorem ik_hi {x : List UInt8} (h : IK x) : rf x ((x.length : Int) - 8 + 4) = 0 := by
  obtain ⟨h8, _, _, hz⟩ := h
  have e4 := hz 4 (by decide) (by decide)
  have e5 := hz 5 (by decide) (by decide)
  have e6 := hz 6 (by decide) (by decide)
  have e7 := hz 7 (by decide) (by decide)
  simp only [tg] at e4 e5 e6 e7
  unfold rf
  rw [show ((x.length : Int) - 8 + 4).toNat = x.length - 8 + 4 by omega, show ((x.length : Int) - 8 + 4 + 1).toNat = x.length - 8 + 5 by omega,
    show ((x.length : Int) - 8 + 4 + 2).toNat = x.length - 8 + 6 by omega, show ((x.length : Int) - 8 + 4 + 3).toNat = x.length - 8 + 7 by omega, e4, e5, e6, e7]
  decide
theorem ik_lo {x : List UInt8} (h : IK x) : rf x ((x.length : Int) - 8) = tg x 0 + 256 * tg x 1 := by
  obtain ⟨h8, h0, h1, hz⟩ := h
  have e2 := hz 2 (by decide) (by decide)
  have e3 := hz 3 (by decide) (by decide)
  have p0 : 0 ≤ tg x 0 := Int.natCast_nonneg _
  have p1 : 0 ≤ tg x 1 := Int.natCast_nonneg _
  have e : rf x ((x.length : Int) - 8) = Builtin.bitOr (Builtin.bitOr (Builtin.bitOr (tg x 0) (tg x 1 * 2 ^ Int.toNat 8)) (tg x 2 * 2 ^ Int.toNat 16)) (tg x 3 * 2 ^ Int.toNat 24) := by
    unfold rf tg
    rw [show ((x.length : Int) - 8).toNat = x.length - 8 + 0 by omega, show ((x.length : Int) - 8 + 1).toNat = x.length - 8 + 1 by omega,
      show ((x.length : Int) - 8 + 2).toNat = x.length - 8 + 2 by omega, show ((x.length : Int) - 8 + 3).toNat = x.length - 8 + 3 by omega]
  rw [e, e2, e3]
  have q0 : tg x 0 = 0 ∨ tg x 0 = 1 := by omega
  have q1 : tg x 1 = 0 ∨ tg x 1 = 1 ∨ tg x 1 = 2 := by omega
  rcases q0 with q0 | q0 <;> rcases q1 with q1 | q1 | q1 <;> rw [q0, q1] <;> decide
theorem ik_64 {x : List UInt8} (h : IK x) : Builtin.bitOr (rf x ((x.length : Int) - 8)) (rf x ((x.length : Int) - 8 + 4) * 2 ^ Int.toNat 32) = tg x 0 + 256 * tg x 1 := by
  rw [ik_hi h, ik_lo h]
  obtain ⟨h8, h0, h1, hz⟩ := h
  have p0 : 0 ≤ tg x 0 := Int.natCast_nonneg _
  have p1 : 0 ≤ tg x 1 := Int.natCast_nonneg _
  have q0 : tg x 0 = 0 ∨ tg x 0 = 1 := by omega
  have q1 : tg x 1 = 0 ∨ tg x 1 = 1 ∨ tg x 1 = 2 := by omega
  rcases q0 with q0 | q0 <;> rcases q1 with q1 | q1 | q1 <;> rw [q0, q1] <;> decide
/-- one octet, widened, stays small -/
theorem byte_small (x : List UInt8) (i : Nat) : ((x.getD i 0).toNat : Int).natAbs < 2 ^ 64 := by
  have := (x.getD i 0).toNat_lt
  omega
end Mine
end

section
open PySem PySem.W PyProof.Rows PySem.Calls LCg
set_option Elab.async false
set_option maxRecDepth 100000
set_option maxHeartbeats 4000000
namespace Mine
section
variable {prog : Program} {w : World} {A : Around} {s : Shared} {env : Env} {h₀ : Heap} {L : Addr}

/-- what one turn of a loop leaves -/
def TurnC (h₀ : Heap) (L I : Addr) (o : Obj) (Jn : (Str → Option Value) → List (Addr × Obj) → Prop) (s₁ : Shared) (f : Flow) (s₂ : Shared) : Prop :=
  f = .next ∧ ∃ h' tk m₂ news₂, s₂ = { s₁ with heap := h', toks := tk } ∧ Fr h₀ L h' m₂ ∧ News h₀ L h' ((I, o) :: news₂) ∧ (∀ p ∈ news₂, p.1 ≠ I) ∧ Jn m₂ news₂
theorem TurnC.intro {I : Addr} {o : Obj} {Jn : (Str → Option Value) → List (Addr × Obj) → Prop} {s₁ : Shared} {h' : Heap} {tk : Nat} {m₂ : Str → Option Value} {news₂ : List (Addr × Obj)}
    (F : Fr h₀ L h' m₂) (N : News h₀ L h' ((I, o) :: news₂)) (a : ∀ p ∈ news₂, p.1 ≠ I) (j : Jn m₂ news₂) : TurnC h₀ L I o Jn s₁ .next { s₁ with heap := h', toks := tk } := ⟨rfl, h', tk, m₂, news₂, rfl, F, N, a, j⟩

theorem codeC_for_src {R : Result → Shared → Prop} {x : Str} {px : Pos} {body : List Stmt} {I : Addr} {fp : List Addr} {n : Nat} {P : Nat → Value → Prop} {St : Nat → Heap → Prop} {Src : List (Addr × Obj) → Prop}
    {m : Str → Option Value} {news : List (Addr × Obj)} (W : Walks prog w A I fp [I] n P St) (live : ∀ i h, St i h → ∃ o, h.get? I = some o)
    (st : ∀ i (h h' : Heap) (o : Obj) (nw : List (Addr × Obj)), St i h → h.get? I = some o → h'.get? I = some o → (∀ b o, h₀.get? b = some o → h'.get? b = some o) → News h₀ L h' nw → Src nw → St i h')
    (hI : h₀.get? I = none) (hIL : L ≠ I) (hLe : env.locals = L) (hx : env.kindOf x = some .local) (hp : (env.scope.kind == .class || (env.scope.kind == .module && env.locals != env.globals)) = false)
    (F : Fr h₀ L s.heap m) (N : News h₀ L s.heap news) (hnI : ∀ p ∈ news, p.1 ≠ I) (hst : St 0 s.heap)
    (J : Nat → (Str → Option Value) → List (Addr × Obj) → Prop) (h0 : J 0 m news) (Jsrc : ∀ i m nw, J i m nw → Src nw)
    (step : ∀ i v m₁ news₁ s₁ o, i < n → P i v → J i m₁ news₁ → (∀ p ∈ news₁, p.1 ≠ I) → Fr h₀ L s₁.heap (fun y => if y = x then some v else m₁ y) → News h₀ L s₁.heap ((I, o) :: news₁) →
      wpC (model prog w) A (execs body env) (TurnC h₀ L I o (J (i + 1)) s₁) (fun _ _ => False) s₁)
    (hR : ∀ h' tk m' news', Fr h₀ L h' m' → News h₀ L h' news' → J n m' news' → R (.ok .next) { s with heap := h', toks := tk })
    (ht : ∀ v, letOwnedTupleGo (.Name x px) (.ref I) v = pure () := by intro _; rfl) :
    codeC (model prog w) A (.forLoop (.Name x px) (.ref I) body [] env) R s := by
  subst hLe
  refine codeC_forLoop
    (fun k s' => ∃ h' tk m' news' i, s' = { s with heap := h', toks := tk } ∧ St i h' ∧ Fr h₀ env.locals h' m' ∧ News h₀ env.locals h' news' ∧ (∀ p ∈ news', p.1 ≠ I) ∧ J i m' news' ∧ i ≤ n ∧ k = n + 1 - i) ?_ (n + 1)
    ⟨s.heap, s.toks, m, news, 0, rfl, hst, F, N, hnI, h0, Nat.zero_le _, rfl⟩ ht
  rintro k s' ⟨h', tk, m', news', i, rfl, hst', F', N', hnw', hJ, hi, rfl⟩
  have old : ∀ b o, h₀.get? b = some o → b ≠ I := fun b o e hb => by rw [hb, hI] at e; cases e
  have next : ∀ h₁ : Heap, (∀ b o, b ∉ [I] → h'.get? b = some o → h₁.get? b = some o) → Fr h₀ env.locals h₁ m' ∧ News h₀ env.locals h₁ news' := fun h₁ hk₁ =>
    ⟨⟨F'.ns.at' fun o e => hk₁ _ o (by simpa using hIL) e, fun b o e => hk₁ b o (by simpa using old b o e) (F'.keep b o e), F'.above⟩, fun p hp => ⟨hk₁ _ _ (by simpa using hnw' p hp) (N' p hp).1, (N' p hp).2⟩⟩
  by_cases hlt : i < n
  · refine W.item i _ _ _ hlt hst' fun v h₁ tk₁ hP hst₁ hk₁ => ?_
    obtain ⟨F₁, N₁⟩ := next h₁ hk₁
    refine wpAny_assign_Name (wpAny_storeName_local hx F₁.ns (fun h₂ hn₂ hs₂ => ?_) hp)
    have F₂ := F₁.set hn₂ hs₂
    obtain ⟨oI, hoI⟩ := live _ _ hst₁
    have hoI₂ : h₂.get? I = some oI := (hs₂.2 I (Ne.symm hIL)).trans hoI
    have N₂ : News h₀ env.locals h₂ ((I, oI) :: news') := fun p hp => by
      rcases List.mem_cons.mp hp with rfl | hp
      · exact ⟨hoI₂, Ne.symm hIL, hI⟩
      · exact N₁.set hs₂ p hp
    refine wpC_mono (step i v m' news' _ oI hlt hP hJ hnw' F₂ N₂) (fun f s₃ h₃ => ?_) fun _ _ e => e
    obtain ⟨rfl, h₃', tk₃, m₂, news₂, rfl, F₃, N₃, ha₃, hJ₃⟩ := h₃
    refine ⟨n + 1 - (i + 1), by omega, h₃', tk₃, m₂, news₂, i + 1, rfl, ?_, F₃, fun p hp => N₃ p (.tail _ hp), ha₃, hJ₃, hlt, rfl⟩
    exact st _ h₁ h₃' oI news₂ hst₁ hoI (N₃ _ (.head _)).1 F₃.keep (fun p hp => N₃ p (.tail _ hp)) (Jsrc _ _ _ hJ₃)
  · have hin : i = n := by omega
    subst hin
    refine W.done _ _ _ hst' fun h₁ tk₁ hk₁ => wpC_execs_nil ?_
    obtain ⟨F₁, N₁⟩ := next h₁ hk₁
    exact hR h₁ tk₁ m' news' F₁ N₁ hJ

theorem iterC_range {E : Value → Shared → Prop} {Q : Flow → Shared → Prop} {x : Str} {px : Pos} {body : List Stmt} {r : Addr} {a b : Int} {t u v : Tok} {n : Nat} {m : Str → Option Value} {news : List (Addr × Obj)}
    (hh : A.handled = none) (hr : IsRange s.heap r a b 1 t u v) (hsm : Builtin.Range.small a b 1 = true) (hn : Builtin.Range.rangeSize a b 1 = ((n : Nat) : Int))
    (hLe : env.locals = L) (hx : env.kindOf x = some .local) (hp : (env.scope.kind == .class || (env.scope.kind == .module && env.locals != env.globals)) = false)
    (F : Fr h₀ L s.heap m) (N : News h₀ L s.heap news)
    (J : Nat → (Str → Option Value) → List (Addr × Obj) → Prop) (h0 : J 0 m news)
    (step : ∀ I i t m₁ news₁ s₁ o, i < n → J i m₁ news₁ → (∀ p ∈ news₁, p.1 ≠ I) → Fr h₀ L s₁.heap (fun y => if y = x then some (.int (a + (i : Nat)) t) else m₁ y) → News h₀ L s₁.heap ((I, o) :: news₁) →
      wpC (model prog w) A (execs body env) (TurnC h₀ L I o (J (i + 1)) s₁) (fun _ _ => False) s₁)
    (hR : ∀ h' tk m' news', Fr h₀ L h' m' → News h₀ L h' news' → J n m' news' → Q .next { s with heap := h', toks := tk })
    (ht : ∀ I v, letOwnedTupleGo (.Name x px) (.ref I) v = pure () := by intro _ _; rfl) :
    wpAny (model prog w) A (pyIter (.ref r)) (fun it s₂ => codeC (model prog w) A (.forLoop (.Name x px) it body [] env) (fun r s' => match r with | .ok f => Q f s' | .error _ => False) s₂) E s := by
  refine wpAny_pyIter_range hr hsm ?_
  refine codeC_for_src (Src := fun _ => True) (range_walks hh a n) (fun i h st => ⟨_, st⟩) range_st (next_is_new F) (Nat.ne_of_lt F.ns.lt) hLe hx hp (F.push _) (N.grown fun _ _ e => Heap.get?_push_of_some _ e) (fun p hp => Nat.ne_of_lt (Heap.lt_size (N p hp).1))
    (by show IsRangeIter _ _ _ _ _; rw [hn]; simpa using Heap.get?_push_size _ rfl) J h0 (fun _ _ _ _ => trivial) (fun i v m₁ news₁ s₁ o hi hP hJ ha hF hN => ?_) (fun h' tk m' news' hF hN hJ => hR h' tk m' news' hF hN hJ) (ht _)
  obtain ⟨t, rfl⟩ := hP
  exact step _ i t m₁ news₁ s₁ o hi hJ ha hF hN

theorem iterC_list {E : Value → Shared → Prop} {Q : Flow → Shared → Prop} {x : Str} {px : Pos} {body : List Stmt} {ax : Addr} {vs : List Value} {ns : List Int} {ep : Nat} {m : Str → Option Value} {news : List (Addr × Obj)}
    (hh : A.handled = none) (hm : (ax, W.listOf vs.toArray ep) ∈ news) (hi : IntsAre vs ns)
    (hLe : env.locals = L) (hx : env.kindOf x = some .local) (hp : (env.scope.kind == .class || (env.scope.kind == .module && env.locals != env.globals)) = false)
    (F : Fr h₀ L s.heap m) (N : News h₀ L s.heap news)
    (J : Nat → (Str → Option Value) → List (Addr × Obj) → Prop) (h0 : J 0 m news) (Jsrc : ∀ i m nw, J i m nw → (ax, W.listOf vs.toArray ep) ∈ nw)
    (step : ∀ I i (k : Int) t m₁ news₁ s₁ o, ns[i]? = some k → J i m₁ news₁ → (∀ p ∈ news₁, p.1 ≠ I) → Fr h₀ L s₁.heap (fun y => if y = x then some (.int k t) else m₁ y) → News h₀ L s₁.heap ((I, o) :: news₁) →
      wpC (model prog w) A (execs body env) (TurnC h₀ L I o (J (i + 1)) s₁) (fun _ _ => False) s₁)
    (hR : ∀ h' tk m' news', Fr h₀ L h' m' → News h₀ L h' news' → J ns.length m' news' → Q .next { s with heap := h', toks := tk })
    (ht : ∀ I v, letOwnedTupleGo (.Name x px) (.ref I) v = pure () := by intro _ _; rfl) :
    wpAny (model prog w) A (pyIter (.ref ax)) (fun it s₂ => codeC (model prog w) A (.forLoop (.Name x px) it body [] env) (fun r s' => match r with | .ok f => Q f s' | .error _ => False) s₂) E s := by
  have S : SrcAt h₀ ax vs.toArray news := .inr ⟨_, hm, rfl, _, rfl⟩
  have hl := S.list F.keep N
  have hlt : ax < s.heap.objs.size := by obtain ⟨_, e, _⟩ := hl; exact Heap.lt_size e
  refine wpAny_pyIter_list hl ?_
  have W := Walks.list (prog := prog) (w := w) hh s.heap.objs.size ax (Nat.ne_of_lt hlt) vs.toArray
  have hlen : vs.toArray.size = ns.length := by simp [hi.length]
  rw [hlen] at W
  refine codeC_for_src (Src := SrcAt h₀ ax vs.toArray) W (fun i h st => by obtain ⟨o, e, _⟩ := st.1; exact ⟨o, e⟩) list_st (next_is_new F) (Nat.ne_of_lt F.ns.lt) hLe hx hp (F.push _) (N.grown fun _ _ e => Heap.get?_push_of_some _ e) (fun p hp => Nat.ne_of_lt (Heap.lt_size (N p hp).1))
    ⟨⟨_, Heap.get?_push_size _ rfl, rfl, rfl⟩, hl.push _⟩ J h0 (fun _ _ _ hJ => .inr ⟨_, Jsrc _ _ _ hJ, rfl, _, rfl⟩) (fun i v m₁ news₁ s₁ o hi' hP hJ ha hF hN => ?_) (fun h' tk m' news' hF hN hJ => hR h' tk m' news' hF hN hJ) (ht _)
  have key : ∀ {vs : List Value} {ns : List Int}, IntsAre vs ns → ∀ {i : Nat} {v : Value}, vs[i]? = some v → ∃ k t, ns[i]? = some k ∧ v = .int k t := by
    intro vs ns h
    induction h with
    | nil => intro i v e; simp at e
    | cons n t _ ih =>
      intro i v e
      cases i with
      | zero => exact ⟨n, t, rfl, by simpa using e.symm⟩
      | succ i => simpa using ih (i := i) (by simpa using e)
  obtain ⟨k, t, hk, rfl⟩ := key hi (by simpa using hP)
  exact step _ i k t m₁ news₁ s₁ o hk hJ ha hF hN
end
end Mine
end

section
open PySem PySem.W PyProof.Rows PySem.Calls LCg
set_option Elab.async false
set_option maxRecDepth 100000
set_option maxHeartbeats 4000000
namespace Mine
section
variable {prog : Program} {w : World} {A : Around} {E : Value → Shared → Prop} {s : Shared} {Q : Value → Shared → Prop}

theorem r_tup_gt {x y : Addr} {ox oy : Obj} {a0 a1 b0 b1 : Int} {t0 t1 u0 u1 : Tok} {n k : Nat} (hx : s.heap.get? x = some ox) (hy : s.heap.get? y = some oy) (cx : ox.cls = .type "tuple") (cy : oy.cls = .type "tuple")
    (dx : ox.data = .seq #[.int a0 t0, .int a1 t1] n) (dy : oy.data = .seq #[.int b0 u0, .int b1 u1] k) (hu : A.units < cLine)
    (h : Q (.bool (if a0 = b0 then decide (b1 < a1) else decide (b0 < a0))) s) : wpAny (model prog w) A (compareOp .Gt (.ref x) (.ref y)) Q E s := by
  have hT : s.TypeIs (.ref x) "tuple" := ⟨_, hx, cx⟩
  have hU : s.TypeIs (.ref y) "tuple" := ⟨_, hy, cy⟩
  refine wpAny_richCompare_same_room (op := .Gt) hT hU F.slot_tuple_gt
    (wpAny_call_entry F.slot_tuple_gt hT F.entry_tuple_gt ?_ (F.args_tuple_gt_2 _ _)) hu
  show wpAny _ _ (isInstance (.ref y) (.type "tuple") >>= _) _ _ s
  refine wpAny_bind (wpAny_isInstance hU isSubtype_tuple_tuple ?_)
  simp only [Bool.not_true, Bool.false_eq_true, if_false]
  refine wpAny_bind (wpAny_tupleItemsOf hx dx ?_)
  refine wpAny_bind (wpAny_tupleItemsOf hy dy ?_)
  refine wpAny_bind ?_
  show wpAny _ _ (forIn [(Value.int a0 t0, Value.int b0 u0), (Value.int a1 t1, Value.int b1 u1)] _ _) _ _ s
  rw [List.forIn_cons]
  refine wpAny_bind (wpAny_bind (wpAny_eqBool_int ?_))
  by_cases e0 : a0 = b0
  · subst e0
    rw [beq_self_eq_true]
    rw [if_pos rfl] at h
    simp only [Bool.not_true, Bool.false_eq_true, if_false]
    refine wpAny_pure ?_
    dsimp only
    rw [List.forIn_cons]
    refine wpAny_bind (wpAny_bind (wpAny_eqBool_int ?_))
    by_cases e1 : a1 = b1
    · subst e1
      rw [beq_self_eq_true]
      simp only [Bool.not_true, Bool.false_eq_true, if_false]
      refine wpAny_pure ?_
      dsimp only
      rw [List.forIn_nil]
      refine wpAny_pure (wpAny_pure ?_)
      refine ⟨_, rfl, (fun e => nomatch e), ?_⟩
      rw [decide_eq_false (Int.lt_irrefl a1)] at h
      exact h
    · rw [show (a1 == b1) = false from beq_eq_false_iff_ne.mpr e1]
      simp only [Bool.not_false, if_true]
      refine wpAny_bind (wpAny_rule ?_)
      refine wpAny_bind ?_
      show wpAny _ _ (compareOp .Gt (.int a1 t1) (.int b1 u1)) _ _ _
      refine PyProof.Rows.gt_int ?_
      refine wpAny_pure (wpAny_pure (wpAny_pure ?_))
      exact ⟨_, rfl, (fun e => nomatch e), h⟩
  · rw [show (a0 == b0) = false from beq_eq_false_iff_ne.mpr e0]
    rw [if_neg e0] at h
    simp only [Bool.not_false, if_true]
    refine wpAny_bind (wpAny_rule ?_)
    refine wpAny_bind ?_
    show wpAny _ _ (compareOp .Gt (.int a0 t0) (.int b0 u0)) _ _ _
    refine PyProof.Rows.gt_int ?_
    refine wpAny_pure (wpAny_pure (wpAny_pure ?_))
    exact ⟨_, rfl, (fun e => nomatch e), h⟩
end
end Mine
end

section
open PySem PySem.W PyProof.Rows PySem.Calls LCg
set_option Elab.async false
set_option maxRecDepth 100000
set_option maxHeartbeats 4000000
namespace Mine
section
variable {prog : Program} {w : World} {A₀ A : Around} {s : Shared} {base h₀ : Heap} {env : Env} {outer : List Env} {L : Addr} {m : Str → Option Value} {K : Frag}
  {R : Result → Shared → Prop} {name qual : Str} {params : Arguments} {body : List Stmt} {scope : Scope} {dV kV doc pm cdv ct oc : Value} {an od : Option Addr} {osl : Array (Option Value)} {f : Addr} {args : Args} {binds : List (Str × Value)}
  {p : Program} {loose : List Str} {mean : ExcName → Option Value} {mg mb : Str → Option Value}

/-- a call of a def with cells that changes nothing of what stands: the ground is the heap itself -/
theorem codeA_cells (B : Below A₀ base outer h₀) (F : Fr h₀ L s.heap m) (X₀ : K.In h₀) (T : Top p loose mean mg mb h₀) (hA : A.frames = some (env :: outer)) (hf : env.frame = some L) (hke : env.scope.kind = .function)
    (ho : K.lookup f = some ⟨oc, od, .func (fnOf name qual params body scope dV kV doc pm an cdv ct), osl⟩) (hcd : codeIn K cdv qual = true) (hroom : A.depth < recursionLimit)
    (hbind : BindsTo s (fnOf name qual params body scope dV kV doc pm an cdv ct) args binds) (hkind : (binds.all fun y => scope.names.lookup y.1 == some .local || scope.names.lookup y.1 == some .cell) = true)
    (hnd : ((cellsFrom 0 scope.names []).map (·.1)).Nodup)
    (h : ∀ L' h₁ tk cells, Fr h₀ L s.heap m → Fr s.heap L' h₁ (bindL (envOfC qual scope L' f cdv).kindOf binds fun _ => none) → News s.heap L' h₁ (cells ++ []) →
      CellsAre (bindC (envOfC qual scope L' f cdv).kindOf binds fun _ => none) (cellsFrom (L' + 1) scope.names []) cells → Below A base (env :: outer) s.heap → K.In s.heap → Top p loose mean mg mb s.heap →
      wpAny (model prog w) (A.deeper (envOfC qual scope L' f cdv)) (execs body (envOfC qual scope L' f cdv))
        (fun fl s' => LeaveK h₀ L m s.heap R (match fl with | .ret v => v | _ => .none) s')
        (fun e s' => wpAny (model prog w) (A.deeper (envOfC qual scope L' f cdv)) (leaving (envOfC qual scope L' f cdv) e) (fun _ s'' => R (.error e) s'') (fun e' s'' => R (.error e') s'') s')
        { s with heap := h₁, toks := tk })
    (hco : scope.isCoroutine = false) (hgen : scope.isGenerator = false) (hk : scope.kind = .function) : codeAny (model prog w) A (.call (.ref f) args) R s := by
  obtain ⟨FG, BG, st, lv⟩ := groundX (R := R) B F (news := []) (fun _ hp => nomatch hp) hA hf hke
  have X := X₀.keeps F.keep
  have T' := T.keeps st
  refine codeAny_call_function hroom (X _ _ ho) rfl hco hgen rfl (codeRec_of X hcd) (hbind _ _ _ _ (wpAny_newFunctionEnv_cells hk (kindsX hkind _) fun env' he s' x => ?_))
  subst he
  refine ⟨T'.nolimit.keeps x.toInCall.keep, codeAny_func ?_⟩
  obtain ⟨h₁, tk, rfl, _⟩ := x.done
  obtain ⟨cells, NC, Y⟩ := Cl.news (h₀ := s.heap) (Nat.le_refl _) fun n c hm => ⟨x.cell n c (lookup_of_mem_nodup (cellsFrom_names scope.names 0 (s.heap.objs.size + 1) [] [] rfl ▸ hnd) hm), x.above n c hm⟩
  exact wpAny_mono (h s.heap.objs.size h₁ tk cells FG ⟨x.toInCall.ns, x.toInCall.keep, Nat.le_refl _⟩ (fun p hp => NC p (by simpa using hp)) Y BG X T') (fun fl s' hl => lv _ _ hl) fun _ _ y => y
theorem keepN {h h' : Heap} {L L' : Addr} {m' : Str → Option Value} {news : List (Addr × Obj)} (N : News h₀ L h news) (F' : Fr h L' h' m') : News h₀ L h' news := fun p hp => ⟨F'.keep _ _ (N p hp).1, (N p hp).2⟩
end
end Mine
namespace Mine
open PySem PySem.W PyProof.Rows
section
variable {prog : Program} {w : World} {A : Around} {s : Shared} {env : Env}
/-- one turn of a while -/
theorem codeC_while_once {R : Result → Shared → Prop} {test body orelse}
    (h : wpC (model prog w) A (isTrue test env (eval test env)) (fun b s₂ =>
        if b then wpC (model prog w) A (execs body env) (fun f s₃ => match f with
            | .next | .cont => codeC (model prog w) A (.whileLoop test body orelse env) R s₃
            | .brk => R (.ok .next) s₃
            | .ret v => R (.ok (.ret v)) s₃) (fun _ _ => False) s₂
        else wpC (model prog w) A (execs orelse env) (fun f s₃ => R (.ok f) s₃) (fun _ _ => False) s₂)
        (fun _ _ => False) s) : codeC (model prog w) A (.whileLoop test body orelse env) R s := by
  refine codeC_of_tree rfl ?_
  show wpC _ A ((whileTurn test body orelse env).onRaise (fun x => do noteFrame x env; theTreesLotGoes x)) _ _ s
  refine wpC_noRaise (wpC_onRaise (wpC_mono (Q := fun fin s' => finC (model prog w) A R fin s') ?_ (fun _ _ x => x) fun _ _ x => False.elim x))
  simp only [whileTurn]
  refine wpC_bind (wpC_mono h (fun b s₂ h₂ => ?_) fun _ _ h' => h')
  cases b with
  | false =>
    simp only [Bool.false_eq_true, if_false] at h₂ ⊢
    exact wpC_bind (wpC_mono h₂ (fun f s₃ h₃ => wpC_pure h₃) fun _ _ h' => h')
  | true =>
    simp only [if_true] at h₂ ⊢
    refine wpC_bind (wpC_mono h₂ (fun f s₃ h₃ => ?_) fun _ _ h' => h')
    cases f with
    | next => exact wpC_pure ⟨rfl, h₃⟩
    | cont => exact wpC_pure ⟨rfl, h₃⟩
    | brk => exact wpC_pure h₃
    | ret v => exact wpC_pure h₃
end
end Mine
end

section
open PySem PySem.W PyProof.Rows PySem.Calls LCg
set_option Elab.async false
set_option maxRecDepth 100000
set_option maxHeartbeats 4000000
namespace Mine
theorem fix_len (ns : List Int) : (ns.flatMap fix).length = 4 * ns.length := by
  induction ns with
  | nil => rfl
  | cons a r ih => rw [List.flatMap_cons, List.length_append, ih]; simp [fix, octets]; omega
theorem mset1 {m : Str → Option Value} {a : Str} {v : Value} (h : m a = some v) : m = fun z => if z = a then some v else m z := by
  funext z
  by_cases e : z = a
  · subst e; rw [if_pos rfl]; exact h
  · rw [if_neg e]
theorem blk_step {x : List UInt8} {l : List Int} {i : Nat} {k : Int} (h : l[i]? = some k) : x ++ (l.take i).flatMap fix ++ octets [k.fmod 256, k.fdiv 256, 0, 0] = x ++ (l.take (i + 1)).flatMap fix := by
  have e : l.take (i + 1) = l.take i ++ [k] := by
    rw [List.take_add_one, h]; rfl
  rw [e, List.flatMap_append, List.append_assoc]
  simp only [List.flatMap_cons, List.flatMap_nil, List.append_nil, fix, fd_pos _ (show (0 : Int) ≤ 256 by decide), fm_pos _ (show (0 : Int) ≤ 256 by decide)]
theorem var_len (n : Int) : (var n).length ≤ 2 := by
  unfold var
  split <;> simp [octets]
end Mine
end

section
open PySem PySem.W PyProof.Rows PySem.Calls LCg
set_option Elab.async false
set_option maxRecDepth 100000
set_option maxHeartbeats 4000000
namespace Mine
theorem foldl_sel {α β : Type} (p : α → Prop) [DecidablePred p] (f : α → β) : ∀ (xs : List α) (acc : List β), xs.foldl (fun l k => if p k then l ++ [f k] else l) acc = acc ++ (xs.filter fun k => decide (p k)).map f
  | [], acc => by simp
  | x :: xs, acc => by
    rw [List.foldl_cons, foldl_sel p f xs]
    by_cases h : p x <;> simp [h]
theorem cpl_take : ∀ (x y : List UInt8) (k : Nat), k ≤ x.length → k ≤ y.length → (y.take k = x.take k ↔ k ≤ cpl x y)
  | [], y, k, h1, _ => by simp at h1; subst h1; simp
  | _ :: _, [], k, _, h2 => by simp at h2; subst h2; simp
  | a :: x, b :: y, 0, _, _ => by simp
  | a :: x, b :: y, k + 1, h1, h2 => by
    have ih := cpl_take x y k (by simpa using h1) (by simpa using h2)
    unfold cpl
    by_cases e : a = b
    · subst e; simp [ih]
    · rw [if_neg e]; simp [Ne.symm e]
/-- what an entry costs that shares k octets -/
def cost (n k : Int) : Int := 2 + k.fdiv 128 + (n - k).fdiv 128 + n - k
theorem cost_mono {n j k : Int} (h0 : 0 ≤ j) (h1 : j ≤ k) (h2 : k ≤ n) : cost n k ≤ cost n j := by
  simp only [cost, fd_pos _ (show (0 : Int) ≤ 128 by decide)]
  omega
section
variable {last key : List UInt8} {ms zs bs : List Int} {M best : Int}
theorem ms_mem (hms : ms = List.foldl (fun l' k' => if List.take k'.toNat key = List.take k'.toNat last then l' ++ [k'] else l') [] (rangeKs 0 ((1 + if (key.length : Int) < last.length then (key.length : Int) else last.length) - 0).toNat)) (k : Int) :
    k ∈ ms ↔ 0 ≤ k ∧ k ≤ cpl last key := by
  rw [hms, foldl_sel (fun k' : Int => List.take k'.toNat key = List.take k'.toNat last) (fun k' => k')]
  have c1 := cpl_le_left last key
  have c2 := cpl_le_right last key
  simp only [List.nil_append, List.map_id', List.mem_filter, decide_eq_true_eq]
  constructor
  · rintro ⟨hm, ht⟩
    have := mem_rangeKs hm
    have hk1 : k.toNat ≤ last.length := by split at this <;> omega
    have hk2 : k.toNat ≤ key.length := by split at this <;> omega
    have := (cpl_take last key k.toNat hk1 hk2).mp ht
    omega
  · rintro ⟨h0, h1⟩
    have ht := (cpl_take last key k.toNat (by omega) (by omega)).mpr (by omega)
    refine ⟨?_, ht⟩
    simp only [rangeKs, List.mem_map, List.mem_range]
    refine ⟨k.toNat, ?_, by omega⟩
    split <;> omega
theorem ms_len (hms : ms = List.foldl (fun l' k' => if List.take k'.toNat key = List.take k'.toNat last then l' ++ [k'] else l') [] (rangeKs 0 ((1 + if (key.length : Int) < last.length then (key.length : Int) else last.length) - 0).toNat)) (hk : key.length < 1000) :
    0 < ms.length ∧ ms.length < 2000 := by
  constructor
  · exact List.length_pos_of_mem ((ms_mem hms 0).mpr ⟨Int.le_refl _, by omega⟩)
  · rw [hms, foldl_sel (fun k' : Int => List.take k'.toNat key = List.take k'.toNat last) (fun k' => k')]
    simp only [List.nil_append, List.map_id']
    refine Nat.lt_of_le_of_lt (List.length_filter_le _ _) ?_
    rw [rangeKs_length]
    split <;> omega
theorem bs_mem (hzs : zs = ms.map (cost key.length)) (hbs : bs = List.foldl (fun l k => if zs.getD k.toNat 0 = M then l ++ [ms.getD k.toNat 0] else l) [] (rangeKs 0 ((ms.length : Int) - 0).toNat)) (a : Int) :
    a ∈ bs ↔ a ∈ ms ∧ cost key.length a = M := by
  rw [hbs, foldl_sel (fun k : Int => zs.getD k.toNat 0 = M) (fun k => ms.getD k.toNat 0)]
  simp only [List.nil_append, List.mem_map, List.mem_filter, decide_eq_true_eq]
  constructor
  · rintro ⟨k, ⟨hk, hz⟩, rfl⟩
    have := mem_rangeKs hk
    have hlt : k.toNat < ms.length := by omega
    have e : ms.getD k.toNat 0 = ms[k.toNat] := by simp [List.getD_eq_getElem?_getD, hlt]
    refine ⟨by rw [e]; exact List.getElem_mem hlt, ?_⟩
    rw [e, ← hz, hzs]
    simp [List.getD_eq_getElem?_getD, hlt]
  · rintro ⟨hm, hc⟩
    obtain ⟨i, hlt, rfl⟩ := List.getElem_of_mem hm
    refine ⟨(i : Int), ⟨?_, ?_⟩, ?_⟩
    · simp only [rangeKs, List.mem_map, List.mem_range]
      exact ⟨i, by omega, by omega⟩
    · rw [hzs]; simp [List.getD_eq_getElem?_getD, hlt, hc]
    · simp [List.getD_eq_getElem?_getD, hlt]
theorem least_is (hms : ms = List.foldl (fun l' k' => if List.take k'.toNat key = List.take k'.toNat last then l' ++ [k'] else l') [] (rangeKs 0 ((1 + if (key.length : Int) < last.length then (key.length : Int) else last.length) - 0).toNat))
    (hzs : zs = ms.map (cost key.length)) (hM1 : M ∈ zs) (hM2 : ∀ a, a ∈ zs → M ≤ a) : M = cost key.length (cpl last key) := by
  have hc : ((cpl last key : Nat) : Int) ∈ ms := (ms_mem hms _).mpr ⟨by omega, Int.le_refl _⟩
  have c2 := cpl_le_right last key
  have h1 : M ≤ cost key.length (cpl last key) := hM2 _ (by rw [hzs]; exact List.mem_map_of_mem hc)
  rw [hzs] at hM1
  obtain ⟨k, hk, rfl⟩ := List.mem_map.mp hM1
  have hk' := (ms_mem hms _).mp hk
  have := cost_mono (n := key.length) hk'.1 hk'.2 (by omega)
  omega
theorem bs_pos (hms : ms = List.foldl (fun l' k' => if List.take k'.toNat key = List.take k'.toNat last then l' ++ [k'] else l') [] (rangeKs 0 ((1 + if (key.length : Int) < last.length then (key.length : Int) else last.length) - 0).toNat))
    (hzs : zs = ms.map (cost key.length)) (hM1 : M ∈ zs) (hM2 : ∀ a, a ∈ zs → M ≤ a)
    (hbs : bs = List.foldl (fun l k => if zs.getD k.toNat 0 = M then l ++ [ms.getD k.toNat 0] else l) [] (rangeKs 0 ((ms.length : Int) - 0).toNat)) : ((cpl last key : Nat) : Int) ∈ bs :=
  (bs_mem hzs hbs _).mpr ⟨(ms_mem hms _).mpr ⟨by omega, Int.le_refl _⟩, (least_is hms hzs hM1 hM2).symm⟩
theorem best_is (hms : ms = List.foldl (fun l' k' => if List.take k'.toNat key = List.take k'.toNat last then l' ++ [k'] else l') [] (rangeKs 0 ((1 + if (key.length : Int) < last.length then (key.length : Int) else last.length) - 0).toNat))
    (hzs : zs = ms.map (cost key.length)) (hM1 : M ∈ zs) (hM2 : ∀ a, a ∈ zs → M ≤ a)
    (hbs : bs = List.foldl (fun l k => if zs.getD k.toNat 0 = M then l ++ [ms.getD k.toNat 0] else l) [] (rangeKs 0 ((ms.length : Int) - 0).toNat))
    (hb1 : best ∈ bs) (hb2 : ∀ a, a ∈ bs → a ≤ best) : best = cpl last key := by
  have h1 := hb2 _ (bs_pos hms hzs hM1 hM2 hbs)
  have h2 := ((ms_mem hms _).mp ((bs_mem hzs hbs _).mp hb1).1).2
  omega
end
end Mine
end

section
open PySem PySem.W PyProof.Rows PySem.Calls LCg
set_option Elab.async false
set_option maxRecDepth 100000
set_option maxHeartbeats 4000000
namespace Mine
section
variable {prog : Program} {w : World} {A₀ A : Around} {s : Shared} {base h₀ : Heap} {env : Env} {L : Addr} {m : Str → Option Value} {news : List (Addr × Obj)} {K : Frag}
  {R : Result → Shared → Prop} {name qual : Str} {params : Arguments} {body : List Stmt} {scope : Scope} {dV kV doc pm cdv ct oc : Value} {an od : Option Addr} {osl : Array (Option Value)} {f : Addr} {args : Args} {binds : List (Str × Value)}
  {p : Program} {loose : List Str} {mean : ExcName → Option Value} {mg mb : Str → Option Value}

/-- a call, from a frame that stands lowest, of a def that may catch what is raised below it -/
theorem codeA_tryX (B : Below A₀ base [] h₀) (F : Fr h₀ L s.heap m) (X₀ : K.In h₀) (N : News h₀ L s.heap news) (T : Top p loose mean mg mb h₀) (hA : A.frames = some [env]) (hf : env.frame = some L) (hke : env.scope.kind = .function)
    (ho : K.lookup f = some ⟨oc, od, .func (fnOf name qual params body scope dV kV doc pm an cdv ct), osl⟩) (hcd : codeIn K cdv qual = true) (hroom : A.depth < recursionLimit)
    (hbind : BindsTo s (fnOf name qual params body scope dV kV doc pm an cdv ct) args binds) (hloc : ∀ y ∈ binds, scope.names.lookup y.1 = some .local)
    (h : ∀ g L' h₁, Fr h₀ L g m → Fr g L' h₁ (fun y => binds.reverse.lookup y) → News g L' h₁ news → Below A base [env] g → K.In g → Top p loose mean mg mb g → KtsDicts ([env].filterMap (·.frame)) g → (∀ p ∈ news, p.1 < L') →
      wpAny (model prog w) (A.deeper (envOf qual scope L' f cdv)) (execs body (envOf qual scope L' f cdv))
        (fun fl s' => LeaveS0 ([env].filterMap (·.frame)) h₀ L m g R (match fl with | .ret v => v | _ => .none) s')
        (fun e s' => wpAny (model prog w) (A.deeper (envOf qual scope L' f cdv)) (leaving (envOf qual scope L' f cdv) e) (fun _ s'' => R (.error e) s'') (fun e' s'' => R (.error e') s'') s')
        { s with heap := h₁, toks := s.toks + binds.length })
    (hco : scope.isCoroutine = false) (hgen : scope.isGenerator = false) (hk : scope.kind = .function)
    (hcell : ∀ x ∈ scope.names, x.2 ≠ .cell) : codeAny (model prog w) A (.call (.ref f) args) R s := by
  obtain ⟨FG, BG, st, -⟩ := groundX (R := R) B F N hA hf hke
  have hfr : [env].filterMap (·.frame) = [L] := by simp [hf]
  have hL₀ : h₀.get? L = none := kts_self F
  obtain ⟨oL, es, ep, hLg, hLd, hLk, hLf⟩ := FG.ns
  refine codeAny_call_def (fd := fnOf name qual params body scope dV kV doc pm an cdv ct) (body := body) (binds := binds) hroom ((X₀.keeps F.keep) _ _ ho) rfl (T.nolimit.keeps F.keep) (codeRec_of (X₀.keeps F.keep) hcd) rfl hbind hcell hloc (fun h₁ hns hk₁ => ?_) hco hgen hk
  have big := h _ s.heap.objs.size h₁ FG ⟨hns, fun b o e => hk₁ b o (of_hideAll _ e), Nat.le_of_eq (hideAll_size _ _)⟩
    (fun p hp => ⟨hk₁ _ _ (N p hp).1, Nat.ne_of_lt (Heap.lt_size (N p hp).1), hideAll_none _ (List.mem_map_of_mem hp)⟩) BG (X₀.keeps st) (T.keeps st)
    (fun b hb => by rw [hfr, List.mem_singleton] at hb; subst hb; exact ⟨oL, es, ep, hLg, hLd⟩) (fun p hp => Heap.lt_size (N p hp).1)
  refine wpAny_mono big (fun fl s' hl => ?_) fun _ _ y => y
  obtain ⟨g', L', m', news', T', F', N', k⟩ := hl
  rw [hfr] at T'
  obtain ⟨sl, hs⟩ := T'.frame L oL hLg (.head _)
  have kept : ∀ b o, h₀.get? b = some o → g'.get? b = some o := fun b o e => T'.other b o (st b o e) fun q => by
    rw [List.mem_singleton.mp q, hL₀] at e; cases e
  refine k ⟨⟨_, es, ep, F'.keep _ _ hs, hLd, hLk, hLf⟩, fun b o e => F'.keep b o (kept b o e), F.above⟩ fun p hp => ⟨(N' p hp).1, fun q => ?_, ?_⟩
  · have := (N' p hp).2.2
    rw [q, hs] at this; cases this
  · cases q : h₀.get? p.1 with
    | none => rfl
    | some o =>
      have := (N' p hp).2.2
      rw [kept _ _ q] at this; cases this
end
end Mine
end

section
open PySem PySem.W PyProof.Rows PySem.Calls LCg
set_option Elab.async false
set_option maxRecDepth 100000
set_option maxHeartbeats 4000000
namespace Mine
section
variable {prog : Program} {w : World} {A : Around} {R : Result → Shared → Prop} {s : Shared} {name : Str} {params : Arguments} {body : List Stmt} {scope : Scope}
  {pm cd doc : Value} {a : Addr} {o : Obj} {args : List Value} {binds : List (Str × Value)}

theorem enterC {M : Model} {f : Value} {pos : List Value} {kw : List (Str × Value)} {c : ClaimW} {cl : Str → Option Addr} {mean : ExcName → Option Value} {args : List WData} {s₁ : Shared}
    (h : codeC M A (.call f ⟨pos, kw⟩) (GoodWG c cl mean args s₁) s) : wpC M A (PySem.call f pos kw) (fun v s' => GoodWG c cl mean args s₁ (.ok (.ret v)) s') (fun e s' => GoodWG c cl mean args s₁ (.error e) s') s :=
  wpC_call (codeC_mono h fun res s' g => by rcases g.1 with ⟨v, _, _, rfl, _⟩ | ⟨e, _, _, rfl, _⟩ <;> exact g)

theorem call_cellsC
    (hroom : A.depth < recursionLimit) (ho : s.heap.get? a = some o) (hdata : o.data = .func (Calls.docDef name params body scope pm cd doc)) (hlim : s.heap.NoLimit) (hcd : s.heap.CodeRec cd name)
    (hbind : bindArgs (Calls.docDef name params body scope pm cd doc) ⟨args, []⟩ = pure binds)
    (hkind : ∀ x ∈ binds, scope.names.lookup x.1 = some .local ∨ (scope.names.lookup x.1 = some .cell ∧ ((cellsFrom (s.heap.objs.size + 1) scope.names []).lookup x.1).isSome = true))
    (hnd : ((cellsFrom 0 scope.names []).map (·.1)).Nodup)
    (h : ∀ h₁ tk cells, Fr s.heap s.heap.objs.size h₁ (bindL (envOfC name scope s.heap.objs.size a cd).kindOf binds fun _ => none) → News s.heap s.heap.objs.size h₁ cells →
      CellsAre (bindC (envOfC name scope s.heap.objs.size a cd).kindOf binds fun _ => none) (cellsFrom (s.heap.objs.size + 1) scope.names []) cells →
      wpC (model prog w) (A.deeper (envOfC name scope s.heap.objs.size a cd)) (execs body (envOfC name scope s.heap.objs.size a cd))
        (fun f s' => R (.ok (.ret (match f with | .ret v => v | _ => .none))) s') (fun _ _ => False)
        { s with heap := h₁, toks := tk })
    (hco : scope.isCoroutine = false := by rfl) (hgen : scope.isGenerator = false := by rfl) (hk : scope.kind = .function := by rfl) :
    codeC (model prog w) A (.call (.ref a) ⟨args, []⟩) R s := by
  refine codeC_of_tree rfl ?_
  show wpC _ A.in1 (callAny (.ref a) ⟨args, []⟩) _ _ s
  simp only [callAny]
  refine aBind (wpAny_load ho ?_)
  obtain ⟨c, oc', vs, tq, rfl, hoc, hdc, hq⟩ := hcd
  rw [hdata]
  simp only [callFunction, Calls.docDef, hco, hgen]
  refine aBind (m := field (.ref c) 1) (wpAny_field hoc hdc hq (aBind (wpAny_pure ?_)))
  refine aBind (wpAny_of_eq hbind ?_)
  refine aBind (wpAny_newFunctionEnv_cells hk hkind fun env' he s' x => ?_)
  subst he
  refine aBind (wpAny_enterFrame (hlim.keeps x.toInCall.keep) hroom ?_)
  refine wpC_pure (And.intro rfl (codeC_func ?_))
  obtain ⟨h₁, tk, rfl, _⟩ := x.done
  obtain ⟨cells, NC, Y⟩ := Cl.news (h₀ := s.heap) (Nat.le_refl _) fun n c hm => ⟨x.cell n c (lookup_of_mem_nodup (cellsFrom_names scope.names 0 (s.heap.objs.size + 1) [] [] rfl ▸ hnd) hm), x.above n c hm⟩
  exact h h₁ tk cells ⟨x.toInCall.ns, x.toInCall.keep, Nat.le_refl _⟩ NC Y
end
end Mine
namespace Mine
open PySem PySem.W PyProof.Rows PySem.Calls LCg
section
variable {prog : Program} {w : World} {A : Around} {E : Value → Shared → Prop} {s : Shared} {env : Env} {h₀ : Heap} {L : Addr} {Q : Flow → Shared → Prop}
/-- what stands between two statements -/
def Mid (h₀ : Heap) (L : Addr) (P : (Str → Option Value) → List (Addr × Obj) → Prop) (s : Shared) (f : Flow) (s' : Shared) : Prop :=
  f = .next ∧ ∃ h' tk m nw, s' = { s with heap := h', toks := tk } ∧ Fr h₀ L h' m ∧ News h₀ L h' nw ∧ P m nw
theorem Mid.intro {P : (Str → Option Value) → List (Addr × Obj) → Prop} {h' : Heap} {tk : Nat} {m : Str → Option Value} {nw : List (Addr × Obj)} (F : Fr h₀ L h' m) (N : News h₀ L h' nw) (p : P m nw) : Mid h₀ L P s .next { s with heap := h', toks := tk } :=
  ⟨rfl, h', tk, m, nw, rfl, F, N, p⟩
theorem seqC {st : Stmt} {rest : List Stmt} (P : (Str → Option Value) → List (Addr × Obj) → Prop) (h1 : wpC (model prog w) A (exec st env) (Mid h₀ L P s) E s)
    (h2 : ∀ h' tk m nw, Fr h₀ L h' m → News h₀ L h' nw → P m nw → wpC (model prog w) A (execs rest env) Q E { s with heap := h', toks := tk }) : wpC (model prog w) A (execs (st :: rest) env) Q E s :=
  wpC_execs_cons (wpC_mono h1 (fun f s' h => by
    obtain ⟨rfl, h', tk, m, nw, rfl, F, N, p⟩ := h
    exact h2 h' tk m nw F N p) fun _ _ e => e)
theorem gen {α : Type} {M : Model} {A : Around} {t : Sem α} {E : Value → Shared → Prop} {Q : α → Shared → Prop} {s : Shared} (h : ∀ Q' : α → Shared → Prop, (∀ f s', Q f s' → Q' f s') → wpC M A t Q' E s) : wpC M A t Q E s := h Q fun _ _ x => x
theorem genA {α : Type} {M : Model} {A : Around} {t : Sem α} {E : Value → Shared → Prop} {Q : α → Shared → Prop} {s : Shared} (h : ∀ Q' : α → Shared → Prop, (∀ f s', Q f s' → Q' f s') → wpAny M A t Q' E s) : wpAny M A t Q E s := h Q fun _ _ x => x
theorem gen2 {α : Type} {M : Model} {A : Around} {t : Sem α} {E : Value → Shared → Prop} {Q : α → Shared → Prop} {s : Shared} (h : ∀ (Q' : α → Shared → Prop) (E' : Value → Shared → Prop), (∀ f s', Q f s' → Q' f s') → wpC M A t Q' E' s) : wpC M A t Q E s := h Q E fun _ _ x => x
theorem seqF {h : Heap} {m₀ : Str → Option Value} {st : Stmt} {rest : List Stmt} (_ : Fr h₀ L h m₀) (P : (Str → Option Value) → List (Addr × Obj) → Prop) (h1 : ∀ Q' : Flow → Shared → Prop, (∀ f s', Mid h₀ L P s f s' → Q' f s') → wpC (model prog w) A (exec st env) Q' E s)
    (h2 : ∀ h' tk m nw, Fr h₀ L h' m → News h₀ L h' nw → P m nw → wpC (model prog w) A (execs rest env) Q E { s with heap := h', toks := tk }) : wpC (model prog w) A (execs (st :: rest) env) Q E s :=
  seqC P (h1 _ fun _ _ x => x) h2
end
end Mine
namespace Mine
open PySem PySem.W PyProof.Rows PySem.Calls LCg
/-- these are of the ledger -/
def Led (l nw : List (Addr × Obj)) : Prop := ∀ p ∈ l, p ∈ nw
theorem Led.nil {nw : List (Addr × Obj)} : Led [] nw := fun _ h => nomatch h
theorem Led.cons {p : Addr × Obj} {l nw : List (Addr × Obj)} (h : p ∈ nw) (k : Led l nw) : Led (p :: l) nw := fun q hq => by
  rcases List.mem_cons.mp hq with rfl | hq
  · exact h
  · exact k q hq
theorem Led.news {h₀ h : Heap} {L : Addr} {l nw : List (Addr × Obj)} (k : Led l nw) (N : News h₀ L h nw) : News h₀ L h l := fun p hp => N p (k p hp)
end Mine
namespace Mine
open PySem PySem.W PyProof.Rows PySem.Calls LCg
section
variable {prog : Program} {w : World} {A : Around} {E : Value → Shared → Prop} {s : Shared} {env : Env}
/-- an expression whose value is let go -/
theorem wpC_Expr_any {e pos} {Q : Flow → Shared → Prop} (h : wpC (model prog w) A (eval e env) (fun _ => Q .next) E s)
    (hi : interactive env = false := by rfl) (hs : swapsWith e none pos.line env = pure false := by rfl) :
    wpC (model prog w) A (exec (.Expr e pos) env) Q E s := by
  rw [exec_Expr env e pos hi hs]
  exact wpC_standAt (wpC_bind (wpC_mono h (fun v s' h' => cOf (wpAny_dropValue h')) fun _ _ x => x))
end
end Mine
namespace Mine
open PySem PySem.W PyProof.Rows PySem.Calls LCg
section
variable {prog : Program} {w : World} {A₀ : Around} {E : Value → Shared → Prop} {s' : Shared} {h₀ h : Heap} {outer : List Env} {L a e t : Addr} {m : Str → Option Value} {cn : Str} {cs : Scope} {ccd : Value} {cl : List (Str × Addr)}
  {vs : List Value} {b₀ : Stmt} {suite : List Stmt} {pos np : Pos} {rest : List ExceptHandler} {Q : Flow → Shared → Prop} {news : List (Addr × Obj)} {KF : Frag} {C : Addr} {bmB : List Value} {newId : String}
  {p : Program} {loose : List Str} {mg mb : Str → Option Value} {x : Str}
/-- an own exception of a callee, caught by a frame with cells whose caller has none -/
theorem caught_cells (K : Below A₀ h₀ outer h₀) (F : Fr h₀ L h m) (hsm : h.UpToSlots s'.heap) (R : RaisedK h₀ (envX cn cs L a ccd cl :: outer) e (.ref C) t vs news s'.heap)
    (X : KF.In h₀) (T : TopRead p loose mg mb h₀) (ex : nsIn KF mainGlobals x = some (some (.ref C))) (q : excIn KF C bmB newId = true) (hbase : bmB.contains (.type "BaseException") = true)
    (k : ∀ h', Fr h₀ L h' m → News h₀ L h' news → wpAny (model prog w) ((A₀.deeper (envX cn cs L a ccd cl)).mark (some (.ref e))) (execs (b₀ :: suite) (envX cn cs L a ccd cl)) Q E { s' with heap := h' })
    (hk : cs.kind = .function) (hx : (envX cn cs L a ccd cl).kindOf x = some .globalImplicit) (hd : (x == ("__debug__" : Str)) = false)
    (hE : PassesOwnAt (model prog w) ((A₀.deeper (envX cn cs L a ccd cl)).mark (some (.ref e))) (A₀.deeper (envX cn cs L a ccd cl)) (envX cn cs L a ccd cl) E) :
    wpAny (model prog w) (A₀.deeper (envX cn cs L a ccd cl)) (noteFrame (.ref e) (envX cn cs L a ccd cl))
      (fun _ s₂ => wpAny (model prog w) (A₀.deeper (envX cn cs L a ccd cl)) (setFlight (.ref e) none) (fun _ s₃ =>
        wpAny (model prog w) (A₀.deeper (envX cn cs L a ccd cl)) (handleBy (.ref e) (envX cn cs L a ccd cl) (.ExceptHandler (some (.Name x np)) none (b₀ :: suite) pos :: rest)) Q E s₃) E s₂) E s' := by
  obtain ⟨⟨B, hB, hl, hfl, hnew⟩, htup⟩ := R
  have hBL : B.get? L = none := by
    obtain ⟨_, ⟨L', _, hf, hn', _⟩, _⟩ := hfl.2.2.1
    cases Option.some.inj hf
    exact hn'
  refine wpAny_looks_onW (Around.frames_deeper K.stack) rfl hfl fun h4 hh4 sm4 => wpAny_landsW hh4 fun h5 hh5 sm5 => ?_
  have there := flyingW_base hB hh5
  have F5 := F.of_stays there.1 (hsm.trans (sm4.trans sm5))
  obtain ⟨ob, hob, hobc⟩ := there.there
  refine wpAny_handleBy_cons (codeAny_handlers_test (nameX_K F5 X T ex ?_ hk hx hd)) (by intro z; cases z)
  obtain ⟨bm, N, nm, qn, bs, hdct, sn, sub, ab, col, dd, k0, k1, k2, k3, k5, mN, hC, hN, hni, TL⟩ := ((own_of_in X T ex q).keeps F5.keep).obj
  refine wpAny_excMatches_sub_self hC hob hobc (TL.hasType hbase) (codeAny_handlers_suite (lands_againW hh5 fun h6 fl6 sm6 => ?_))
  have fl6' := flyingW_base hB fl6
  have F6 := F.of_stays fl6'.1 ((hsm.trans (sm4.trans sm5)).trans sm6)
  exact wpAny_passesOwnAt hE (k h6 F6 fun z hz => ⟨fl6.1 _ _ (hl z hz).1, (fun y => by have := (hl z hz).1; rw [y, hBL] at this; cases this), (hl z hz).2⟩)
end
end Mine
end

section
open PySem PySem.W PyProof.Rows PySem.Calls LCg
set_option Elab.async false
set_option maxRecDepth 100000
set_option maxHeartbeats 4000000
namespace Mine
section
variable {prog : Program} {w : World} {A : Around} {E : Value → Shared → Prop} {s : Shared} {env : Env} {h₀ : Heap} {L : Addr} {m : Str → Option Value}
theorem range_walksS {I : Addr} (hh : A.handled = none) (a c : Int) (n : Nat) : Walks prog w A I [I] [I] n (fun i v => ∃ t, v = .int (a + (i : Int) * c) t) (fun i h => IsRangeIter h I (a + (i : Nat) * c) ((n : Int) - (i : Nat)) c) :=
  let W : Walks prog w A I [I] [I] n (fun i v => i < n ∧ ∃ t, v = .int (a + i * c) t) (fun i h => IsRangeIter h I (a + (i : Nat) * c) ((n : Int) - (i : Nat)) c) := (Walks.range hh I a c n).bound
  { sub := W.sub, frame := W.frame, done := W.done, self := W.self,
    item := fun i s Q E hi st hQ => W.item i s Q E hi st fun v h' tk hP => hQ v h' tk hP.2 }
theorem range_stS {I : Addr} {a c : Int} {n : Nat} : ∀ i (h h' : Heap) (o : Obj) (nw : List (Addr × Obj)), IsRangeIter h I (a + (i : Nat) * c) ((n : Int) - (i : Nat)) c → h.get? I = some o → h'.get? I = some o → (∀ b o, h₀.get? b = some o → h'.get? b = some o) → News h₀ L h' nw → True → IsRangeIter h' I (a + (i : Nat) * c) ((n : Int) - (i : Nat)) c :=
  fun _ _ _ _ _ st e e' _ _ _ => e'.trans (e.symm.trans st)
/-- the source of a comprehension is a range by steps -/
def SrcStep (prog : Program) (w : World) (A : Around) (h₀ : Heap) (L : Addr) (m : Str → Option Value) (env : Env) (elt : Expr) (x : Str) (scope : Scope) (cl : List (Str × Addr)) (Fin : Shared → List Value → List (Addr × Obj) → Prop) (xv : Value) (s₁ : Shared) : Prop :=
  ∃ r a b c t u v n news, xv = .ref r ∧ A.handled = none ∧ Fr h₀ L s₁.heap m ∧ News h₀ L s₁.heap news ∧ IsRange s₁.heap r a b c t u v ∧ Builtin.Range.small a b c = true ∧ Builtin.Range.rangeSize a b c = ((n : Nat) : Int) ∧ n ≤ sizeLine ∧
    ∀ s₂ : Shared, (∃ h, s₂ = { s₁ with heap := h }) → CompRest prog w A h₀ L m env elt x scope cl s₂ (fun _ => True) (fun i v => ∃ t, v = .int (a + (i : Int) * c) t) (Fin s₂) n 0 [] news
theorem Assign_step {elt iter : Expr} {x y : Str} {px py : Pos} {scope : Scope} {cl : List (Str × Addr)} {pos spos : Pos} {Q : Flow → Shared → Prop} (hLe : env.locals = L)
    (hsw : swapsWith (.ListComp elt [⟨.Name x px, iter, [], 0⟩] scope pos) (some (.Name y py)) spos.line env = pure true)
    (hclos : closureFor scope env = pure cl) (hcell : ∀ z ∈ scope.names, z.2 ≠ .cell) (hkind : scope.kind = .function)
    (hnames : ∀ z ∈ scope.names, z.2 = .local → scope.names.lookup z.1 = some .local) (hx : scope.names.lookup x = some .local)
    (hy : env.kindOf y = some .local) (hp : (env.scope.kind == .class || (env.scope.kind == .module && env.locals != env.globals)) = false)
    (h : wpAny (model prog w) A (eval iter env) (SrcStep prog w A h₀ L m env elt x scope cl (fun s₂ => FinA h₀ L m s₂ y Q)) E s)
    (hs : ∀ x, foldedSetIterable iter env x = pure x := by intro _; rfl) :
    wpAny (model prog w) A (exec (.Assign [.Name y py] (.ListComp elt [⟨.Name x px, iter, [], 0⟩] scope pos) spos) env) Q E s := by
  subst hLe
  rw [exec_Assign_Name_used _ _ _ _ hsw]
  refine wpAny_bind (wpAny_standAt (wpAny_bind ?_))
  show wpAny _ A (do let _ ← comprehension (.ListComp elt [⟨.Name x px, iter, [], 0⟩] scope pos) scope env _ (newList []) false (eval iter env) (some (assign (.Name y py) env))) _ _ s
  refine wpAny_bind (wpAny_mono (wpAny_comprehension_free (use := some (assign (.Name y py) env)) (Q := fun _ s' => Q .next s') rfl hs hclos hkind hnames
    (wpAny_mono h (fun xv s₁ h₁ => ?_) fun _ _ e => e)) (fun _ s' hq => wpAny_pure (wpAny_pure hq)) fun _ _ e => e)
  obtain ⟨r, a, b, c, t, u, v, n, news, rfl, hh, F, N, hr, hsm, hn, hsz, R⟩ := h₁
  refine wpAny_pyIter_range hr hsm ?_
  refine block_U (range_walksS hh a c n) hsz (fun i h st => ⟨_, st⟩) range_stS hcell hkind hx (by show IsRangeIter _ _ _ _ _; rw [hn]; simpa using Heap.get?_push_size _ rfl)
    (fun b hb => by
      rw [List.mem_singleton.mp hb]
      show s₁.heap.objs.size < (s₁.heap.push _).objs.size
      rw [Heap.size_push]; exact Nat.lt_succ_self _)
    (F.keeps fun _ _ e => Heap.get?_push_of_some _ e) (N.grown fun _ _ e => Heap.get?_push_of_some _ e) (Nat.ne_of_lt F.ns.lt) (next_is_new F) (fun p hp => Nat.ne_of_lt (Heap.lt_size (N p hp).1)) trivial (R _ ⟨_, rfl⟩) ?_
  intro D C h' tk m' ys news' F' N' o1 hn' hC hD hCL hDL hCD offC fin
  show wpAny _ A (assign (.Name y py) env (.ref D)) _ _ _
  refine wpAny_assign_Name (wpAny_storeName_local hy F'.ns (fun h₂ hn₂ hs₂ => ?_) hp)
  refine ⟨m', hn'.sameBut hs₂ hCL, fun h3 hs3 => fin D h3 _ ((F'.set hn₂ hs₂).change hs3 hCL hC) (fun p hp => ?_) o1⟩
  refine ⟨hs3.extBut _ _ ?_ (hs₂.extBut _ _ (N' p hp).2.1 (N' p hp).1), (N' p hp).2⟩
  rcases List.mem_cons.mp hp with rfl | hp
  · exact Ne.symm hCD
  · exact offC p hp
end

/-- the places of the whole keys: each iv-th of the starts -/
def nth (iv len : Int) : Nat := ((len + iv - 1) / iv).toNat
def idx (iv len : Int) : List Int := (List.range (nth iv len)).map fun (j : Nat) => (0 : Int) + (j : Int) * iv
def pls (iv : Int) (ss : List Int) : List Int := (idx iv ss.length).map fun k => ss.getD k.toNat 0
theorem nth_size {iv len : Int} (h1 : 1 ≤ iv) (h2 : 0 ≤ len) : Builtin.Range.rangeSize 0 len iv = ((nth iv len : Nat) : Int) := by
  have h0 : (0 : Int) < iv := by omega
  unfold Builtin.Range.rangeSize nth
  rw [if_pos (by omega)]
  have hq : 0 ≤ (len + iv - 1) / iv := Int.ediv_nonneg (by omega) (by omega)
  rw [Int.toNat_of_nonneg hq]
  split
  · have : len + iv - 1 = (len - 0 - 1) + 1 * iv := by omega
    rw [this, Int.add_mul_ediv_right _ _ (by omega)]
  · have : len = 0 := by omega
    subst this
    exact (Int.ediv_eq_zero_of_lt (by omega) (by omega)).symm
theorem idx_mem {iv len k : Int} (h1 : 1 ≤ iv) (h2 : 0 ≤ len) (h : k ∈ idx iv len) : 0 ≤ k ∧ k < len := by
  obtain ⟨j, hj, rfl⟩ := List.mem_map.mp h
  have hj := List.mem_range.mp hj
  have hq : 0 ≤ (len + iv - 1) / iv := Int.ediv_nonneg (by omega) (by omega)
  have hlt : (j : Int) < (len + iv - 1) / iv := by unfold nth at hj; omega
  have h3 : (j : Int) + 1 ≤ (len + iv - 1) / iv := by omega
  have h4 := (Int.le_ediv_iff_mul_le (show (0 : Int) < iv by omega)).mp h3
  rw [Int.add_mul, Int.one_mul] at h4
  have h5 : 0 ≤ (j : Int) * iv := Int.mul_nonneg (by omega) (by omega)
  omega
theorem nth_le {iv len : Int} (h1 : 1 ≤ iv) (h2 : 0 ≤ len) : (nth iv len : Int) ≤ len := by
  unfold nth
  have hq : 0 ≤ (len + iv - 1) / iv := Int.ediv_nonneg (by omega) (by omega)
  rw [Int.toNat_of_nonneg hq]
  rcases Int.lt_or_eq_of_le h2 with h | h
  · have : (len + iv - 1) / iv < len + 1 := by
      rw [Int.ediv_lt_iff_lt_mul (by omega), Int.add_mul, Int.one_mul]
      have : len * 1 ≤ len * iv := Int.mul_le_mul_of_nonneg_left h1 (by omega)
      omega
    omega
  · subst h
    exact Int.le_of_eq (Int.ediv_eq_zero_of_lt (by omega) (by omega))
theorem pls_len (iv : Int) (ss : List Int) : (pls iv ss).length = nth iv ss.length := by simp [pls, idx]
theorem pls_mem {iv : Int} {ss : List Int} (h1 : 1 ≤ iv) {n : Int} (h : n ∈ pls iv ss) : n ∈ ss := by
  obtain ⟨k, hk, rfl⟩ := List.mem_map.mp h
  have := idx_mem h1 (by omega) hk
  have hlt : k.toNat < ss.length := by omega
  rw [List.getD_eq_getElem?_getD, List.getElem?_eq_getElem hlt]
  exact List.getElem_mem hlt
end Mine
namespace Mine
open PySem PySem.W PyProof.Rows PySem.Calls LCg
theorem small_step {iv len : Int} (h0 : 0 ≤ len) (h1 : len < 1000) (h2 : 1 ≤ iv) (h3 : iv ≤ 3) : Builtin.Range.small 0 len iv = true := by
  have hs := nth_size h2 h0
  have hn := nth_le h2 h0
  unfold Builtin.Range.small
  rw [hs]
  rw [if_pos (by omega)]
  simp only [Builtin.Range.rangeFitsLong, Bool.and_eq_true, Bool.or_eq_true, decide_eq_true_eq, beq_iff_eq]
  omega
theorem idx_get {iv len : Int} : ∀ (i : Nat) (v : Value), i < nth iv len → (∃ t, v = .int (0 + (i : Int) * iv) t) → ∃ k t, (idx iv len)[i]? = some k ∧ v = .int k t := by
  rintro i v hi ⟨t, rfl⟩
  exact ⟨_, t, by simp [idx, hi], rfl⟩
end Mine
namespace Mine
open PySem PySem.W PyProof.Rows PySem.Calls LCg
section
variable {M : Model} {A : Around} {E : Value → Shared → Prop} {s : Shared} {env : Env}
theorem wpC_execs_one {st : Stmt} {Q : Flow → Shared → Prop} (h : wpC M A (exec st env) Q E s) : wpC M A (execs [st] env) Q E s :=
  wpC_execs_cons (wpC_mono h (fun f s' q => by cases f <;> first | exact wpC_execs_nil q | exact q) fun _ _ e => e)
theorem wpC_and {x : Expr} {rest : List Expr} {pos : Pos} {whole : Sem Value} {Q : Bool → Shared → Prop}
    (h : wpAny M A (isTrue x env (eval x env)) (fun c s' => if c then wpC M A (isTrue (.BoolOp .And rest pos) env whole) Q E s' else Q false s') E s) :
    wpC M A (isTrue (.BoolOp .And (x :: rest) pos) env whole) Q E s := by
  show wpC M A (do
    match BoolOp.And, ← isTrue x env (eval x env) with
    | .And, false => pure false
    | .Or, true => pure true
    | _, _ => allTrue .And rest env) Q E s
  refine aBind (wpAny_mono h (fun c s' h' => ?_) fun _ _ x => x)
  cases c with
  | false => exact wpC_pure h'
  | true => exact h'
theorem wpC_and_last {x : Expr} {pos : Pos} {whole : Sem Value} {Q : Bool → Shared → Prop} (h : wpC M A (isTrue x env (eval x env)) Q E s) : wpC M A (isTrue (.BoolOp .And [x] pos) env whole) Q E s := by
  show wpC M A (do
    match BoolOp.And, ← isTrue x env (eval x env) with
    | .And, false => pure false
    | .Or, true => pure true
    | _, _ => allTrue .And [] env) Q E s
  refine wpC_bind (wpC_mono h (fun c s' h' => ?_) fun _ _ x => x)
  cases c with
  | false => exact wpC_pure h'
  | true => exact wpC_pure h'
end
end Mine
namespace Mine
open PySem PySem.W PyProof.Rows PySem.Calls LCg
section
variable {prog : Program} {w : World} {A : Around} {E : Value → Shared → Prop} {s : Shared} {env : Env} {h₀ : Heap} {L : Addr} {Q : Flow → Shared → Prop}
/-- what a test leaves -/
def Tested (h₀ : Heap) (L : Addr) (m : Str → Option Value) (nw : List (Addr × Obj)) (C : Bool → Prop) (s : Shared) (b : Bool) (s' : Shared) : Prop :=
  ∃ h' tk, s' = { s with heap := h', toks := tk } ∧ Fr h₀ L h' m ∧ News h₀ L h' nw ∧ C b
/-- an if whose test's ways meet -/
theorem ifC {test : Expr} {body orelse : List Stmt} {pos : Pos} {m : Str → Option Value} {nw : List (Addr × Obj)} (C : Bool → Prop)
    (h1 : wpAny (model prog w) A (isTrue test env (eval test env)) (Tested h₀ L m nw C s) E s)
    (ht : C true → ∀ h' tk, Fr h₀ L h' m → News h₀ L h' nw → wpC (model prog w) A (execs body env) Q E { s with heap := h', toks := tk })
    (he : C false → ∀ h' tk, Fr h₀ L h' m → News h₀ L h' nw → wpC (model prog w) A (execs orelse env) Q E { s with heap := h', toks := tk }) :
    wpC (model prog w) A (exec (.If test body orelse pos) env) Q E s := by
  refine aIf (wpAny_mono h1 (fun b s₂ h => ?_) fun _ _ e => e)
  obtain ⟨h', tk, rfl, F, N, c⟩ := h
  cases b
  · exact he c h' tk F N
  · exact ht c h' tk F N
end
end Mine
namespace Mine
open PySem PySem.W PyProof.Rows PySem.Calls LCg
section
variable {prog : Program} {w : World} {A : Around} {E : Value → Shared → Prop} {s : Shared} {env : Env} {h₀ : Heap} {L : Addr} {Q : Flow → Shared → Prop}
/-- a statement that sets one name -/
def SetTo (h₀ : Heap) (L : Addr) (m : Str → Option Value) (nw : List (Addr × Obj)) (a : Str) (C : Value → Prop) (s : Shared) (f : Flow) (s' : Shared) : Prop :=
  f = .next ∧ ∃ h' tk v, s' = { s with heap := h', toks := tk } ∧ Fr h₀ L h' (fun z => if z = a then some v else m z) ∧ News h₀ L h' nw ∧ C v
theorem setC {st : Stmt} {rest : List Stmt} {m : Str → Option Value} {nw : List (Addr × Obj)} (a : Str) (C : Value → Prop)
    (h1 : wpAny (model prog w) A (exec st env) (SetTo h₀ L m nw a C s) E s)
    (h2 : ∀ v, C v → ∀ h' tk, Fr h₀ L h' (fun z => if z = a then some v else m z) → News h₀ L h' nw → wpC (model prog w) A (execs rest env) Q E { s with heap := h', toks := tk }) : wpC (model prog w) A (execs (st :: rest) env) Q E s :=
  aExecs_cons (wpAny_mono h1 (fun f s' h => by
    obtain ⟨rfl, h', tk, v, rfl, F, N, c⟩ := h
    exact h2 v c h' tk F N) fun _ _ e => e)
theorem set_same {h : Heap} {m : Str → Option Value} {a : Str} {v : Value} (F : Fr h₀ L h m) (e : m a = some v) : Fr h₀ L h (fun z => if z = a then some v else m z) := mset1 e ▸ F
end
end Mine
namespace Mine
open PySem PySem.W PyProof.Rows PySem.Calls LCg
section
variable {M : Model} {A : Around} {E : Value → Shared → Prop} {s : Shared} {env : Env}
theorem wpC_or {x : Expr} {rest : List Expr} {pos : Pos} {whole : Sem Value} {Q : Bool → Shared → Prop}
    (h : wpC M A (isTrue x env (eval x env)) (fun c s' => if c then Q true s' else wpC M A (isTrue (.BoolOp .Or rest pos) env whole) Q E s') E s) :
    wpC M A (isTrue (.BoolOp .Or (x :: rest) pos) env whole) Q E s := by
  show wpC M A (do
    match BoolOp.Or, ← isTrue x env (eval x env) with
    | .And, false => pure false
    | .Or, true => pure true
    | _, _ => allTrue .Or rest env) Q E s
  refine wpC_bind (wpC_mono h (fun c s' h' => ?_) fun _ _ x => x)
  cases c with
  | false => exact h'
  | true => exact wpC_pure h'
end
theorem r_ne_int {prog : Program} {w : World} {A : Around} {E : Value → Shared → Prop} {s : Shared} {x y : Int} {t u : Tok} {Q : Value → Shared → Prop} (e : x = y) (h : Q (.bool false) s) :
    wpAny (model prog w) A (compareOp .NotEq (.int x t) (.int y u)) Q E s := by
  subst e
  refine ne_int ?_
  have : (x != x) = false := by simp
  first
    | (rw [this]; exact h)
    | simpa using h
end Mine
namespace Mine
open PySem PySem.W PyProof.Rows PySem.Calls LCg
theorem r_ne_bool {prog : Program} {w : World} {A : Around} {E : Value → Shared → Prop} {s : Shared} {x y : Bool} {Q : Value → Shared → Prop} (e : x = y) (h : Q (.bool false) s) :
    wpAny (model prog w) A (compareOp .NotEq (.bool x) (.bool y)) Q E s := by
  subst e
  refine ne_bool ?_
  have : (x != x) = false := by simp
  first
    | (rw [this]; exact h)
    | simpa using h
end Mine
end

section
open PySem PySem.W PyProof.Rows PySem.Calls LCg
set_option Elab.async false
set_option maxRecDepth 100000
set_option maxHeartbeats 4000000
namespace Mine
/-- the places of the whole keys, the one place 0 of an empty block -/
def psOf (iv : Int) (ss : List Int) : List Int := if ss.length = 0 then [0] else pls iv ss
/-- the entries behind the last whole key, itself counted -/
def snOf (iv : Int) (ss : List Int) : Int := if ss.length = 0 then 0 else ((ss.length : Int) - 1) % iv + 1
/-- what holds between the turns -/
def Inv (b : Bool) (i : Nat) (ss : List Int) (body last : List UInt8) : Prop :=
  ss.length ≤ i ∧ body.length ≤ 400 * i ∧ last.length < 200 ∧ (∀ n ∈ ss, 0 ≤ n ∧ n ≤ 2800) ∧ (ss.length = 0 → body = [] ∧ last = []) ∧ (b = true → 0 < ss.length → IK last)
/-- the objects of the law are apart -/
structure Apart (x dx bf rl c ls ln : Addr) : Prop where
  n1 : @Ne Nat x dx
  n2 : @Ne Nat x bf
  n3 : @Ne Nat x rl
  n4 : @Ne Nat dx bf
  n5 : @Ne Nat dx rl
  n6 : @Ne Nat bf rl
  c1 : @Ne Nat c x
  c2 : @Ne Nat c dx
  c3 : @Ne Nat c bf
  c4 : @Ne Nat c rl
  l1 : @Ne Nat ls x
  l2 : @Ne Nat ls dx
  l3 : @Ne Nat ls bf
  l4 : @Ne Nat ls rl
  e1 : @Ne Nat ln x
  e2 : @Ne Nat ln dx
  e3 : @Ne Nat ln bf
  e4 : @Ne Nat ln rl
  q1 : @Ne Nat c ls
  q2 : @Ne Nat c ln
  q3 : @Ne Nat ls ln
/-- the loop's own iterator is apart from them -/
structure ApartI (I x dx bf rl c ls ln : Addr) : Prop where
  i1 : @Ne Nat x I
  i2 : @Ne Nat dx I
  i3 : @Ne Nat bf I
  i4 : @Ne Nat rl I
  i5 : @Ne Nat c I
  i6 : @Ne Nat ls I
  i7 : @Ne Nat ln I
/-- the law's frame and ledger between the turns -/
def Lay (w : World) (L : Addr) (iv : Int) (b wd : Bool) (hb : List UInt8) (x ln o : Addr) (us : List Value) (ep : Nat) (od : List (Addr × Obj)) (ss : List Int) (body last : List UInt8) (fin : Bool) (m : Str → Option Value) (nw : List (Addr × Obj)) : Prop :=
  ((∃ t, m (Str.ofString "interval") = some (.int iv t)) ∧ m (Str.ofString "internal") = some (.bool b) ∧ m (Str.ofString "wide") = some (.bool wd) ∧ m (Str.ofString "nums") = some (.ref ln) ∧ m (Str.ofString "builder") = some (.ref x) ∧
    (∃ t, m (Str.ofString "body") = some (.bytes body.toArray t)) ∧ (∃ t, m (Str.ofString "last") = some (.bytes last.toArray t)) ∧ m (Str.ofString "finished") = some (.bool fin) ∧ (∃ t, m (Str.ofString "head") = some (.bytes hb.toArray t))) ∧
  ∃ (dx bf rl ls : Addr) (k1 k2 k3 k4 k5 k6 k7 k8 ti ts te tl ep2 ep3 : Nat) (vs us2 : List Value) (oc : Obj),
    Led ((x, instObj 188 dx) :: (dx, bd w k1 k2 k3 k4 k5 k6 k7 k8 iv ti o bf rl (snOf iv ss) ts ss.length te fin last tl) :: (bf, baObj body.toArray) :: (rl, W.listOf vs.toArray ep2) :: (L + 1, oc) :: (ls, W.listOf us2.toArray ep3) :: (ln, W.listOf us.toArray ep) :: od) nw ∧
    IntsAre vs (psOf iv ss) ∧ IntsAre us2 ss ∧ oc.data = Data.cell (some (.ref ls)) ∧ OwnOff od [L + 1, ls, x, dx, bf, rl] ∧
    Apart x dx bf rl (L + 1) ls ln
/-- the loop's invariant -/
def JJ (w : World) (L : Addr) (iv : Int) (b wd : Bool) (hb : List UInt8) (x ln o : Addr) (us : List Value) (ep : Nat) (od : List (Addr × Obj)) (i : Nat) (m : Str → Option Value) (nw : List (Addr × Obj)) : Prop :=
  ∃ ss body last fin, Inv b i ss body last ∧ Lay w L iv b wd hb x ln o us ep od ss body last fin m nw
theorem psOf_len {iv : Int} {ss : List Int} (h1 : 1 ≤ iv) : (psOf iv ss).length ≤ ss.length + 1 := by
  unfold psOf
  split
  · simp
  · rw [pls_len]; have := nth_le (iv := iv) (len := ss.length) h1 (by omega); omega
theorem psOf_mem {iv : Int} {ss : List Int} (h1 : 1 ≤ iv) (hs : ∀ n ∈ ss, 0 ≤ n ∧ n ≤ 2800) : ∀ n ∈ psOf iv ss, 0 ≤ n ∧ n < 65536 := by
  intro n hn
  unfold psOf at hn
  split at hn
  · rw [List.mem_singleton.mp hn]; decide
  · have := hs n (pls_mem h1 hn); omega
end Mine
namespace Mine
open PySem PySem.W PyProof.Rows PySem.Calls LCg
section
variable {w : World} {L : Addr} {iv : Int} {b wd : Bool} {hb : List UInt8} {x ln o : Addr} {us : List Value} {ep : Nat} {od : List (Addr × Obj)} {ss : List Int} {body last : List UInt8} {fin : Bool} {m : Str → Option Value} {nw : List (Addr × Obj)}
  {dx bf rl ls : Addr} {k1 k2 k3 k4 k5 k6 k7 k8 ti ts te tl ep2 ep3 : Nat} {vs us2 : List Value} {oc : Obj} {sn en : Int} {ps : List Int}
theorem lay_of (hm : (∃ t, m (Str.ofString "interval") = some (.int iv t)) ∧ m (Str.ofString "internal") = some (.bool b) ∧ m (Str.ofString "wide") = some (.bool wd) ∧ m (Str.ofString "nums") = some (.ref ln) ∧ m (Str.ofString "builder") = some (.ref x) ∧
    (∃ t, m (Str.ofString "body") = some (.bytes body.toArray t)) ∧ (∃ t, m (Str.ofString "last") = some (.bytes last.toArray t)) ∧ m (Str.ofString "finished") = some (.bool fin) ∧ (∃ t, m (Str.ofString "head") = some (.bytes hb.toArray t)))
    (h1 : (x, instObj 188 dx) ∈ nw) (h2 : (dx, bd w k1 k2 k3 k4 k5 k6 k7 k8 iv ti o bf rl sn ts en te fin last tl) ∈ nw) (h3 : (bf, baObj body.toArray) ∈ nw) (h4 : (rl, W.listOf vs.toArray ep2) ∈ nw) (h5 : (L + 1, oc) ∈ nw)
    (hd : oc.data = Data.cell (some (.ref ls))) (h6 : (ls, W.listOf us2.toArray ep3) ∈ nw) (h7 : (ln, W.listOf us.toArray ep) ∈ nw) (h8 : ∀ p ∈ od, p ∈ nw)
    (hvs : IntsAre vs ps) (hus : IntsAre us2 ss) (hsn : sn = snOf iv ss) (hen : en = ss.length) (hps : ps = psOf iv ss) (hoff : OwnOff od [L + 1, ls, x, dx, bf, rl])
    (n1 : @Ne Nat x dx) (n2 : @Ne Nat x bf) (n3 : @Ne Nat x rl) (n4 : @Ne Nat dx bf) (n5 : @Ne Nat dx rl) (n6 : @Ne Nat bf rl)
    (c1 : @Ne Nat (L + 1) x) (c2 : @Ne Nat (L + 1) dx) (c3 : @Ne Nat (L + 1) bf) (c4 : @Ne Nat (L + 1) rl)
    (l1 : @Ne Nat ls x) (l2 : @Ne Nat ls dx) (l3 : @Ne Nat ls bf) (l4 : @Ne Nat ls rl) (e1 : @Ne Nat ln x) (e2 : @Ne Nat ln dx) (e3 : @Ne Nat ln bf) (e4 : @Ne Nat ln rl)
    (q1 : @Ne Nat (L + 1) ls) (q2 : @Ne Nat (L + 1) ln) (q3 : @Ne Nat ls ln) : Lay w L iv b wd hb x ln o us ep od ss body last fin m nw := by
  subst hsn hen hps
  exact ⟨hm, dx, bf, rl, ls, k1, k2, k3, k4, k5, k6, k7, k8, ti, ts, te, tl, ep2, ep3, vs, us2, oc, .cons h1 (.cons h2 (.cons h3 (.cons h4 (.cons h5 (.cons h6 (.cons h7 h8)))))), hvs, hus, hd, hoff,
    ⟨n1, n2, n3, n4, n5, n6, c1, c2, c3, c4, l1, l2, l3, l4, e1, e2, e3, e4, q1, q2, q3⟩⟩
theorem inv0 (b : Bool) : Inv b 0 [] [] [] := ⟨Nat.le_refl _, Nat.le_refl _, by decide, fun _ h => (nomatch h), fun _ => ⟨rfl, rfl⟩, fun _ h => absurd h (by decide)⟩
end
theorem allLt_mem {d : Addr} : ∀ {l : List (Addr × Obj)}, AllLt d l → ∀ p ∈ l, @LT.lt Nat _ p.1 d
  | [], _, p, hp => nomatch hp
  | q :: r, h, p, hp => by
    rcases List.mem_cons.mp hp with rfl | hp
    · exact h.1
    · exact allLt_mem h.2 p hp
theorem allNe {d : Addr} {l : List (Addr × Obj)} (h : AllLt d l) : ∀ p ∈ l, p.1 ≠ d := fun p hp => Nat.ne_of_lt (allLt_mem h p hp)
theorem off_new {od : List (Addr × Obj)} {c ls : Addr} {r : List Addr} (h : OwnOff od (c :: r)) (hl : AllLt ls od) : OwnOff od (c :: ls :: r) := fun p hp q hq => by
  rcases List.mem_cons.mp hq with rfl | hq
  · exact h p hp _ (.head _)
  rcases List.mem_cons.mp hq with rfl | hq
  · exact allNe hl p hp
  · exact h p hp q (.tail _ hq)
end Mine
namespace Mine
open PySem PySem.W PyProof.Rows PySem.Calls LCg
section
variable {w : World} {L : Addr} {iv : Int} {b wd : Bool} {hb : List UInt8} {x ln o : Addr} {us : List Value} {ep : Nat} {od : List (Addr × Obj)} {ss : List Int} {body last : List UInt8} {fin : Bool} {m : Str → Option Value} {nw : List (Addr × Obj)}
def layNames : List Str := [Str.ofString "interval", Str.ofString "internal", Str.ofString "wide", Str.ofString "nums", Str.ofString "builder", Str.ofString "body", Str.ofString "last", Str.ofString "finished", Str.ofString "head"]
theorem Lay.set {a : Str} {v : Option Value} (h : Lay w L iv b wd hb x ln o us ep od ss body last fin m nw) (ha : a ∉ layNames) :
    Lay w L iv b wd hb x ln o us ep od ss body last fin (fun z => if z = a then v else m z) nw := by
  obtain ⟨⟨⟨t1, h1⟩, h2, h3, h4, h5, ⟨t6, h6⟩, ⟨t7, h7⟩, h8, ⟨t9, h9⟩⟩, r⟩ := h
  simp only [layNames, List.mem_cons, List.not_mem_nil, or_false, not_or] at ha
  obtain ⟨a1, a2, a3, a4, a5, a6, a7, a8, a9⟩ := ha
  refine ⟨⟨⟨t1, ?_⟩, ?_, ?_, ?_, ?_, ⟨t6, ?_⟩, ⟨t7, ?_⟩, ?_, ⟨t9, ?_⟩⟩, r⟩
  · exact (if_neg (Ne.symm a1)).trans h1
  · exact (if_neg (Ne.symm a2)).trans h2
  · exact (if_neg (Ne.symm a3)).trans h3
  · exact (if_neg (Ne.symm a4)).trans h4
  · exact (if_neg (Ne.symm a5)).trans h5
  · exact (if_neg (Ne.symm a6)).trans h6
  · exact (if_neg (Ne.symm a7)).trans h7
  · exact (if_neg (Ne.symm a8)).trans h8
  · exact (if_neg (Ne.symm a9)).trans h9
theorem Lay.out {C : Prop} (h : Lay w L iv b wd hb x ln o us ep od ss body last fin m nw)
    (k : ∀ (tiv tb tlq th : Tok) (dx bf rl ls : Addr) (k1 k2 k3 k4 k5 k6 k7 k8 ti ts te tl ep2 ep3 : Nat) (vs us2 : List Value) (oc : Obj),
      (m = fun z => if z = Str.ofString "interval" then some (.int iv tiv) else if z = Str.ofString "internal" then some (.bool b) else if z = Str.ofString "wide" then some (.bool wd) else if z = Str.ofString "nums" then some (.ref ln) else if z = Str.ofString "builder" then some (.ref x) else
        if z = Str.ofString "body" then some (.bytes body.toArray tb) else if z = Str.ofString "last" then some (.bytes last.toArray tlq) else if z = Str.ofString "finished" then some (.bool fin) else if z = Str.ofString "head" then some (.bytes hb.toArray th) else m z) →
      Led ((x, instObj 188 dx) :: (dx, bd w k1 k2 k3 k4 k5 k6 k7 k8 iv ti o bf rl (snOf iv ss) ts ss.length te fin last tl) :: (bf, baObj body.toArray) :: (rl, W.listOf vs.toArray ep2) :: (L + 1, oc) :: (ls, W.listOf us2.toArray ep3) :: (ln, W.listOf us.toArray ep) :: od) nw →
      IntsAre vs (psOf iv ss) → IntsAre us2 ss → oc.data = Data.cell (some (.ref ls)) → OwnOff od [L + 1, ls, x, dx, bf, rl] → Apart x dx bf rl (L + 1) ls ln → C) : C := by
  obtain ⟨⟨⟨tiv, q1⟩, q2, q3, q4, q5, ⟨tb, q6⟩, ⟨tlq, q7⟩, q8, ⟨th, q9⟩⟩, dx, bf, rl, ls, k1, k2, k3, k4, k5, k6, k7, k8, ti, ts, te, tl, ep2, ep3, vs, us2, oc, hled, hvs, hus2, hoc, hoff2, hap⟩ := h
  refine k tiv tb tlq th dx bf rl ls k1 k2 k3 k4 k5 k6 k7 k8 ti ts te tl ep2 ep3 vs us2 oc ?_ hled hvs hus2 hoc hoff2 hap
  funext z
  by_cases c1 : z = Str.ofString "interval"
  · rw [if_pos c1, c1, q1]
  rw [if_neg c1]
  by_cases c2 : z = Str.ofString "internal"
  · rw [if_pos c2, c2, q2]
  rw [if_neg c2]
  by_cases c3 : z = Str.ofString "wide"
  · rw [if_pos c3, c3, q3]
  rw [if_neg c3]
  by_cases c4 : z = Str.ofString "nums"
  · rw [if_pos c4, c4, q4]
  rw [if_neg c4]
  by_cases c5 : z = Str.ofString "builder"
  · rw [if_pos c5, c5, q5]
  rw [if_neg c5]
  by_cases c6 : z = Str.ofString "body"
  · rw [if_pos c6, c6, q6]
  rw [if_neg c6]
  by_cases c7 : z = Str.ofString "last"
  · rw [if_pos c7, c7, q7]
  rw [if_neg c7]
  by_cases c8 : z = Str.ofString "finished"
  · rw [if_pos c8, c8, q8]
  rw [if_neg c8]
  by_cases c9 : z = Str.ofString "head"
  · rw [if_pos c9, c9, q9]
  rw [if_neg c9]
theorem JJ.set {i : Nat} {a : Str} {v : Option Value} (h : JJ w L iv b wd hb x ln o us ep od i m nw) (ha : a ∉ layNames) : JJ w L iv b wd hb x ln o us ep od i (fun z => if z = a then v else m z) nw := by
  obtain ⟨ss, body, last, fin, h1, h2⟩ := h
  exact ⟨ss, body, last, fin, h1, h2.set ha⟩
end
end Mine
namespace Mine
open PySem PySem.W PyProof.Rows PySem.Calls LCg
theorem off_I {I a1 a2 a3 a4 a5 a6 a7 : Addr} {o1 o2 o3 o4 o5 o6 o7 : Obj} {od nw : List (Addr × Obj)} (h : ∀ p ∈ nw, p.1 ≠ I) (k : Led ((a1, o1) :: (a2, o2) :: (a3, o3) :: (a4, o4) :: (a5, o5) :: (a6, o6) :: (a7, o7) :: od) nw) :
    ApartI I a1 a2 a3 a4 a5 a6 a7 ∧ ∀ p ∈ od, p.1 ≠ I :=
  ⟨⟨h _ (k _ (.head _)), h _ (k _ (.tail _ (.head _))), h _ (k _ (.tail _ (.tail _ (.head _)))), h _ (k _ (.tail _ (.tail _ (.tail _ (.head _))))), h _ (k _ (.tail _ (.tail _ (.tail _ (.tail _ (.head _)))))),
    h _ (k _ (.tail _ (.tail _ (.tail _ (.tail _ (.tail _ (.head _))))))), h _ (k _ (.tail _ (.tail _ (.tail _ (.tail _ (.tail _ (.tail _ (.head _))))))))⟩,
    fun p hp => h p (k p (.tail _ (.tail _ (.tail _ (.tail _ (.tail _ (.tail _ (.tail _ hp))))))))⟩
end Mine
namespace Mine
open PySem PySem.W PyProof.Rows PySem.Calls LCg
/-- a frame's map -/
abbrev mOf {h₀ h : Heap} {L : Addr} {m : Str → Option Value} (_ : Fr h₀ L h m) : Str → Option Value := m
end Mine
namespace Mine
open PySem PySem.W PyProof.Rows PySem.Calls LCg
section
variable {w : World} {L : Addr} {iv : Int} {b wd : Bool} {hb : List UInt8} {x ln o : Addr} {us : List Value} {ep : Nat} {od : List (Addr × Obj)} {ss : List Int} {body last : List UInt8} {fin : Bool} {m : Str → Option Value} {nw : List (Addr × Obj)}
  {dx bf rl ls : Addr} {k1 k2 k3 k4 k5 k6 k7 k8 ti ts te tl ep2 ep3 : Nat} {vs us2 : List Value} {oc : Obj} {sn en : Int} {ps : List Int}
theorem lay_ap (hm : (∃ t, m (Str.ofString "interval") = some (.int iv t)) ∧ m (Str.ofString "internal") = some (.bool b) ∧ m (Str.ofString "wide") = some (.bool wd) ∧ m (Str.ofString "nums") = some (.ref ln) ∧ m (Str.ofString "builder") = some (.ref x) ∧
    (∃ t, m (Str.ofString "body") = some (.bytes body.toArray t)) ∧ (∃ t, m (Str.ofString "last") = some (.bytes last.toArray t)) ∧ m (Str.ofString "finished") = some (.bool fin) ∧ (∃ t, m (Str.ofString "head") = some (.bytes hb.toArray t)))
    (h1 : (x, instObj 188 dx) ∈ nw) (h2 : (dx, bd w k1 k2 k3 k4 k5 k6 k7 k8 iv ti o bf rl sn ts en te fin last tl) ∈ nw) (h3 : (bf, baObj body.toArray) ∈ nw) (h4 : (rl, W.listOf vs.toArray ep2) ∈ nw) (h5 : (L + 1, oc) ∈ nw)
    (hd : oc.data = Data.cell (some (.ref ls))) (h6 : (ls, W.listOf us2.toArray ep3) ∈ nw) (h7 : (ln, W.listOf us.toArray ep) ∈ nw) (h8 : ∀ p ∈ od, p ∈ nw)
    (hvs : IntsAre vs ps) (hus : IntsAre us2 ss) (hsn : sn = snOf iv ss) (hen : en = ss.length) (hps : ps = psOf iv ss) (hoff : OwnOff od [L + 1, ls, x, dx, bf, rl])
    (hap : Apart x dx bf rl (L + 1) ls ln) : Lay w L iv b wd hb x ln o us ep od ss body last fin m nw := by
  subst hsn hen hps
  exact ⟨hm, dx, bf, rl, ls, k1, k2, k3, k4, k5, k6, k7, k8, ti, ts, te, tl, ep2, ep3, vs, us2, oc, .cons h1 (.cons h2 (.cons h3 (.cons h4 (.cons h5 (.cons h6 (.cons h7 h8)))))), hvs, hus, hd, hoff, hap⟩
end
theorem ps_zero {iv : Int} {ss : List Int} {vs : List Value} (h : ((ss.length : Nat) : Int) = 0) (k : IntsAre vs [0]) : IntsAre vs (psOf iv ss) := by
  unfold psOf; rw [if_pos (by omega)]; exact k
theorem ps_more {iv : Int} {ss : List Int} {vs : List Value} (h : ¬ ((ss.length : Nat) : Int) = 0) (k : IntsAre vs (pls iv ss)) : IntsAre vs (psOf iv ss) := by
  unfold psOf; rw [if_neg (by omega)]; exact k
/-- in the turn, between the statements -/
def Turn (w : World) (L : Addr) (iv : Int) (b wd : Bool) (hb : List UInt8) (x ln o : Addr) (us : List Value) (ep : Nat) (od : List (Addr × Obj)) (ss : List Int) (body last : List UInt8) (fin : Bool) (I : Addr) (oI : Obj) (m : Str → Option Value) (nw : List (Addr × Obj)) : Prop :=
  (∃ r t t', m (Str.ofString "x") = some (.int r t) ∧ 0 ≤ r ∧ r < 10000000 ∧ m (Str.ofString "y") = some (.int (r.fdiv 8) t')) ∧
  ∃ lp vp epp, m (Str.ofString "places") = some (.ref lp) ∧ IntsAre vp (psOf iv ss) ∧ Lay w L iv b wd hb x ln o us ep ((lp, W.listOf vp.toArray epp) :: (I, oI) :: od) ss body last fin m nw
theorem off_cons6 {a c ls x dx bf rl : Addr} {o : Obj} {od : List (Addr × Obj)} (h : OwnOff od [c, ls, x, dx, bf, rl]) (h1 : @Ne Nat a c) (h2 : @Ne Nat a ls) (h3 : @Ne Nat a x) (h4 : @Ne Nat a dx) (h5 : @Ne Nat a bf) (h6 : @Ne Nat a rl) :
    OwnOff ((a, o) :: od) [c, ls, x, dx, bf, rl] := by
  intro p hp
  rcases List.mem_cons.mp hp with rfl | hp
  · intro q hq
    simp only [List.mem_cons, List.not_mem_nil, or_false] at hq
    rcases hq with rfl | rfl | rfl | rfl | rfl | rfl
    · exact h1
    · exact h2
    · exact h3
    · exact h4
    · exact h5
    · exact h6
  · exact h p hp
theorem offI {I x dx bf rl c ls ln : Addr} {oI : Obj} {od : List (Addr × Obj)} (k : ApartI I x dx bf rl c ls ln) (h : OwnOff od [c, ls, x, dx, bf, rl]) : OwnOff ((I, oI) :: od) [c, ls, x, dx, bf, rl] :=
  off_cons6 h (Ne.symm k.i5) (Ne.symm k.i6) (Ne.symm k.i1) (Ne.symm k.i2) (Ne.symm k.i3) (Ne.symm k.i4)
end Mine
namespace Mine
open PySem PySem.W PyProof.Rows PySem.Calls LCg
theorem lst_mem {a : Addr} {ys : List Value} {nw : List (Addr × Obj)} (h : (a, LCg.lst ys) ∈ nw) : (a, W.listOf ys.toArray ys.length) ∈ nw := h
theorem off_rest {x dx bf rl c ls ln : Addr} {o1 o2 o3 : Obj} {od : List (Addr × Obj)} (k : Apart x dx bf rl c ls ln) (h : OwnOff od [c, ls, x, dx, bf, rl]) : OwnOff ((c, o1) :: (ls, o2) :: (ln, o3) :: od) [x, dx, bf, rl] := by
  intro p hp q hq
  simp only [List.mem_cons, List.not_mem_nil, or_false] at hq
  rcases List.mem_cons.mp hp with rfl | hp
  · rcases hq with rfl | rfl | rfl | rfl
    · exact k.c1
    · exact k.c2
    · exact k.c3
    · exact k.c4
  rcases List.mem_cons.mp hp with rfl | hp
  · rcases hq with rfl | rfl | rfl | rfl
    · exact k.l1
    · exact k.l2
    · exact k.l3
    · exact k.l4
  rcases List.mem_cons.mp hp with rfl | hp
  · rcases hq with rfl | rfl | rfl | rfl
    · exact k.e1
    · exact k.e2
    · exact k.e3
    · exact k.e4
  refine h p hp q ?_
  rcases hq with rfl | rfl | rfl | rfl <;> simp
theorem apart_of {x dx bf rl dx' bf' rl' c ls ln : Addr} {o1 o2 o3 : Obj} {od : List (Addr × Obj)} (k : Apart x dx bf rl c ls ln) (h : OwnOff od [c, ls, x, dx, bf, rl]) (h' : OwnOff ((c, o1) :: (ls, o2) :: (ln, o3) :: od) [x, dx', bf', rl'])
    (n1 : @Ne Nat x dx') (n2 : @Ne Nat x bf') (n3 : @Ne Nat x rl') (n4 : @Ne Nat dx' bf') (n5 : @Ne Nat dx' rl') (n6 : @Ne Nat bf' rl') : Apart x dx' bf' rl' c ls ln ∧ OwnOff od [c, ls, x, dx', bf', rl'] := by
  have a1 := h' _ (.head _)
  have a2 := h' _ (.tail _ (.head _))
  have a3 := h' _ (.tail _ (.tail _ (.head _)))
  refine ⟨⟨n1, n2, n3, n4, n5, n6, a1 _ (by simp), a1 _ (by simp), a1 _ (by simp), a1 _ (by simp), a2 _ (by simp), a2 _ (by simp), a2 _ (by simp), a2 _ (by simp), a3 _ (by simp), a3 _ (by simp), a3 _ (by simp), a3 _ (by simp), k.q1, k.q2, k.q3⟩, ?_⟩
  intro p hp q hq
  rcases List.mem_cons.mp hq with rfl | hq
  · exact h p hp _ (by simp)
  rcases List.mem_cons.mp hq with rfl | hq
  · exact h p hp _ (by simp)
  exact h' p (.tail _ (.tail _ (.tail _ hp))) q hq
theorem inv_new (b : Bool) (i : Nat) : Inv b i [] [] [] := ⟨Nat.zero_le _, Nat.zero_le _, by decide, fun _ h => (nomatch h), fun _ => ⟨rfl, rfl⟩, fun _ h => absurd h (by decide)⟩
theorem off_tail {p : Addr × Obj} {od : List (Addr × Obj)} {l : List Addr} (h : OwnOff (p :: od) l) : OwnOff od l := fun q hq => h q (.tail _ hq)
/-- a new list of starts -/
theorem off_ls {od : List (Addr × Obj)} {c ls l : Addr} {r : List Addr} (h : OwnOff od (c :: ls :: r)) (hl : AllLt l od) : OwnOff od (c :: l :: r) := fun p hp q hq => by
  rcases List.mem_cons.mp hq with rfl | hq
  · exact h p hp _ (.head _)
  rcases List.mem_cons.mp hq with rfl | hq
  · exact allNe hl p hp
  · exact h p hp q (.tail _ (.tail _ hq))
end Mine
namespace Mine
open PySem PySem.W PyProof.Rows PySem.Calls LCg
theorem apart_ls {x dx bf rl c ls ln l : Addr} (k : Apart x dx bf rl c ls ln) (h1 : @LT.lt Nat _ x l) (h2 : @LT.lt Nat _ dx l) (h3 : @LT.lt Nat _ bf l) (h4 : @LT.lt Nat _ rl l) (h5 : @LT.lt Nat _ c l) (h6 : @LT.lt Nat _ ln l) : Apart x dx bf rl c l ln :=
  { k with l1 := Nat.ne_of_gt h1, l2 := Nat.ne_of_gt h2, l3 := Nat.ne_of_gt h3, l4 := Nat.ne_of_gt h4, q1 := Nat.ne_of_lt h5, q3 := Nat.ne_of_gt h6 }
end Mine
namespace Mine
open PySem PySem.W PyProof.Rows PySem.Calls LCg
theorem inv_up {b : Bool} {i : Nat} {ss : List Int} {body last : List UInt8} (h : Inv b i ss body last) : Inv b (i + 1) ss body last := by
  obtain ⟨h1, h2, h⟩ := h
  exact ⟨by omega, by omega, h⟩
end Mine
namespace Mine
open PySem PySem.W PyProof.Rows PySem.Calls LCg
/-- a ledger -/
abbrev nOf {h₀ h : Heap} {L : Addr} {nw : List (Addr × Obj)} (_ : News h₀ L h nw) : List (Addr × Obj) := nw
end Mine
namespace Mine
open PySem PySem.W PyProof.Rows PySem.Calls LCg
theorem c_false {p : Prop} (h : false = true) : p := Bool.noConfusion h
theorem r_ne_same {prog : Program} {w : World} {A : Around} {E : Value → Shared → Prop} {s : Shared} {x : List UInt8} {t u : Tok} {Q : Value → Shared → Prop} (h : Q (.bool false) s) :
    wpAny (model prog w) A (compareOp .NotEq (.bytes x.toArray t) (.bytes x.toArray u)) Q E s := by
  refine r_ne ?_
  rw [decide_eq_true rfl]
  exact h
end Mine
namespace Mine
theorem y_rng {r : Int} : 0 ≤ (r.fdiv 8).fmod 40 ∧ (r.fdiv 8).fmod 40 < 40 := by
  rw [fm_pos _ (show (0 : Int) ≤ 40 by decide)]; omega
end Mine
namespace Mine
open PySem PySem.W PyProof.Rows PySem.Calls LCg
def CC (c b : Bool) (n : Nat) : Prop := c = true → b = true ∧ 0 < n
theorem cc_no {b : Bool} {n : Nat} : CC false b n := fun h => c_false h
theorem cc_yes {c : Bool} {n : Nat} (h : 0 < n) : CC c true n := fun _ => ⟨rfl, h⟩
theorem ik_of {k : List UInt8} {a c : Int} (ha : 0 ≤ a ∧ a < 2) (hc : 0 ≤ c ∧ c < 3) : IK (k ++ octets [a, c, 0, 0, 0, 0, 0, 0]) := by
  have hl : (k ++ octets [a, c, 0, 0, 0, 0, 0, 0]).length - 8 = k.length := by simp [octets]
  have key : ∀ i, i < 8 → tg (k ++ octets [a, c, 0, 0, 0, 0, 0, 0]) i = ((octets [a, c, 0, 0, 0, 0, 0, 0]).getD i 0).toNat := by
    intro i hi
    unfold tg
    rw [hl, List.getD_eq_getElem?_getD, List.getElem?_append_right (by omega), List.getD_eq_getElem?_getD]
    simp
  refine ⟨by simp [octets], ?_, ?_, ?_⟩
  · rw [key 0 (by decide)]
    have : a = 0 ∨ a = 1 := by omega
    rcases this with rfl | rfl <;> simp [octets]
  · rw [key 1 (by decide)]
    have : c = 0 ∨ c = 1 ∨ c = 2 := by omega
    rcases this with rfl | rfl | rfl <;> simp [octets]
  · intro i h2 h8
    rw [key i h8]
    have : i = 2 ∨ i = 3 ∨ i = 4 ∨ i = 5 ∨ i = 6 ∨ i = 7 := by omega
    rcases this with rfl | rfl | rfl | rfl | rfl | rfl <;> simp [octets]
end Mine
namespace Mine
open PySem PySem.W PyProof.Rows PySem.Calls LCg
theorem ab_rng {y : Int} : (0 ≤ (y.fdiv 40).fmod 2 ∧ (y.fdiv 40).fmod 2 < 2) ∧ (0 ≤ (y.fdiv 80).fmod 3 ∧ (y.fdiv 80).fmod 3 < 3) := by
  rw [fm_pos _ (show (0 : Int) ≤ 2 by decide), fm_pos _ (show (0 : Int) ≤ 3 by decide)]; omega
theorem nth_max {iv len : Int} (h1 : 1 ≤ iv) (h2 : 0 < len) : 1 ≤ (len + iv - 1) / iv := by
  rw [Int.le_ediv_iff_mul_le (by omega)]; omega
theorem psOf_max {iv : Int} {ss : List Int} (h1 : 1 ≤ iv) : ((psOf iv ss).length : Int) = if 1 < ((ss.length : Int) + iv - 1).fdiv iv then ((ss.length : Int) + iv - 1).fdiv iv else 1 := by
  rw [fd_pos _ (show (0 : Int) ≤ iv by omega)]
  unfold psOf
  by_cases h : ss.length = 0
  · rw [if_pos h]
    have : ((ss.length : Int) + iv - 1) / iv = 0 := Int.ediv_eq_zero_of_lt (by omega) (by omega)
    rw [this]; simp
  · rw [if_neg h, pls_len]
    have h3 := nth_max (iv := iv) (len := ss.length) h1 (by omega)
    unfold nth
    rw [Int.toNat_of_nonneg (by omega)]
    split <;> omega
end Mine
namespace Mine
open PySem PySem.W PyProof.Rows PySem.Calls LCg
theorem mem_rot {α : Type} {p i a b c d e f g : α} {l : List α} (hp : p ∈ i :: a :: b :: c :: d :: e :: f :: g :: l) : p ∈ a :: b :: c :: d :: e :: f :: g :: i :: l := by
  simp only [List.mem_cons] at hp ⊢
  rcases hp with h | h | h | h | h | h | h | h | h <;> simp [h]
theorem turn_end {w : World} {L : Addr} {iv : Int} {b wd : Bool} {hb : List UInt8} {x ln o : Addr} {us : List Value} {ep : Nat} {od : List (Addr × Obj)} {ss : List Int} {body last : List UInt8} {fin : Bool} {m : Str → Option Value} {nw : List (Addr × Obj)}
    {h₀ h' : Heap} {I : Addr} {oI : Obj} {s₁ : Shared} {tk i : Nat} (F : Fr h₀ L h' m) (N : News h₀ L h' nw) (hI : Inv b (i + 1) ss body last) (hL : Lay w L iv b wd hb x ln o us ep ((I, oI) :: od) ss body last fin m nw) (i7 : @Ne Nat ln I) (i8 : ∀ p ∈ od, p.1 ≠ I) :
    TurnC h₀ L I oI (JJ w L iv b wd hb x ln o us ep od (i + 1)) s₁ .next { s₁ with heap := h', toks := tk } := by
  have hm := hL.1
  refine Lay.out hL ?_; clear hL; intro tiv tb tlq th dx bf rl ls k1 k2 k3 k4 k5 k6 k7 k8 ti ts te tl ep2 ep3 vs us2 oc hmq hled hvs hus2 hoc hoff2 hap
  have a1 := hoff2 (I, oI) (.head _)
  refine TurnC.intro (news₂ := (x, instObj 188 dx) :: (dx, bd w k1 k2 k3 k4 k5 k6 k7 k8 iv ti o bf rl (snOf iv ss) ts ss.length te fin last tl) :: (bf, baObj body.toArray) :: (rl, W.listOf vs.toArray ep2) :: (L + 1, oc) :: (ls, W.listOf us2.toArray ep3) :: (ln, W.listOf us.toArray ep) :: od) F ?_ ?_
    ⟨ss, body, last, fin, hI, hm, dx, bf, rl, ls, k1, k2, k3, k4, k5, k6, k7, k8, ti, ts, te, tl, ep2, ep3, vs, us2, oc, fun _ h => h, hvs, hus2, hoc, off_tail hoff2, hap⟩
  · intro p hp
    refine N p (hled p ?_)
    exact mem_rot hp
  · exact List.forall_mem_cons.mpr ⟨Ne.symm (a1 _ (.tail _ (.tail _ (.head _)))), List.forall_mem_cons.mpr ⟨Ne.symm (a1 _ (.tail _ (.tail _ (.tail _ (.head _))))), List.forall_mem_cons.mpr ⟨Ne.symm (a1 _ (.tail _ (.tail _ (.tail _ (.tail _ (.head _)))))), List.forall_mem_cons.mpr ⟨Ne.symm (a1 _ (.tail _ (.tail _ (.tail _ (.tail _ (.tail _ (.head _))))))), List.forall_mem_cons.mpr ⟨Ne.symm (a1 _ (.head _)), List.forall_mem_cons.mpr ⟨Ne.symm (a1 _ (.tail _ (.head _))), List.forall_mem_cons.mpr ⟨i7, i8⟩⟩⟩⟩⟩⟩⟩
end Mine
namespace Mine
theorem four_ways {y : Int} : y.fmod 4 = 0 ∨ y.fmod 4 = 1 ∨ y.fmod 4 = 2 ∨ y.fmod 4 = 3 := by
  rw [fm_pos _ (show (0 : Int) ≤ 4 by decide)]; omega
end Mine
namespace Mine
open PySem PySem.W PyProof.Rows PySem.Calls LCg
theorem rep_mem {y : Int} {k : Nat} : ∀ n ∈ (List.replicate k [y.fmod 256]).flatten, 0 ≤ n ∧ n < 256 := by
  intro n hn
  obtain ⟨l, hl, hn⟩ := List.mem_flatten.mp hn
  obtain ⟨_, rfl⟩ := List.mem_replicate.mp hl
  rw [List.mem_singleton.mp hn, fm_pos _ (show (0 : Int) ≤ 256 by decide)]
  omega
theorem rep_len {z : Int} {k : Nat} : ((List.replicate k [z]).flatten).length = k := by simp
theorem four_len {y z : Int} : (octets (List.replicate (y.fmod 4).toNat [z]).flatten).length ≤ 130 := by
  have := four_ways (y := y)
  rw [octets, List.length_map, rep_len]
  omega
theorem four_len' {y z : Int} : (List.replicate (y.fmod 4).toNat [z]).flatten.length ≤ 16777216 := by
  have := four_ways (y := y)
  rw [rep_len]
  omega
end Mine
namespace Mine
/-- the entry is refused -/
def Low (fin : Bool) (n : Nat) (r : Bool) : Prop := fin = true ∨ (0 < n ∧ r = false)
end Mine
end

section
open PySem PySem.W PyProof.Rows PySem.Calls LCg
set_option Elab.async false
set_option maxRecDepth 100000
set_option maxHeartbeats 4000000
namespace Mine
theorem ltB_asymm {a b : List UInt8} (h : ltB a b = true) : ltB b a = false := by
  have e := order_swap a b
  have h' : Builtin.Bytes.order a b = .lt := by simpa [ltB] using h
  have : (Builtin.Bytes.order b a == .lt) = false := by rw [← e, h']; rfl
  exact this
theorem ltB_tri : ∀ {a b : List UInt8}, ltB a b = false → ltB b a = false → a = b
  | [], [], _, _ => rfl
  | [], _ :: _, h, _ => by simp [ltB, Builtin.Bytes.order] at h
  | _ :: _, [], _, h => by simp [ltB, Builtin.Bytes.order] at h
  | a :: x, b :: y, h1, h2 => by
    simp only [ltB, Builtin.Bytes.order] at h1 h2
    by_cases p : a < b
    · rw [if_pos p] at h1; simp at h1
    · by_cases q : b < a
      · rw [if_pos q] at h2; simp at h2
      · have q' : ¬ a > b := q
        have p' : ¬ b > a := p
        rw [if_neg p, if_neg q'] at h1
        rw [if_neg q, if_neg p'] at h2
        have e : a = b := UInt8.le_antisymm (UInt8.not_lt.mp q) (UInt8.not_lt.mp p)
        rw [e, ltB_tri (a := x) (b := y) h1 h2]
theorem ltB_irrefl (a : List UInt8) : ltB a a = false := by
  cases h : ltB a a with
  | false => rfl
  | true => have := ltB_asymm h; rw [h] at this; exact this
theorem cmpB_pos (a b : List UInt8) : 0 < cmpB a b ↔ ltB b a = true := by
  unfold cmpB
  by_cases h : ltB a b = true
  · rw [if_pos h, ltB_asymm h]; simp
  · rw [if_neg h]
    by_cases k : ltB b a = true
    · rw [if_pos k]; simp [k]
    · rw [if_neg k]; simp [k]
theorem cmpB_zero (a b : List UInt8) : cmpB a b = 0 ↔ a = b := by
  unfold cmpB
  constructor
  · intro h
    by_cases p : ltB a b = true
    · rw [if_pos p] at h; simp at h
    · rw [if_neg p] at h
      by_cases q : ltB b a = true
      · rw [if_pos q] at h; simp at h
      · exact ltB_tri (by simpa using p) (by simpa using q)
  · rintro rfl
    rw [ltB_irrefl]; simp
theorem tg_nn (x : List UInt8) (i : Nat) : 0 ≤ tg x i := Int.natCast_nonneg _
theorem cmpI_pos {last key : List UInt8} (h1 : IK last) (h2 : IK key) : 0 < cmpI key last ↔ rises true last key = true := by
  unfold cmpI rises
  simp only [if_true]
  by_cases e : uk last = uk key
  · have z : cmpB (uk key) (uk last) = 0 := (cmpB_zero _ _).mpr e.symm
    rw [if_neg (show ¬ cmpB (uk key) (uk last) ≠ 0 from fun h => h z), if_neg (show ¬ uk last ≠ uk key from fun h => h e)]
    have a1 := h1.2.1; have a2 := h2.2.1
    have b1 := tg_nn last 0; have b2 := tg_nn key 0
    generalize tg last 0 = p0 at *; generalize tg last 1 = p1 at *; generalize tg key 0 = q0 at *; generalize tg key 1 = q1 at *
    rw [decide_eq_true_eq]
    by_cases c : q0 + 256 * q1 > p0 + 256 * p1
    · rw [if_pos c]; constructor
      · intro h; omega
      · intro h; omega
    · rw [if_neg c]
      by_cases d : q0 + 256 * q1 < p0 + 256 * p1
      · rw [if_pos d]; constructor
        · intro _; omega
        · intro _; decide
      · rw [if_neg d]; constructor
        · intro h; simp at h
        · intro h; omega
  · have z : cmpB (uk key) (uk last) ≠ 0 := fun h => e ((cmpB_zero _ _).mp h).symm
    rw [if_pos z, if_pos e]
    exact cmpB_pos _ _
theorem low0 {last key : List UInt8} (h : rises false last key = false) : ¬ 0 < cmpB key last := by
  rw [cmpB_pos]
  have : ltB last key = false := h
  simp [this]
theorem low1 {last key : List UInt8} (h1 : IK last) (h2 : IK key) (h : rises true last key = false) : ¬ 0 < cmpI key last := by
  rw [cmpI_pos h1 h2]; simp [h]
theorem up_of {b : Bool} {last key : List UInt8} (hi : b = true → IK last ∧ IK key) (h : rises b last key = true) : 0 < (if b then cmpI key last else cmpB key last) := by
  cases b
  · exact (cmpB_pos _ _).mpr h
  · exact (cmpI_pos (hi rfl).1 (hi rfl).2).mpr h
theorem low_f {n : Nat} {r : Bool} (h : Low false n r) : 0 < n ∧ r = false := h.resolve_left (fun e => Bool.noConfusion e)
theorem low_no {fin : Bool} {n : Nat} {r : Bool} (h : ¬ Low fin n r) : fin = false ∧ (0 < n → r = true) := by
  constructor
  · cases fin
    · rfl
    · exact absurd (.inl rfl) h
  · intro hn
    cases r
    · exact absurd (.inr ⟨hn, rfl⟩) h
    · rfl
theorem low_zero {n : Nat} {r : Bool} (h : n = 0) : ¬ Low false n r := fun l => by have := (low_f l).1; omega
theorem low_up {n : Nat} {r : Bool} (h : r = true) : ¬ Low false n r := fun l => by have := (low_f l).2; rw [h] at this; cases this
theorem low_down {fin : Bool} {n : Nat} {r : Bool} (hn : 0 < n) (h : r = false) : Low fin n r := .inr ⟨hn, h⟩
theorem rr_of {b : Bool} {n : Nat} {last key : List UInt8} (h1 : b = true → 0 < n → IK last) (h2 : b = true → IK key) (hn : 0 < n) : b = true → 8 ≤ last.length ∧ 8 ≤ key.length := fun h => ⟨(h1 h hn).1, (h2 h).1⟩
/-- the whole key of each iv-th entry -/
def whole (iv : Int) (n : Nat) : Bool := (n : Int) % iv == 0
theorem sn_lt {iv : Int} {ss : List Int} (h1 : 1 ≤ iv) : snOf iv ss < iv ↔ (ss.length = 0 ∨ whole iv ss.length = false) := by
  unfold snOf whole
  by_cases h : ss.length = 0
  · rw [if_pos h]; simp [h]; omega
  · rw [if_neg h]
    have e : (ss.length : Int) % iv = if ((ss.length : Int) - 1) % iv + 1 = iv then 0 else ((ss.length : Int) - 1) % iv + 1 := by
      have q0 := Int.emod_nonneg ((ss.length : Int) - 1) (show iv ≠ 0 by omega)
      have q1 := Int.emod_lt_of_pos ((ss.length : Int) - 1) (show 0 < iv by omega)
      have q2 := Int.mul_ediv_add_emod ((ss.length : Int) - 1) iv
      split
      · rename_i hq
        have : (ss.length : Int) = iv * (((ss.length : Int) - 1) / iv + 1) := by rw [Int.mul_add, Int.mul_one]; omega
        rw [this]; exact Int.mul_emod_right _ _
      · rename_i hq
        have : (ss.length : Int) = (((ss.length : Int) - 1) % iv + 1) + iv * (((ss.length : Int) - 1) / iv) := by omega
        conv => lhs; rw [this]
        rw [Int.add_mul_emod_self_left]
        exact Int.emod_eq_of_lt (by omega) (by omega)
    have q0 := Int.emod_nonneg ((ss.length : Int) - 1) (show iv ≠ 0 by omega)
    have q1 := Int.emod_lt_of_pos ((ss.length : Int) - 1) (show 0 < iv by omega)
    have hb : ((ss.length : Int) % iv == 0) = false ↔ (ss.length : Int) % iv ≠ 0 := by simp
    rw [hb, e]
    split <;> omega
theorem sn_nn {iv : Int} {ss : List Int} (h1 : 1 ≤ iv) : 0 ≤ snOf iv ss := by
  unfold snOf
  split
  · decide
  · have := Int.emod_nonneg ((ss.length : Int) - 1) (show iv ≠ 0 by omega); omega
theorem sn_add {iv : Int} {ss : List Int} {a : Int} (h1 : 1 ≤ iv) : (if snOf iv ss < iv then snOf iv ss + 1 else 1) = snOf iv (ss ++ [a]) := by
  have hl : snOf iv (ss ++ [a]) = (ss.length : Int) % iv + 1 := by
    unfold snOf
    rw [if_neg (by simp)]
    rw [List.length_append, List.length_singleton]
    congr 2
    omega
  rw [hl]
  by_cases h : ss.length = 0
  · have : snOf iv ss = 0 := by unfold snOf; rw [if_pos h]
    rw [this, if_pos (by omega), h]; simp
  · by_cases k : snOf iv ss < iv
    · rw [if_pos k]
      have e : snOf iv ss = ((ss.length : Int) - 1) % iv + 1 := by unfold snOf; rw [if_neg h]
      rw [e] at k ⊢
      have q0 := Int.emod_nonneg ((ss.length : Int) - 1) (show iv ≠ 0 by omega)
      have q2 := Int.mul_ediv_add_emod ((ss.length : Int) - 1) iv
      have : (ss.length : Int) = (((ss.length : Int) - 1) % iv + 1) + iv * (((ss.length : Int) - 1) / iv) := by omega
      have e2 : (ss.length : Int) % iv = ((ss.length : Int) - 1) % iv + 1 := by
        conv => lhs; rw [this]
        rw [Int.add_mul_emod_self_left]
        exact Int.emod_eq_of_lt (by omega) (by omega)
      omega
    · rw [if_neg k]
      have := (not_congr (sn_lt (ss := ss) h1)).mp k
      simp only [not_or, whole] at this
      have hz : (ss.length : Int) % iv = 0 := by simpa using this.2
      omega
theorem idx_snoc {iv : Int} (h1 : 1 ≤ iv) (n : Nat) : idx iv ((n : Int) + 1) = idx iv n ++ (if whole iv n then [(n : Int)] else []) := by
  have h0 : (0 : Int) < iv := by omega
  have q0 := Int.emod_nonneg (n : Int) (show iv ≠ 0 by omega)
  have q1 := Int.emod_lt_of_pos (n : Int) h0
  have q2 := Int.mul_ediv_add_emod (n : Int) iv
  have d0 : 0 ≤ (n : Int) / iv := Int.ediv_nonneg (by omega) (by omega)
  have a1 : ((n : Int) + 1 + iv - 1) / iv = (n : Int) / iv + 1 := by
    rw [show (n : Int) + 1 + iv - 1 = (n : Int) + 1 * iv by omega, Int.add_mul_ediv_right _ _ (by omega)]
  have a2 : nth iv ((n : Int) + 1) = ((n : Int) / iv).toNat + 1 := by unfold nth; rw [a1]; omega
  by_cases h : (n : Int) % iv = 0
  · have hw : whole iv n = true := by simp [whole, h]
    have a3 : nth iv (n : Int) = ((n : Int) / iv).toNat := by
      unfold nth
      congr 1
      have : (n : Int) + iv - 1 = (iv - 1) + iv * ((n : Int) / iv) := by omega
      rw [this, Int.add_mul_ediv_left _ _ (by omega), Int.ediv_eq_zero_of_lt (by omega) (by omega)]
      omega
    rw [hw, if_pos rfl]
    unfold idx
    rw [a2, a3, List.range_succ, List.map_append]
    congr 1
    simp only [List.map_cons, List.map_nil]
    congr 1
    rw [Int.toNat_of_nonneg d0, Int.zero_add, Int.mul_comm]
    omega
  · have hw : whole iv n = false := by simp [whole, h]
    have a3 : nth iv (n : Int) = ((n : Int) / iv).toNat + 1 := by
      unfold nth
      have : (n : Int) + iv - 1 = ((n : Int) % iv - 1) + iv * ((n : Int) / iv + 1) := by rw [Int.mul_add, Int.mul_one]; omega
      rw [this, Int.add_mul_ediv_left _ _ (by omega), Int.ediv_eq_zero_of_lt (by omega) (by omega)]
      omega
    rw [hw]
    unfold idx
    rw [a2, a3]
    simp
theorem pls_snoc {iv : Int} {ss : List Int} {a : Int} (h1 : 1 ≤ iv) : pls iv (ss ++ [a]) = pls iv ss ++ (if whole iv ss.length then [a] else []) := by
  unfold pls
  rw [List.length_append, List.length_singleton]
  have e := idx_snoc h1 ss.length
  push_cast
  rw [e, List.map_append]
  congr 1
  · refine List.map_congr_left fun k hk => ?_
    have := idx_mem (len := (ss.length : Int)) h1 (by omega) hk
    have hlt : k.toNat < ss.length := by omega
    simp [List.getD_eq_getElem?_getD, List.getElem?_append_left hlt]
  · split <;> simp [List.getD_eq_getElem?_getD]
theorem ps_add {iv : Int} {ss : List Int} {a : Int} (h1 : 1 ≤ iv) (ha : ss.length = 0 → a = 0) : (if snOf iv ss < iv then psOf iv ss else psOf iv ss ++ [a]) = psOf iv (ss ++ [a]) := by
  have hl : psOf iv (ss ++ [a]) = pls iv (ss ++ [a]) := by unfold psOf; rw [if_neg (by simp)]
  rw [hl, pls_snoc h1]
  by_cases h : ss.length = 0
  · have h' : ss = [] := List.length_eq_zero_iff.mp h
    subst h'
    rw [if_pos ((sn_lt (ss := []) h1).mpr (.inl rfl)), ha rfl]
    have hw : whole iv ([] : List Int).length = true := by simp [whole]
    rw [hw]
    have hn : nth iv ((([] : List Int).length : Nat) : Int) = 0 := by
      unfold nth
      have e : (0 + iv - 1) / iv = 0 := Int.ediv_eq_zero_of_lt (by omega) (by omega)
      show ((0 + iv - 1) / iv).toNat = 0
      rw [e]; rfl
    simp only [psOf, pls, idx, hn]
    rfl
  · have hp : psOf iv ss = pls iv ss := by unfold psOf; rw [if_neg h]
    rw [hp]
    cases hw : whole iv ss.length with
    | true => rw [if_neg (fun k => by have := (sn_lt h1).mp k; rw [hw] at this; simp [h] at this)]; simp
    | false => rw [if_pos ((sn_lt h1).mpr (.inr hw))]; simp
theorem ent_whole {iv : Int} {ss : List Int} {last key value : List UInt8} (h1 : 1 ≤ iv) (hl : ss.length = 0 → last = []) : ent last key value (!decide (snOf iv ss < iv)) = ent last key value (whole iv ss.length) := by
  by_cases h : ss.length = 0
  · have e : snOf iv ss < iv := (sn_lt h1).mpr (.inl h)
    have hw : whole iv ss.length = true := by simp [whole, h]
    rw [hw, hl h]
    simp only [e, decide_true, Bool.not_true]
    have hc : cpl [] key = 0 := by simp [cpl]
    simp [ent, hc]
  · cases hw : whole iv ss.length with
    | true =>
      have e : ¬ snOf iv ss < iv := fun k => by have := (sn_lt h1).mp k; rw [hw] at this; simp [h] at this
      simp [e]
    | false =>
      have e : snOf iv ss < iv := (sn_lt h1).mpr (.inr hw)
      simp [e]
theorem ent_len {last key value : List UInt8} {w : Bool} : (ent last key value w).length ≤ 6 + key.length + value.length := by
  have := var_len (if w then 0 else (cpl last key : Int))
  have := var_len ((key.length : Int) - (if w then 0 else (cpl last key : Int)))
  have := var_len value.length
  simp only [ent, List.length_append, List.length_drop]
  omega
theorem inv_add {b : Bool} {i : Nat} {ss : List Int} {body last key value : List UInt8} {w : Bool} (hi : i < 7) (h : Inv b i ss body last) (hk : key.length ≤ 140) (hv : value.length ≤ 130) (hik : b = true → IK key) :
    Inv b (i + 1) (ss ++ [(body.length : Int)]) (body ++ ent last key value w) key := by
  obtain ⟨h1, h2, h3, h4, h5, h6⟩ := h
  have := ent_len (last := last) (key := key) (value := value) (w := w)
  refine ⟨by simp; omega, by simp only [List.length_append]; omega, by omega, ?_, fun h => by simp at h, fun hb _ => hik hb⟩
  intro n hn
  rcases List.mem_append.mp hn with hn | hn
  · exact h4 n hn
  · rw [List.mem_singleton.mp hn]; omega
end Mine
namespace Mine
theorem whole_eq {iv : Int} {n : Nat} (h1 : 1 ≤ iv) : ((((n + 1 : Nat) : Int) - 1).fmod iv == 0) = whole iv n := by
  unfold whole
  rw [fm_pos _ (show (0 : Int) ≤ iv by omega)]
  congr 2
  omega
theorem len_snoc {ss : List Int} {a : Int} : (ss.length : Int) + 1 = ((ss ++ [a]).length : Nat) := by simp
end Mine
namespace Mine
open PySem PySem.W PyProof.Rows PySem.Calls LCg
theorem law_good {s₀ s₁ s' : Shared} {L : Addr} {m : Str → Option Value} {xs : List Int} (F : Fr s₁.heap L s'.heap m) (hg : s'.gens = #[]) (ho : s'.os = s₁.os) :
    GoodW PySem.Challenge.rw_no0404_01.row.claim (classAt s₀.heap) (ExcName.means s₀.heap) [ofPy (PyData.list (List.map PyData.int xs))] s₁ (Except.ok (Flow.ret (Value.bool (1 == 1)))) s' := by
  refine goodW_bool F hg (fun cls => rfl) ?_ ho
  first | (wrow_post; done) | (refine' postW_of ?s ?v ?e; (case s => wrow_shape); (case v => wtm_val); (case e => w_fin))
end Mine
namespace Mine
open PySem
theorem kbx : (∀ x : Int, Builtin.bitAnd x 255 = x % 256) ∧ (∀ x : Int, Builtin.bitAnd x 127 = x % 128) ∧ (2 : Int) ^ Int.toNat 8 = 256 ∧ (2 : Int) ^ Int.toNat 16 = 65536 ∧ (2 : Int) ^ Int.toNat 24 = 16777216 ∧ (∀ a : Int, a.fdiv 256 = a / 256) ∧ (∀ a : Int, a.fdiv 128 = a / 128) ∧
    (∀ a : Int, a.fdiv 65536 = a / 65536) ∧ (∀ a : Int, a.fdiv 16777216 = a / 16777216) ∧ (∀ a : Int, a.fmod 256 = a % 256) ∧ (∀ a : Int, a.fmod 128 = a % 128) ∧ (∀ a : Int, a.fmod 3 = a % 3) ∧ (∀ a : Int, a.fmod 2 = a % 2) :=
  ⟨bitAnd_m8, bitAnd_m7, by decide, by decide, by decide, fun a => fd_pos a (by decide), fun a => fd_pos a (by decide), fun a => fd_pos a (by decide), fun a => fd_pos a (by decide), fun a => fm_pos a (by decide), fun a => fm_pos a (by decide), fun a => fm_pos a (by decide), fun a => fm_pos a (by decide)⟩
theorem p3x : (3 : Int) ^ Int.toNat 0 = 1 ∧ (3 : Int) ^ Int.toNat (0 + 1) = 3 ∧ (3 : Int) ^ Int.toNat (0 + 1 + 1) = 9 ∧ (3 : Int) ^ Int.toNat (0 + 1 + 1 + 1) = 27 := ⟨rfl, rfl, rfl, rfl⟩
end Mine
end

section
open PySem PySem.W PyProof.Rows
set_option maxRecDepth 100000
set_option maxHeartbeats 8000000
namespace Mine
local macro_rules | `(tactic| o_head $h) => `(tactic| with_reducible first | exact $h | exact Ne.symm $h | exact Nat.ne_of_lt $h | exact Nat.ne_of_gt $h | ((fail_if_success (fail_if_success have := And.left $h)); first | o_head (And.left $h) | o_head (And.right $h)))
local macro_rules | `(tactic| o_head ()) => `(tactic| ((with_reducible first | rename (@Ne _ _ _ ∧ _) => hc9 | rename ((@Ne _ _ _ ∧ _) ∧ _) => hc9 | rename (@LT.lt _ _ _ _ ∧ _) => hc9); first | o_head hc9 | (clear hc9; o_head ())))
local macro_rules | `(tactic| k_ne) => `(tactic| (refine neN ?_; (try dsimp only); first | (k_whole; with_reducible first | assumption | exact Ne.symm (by assumption) | exact Nat.ne_of_lt (by assumption) | exact Nat.ne_of_gt (by assumption)) | (k_whole; first | (refine Nat.ne_of_lt ?_; (repeat constructor); done) | (refine Nat.ne_of_gt ?_; (repeat constructor); done) | o_head ()) | omega))
local macro_rules | `(tactic| k_steps) => `(tactic| repeat' ((fail_if_success (with_reducible show wpC _ _ _ _ _ _)); first | (k_unfold; (try dsimp only)) | (k_end; wrow_close) | (walk1; (all_goals (try dsimp only))) | (dsimp only; walk1) | (leave1; try dsimp only)))
local macro_rules | `(tactic| kby_size) => `(tactic| ((try simp only [List.length_append, List.length_take, List.length_drop, List.length_cons, List.length_nil, octets, List.length_map, List.length_replicate]); omega))
local macro_rules | `(tactic| kby_idx) => `(tactic| kby_size)
local macro_rules | `(tactic| kba_in) => `(tactic| (show ∀ n ∈ _, 0 ≤ n ∧ n < 256; simp only [List.mem_cons, List.not_mem_nil, or_false, forall_eq_or_imp, forall_eq, kbx]; omega))
local macro_rules | `(tactic| walk_at "binaryOp Add bytes bytes") => `(tactic| (k_here; (with_reducible refine r_add ?h ?_); (case h => kby_size); intro _ _))
local macro_rules | `(tactic| walk_at "call builtin:len") => `(tactic| (k_here; (with_reducible refine r_len ?h ?_); (case h => kby_size); intro _ _))
local macro_rules | `(tactic| walk_at "call builtin:len") => `(tactic| (k_here; (with_reducible show wpAny _ _ (call (Value.builtin "len") [Value.ref _]) _ _ _); (refine' r_len_ba ?rla ?rsz ?_; (case rla => exact News.get (by k_asm) (by k_mem)); (case rsz => kby_size); k_whole); intro _ _))
local macro_rules | `(tactic| walk_at "compareOp Eq bytes bytes") => `(tactic| (k_here; with_reducible refine r_eq ?_))
local macro_rules | `(tactic| walk_at "compareOp NotEq bytes bytes") => `(tactic| (k_here; with_reducible refine r_ne ?_))
local macro_rules | `(tactic| walk_at "compareOp Lt bytes bytes") => `(tactic| (k_here; with_reducible refine r_lt ?_))
local macro_rules | `(tactic| walk_at "compareOp Gt bytes bytes") => `(tactic| (k_here; with_reducible refine r_gt ?_))
local macro_rules | `(tactic| walk_at "subscriptTail") => `(tactic| (k_here; (with_reducible refine r_item ?a ?b ?c ?_); (case a => kby_size); (case b => kby_size); (case c => kby_size); intro _ _))
local macro_rules | `(tactic| walk_at "subscriptTail") => `(tactic| (k_here; (with_reducible show wpAny _ _ (subscriptTail _ (Expr.Slice none _ none _) (Value.bytes (List.toArray _) _) (Value.ref _)) _ _ _); (with_reducible rename Fr _ _ _ _ => F'); (with_reducible rename News _ _ _ _ => N'); (refine r_take (s := ⟨_, _, _, _, _⟩) (by kby_size) F' N' (by kby_size) ?_); clear F' N'; intro _ _ _ F' N'))
local macro_rules | `(tactic| walk_at "subscriptTail") => `(tactic| (k_here; (with_reducible show wpAny _ _ (subscriptTail _ (Expr.Slice _ none none _) (Value.bytes (List.toArray _) _) (Value.ref _)) _ _ _); (with_reducible rename Fr _ _ _ _ => F'); (with_reducible rename News _ _ _ _ => N'); (refine r_drop (s := ⟨_, _, _, _, _⟩) (by kby_size) F' N' (by kby_size) ?_); clear F' N'; intro _ _ _ F' N'))
local macro_rules | `(tactic| walk_at "call type:bytes") => `(tactic| (k_here; (with_reducible show wpAny _ _ (call (Value.type "bytes") [Value.ref _]) _ _ _); k_dflt (refine' r_bytes_list ?kbaF ?kbaN ?kbah ?kbal ?kbai ?kbar ?kban ?_; (case kbaF => k_asm); (case kbaN => k_asm); (case kbah => rfl); (case kbal => k_mem); (case kbai => kba_listInts); (case kbar => kba_in); (case kban => kby_size)); intro _ _ _ F' N'; (try k_sweep)))
local macro_rules | `(tactic| walk_at "call type:bytes") => `(tactic| (k_here; with_reducible refine r_bytes_bytes ?_))
local macro_rules | `(tactic| walk_at "call type:bytes") => `(tactic| (k_here; (with_reducible show wpAny _ _ (call (Value.type "bytes") [Value.ref _]) _ _ _); (refine' r_bytes_ba ?rla ?rsz ?_; (case rla => exact News.get (by k_asm) (by k_mem)); (case rsz => kby_size); k_whole); intro _ _))
local macro_rules | `(tactic| cell_enter) => `(tactic| ((with_reducible show codeC _ _ _ _ _); refine' codeC_def ?k1 ?k2 ?k3 ?k4 ?k5 ?kA ?kF ?kK ?k6 ?k7 ?k8 ?k9 ?kB ?_ ?c2 ?c3 ?c4 ?c5; (case kA => exact rfl); (case kF => exact rfl); (case kK => assumption); (case k1 => k_asm); (case k2 => k_asm); (case k3 => k_asm); (case k4 => k_asm); (case k5 => k_asm); (case k6 => k_is); (case k7 => k_is); (case k8 => ktr_room); (case k9 => exact BindsTo.of_eq rfl); (case c5 => decide); (case kB => exact locs rfl); (case c2 => exact rfl); (case c3 => exact rfl); (case c4 => exact rfl); k_whole; intro g' L' h' FG' F' N' B' X' T' l1 kp1; (try dsimp only); (try k_lift B'); (try k_lt l1); (try k_fold)))
local macro_rules | `(tactic| walk_at "binaryOp LShift int int") => `(tactic| (k_here; with_reducible refine lshift_int_small ?_ ?_ (byte_small _ _) ?_; side_arith; side_arith))
local macro_rules | `(tactic| walk_at "WhlIf") => `(tactic| (k_here; first | (refine WhlIf.yes (by simp only [p3x, decide_eq_true_eq]; omega) ?_) | (refine WhlIf.no (by simp only [p3x, decide_eq_false_iff_not]; omega) ?_)))
local macro_rules | `(tactic| walk_at "binaryOp FloorDiv int int") => `(tactic| (k_here; (with_reducible refine floordiv_int ?kbe ?_ (Or.inl (PyProof.noPylong_small ?kbp))); (case kbe => exact p3_ne _); (case kbp => exact p3_small (by omega))))
local macro_rules | `(tactic| walk_at "compareOp Gt ref ref") => `(tactic| (k_here; (with_reducible show wpAny _ _ (compareOp CmpOp.Gt (Value.ref _) (Value.ref _)) _ _ _); k_dflt (refine' r_tup_gt ?tga ?tgb ?tgc ?tgd ?tge ?tgf ?tgu ?_; (case tga => exact News.get (by k_asm) (by k_mem)); (case tgb => exact News.get (by k_asm) (by k_mem)); (case tgc => rfl); (case tgd => rfl); (case tge => rfl); (case tgf => rfl); (case tgu => ktr_units); k_whole)))
local macro_rules | `(tactic| walk_at "getMethod ref") => `(tactic| (k_here; k_dflt (refine' ba_get_append ?gmN ?gmM ?_; (case gmN => k_asm); (case gmM => k_mem); k_whole)))
local macro_rules | `(tactic| walk_at "getMethod ref") => `(tactic| (k_here; k_dflt (refine' ba_get_extend ?gmN ?gmM ?_; (case gmN => k_asm); (case gmM => k_mem); k_whole)))

section
variable {w : World} {mg mb : Str → Option Value} {mean : ExcName → Option Value} {dp un : Nat} {gd : Option (List Code)} {cn : Str} {cs : Scope} {a : Addr} {ccd : Value} {cl : List (Str × Addr)} {outer : List Env} {A₀ : Around} {base h₀ : Heap} {L : Addr} {m : Str → Option Value} {news : List (Addr × Obj)} {s : Shared} {Q E : Value → Shared → Prop}
theorem c_draw (B : Below A₀ base outer h₀) (F : Fr h₀ L s.heap m) (X : (hd.heap_1 w.params).In h₀) (N : News h₀ L s.heap news) (T : Top vw (looseW vw []) mean mg mb h₀) (hk : cs.kind = .function) (hdp : dp + 5 < recursionLimit) (hun : un + 40 < cLine) {l : Addr} {vs : List Value} {ns : List Int} {ep : Nat} {i : Int} {ti : Tok} (hl : (l, W.listOf vs.toArray ep) ∈ news) (hi : IntsAre vs ns) (h1 : 0 < ns.length) (h2 : ns.length < 100) (hb : ∀ n ∈ ns, 0 ≤ n ∧ n < 1000000) (hi0 : 0 ≤ i) (hi2 : i < 100)
  (hret : ∀ (r : Int) (t : Tok) (h' : Heap) (tk' : Nat), 0 ≤ r → r < 10000000 → Fr h₀ L h' m → News h₀ L h' news → Q (.int r t) { s with heap := h', toks := tk' }) :
  wpAny (model PySem.Challenge.rw_no0404_01.prog w) (ktrTop dp un gd cn cs L a ccd cl outer) (call (.ref 342) [.ref l, .int i ti]) Q E s := by
  have N1 : News h₀ L s.heap ((l, W.listOf vs.toArray ep) :: news) := fun p hp => (List.mem_cons.mp hp).elim (fun e => e ▸ N _ hl) (N p); clear N
  revert X; k_fill; intro X
  refine wpAny_call ?_
  k_dflt cell_enter
  k_steps
  refine hret _ _ _ _ ?_ ?_ (by assumption) ?_
  · have := draw_bound (hb := hb) ((i.fmod ns.length).toNat)
    have := fd100 (n := ns.length) hi0 hi2 h1
    omega
  · have := draw_bound (hb := hb) ((i.fmod ns.length).toNat)
    have := fd100 (n := ns.length) hi0 hi2 h1
    omega
  · first | assumption | exact cb_drop (by assumption) (by k_sub)
theorem c_word (B : Below A₀ base outer h₀) (F : Fr h₀ L s.heap m) (X : (hd.heap_1 w.params).In h₀) (N : News h₀ L s.heap news) (T : Top vw (looseW vw []) mean mg mb h₀) (hk : cs.kind = .function) (hdp : dp + 5 < recursionLimit) (hun : un + 40 < cLine) {u : Int} {tu : Tok} (h0 : 0 ≤ u) (h2 : u < 40)
  (hret : ∀ (r : List UInt8) (t : Tok) (h' : Heap) (tk' : Nat), r.length ≤ 3 → Fr h₀ L h' m → News h₀ L h' news → Q (.bytes r.toArray t) { s with heap := h', toks := tk' }) :
  wpAny (model PySem.Challenge.rw_no0404_01.prog w) (ktrTop dp un gd cn cs L a ccd cl outer) (call (.ref 347) [.int u tu]) Q E s := by
  have hu : u < 1 ∨ (1 ≤ u ∧ u < 4) ∨ (4 ≤ u ∧ u < 13) ∨ 13 ≤ u := by omega
  rcases hu with hu | ⟨hu, hu'⟩ | ⟨hu, hu'⟩ | hu
  · revert X; k_fill; intro X
    refine wpAny_call ?_
    k_dflt (refine' code_defC ?k1 ?k2 ?k3 ?k4 ?k5 ?kA ?kF ?kK ?k6 ?k7 ?k8 ?k9 ?kB ?kD ?_ ?c2 ?c3 ?c4; (case kA => exact rfl); (case kF => exact rfl); (case kK => assumption); (case k1 => k_asm); (case k2 => k_asm); (case k3 => k_asm); (case k4 => k_asm); (case k5 => k_asm); (case k6 => k_is); (case k7 => k_is); (case k8 => ktr_room); (case k9 => first | exact BindsTo.of_eq rfl | exact binds_K (by k_in) rfl (by k_is) rfl rfl rfl | fail "k_enter: no rule for these arguments"); (case kB => exact rfl); (case kD => decide +kernel); (case c2 => exact rfl); (case c3 => exact rfl); (case c4 => exact rfl); k_whole; intro g' L' h' tk' cells' FG' F' N' Y' B' X' T' l1; (try k_lt l1); k_cells Y'; (try simp only [List.cons_append, List.nil_append] at N'); (try dsimp only); (try k_lift B'); (try k_fold))
    have l1x : AllLt (L' + 1) news := allLt_of (fun p hp => Nat.lt_succ_of_lt (l1 p hp))
    k_steps
    refine retW hret ?_ (by assumption) ?_
    · simp only [byteArr, List.size_toArray, Array.size, List.length_map, rangeKs_length]; decide
    · first | assumption | exact cb_drop (by assumption) (by k_sub)
  · revert X; k_fill; intro X
    refine wpAny_call ?_
    k_dflt (refine' code_defC ?k1 ?k2 ?k3 ?k4 ?k5 ?kA ?kF ?kK ?k6 ?k7 ?k8 ?k9 ?kB ?kD ?_ ?c2 ?c3 ?c4; (case kA => exact rfl); (case kF => exact rfl); (case kK => assumption); (case k1 => k_asm); (case k2 => k_asm); (case k3 => k_asm); (case k4 => k_asm); (case k5 => k_asm); (case k6 => k_is); (case k7 => k_is); (case k8 => ktr_room); (case k9 => first | exact BindsTo.of_eq rfl | exact binds_K (by k_in) rfl (by k_is) rfl rfl rfl | fail "k_enter: no rule for these arguments"); (case kB => exact rfl); (case kD => decide +kernel); (case c2 => exact rfl); (case c3 => exact rfl); (case c4 => exact rfl); k_whole; intro g' L' h' tk' cells' FG' F' N' Y' B' X' T' l1; (try k_lt l1); k_cells Y'; (try simp only [List.cons_append, List.nil_append] at N'); (try dsimp only); (try k_lift B'); (try k_fold))
    have l1x : AllLt (L' + 1) news := allLt_of (fun p hp => Nat.lt_succ_of_lt (l1 p hp))
    k_steps
    refine retW hret ?_ (by assumption) ?_
    · simp only [byteArr, List.size_toArray, Array.size, List.length_map, rangeKs_length]; decide
    · first | assumption | exact cb_drop (by assumption) (by k_sub)
  · revert X; k_fill; intro X
    refine wpAny_call ?_
    k_dflt (refine' code_defC ?k1 ?k2 ?k3 ?k4 ?k5 ?kA ?kF ?kK ?k6 ?k7 ?k8 ?k9 ?kB ?kD ?_ ?c2 ?c3 ?c4; (case kA => exact rfl); (case kF => exact rfl); (case kK => assumption); (case k1 => k_asm); (case k2 => k_asm); (case k3 => k_asm); (case k4 => k_asm); (case k5 => k_asm); (case k6 => k_is); (case k7 => k_is); (case k8 => ktr_room); (case k9 => first | exact BindsTo.of_eq rfl | exact binds_K (by k_in) rfl (by k_is) rfl rfl rfl | fail "k_enter: no rule for these arguments"); (case kB => exact rfl); (case kD => decide +kernel); (case c2 => exact rfl); (case c3 => exact rfl); (case c4 => exact rfl); k_whole; intro g' L' h' tk' cells' FG' F' N' Y' B' X' T' l1; (try k_lt l1); k_cells Y'; (try simp only [List.cons_append, List.nil_append] at N'); (try dsimp only); (try k_lift B'); (try k_fold))
    have l1x : AllLt (L' + 1) news := allLt_of (fun p hp => Nat.lt_succ_of_lt (l1 p hp))
    k_steps
    refine retW hret ?_ (by assumption) ?_
    · simp only [byteArr, List.size_toArray, Array.size, List.length_map, rangeKs_length]; decide
    · first | assumption | exact cb_drop (by assumption) (by k_sub)
  · revert X; k_fill; intro X
    refine wpAny_call ?_
    k_dflt (refine' code_defC ?k1 ?k2 ?k3 ?k4 ?k5 ?kA ?kF ?kK ?k6 ?k7 ?k8 ?k9 ?kB ?kD ?_ ?c2 ?c3 ?c4; (case kA => exact rfl); (case kF => exact rfl); (case kK => assumption); (case k1 => k_asm); (case k2 => k_asm); (case k3 => k_asm); (case k4 => k_asm); (case k5 => k_asm); (case k6 => k_is); (case k7 => k_is); (case k8 => ktr_room); (case k9 => first | exact BindsTo.of_eq rfl | exact binds_K (by k_in) rfl (by k_is) rfl rfl rfl | fail "k_enter: no rule for these arguments"); (case kB => exact rfl); (case kD => decide +kernel); (case c2 => exact rfl); (case c3 => exact rfl); (case c4 => exact rfl); k_whole; intro g' L' h' tk' cells' FG' F' N' Y' B' X' T' l1; (try k_lt l1); k_cells Y'; (try simp only [List.cons_append, List.nil_append] at N'); (try dsimp only); (try k_lift B'); (try k_fold))
    have l1x : AllLt (L' + 1) news := allLt_of (fun p hp => Nat.lt_succ_of_lt (l1 p hp))
    k_steps
    refine retW hret ?_ (by assumption) ?_
    · simp only [byteArr, List.size_toArray, Array.size, List.length_map, rangeKs_length]; decide
    · first | assumption | exact cb_drop (by assumption) (by k_sub)
theorem c_var (B : Below A₀ base outer h₀) (F : Fr h₀ L s.heap m) (X : (hd.heap_1 w.params).In h₀) (N : News h₀ L s.heap news) (T : Top vw (looseW vw []) mean mg mb h₀) (hk : cs.kind = .function) (hdp : dp + 5 < recursionLimit) (hun : un + 40 < cLine) {i : Int} {ti : Tok} (hi : 0 ≤ i) (h2 : i < 16384)
  (hret : ∀ (t : Tok) (h' : Heap) (tk' : Nat), Fr h₀ L h' m → News h₀ L h' news → Q (.bytes (var i).toArray t) { s with heap := h', toks := tk' }) :
  wpAny (model PySem.Challenge.rw_no0404_01.prog w) (ktrTop dp un gd cn cs L a ccd cl outer) (call (.ref 354) [.int i ti]) Q E s := by
  revert X; k_fill; intro X
  refine wpAny_call ?_
  k_dflt cell_enter
  k_steps
  all_goals (refine retB hret ?_ ?_ ?_ <;> try (first | assumption | exact cb_drop (by assumption) (by k_sub)))
  · rw [var, if_pos (by omega)]
  · rw [var, if_neg (by omega), fd_pos _ (show (0 : Int) ≤ 128 by decide), fm_pos _ (show (0 : Int) ≤ 128 by decide)]
theorem c_pf32 (B : Below A₀ base outer h₀) (F : Fr h₀ L s.heap m) (X : (hd.heap_1 w.params).In h₀) (N : News h₀ L s.heap news) (T : Top vw (looseW vw []) mean mg mb h₀) (hk : cs.kind = .function) (hdp : dp + 5 < recursionLimit) (hun : un + 40 < cLine) {i : Int} {ti : Tok} (hi : 0 ≤ i) (h2 : i < 65536)
  (hret : ∀ (t : Tok) (h' : Heap) (tk' : Nat), Fr h₀ L h' m → News h₀ L h' news → Q (.bytes (fix i).toArray t) { s with heap := h', toks := tk' }) :
  wpAny (model PySem.Challenge.rw_no0404_01.prog w) (ktrTop dp un gd cn cs L a ccd cl outer) (call (.ref 115) [.int i ti]) Q E s := by
  revert X; k_fill; intro X
  refine wpAny_call ?_
  k_dflt cell_enter
  k_steps
  refine retB hret ?_ ?_ ?_ <;> try (first | assumption | exact cb_drop (by assumption) (by k_sub))
  rw [fix]
  simp only [bitAnd_m8, show (2 : Int) ^ Int.toNat 8 = 256 from by decide, show (2 : Int) ^ Int.toNat 16 = 65536 from by decide, show (2 : Int) ^ Int.toNat 24 = 16777216 from by decide, fd_pos _ (show (0 : Int) ≤ 256 by decide), fd_pos _ (show (0 : Int) ≤ 65536 by decide), fd_pos _ (show (0 : Int) ≤ 16777216 by decide), fm_pos _ (show (0 : Int) ≤ 256 by decide)]
  rw [show i / 256 % 256 = i / 256 by omega, show i / 65536 % 256 = 0 by omega, show i / 16777216 = 0 by omega]
theorem c_rf32 (B : Below A₀ base outer h₀) (F : Fr h₀ L s.heap m) (X : (hd.heap_1 w.params).In h₀) (N : News h₀ L s.heap news) (T : Top vw (looseW vw []) mean mg mb h₀) (hk : cs.kind = .function) (hdp : dp + 5 < recursionLimit) (hun : un + 40 < cLine) {x : List UInt8} {tx : Tok} {i : Int} {ti : Tok} (hi : 0 ≤ i) (h2 : i + 4 ≤ x.length) (h3 : x.length < 100000)
  (hret : ∀ (t : Tok) (h' : Heap) (tk' : Nat), Fr h₀ L h' m → News h₀ L h' news → Q (.int (rf x i) t) { s with heap := h', toks := tk' }) :
  wpAny (model PySem.Challenge.rw_no0404_01.prog w) (ktrTop dp un gd cn cs L a ccd cl outer) (call (.ref 122) [.bytes x.toArray tx, .int i ti]) Q E s := by
  revert X; k_fill; intro X
  refine wpAny_call ?_
  k_dflt cell_enter
  k_steps
  exact hret _ _ _ (by assumption) (by assumption)
theorem c_user (B : Below A₀ base outer h₀) (F : Fr h₀ L s.heap m) (X : (hd.heap_1 w.params).In h₀) (N : News h₀ L s.heap news) (T : Top vw (looseW vw []) mean mg mb h₀) (hk : cs.kind = .function) (hdp : dp + 5 < recursionLimit) (hun : un + 40 < cLine) {x : List UInt8} {tx : Tok} (h2 : 8 ≤ x.length) (h3 : x.length < 100000)
  (hret : ∀ (t : Tok) (h' : Heap) (tk' : Nat), Fr h₀ L h' m → News h₀ L h' news → Q (.bytes (uk x).toArray t) { s with heap := h', toks := tk' }) :
  wpAny (model PySem.Challenge.rw_no0404_01.prog w) (ktrTop dp un gd cn cs L a ccd cl outer) (call (.ref 199) [.bytes x.toArray tx]) Q E s := by
  revert X; k_fill; intro X
  refine wpAny_call ?_
  k_dflt cell_enter
  k_steps
  refine retB hret ?_ ?_ ?_ <;> try (first | assumption | exact cb_drop (by assumption) (by k_sub))
  rw [uk, show ((x.length : Int) - 8).toNat = x.length - 8 by omega]
theorem c_sp (B : Below A₀ base outer h₀) (F : Fr h₀ L s.heap m) (X : (hd.heap_1 w.params).In h₀) (N : News h₀ L s.heap news) (T : Top vw (looseW vw []) mean mg mb h₀) (hk : cs.kind = .function) (hdp : dp + 5 < recursionLimit) (hun : un + 40 < cLine) {x y : List UInt8} {tx ty : Tok} (h2 : y.length < 1000) (h3 : x.length < 1000)
  (hret : ∀ (t : Tok) (h' : Heap) (tk' : Nat), Fr h₀ L h' m → News h₀ L h' news → Q (.int (cpl x y) t) { s with heap := h', toks := tk' }) :
  wpAny (model PySem.Challenge.rw_no0404_01.prog w) (ktrTop dp un gd cn cs L a ccd cl outer) (call (.ref 136) [.bytes x.toArray tx, .bytes y.toArray ty]) Q E s := by
  revert X; k_fill; intro X
  refine wpAny_call ?_
  k_dflt cell_enter
  k_steps
  all_goals (refine retI hret ?_ ?_ ?_ <;> try (first | assumption | exact cb_drop (by assumption) (by k_sub)))
  · exact cpl_walk (M := (y.length : Int)) (by omega) (by assumption) (by assumption) (by assumption) (by assumption)
  · exact cpl_walk (M := (x.length : Int)) (by omega) (by assumption) (by assumption) (by assumption) (by assumption)
theorem c_cmp (B : Below A₀ base outer h₀) (F : Fr h₀ L s.heap m) (X : (hd.heap_1 w.params).In h₀) (N : News h₀ L s.heap news) (T : Top vw (looseW vw []) mean mg mb h₀) (hk : cs.kind = .function) (hdp : dp + 5 < recursionLimit) (hun : un + 40 < cLine) {x y : List UInt8} {tx ty : Tok} {o : Addr}
  (hret : ∀ (t : Tok) (h' : Heap) (tk' : Nat), Fr h₀ L h' m → News h₀ L h' news → Q (.int (cmpB x y) t) { s with heap := h', toks := tk' }) :
  wpAny (model PySem.Challenge.rw_no0404_01.prog w) (ktrTop dp un gd cn cs L a ccd cl outer) (call (.ref 220) [.ref o, .bytes x.toArray tx, .bytes y.toArray ty]) Q E s := by
  revert X; k_fill; intro X
  refine wpAny_call ?_
  k_dflt cell_enter
  k_steps
  · refine retI hret ?_ ?_ ?_ <;> try (first | assumption | exact cb_drop (by assumption) (by k_sub))
    rw [cmpB, if_pos ‹_›]
  · refine retI hret ?_ ?_ ?_ <;> try (first | assumption | exact cb_drop (by assumption) (by k_sub))
    rw [cmpB, if_neg (by simp_all), if_pos (by simp_all)]
  · refine retI hret ?_ ?_ ?_ <;> try (first | assumption | exact cb_drop (by assumption) (by k_sub))
    rw [cmpB, if_neg (by simp_all), if_neg (by simp_all)]
theorem c_rises (B : Below A₀ base outer h₀) (F : Fr h₀ L s.heap m) (X : (hd.heap_1 w.params).In h₀) (N : News h₀ L s.heap news) (T : Top vw (looseW vw []) mean mg mb h₀) (hk : cs.kind = .function) (hdp : dp + 5 < recursionLimit) (hun : un + 40 < cLine) {x y : List UInt8} {tx ty : Tok} {b : Bool} (hx : x.length < 1000) (hy : y.length < 1000) (hb : b = true → 8 ≤ x.length ∧ 8 ≤ y.length)
  (hret : ∀ (h' : Heap) (tk' : Nat), Fr h₀ L h' m → News h₀ L h' news → Q (.bool (rises b x y)) { s with heap := h', toks := tk' }) :
  wpAny (model PySem.Challenge.rw_no0404_01.prog w) (ktrTop dp un gd cn cs L a ccd cl outer) (call (.ref 366) [.bytes x.toArray tx, .bytes y.toArray ty, .bool b]) Q E s := by
  cases b
  · revert X; k_fill; intro X
    refine wpAny_call ?_
    k_dflt cell_enter
    k_steps
    exact retD hret rfl (by assumption) (by assumption)
  obtain ⟨hx8, hy8⟩ := hb rfl
  revert X; k_fill; intro X
  refine wpAny_call ?_
  k_dflt cell_enter
  k_steps
  · refine retD hret ?_ ?_ ?_ <;> try (first | assumption | exact cb_drop (by assumption) (by k_sub))
    rw [show ((x.length : Int) - 8).toNat = x.length - 8 by omega, show ((y.length : Int) - 8).toNat = y.length - 8 by omega] at *
    rw [show ((x.length : Int) - 8 + 1).toNat = x.length - 8 + 1 by omega, show ((y.length : Int) - 8 + 1).toNat = y.length - 8 + 1 by omega]
    exact rises_same ‹_›
  · refine retD hret ?_ ?_ ?_ <;> try (first | assumption | exact cb_drop (by assumption) (by k_sub))
    rw [show ((x.length : Int) - 8).toNat = x.length - 8 by omega, show ((y.length : Int) - 8).toNat = y.length - 8 by omega] at *
    exact rises_other ‹_›
theorem c_empty (B : Below A₀ base outer h₀) (F : Fr h₀ L s.heap m) (X : (hd.heap_1 w.params).In h₀) (N : News h₀ L s.heap news) (T : Top vw (looseW vw []) mean mg mb h₀) (hk : cs.kind = .function) (hdp : dp + 5 < recursionLimit) (hun : un + 40 < cLine) {x o : Addr} {iv sn en : Int} {body lk : List UInt8} {ps : List Int} {fin : Bool} {rest : List (Addr × Obj)} (H : Has w h₀ L s.heap x iv o body ps sn en fin lk rest)
  (hret : ∀ (h' : Heap) (tk' : Nat), Fr h₀ L h' m → Has w h₀ L h' x iv o body ps sn en fin lk rest → Q (.bool (decide (en = 0))) { s with heap := h', toks := tk' }) :
  wpAny (model PySem.Challenge.rw_no0404_01.prog w) (ktrTop dp un gd cn cs L a ccd cl outer) (call (.ref 164) [.ref x]) Q E s := by
  clear N
  refine Has.elim H ?_; clear H; intro dx bf rl k1 k2 k3 k4 k5 k6 k7 k8 ti ts te tl ep vs N hvs off n1 n2 n3 n4 n5 n6
  revert X; k_fill; intro X
  refine wpAny_call ?_
  k_dflt cell_enter
  k_steps
  refine retD (fun h' tk' F N => hret h' tk' F ⟨dx, bf, rl, k1, k2, k3, k4, k5, k6, k7, k8, ti, ts, te, tl, ep, vs, N, hvs, off, n1, n2, n3, n4, n5, n6⟩) ?_ (by assumption) (by assumption)
  by_cases e : en = 0 <;> simp [e]
theorem c_estimate (B : Below A₀ base outer h₀) (F : Fr h₀ L s.heap m) (X : (hd.heap_1 w.params).In h₀) (N : News h₀ L s.heap news) (T : Top vw (looseW vw []) mean mg mb h₀) (hk : cs.kind = .function) (hdp : dp + 5 < recursionLimit) (hun : un + 40 < cLine) {x o : Addr} {iv sn en : Int} {body lk : List UInt8} {ps : List Int} {fin : Bool} {rest : List (Addr × Obj)} (H : Has w h₀ L s.heap x iv o body ps sn en fin lk rest) (hz : body.length < 10000) (hp : ps.length < 100)
  (hret : ∀ (t : Tok) (h' : Heap) (tk' : Nat), Fr h₀ L h' m → Has w h₀ L h' x iv o body ps sn en fin lk rest → Q (.int (body.length + 4 * ps.length + 4) t) { s with heap := h', toks := tk' }) :
  wpAny (model PySem.Challenge.rw_no0404_01.prog w) (ktrTop dp un gd cn cs L a ccd cl outer) (call (.ref 171) [.ref x]) Q E s := by
  clear N
  refine Has.elim H ?_; clear H; intro dx bf rl k1 k2 k3 k4 k5 k6 k7 k8 ti ts te tl ep vs N hvs off n1 n2 n3 n4 n5 n6
  have hlen := hvs.length
  revert X; k_fill; intro X
  refine wpAny_call ?_
  k_dflt cell_enter
  k_steps
  refine retI (fun t h' tk' F N => hret t h' tk' F ⟨dx, bf, rl, k1, k2, k3, k4, k5, k6, k7, k8, ti, ts, te, tl, ep, vs, N, hvs, off, n1, n2, n3, n4, n5, n6⟩) rfl (by assumption) (by assumption)

end

section
variable {w : World} {mg mb : Str → Option Value} {mean : ExcName → Option Value} {dp un : Nat} {gd : Option (List Code)} {cn : Str} {cs : Scope} {a : Addr} {ccd : Value} {cl : List (Str × Addr)} {outer : List Env} {A₀ : Around} {base h₀ : Heap} {L : Addr} {m : Str → Option Value} {news : List (Addr × Obj)} {s : Shared} {Q E : Value → Shared → Prop}
theorem c_make (B : Below A₀ base outer h₀) (F : Fr h₀ L s.heap m) (X : (hd.heap_1 w.params).In h₀) (N : News h₀ L s.heap news) (T : Top vw (looseW vw []) mean mg mb h₀) (hk : cs.kind = .function) (hdp : dp + 20 < recursionLimit) (hun : un + 150 < cLine) {iv : Int} {ti : Tok} {o : Addr} (hiv : 1 ≤ iv) (hret : ∀ (x : Addr) (h' : Heap) (tk' : Nat), Fr h₀ L h' m → Has w h₀ L h' x iv o [] [0] 0 0 false [] news → Q (.ref x) { s with heap := h', toks := tk' }) :
    wpC (model PySem.Challenge.rw_no0404_01.prog w) (ktrTop dp un gd cn cs L a ccd cl outer) (call (.ref 188) [.int iv ti, .ref o]) Q E s := by
  revert X; k_fill; intro X
  refine wpC_call (codeC_make F N (X.keeps F.keep) (by k_dflt k_is) (by k_dflt k_is) (by k_dflt k_is) ?_)
  intro x dx h1 F1 N1 l0 l2
  clear F N; replace l2 := ltN l2; have l0x : AllLt x news := allLt_of (fun p hp => Nat.lt_trans (l0 p hp) l2); replace l0 := allLt_of l0
  k_dflt cell_enter
  iterate 3 (refine aExecs_cons ?_; k_steps)
  refine wpC_execs_cons (wpC_Assign_Attribute (wpC_CallName ?_)); k_steps
  (with_reducible rename Fr _ _ _ _ => Fx); (with_reducible rename News _ _ _ _ => Nx); refine wpC_with0 keeps_type trivial (c_ba0 Fx Nx ?_); clear Fx Nx; intro b h2 F2 N2 l3; k_lt l3
  k_steps
  iterate 5 (refine aExecs_cons ?_; k_steps)
  (with_reducible rename Fr _ _ _ _ => Fx); (with_reducible rename News _ _ _ _ => Nx)
  refine wpC_execs_nil (leaveK_ Fx Nx ?_)
  intro Fz Nz
  refine ⟨rfl, hret _ _ _ Fz ?_⟩
  refine has_of (dx := dx) (bf := b) (l := _) Nz (by k_mem) (by k_mem) (by k_mem) (by k_mem) (fun p hp => .tail _ (.tail _ (.tail _ (.tail _ hp)))) (.cons _ _ .nil) (ownOff4 (by k_all) (by k_all) (by k_all) (by k_all)) ?_ ?_ ?_ ?_ ?_ ?_
  all_goals omega

end

section
variable {w : World} {mg mb : Str → Option Value} {mean : ExcName → Option Value} {dp un : Nat} {gd : Option (List Code)} {cn : Str} {cs : Scope} {a : Addr} {ccd : Value} {cl : List (Str × Addr)} {outer : List Env} {A₀ : Around} {base h₀ : Heap} {L : Addr} {m : Str → Option Value} {news : List (Addr × Obj)} {s : Shared} {Q E : Value → Shared → Prop}
theorem c_reset (B : Below A₀ base outer h₀) (F : Fr h₀ L s.heap m) (X : (hd.heap_1 w.params).In h₀) (N : News h₀ L s.heap news) (T : Top vw (looseW vw []) mean mg mb h₀) (hk : cs.kind = .function) (hdp : dp + 20 < recursionLimit) (hun : un + 150 < cLine) {x o : Addr} {iv sn en : Int} {body lk : List UInt8} {ps : List Int} {fin : Bool} {rest : List (Addr × Obj)} (H : Has w h₀ L s.heap x iv o body ps sn en fin lk rest)
    (hret : ∀ (h' : Heap) (tk' : Nat), Fr h₀ L h' m → Has w h₀ L h' x iv o [] [0] 0 0 false [] rest → Q .none { s with heap := h', toks := tk' }) :
    wpC (model PySem.Challenge.rw_no0404_01.prog w) (ktrTop dp un gd cn cs L a ccd cl outer) (call (.ref 157) [.ref x]) Q E s := by
  revert X; k_fill; intro X; clear N
  refine Has.elim H ?_; clear H; intro dx bf rl k1 k2 k3 k4 k5 k6 k7 k8 ti ts te tl ep vs N hvs off n1 n2 n3 n4 n5 n6
  refine wpC_call ?_
  k_dflt cell_enter
  clear F N
  refine wpC_execs_cons (wpC_Assign_Attribute (wpC_CallName ?_)); k_steps
  (with_reducible rename Fr _ _ _ _ => Fx); (with_reducible rename News _ _ _ _ => Nx); refine wpC_with0 keeps_type trivial (c_ba0 Fx Nx ?_); clear Fx Nx; intro b h2 F2 N2 l3; k_lt l3
  k_steps
  iterate 5 (refine aExecs_cons ?_; k_steps)
  (with_reducible rename Fr _ _ _ _ => Fx); (with_reducible rename News _ _ _ _ => Nx)
  refine wpC_execs_nil (leaveK_ Fx Nx ?_)
  intro Fz Nz
  refine hret _ _ Fz ?_
  refine has_of (dx := dx) (bf := b) (l := _) Nz (by k_mem) (by k_mem) (by k_mem) (by k_mem) (fun p hp => .tail _ (.tail _ (.tail _ (.tail _ (.tail _ (.tail _ hp)))))) (.cons _ _ .nil) (ownOff4 (by k_all) (by k_all) (by k_all) (by k_all)) ?_ ?_ ?_ ?_ ?_ ?_
  all_goals omega

end

section
variable {w : World} {mg mb : Str → Option Value} {mean : ExcName → Option Value} {dp un : Nat} {gd : Option (List Code)} {cn : Str} {cs : Scope} {a : Addr} {ccd : Value} {cl : List (Str × Addr)} {outer : List Env} {A₀ : Around} {base h₀ : Heap} {L : Addr} {m : Str → Option Value} {news : List (Addr × Obj)} {s : Shared} {Q E : Value → Shared → Prop}
theorem Ord.mono {b : Bool} {o : Addr} {l l' : List (Addr × Obj)} (h : Ord w b o l) (hs : ∀ p ∈ l, p ∈ l') : Ord w b o l' := by
  cases b
  · obtain ⟨d, h1, h2⟩ := h
    exact ⟨d, hs _ h1, hs _ h2⟩
  · obtain ⟨d, u, du, k, h1, h2, h3, h4⟩ := h
    exact ⟨d, u, du, k, hs _ h1, hs _ h2, hs _ h3, hs _ h4⟩
theorem g_cmp0 {A : Around} {pl : Sem Bool} {o : Addr} {QQ : Value × List Value → Shared → Prop} (F : Fr h₀ L s.heap m) (X : (hd.heap_1 w.params).In h₀) (N : News h₀ L s.heap news) (T : Top vw (looseW vw []) mean mg mb h₀) (O : Ord w false o news)
  (hq : QQ (.ref 220, [.ref o]) s) : wpAny (model PySem.Challenge.rw_no0404_01.prog w) A (getMethod (.ref o) (Str.ofString "compare") pl) QQ E s := by
  obtain ⟨d, o1, o2⟩ := O
  have N1 : News h₀ L s.heap ((o, instObj 279 d) :: (d, emptyDict) :: news) := by
    intro p hp
    simp only [List.mem_cons] at hp
    rcases hp with rfl | rfl | hp
    · exact N _ o1
    · exact N _ o2
    · exact N _ hp
  clear N
  revert X; k_fill; intro X
  k_steps
  exact hq
theorem g_cmp1 {A : Around} {pl : Sem Bool} {o : Addr} {QQ : Value × List Value → Shared → Prop} (F : Fr h₀ L s.heap m) (X : (hd.heap_1 w.params).In h₀) (N : News h₀ L s.heap news) (T : Top vw (looseW vw []) mean mg mb h₀) (O : Ord w true o news)
  (hq : QQ (.ref 302, [.ref o]) s) : wpAny (model PySem.Challenge.rw_no0404_01.prog w) A (getMethod (.ref o) (Str.ofString "compare") pl) QQ E s := by
  obtain ⟨d, u, du, k, o1, o2, o3, o4⟩ := O
  have N1 : News h₀ L s.heap ((o, instObj 333 d) :: (d, dictOf [⟨PyData.keyHash w.params (Str.ofString "user_order"), .str (Str.ofString "user_order") k, .ref u⟩] 1) :: (u, instObj 279 du) :: (du, emptyDict) :: news) := by
    intro p hp
    simp only [List.mem_cons] at hp
    rcases hp with rfl | rfl | rfl | rfl | hp
    · exact N _ o1
    · exact N _ o2
    · exact N _ o3
    · exact N _ o4
    · exact N _ hp
  clear N
  revert X; k_fill; intro X
  k_steps
  exact hq


end

local macro_rules | `(tactic| walk_at "call ref") => `(tactic| (k_here; (with_reducible show wpAny _ _ (call (Value.ref 122) _) _ _ _); k_dflt (refine c_rf32 (by k_asm) (by k_asm) (by k_asm) (by k_asm) (by k_asm) (by first | rfl | assumption) (by ktr_room) (by ktr_units) (by omega) (by omega) (by assumption) ?_; k_whole); intro t' h' tk' F' N'; (try k_sweep)))
local macro_rules | `(tactic| walk_at "call ref") => `(tactic| (k_here; (with_reducible show wpAny _ _ (call (Value.ref 354) _) _ _ _); k_dflt (refine c_var (by k_asm) (by k_asm) (by k_asm) (by k_asm) (by k_asm) (by first | rfl | assumption) (by ktr_room) (by ktr_units) (by omega) (by omega) ?_; k_whole); intro t' h' tk' F' N'; (try k_sweep)))
local macro_rules | `(tactic| walk_at "call ref") => `(tactic| (k_here; (with_reducible show wpAny _ _ (call (Value.ref 199) _) _ _ _); k_dflt (refine c_user (by k_asm) (by k_asm) (by k_asm) (by k_asm) (by k_asm) (by first | rfl | assumption) (by ktr_room) (by ktr_units) (by (first | omega | assumption | (simp only [List.length_take, List.length_drop, List.length_append] at *; omega))) (by (first | omega | assumption | (simp only [List.length_take, List.length_drop, List.length_append] at *; omega))) ?_; k_whole); intro t' h' tk' F' N'; (try k_sweep)))
local macro_rules | `(tactic| walk_at "call ref") => `(tactic| (k_here; (with_reducible show wpAny _ _ (call (Value.ref 220) _) _ _ _); k_dflt (refine c_cmp (by k_asm) (by k_asm) (by k_asm) (by k_asm) (by k_asm) (by first | rfl | assumption) (by ktr_room) (by ktr_units)  ?_; k_whole); intro t' h' tk' F' N'; (try k_sweep)))
local macro_rules | `(tactic| walk_at "call ref") => `(tactic| (k_here; (with_reducible show wpAny _ _ (call (Value.ref 136) _) _ _ _); k_dflt (refine c_sp (by k_asm) (by k_asm) (by k_asm) (by k_asm) (by k_asm) (by first | rfl | assumption) (by ktr_room) (by ktr_units) (by omega) (by omega) ?_; k_whole); intro t' h' tk' F' N'; (try k_sweep)))
local macro_rules | `(tactic| walk_at "call ref") => `(tactic| (k_here; (with_reducible show wpAny _ _ (call (Value.ref 115) _) _ _ _); k_dflt (refine c_pf32 (by k_asm) (by k_asm) (by k_asm) (by k_asm) (by k_asm) (by first | rfl | assumption) (by ktr_room) (by ktr_units) (by omega) (by omega) ?_; k_whole); intro t' h' tk' F' N'; (try k_sweep)))

section
variable {w : World} {mg mb : Str → Option Value} {mean : ExcName → Option Value} {dp un : Nat} {gd : Option (List Code)} {cn : Str} {cs : Scope} {a : Addr} {ccd : Value} {cl : List (Str × Addr)} {outer : List Env} {A₀ : Around} {base h₀ : Heap} {L : Addr} {m : Str → Option Value} {news : List (Addr × Obj)} {s : Shared} {Q E : Value → Shared → Prop}
theorem c_rf64 (B : Below A₀ base outer h₀) (F : Fr h₀ L s.heap m) (X : (hd.heap_1 w.params).In h₀) (N : News h₀ L s.heap news) (T : Top vw (looseW vw []) mean mg mb h₀) (hk : cs.kind = .function) (hdp : dp + 10 < recursionLimit) (hun : un + 80 < cLine) {x : List UInt8} {tx : Tok} {i : Int} {ti : Tok} (hz : rf x (i + 4) = 0) (hi : 0 ≤ i) (h2 : i + 8 ≤ x.length) (h3 : x.length < 100000)
  (hret : ∀ (t : Tok) (h' : Heap) (tk' : Nat), Fr h₀ L h' m → News h₀ L h' news → Q (.int (Builtin.bitOr (rf x i) (rf x (i + 4) * 2 ^ Int.toNat 32)) t) { s with heap := h', toks := tk' }) :
  wpAny (model PySem.Challenge.rw_no0404_01.prog w) (ktrTop dp un gd cn cs L a ccd cl outer) (call (.ref 129) [.bytes x.toArray tx, .int i ti]) Q E s := by
  revert X; k_fill; intro X
  refine wpAny_call ?_
  k_dflt cell_enter
  k_steps
  exact hret _ _ _ (by assumption) (by assumption)

end

local macro_rules | `(tactic| walk_at "call ref") => `(tactic| (k_here; (with_reducible show wpAny _ _ (call (Value.ref 129) _) _ _ _); k_dflt (refine c_rf64 (by k_asm) (by k_asm) (by k_asm) (by k_asm) (by k_asm) (by first | rfl | assumption) (by ktr_room) (by ktr_units) (by exact ik_hi (by assumption)) (by omega) (by omega) (by omega) ?_; k_whole); intro t' h' tk' F' N'; (try k_sweep)))

section
variable {w : World} {mg mb : Str → Option Value} {mean : ExcName → Option Value} {dp un : Nat} {gd : Option (List Code)} {cn : Str} {cs : Scope} {a : Addr} {ccd : Value} {cl : List (Str × Addr)} {outer : List Env} {A₀ : Around} {base h₀ : Heap} {L : Addr} {m : Str → Option Value} {news : List (Addr × Obj)} {s : Shared} {Q E : Value → Shared → Prop}
theorem c_tag (B : Below A₀ base outer h₀) (F : Fr h₀ L s.heap m) (X : (hd.heap_1 w.params).In h₀) (N : News h₀ L s.heap news) (T : Top vw (looseW vw []) mean mg mb h₀) (hk : cs.kind = .function) (hdp : dp + 15 < recursionLimit) (hun : un + 120 < cLine) {x : List UInt8} {tx : Tok} (hx : IK x) (h3 : x.length < 1000)
  (hret : ∀ (t : Tok) (h' : Heap) (tk' : Nat), Fr h₀ L h' m → News h₀ L h' news → Q (.int (tg x 0 + 256 * tg x 1) t) { s with heap := h', toks := tk' }) :
  wpAny (model PySem.Challenge.rw_no0404_01.prog w) (ktrTop dp un gd cn cs L a ccd cl outer) (call (.ref 206) [.bytes x.toArray tx]) Q E s := by
  have h8 := hx.1
  revert X; k_fill; intro X
  refine wpAny_call ?_
  k_dflt cell_enter
  k_steps
  refine retI hret ?_ ?_ ?_ <;> try (first | assumption | exact cb_drop (by assumption) (by k_sub))
  exact ik_64 hx

end

local macro_rules | `(tactic| walk_at "call ref") => `(tactic| (k_here; (with_reducible show wpAny _ _ (call (Value.ref 206) _) _ _ _); k_dflt (refine c_tag (by k_asm) (by k_asm) (by k_asm) (by k_asm) (by k_asm) (by first | rfl | assumption) (by ktr_room) (by ktr_units) (by assumption) (by assumption) ?_; k_whole); intro t' h' tk' F' N'; (try k_sweep)))

section
variable {w : World} {mg mb : Str → Option Value} {mean : ExcName → Option Value} {dp un : Nat} {gd : Option (List Code)} {cn : Str} {cs : Scope} {a : Addr} {ccd : Value} {cl : List (Str × Addr)} {outer : List Env} {A₀ : Around} {base h₀ : Heap} {L : Addr} {m : Str → Option Value} {news : List (Addr × Obj)} {s : Shared} {Q E : Value → Shared → Prop}
theorem c_icmp (B : Below A₀ base outer h₀) (F : Fr h₀ L s.heap m) (X : (hd.heap_1 w.params).In h₀) (N : News h₀ L s.heap news) (T : Top vw (looseW vw []) mean mg mb h₀) (hk : cs.kind = .function) (hdp : dp + 20 < recursionLimit) (hun : un + 160 < cLine) {x y : List UInt8} {tx ty : Tok} {o : Addr} (hx : IK x) (hy : IK y) (h3 : x.length < 1000) (h4 : y.length < 1000) (ho : Ord w true o news)
  (hret : ∀ (t : Tok) (h' : Heap) (tk' : Nat), Fr h₀ L h' m → News h₀ L h' news → Q (.int (cmpI x y) t) { s with heap := h', toks := tk' }) :
  wpAny (model PySem.Challenge.rw_no0404_01.prog w) (ktrTop dp un gd cn cs L a ccd cl outer) (call (.ref 302) [.ref o, .bytes x.toArray tx, .bytes y.toArray ty]) Q E s := by
  obtain ⟨d, u, du, k, o1, o2, o3, o4⟩ := ho
  have N1 : News h₀ L s.heap ((o, instObj 333 d) :: (d, dictOf [⟨PyData.keyHash w.params (Str.ofString "user_order"), .str (Str.ofString "user_order") k, .ref u⟩] 1) :: (u, instObj 279 du) :: (du, emptyDict) :: news) := by
    intro p hp
    simp only [List.mem_cons] at hp
    rcases hp with rfl | rfl | rfl | rfl | hp
    · exact N _ o1
    · exact N _ o2
    · exact N _ o3
    · exact N _ o4
    · exact N _ hp
  clear N
  have hx8 := hx.1
  have hy8 := hy.1
  revert X; k_fill; intro X
  refine wpAny_call ?_
  k_dflt cell_enter
  k_steps
  all_goals (refine retI hret ?_ ?_ ?_ <;> try (first | assumption | exact cb_drop (by assumption) (by k_sub)))
  all_goals (unfold cmpI; (repeat' split) <;> first | rfl | omega)

end

section
variable {w : World} {mg mb : Str → Option Value} {mean : ExcName → Option Value} {dp un : Nat} {gd : Option (List Code)} {cn : Str} {cs : Scope} {a : Addr} {ccd : Value} {cl : List (Str × Addr)} {outer : List Env} {A₀ : Around} {base h₀ : Heap} {L : Addr} {m : Str → Option Value} {news : List (Addr × Obj)} {s : Shared} {Q E : Value → Shared → Prop}
theorem bor128 {i : Int} (h0 : 0 ≤ i) : Builtin.bitOr (Builtin.bitAnd i 127) 128 = i % 128 + 128 := by
  rw [bitAnd_m7]
  have h : ∀ n : Nat, n < 128 → Builtin.bitOr (n : Int) 128 = (n : Int) + 128 := by decide
  have := h (i % 128).toNat (by omega)
  rw [show (((i % 128).toNat : Nat) : Int) = i % 128 by omega] at this
  exact this
theorem c_wg (B : Below A₀ base outer h₀) (F : Fr h₀ L s.heap m) (X : (hd.heap_1 w.params).In h₀) (N : News h₀ L s.heap news) (T : Top vw (looseW vw []) mean mg mb h₀) (hk : cs.kind = .function) (hdp : dp + 10 < recursionLimit) (hun : un + 80 < cLine) {i : Int} {ti tm : Tok} (hlo : 128 ≤ i) (h2 : i < 16384)
  (hret : ∀ (t : Tok) (h' : Heap) (tk' : Nat), Fr h₀ L h' m → News h₀ L h' news → Q (.bytes (var i).toArray t) { s with heap := h', toks := tk' }) :
  wpC (model PySem.Challenge.rw_no0404_01.prog w) (ktrTop dp un gd cn cs L a ccd cl outer) (call (.ref 101) [.int i ti, .int 4294967295 tm]) Q E s := by
  revert X; k_fill; intro X
  refine wpC_call ?_
  k_dflt cell_enter
  iterate 1 (refine aExecs_cons ?_; k_steps)
  refine wpC_execs_cons (wpC_Assign_Name (wpC_CallName ?_)); k_steps
  (with_reducible rename Fr _ _ _ _ => Fx); (with_reducible rename News _ _ _ _ => Nx); refine wpC_with0 keeps_type trivial (c_ba0 Fx Nx ?_); clear Fx Nx; intro b h2 F2 N2 l3; replace l3 := allLt_of l3
  replace N2 : News _ _ _ ((b, baObj ([] : List UInt8).toArray) :: news) := N2
  k_steps
  refine wpC_execs_cons (wpC_While (codeC_while_once (cOf ?_)))
  k_steps
  refine wpC_execs_cons (wpC_Expr (wpC_CallMeth ?_)); k_steps
  refine wpC_withA keeps_builtin ?_; k_steps
  have e1 := bor128 (i := i) (by omega)
  have hq : i.fdiv (2 ^ Int.toNat 7) < 128 := by
    simp only [show (2 : Int) ^ Int.toNat 7 = 128 from by decide, fd_pos _ (show (0 : Int) ≤ 128 by decide)]; omega
  (with_reducible rename Fr _ _ _ _ => Fx); (with_reducible rename News _ _ _ _ => Nx); refine c_append Fx Nx (by k_upd) ?_ ?_ ?_ ?_
  · rw [e1]; omega
  · rw [e1]; omega
  · decide
  clear Fx Nx; intro h9 F9 N9; dsimp only
  refine aExecs_cons ?_; k_steps
  refine wpC_execs_nil ?_; dsimp only
  refine codeC_while_once (cOf ?_); k_steps
  refine wpC_execs_nil ?_; dsimp only
  refine wpC_execs_cons (wpC_Expr (wpC_CallMeth ?_)); k_steps
  refine wpC_withA keeps_builtin ?_; k_steps
  (with_reducible rename Fr _ _ _ _ => Fx); (with_reducible rename News _ _ _ _ => Nx); refine c_append Fx Nx (by k_upd) ?_ ?_ ?_ ?_
  · simp only [show (2 : Int) ^ Int.toNat 7 = 128 from by decide, fd_pos _ (show (0 : Int) ≤ 128 by decide)]; omega
  · simp only [show (2 : Int) ^ Int.toNat 7 = 128 from by decide, fd_pos _ (show (0 : Int) ≤ 128 by decide)]; omega
  · simp
  clear Fx Nx; intro h8 F8 N8; dsimp only
  refine aExecs_cons ?_; k_steps
  refine retB hret ?_ ?_ ?_ <;> try (first | assumption | exact cb_drop (by assumption) (by k_sub))
  rw [e1, var, if_neg (by omega)]
  simp only [show (2 : Int) ^ Int.toNat 7 = 128 from by decide, fd_pos _ (show (0 : Int) ≤ 128 by decide)]
  rfl
theorem c_pv (B : Below A₀ base outer h₀) (F : Fr h₀ L s.heap m) (X : (hd.heap_1 w.params).In h₀) (N : News h₀ L s.heap news) (T : Top vw (looseW vw []) mean mg mb h₀) (hk : cs.kind = .function) (hdp : dp + 15 < recursionLimit) (hun : un + 120 < cLine) {i : Int} {ti : Tok} (hi : 0 ≤ i) (h2 : i < 16384)
  (hret : ∀ (t : Tok) (h' : Heap) (tk' : Nat), Fr h₀ L h' m → News h₀ L h' news → Q (.bytes (var i).toArray t) { s with heap := h', toks := tk' }) :
  wpC (model PySem.Challenge.rw_no0404_01.prog w) (ktrTop dp un gd cn cs L a ccd cl outer) (call (.ref 108) [.int i ti]) Q E s := by
  by_cases hlt : i < 128
  · refine cOf ?_
    revert X; k_fill; intro X
    refine wpAny_call ?_
    k_dflt cell_enter
    k_steps
    refine retB hret ?_ ?_ ?_ <;> try (first | assumption | exact cb_drop (by assumption) (by k_sub))
    rw [var, if_pos hlt]
  revert X; k_fill; intro X
  refine wpC_call ?_
  k_dflt cell_enter
  iterate 1 (refine aExecs_cons ?_; k_steps)
  refine wpC_execs_cons (wpC_Return_some (wpC_CallName ?_))
  k_steps
  refine wpC_withA (keeps_K (K := hd.heap_1 w.params) (by k_dflt k_is)) ?_
  k_steps
  k_dflt (refine' c_wg (tm := 298) ?qB ?qF ?qX ?qN ?qT ?qk ?qd ?qu ?qa0 ?qa1 ?_; (case qB => k_asm); (case qF => k_asm); (case qX => k_asm); (case qN => k_asm); (case qT => k_asm); (case qk => first | rfl | assumption); (case qd => ktr_room); (case qu => ktr_units); (case qa0 => omega); (case qa1 => assumption)); intro t' h' tk' F' N'
  k_steps
  exact hret _ _ _ (by assumption) (by assumption)

end

section
variable {w : World} {mg mb : Str → Option Value} {mean : ExcName → Option Value} {dp un : Nat} {gd : Option (List Code)} {cn : Str} {cs : Scope} {a : Addr} {ccd : Value} {cl : List (Str × Addr)} {outer : List Env} {A₀ : Around} {base h₀ : Heap} {L : Addr} {m : Str → Option Value} {news : List (Addr × Obj)} {s : Shared} {Q E : Value → Shared → Prop}
theorem c_block (B : Below A₀ base outer h₀) (F : Fr h₀ L s.heap m) (X : (hd.heap_1 w.params).In h₀) (N : News h₀ L s.heap news) (T : Top vw (looseW vw []) mean mg mb h₀) (hk : cs.kind = .function) (hdp : dp + 10 < recursionLimit) (hun : un + 80 < cLine) {l : Addr} {vs : List Value} {ns : List Int} {ep : Nat} {x : List UInt8} {tx : Tok} (hl : (l, W.listOf vs.toArray ep) ∈ news) (hi : IntsAre vs ns) (h2 : ns.length < 100) (hb : ∀ n ∈ ns, 0 ≤ n ∧ n < 65536) (hx : x.length < 10000)
  (hret : ∀ (t : Tok) (h' : Heap) (tk' : Nat), Fr h₀ L h' m → News h₀ L h' news → Q (.bytes (x ++ (ns ++ [(ns.length : Int)]).flatMap fix).toArray t) { s with heap := h', toks := tk' }) :
  wpC (model PySem.Challenge.rw_no0404_01.prog w) (ktrTop dp un gd cn cs L a ccd cl outer) (call (.ref 373) [.bytes x.toArray tx, .ref l]) Q E s := by
  have N1 : News h₀ L s.heap ((l, W.listOf vs.toArray ep) :: news) := fun p hp => (List.mem_cons.mp hp).elim (fun e => e ▸ N _ hl) (N p); clear N
  revert X; k_fill; intro X
  refine wpC_call ?_
  k_dflt cell_enter
  refine aExecs_cons ?_; k_steps
  refine wpC_execs_cons (wpC_For ?_)
  k_steps
  (with_reducible rename Fr _ _ _ _ => Fx); (with_reducible rename News _ _ _ _ => Nx)
  (with_reducible rename IntsAre _ (ns ++ _) => hI9)
  k_dflt (refine iterC_list (ns := ns ++ [(ns.length : Int)]) rfl (List.Mem.head _) hI9 rfl rfl rfl Fx Nx (fun i m' nw => (∃ t, m' (Str.ofString "out") = some (Value.bytes (x ++ ((ns ++ [(ns.length : Int)]).take i).flatMap fix).toArray t)) ∧ (_ ∈ nw) ∧ (∀ p, p ∈ news → p ∈ nw)) ⟨⟨tx, ?_⟩, List.Mem.head _, ?_⟩ (fun i m' nw h => h.2.1) ?_ ?_)
  · rw [List.take_zero, List.flatMap_nil, List.append_nil]; rfl
  · k_sub
  · intro I i k t m₁ nw s₁ o hk ⟨⟨t1, ho⟩, hm1, hm2⟩ hoff F3 N3
    clear Fx Nx
    rw [mset1 ho] at F3
    have hkb : 0 ≤ k ∧ k < 65536 := by
      have := List.mem_of_getElem? hk
      rcases List.mem_append.mp this with h | h
      · exact hb k h
      · rw [List.mem_singleton.mp h]; omega
    have hlen : ((((ns ++ [(ns.length : Int)]).take i).flatMap fix).length : Int) ≤ 400 := by
      have := fix_len ((ns ++ [(ns.length : Int)]).take i)
      rw [this]
      simp
      omega
    obtain ⟨h3, g3, d3, t3, os3⟩ := s₁
    refine aExecs_cons ?_; k_steps
    refine wpC_execs_nil ?_
    (with_reducible rename Fr _ _ _ _ => F4)
    rw [blk_step hk] at F4
    exact TurnC.intro (news₂ := nw) F4 (cb_drop (by assumption) (by k_sub)) hoff ⟨⟨_, rfl⟩, hm1, hm2⟩
  · intro h' tk m' nw F3 N3 ⟨⟨t1, ho⟩, hm1, hm2⟩
    clear Fx Nx
    rw [mset1 ho] at F3
    dsimp only
    refine aExecs_cons ?_; k_steps
    rw [List.take_length]
    exact hret _ _ _ (by assumption) (cb_drop (by assumption) hm2)

end

section
variable {w : World} {mg mb : Str → Option Value} {mean : ExcName → Option Value} {dp un : Nat} {gd : Option (List Code)} {cn : Str} {cs : Scope} {a : Addr} {ccd : Value} {cl : List (Str × Addr)} {outer : List Env} {A₀ : Around} {base h₀ : Heap} {L : Addr} {m : Str → Option Value} {news : List (Addr × Obj)} {s : Shared} {Q E : Value → Shared → Prop}
theorem ba_zero {b : Addr} {body : List UInt8} {h : Heap} {tl : List (Addr × Obj)} (ps : List Int) (N : News h₀ L h ((b, baObj body.toArray) :: tl)) : News h₀ L h ((b, baObj (body ++ (ps.take 0).flatMap fix).toArray) :: tl) := by
  rw [List.take_zero, List.flatMap_nil, List.append_nil]; exact N
theorem fin_step {x : List UInt8} {l : List Int} {i : Nat} {k : Int} (h : l[i]? = some k) : x ++ (l.take i).flatMap fix ++ fix k = x ++ (l.take (i + 1)).flatMap fix := by
  have e : l.take (i + 1) = l.take i ++ [k] := by
    rw [List.take_add_one, h]; rfl
  rw [e, List.flatMap_append, List.append_assoc]
  simp only [List.flatMap_cons, List.flatMap_nil, List.append_nil]
theorem c_finish (B : Below A₀ base outer h₀) (F : Fr h₀ L s.heap m) (X : (hd.heap_1 w.params).In h₀) (N : News h₀ L s.heap news) (T : Top vw (looseW vw []) mean mg mb h₀) (hk : cs.kind = .function) (hdp : dp + 25 < recursionLimit) (hun : un + 200 < cLine) {x o : Addr} {iv sn en : Int} {body lk : List UInt8} {ps : List Int} {rest : List (Addr × Obj)} (H : Has w h₀ L s.heap x iv o body ps sn en false lk rest)
    (hb : ∀ n ∈ ps, 0 ≤ n ∧ n < 65536) (hbo : body.length < 10000) (hps : ps.length < 100)
    (hret : ∀ (t : Tok) (h' : Heap) (tk' : Nat), Fr h₀ L h' m → Has w h₀ L h' x iv o body ps sn en true lk rest → Q (.bytes (body ++ (ps ++ [(ps.length : Int)]).flatMap fix).toArray t) { s with heap := h', toks := tk' }) :
    wpC (model PySem.Challenge.rw_no0404_01.prog w) (ktrTop dp un gd cn cs L a ccd cl outer) (call (.ref 185) [.ref x]) Q E s := by
  revert X; k_fill; intro X; clear N
  refine Has.elim H ?_; clear H; intro dx bf rl k1 k2 k3 k4 k5 k6 k7 k8 ti ts te tl ep vs N hvs off n1 n2 n3 n4 n5 n6
  have hlen := hvs.length
  refine wpC_call ?_
  k_dflt cell_enter
  clear F N
  refine aExecs_cons ?_; k_steps
  refine aExecs_cons ?_; k_steps
  refine wpC_execs_cons (wpC_Assign_Name (wpC_CallName ?_)); k_steps
  refine wpC_withA keeps_type ?_; k_steps
  (with_reducible rename Fr _ _ _ _ => Fx); (with_reducible rename News _ _ _ _ => Nx); refine c_ba1 (x := body) Fx Nx (by k_mem) (by omega) ?_; clear Fx Nx; intro b h2 F2 N2 l3; k_lt l3
  k_steps
  refine wpC_execs_cons (wpC_For ?_)
  k_steps
  (with_reducible rename Fr _ _ _ _ => Fx); (with_reducible rename News _ _ _ _ => Nx)
  replace Nx := ba_zero ps Nx
  k_dflt (refine iterC_list (ns := ps) (ep := ep) rfl ?_ hvs rfl rfl rfl Fx Nx (fun i m' nw => (m' (Str.ofString "out") = some (.ref b) ∧ m' (Str.ofString "self") = some (.ref x)) ∧ nw = (b, baObj (body ++ (ps.take i).flatMap fix).toArray) :: _) ⟨⟨rfl, rfl⟩, rfl⟩ ?_ ?_ ?_)
  · k_mem
  · intro i m' nw h; rw [h.2]; k_mem
  · intro I i k t m₁ nw s₁ o9 hkk ⟨⟨ho1, ho2⟩, hnw⟩ hoff F3 N3
    subst hnw
    clear Fx Nx
    rw [mset1 ho1, mset1 ho2] at F3
    have hkb := hb k (List.mem_of_getElem? hkk)
    have hbI : @Ne Nat b I := hoff _ (.head _)
    have hlen2 : ((ps.take i).flatMap fix).length ≤ 400 := by
      have := fix_len (ps.take i)
      rw [this, List.length_take]
      omega
    have hfx : (fix k).length = 4 := by simp [fix, octets]
    obtain ⟨h3, g3, d3, t3, os3⟩ := s₁
    refine wpC_execs_cons (wpC_Expr (wpC_CallMeth ?_)); k_steps
    refine wpC_withA keeps_builtin ?_; k_steps
    (with_reducible rename Fr _ _ _ _ => Fx); (with_reducible rename News _ _ _ _ => Nx); refine c_extend Fx Nx (by k_upd) (by (simp only [List.length_append]; omega)) ?_
    clear Fx Nx; intro h9 F9 N9; dsimp only
    refine wpC_execs_nil ?_
    (with_reducible rename Fr _ _ _ _ => F4)
    rw [fin_step hkk] at N9
    refine TurnC.intro F4 N9 ?_ ⟨⟨rfl, rfl⟩, rfl⟩
    intro p hp
    rcases List.mem_cons.mp hp with rfl | hp
    · exact hbI
    · exact hoff _ (.tail _ hp)
  · intro h' tk m' nw F3 N3 ⟨⟨ho1, ho2⟩, hnw⟩
    subst hnw
    clear Fx Nx
    rw [mset1 ho1, mset1 ho2] at F3
    have hlen2 : ((ps.take ps.length).flatMap fix).length ≤ 400 := by
      have := fix_len (ps.take ps.length)
      rw [this, List.length_take]
      omega
    have hfx : (fix (ps.length : Int)).length = 4 := by simp [fix, octets]
    dsimp only
    refine wpC_execs_cons (wpC_Expr (wpC_CallMeth ?_)); k_steps
    refine wpC_withA keeps_builtin ?_; k_steps
    (with_reducible rename Fr _ _ _ _ => Fx); (with_reducible rename News _ _ _ _ => Nx); refine c_extend Fx Nx (by k_upd) (by (simp only [List.length_append]; omega)) ?_
    clear Fx Nx; intro h9 F9 N9; dsimp only
    refine aExecs_cons ?_; k_steps
    have e : body ++ (ps.take ps.length).flatMap fix ++ fix (ps.length : Int) = body ++ (ps ++ [(ps.length : Int)]).flatMap fix := by
      rw [List.take_length, List.flatMap_append, List.append_assoc]
      simp only [List.flatMap_cons, List.flatMap_nil, List.append_nil]
    rw [e]
    (with_reducible rename News _ _ _ _ => Nz)
    refine hret _ _ _ (by assumption) ?_
    refine has_of (dx := dx) (bf := bf) (rl := rl) (l := _) Nz (by k_mem) (by k_mem) (by k_mem) (by k_mem) (by k_sub) hvs off n1 n2 n3 n4 n5 n6

end

local macro_rules | `(tactic| walk_at "call ref") => `(tactic| (k_here; (with_reducible show wpAny _ _ (call (Value.ref 302) _) _ _ _); k_dflt (refine c_icmp (by k_asm) (by k_asm) (by k_asm) (by k_asm) (by k_asm) (by first | rfl | assumption) (by ktr_room) (by ktr_units) (by assumption) (by assumption) (by omega) (by omega) (by exact Ord.mono (by assumption) (by k_sub)) ?_; k_whole); intro t' h' tk' F' N'; (try k_sweep)))
local macro_rules | `(tactic| walk_at "getMethod ref") => `(tactic| (k_here; k_dflt (refine' g_cmp0 ?gmF ?gmX ?gmN ?gmT ?gmO ?_; (case gmF => k_asm); (case gmX => k_asm); (case gmN => k_asm); (case gmT => k_asm); (case gmO => exact Ord.mono (by assumption) (by k_sub)); k_whole)))
local macro_rules | `(tactic| walk_at "getMethod ref") => `(tactic| (k_here; k_dflt (refine' g_cmp1 ?gmF ?gmX ?gmN ?gmT ?gmO ?_; (case gmF => k_asm); (case gmX => k_asm); (case gmN => k_asm); (case gmT => k_asm); (case gmO => exact Ord.mono (by assumption) (by k_sub)); k_whole)))

section
variable {w : World} {mg mb : Str → Option Value} {mean : ExcName → Option Value} {dp un : Nat} {gd : Option (List Code)} {cn : Str} {cs : Scope} {a : Addr} {ccd : Value} {cl : List (Str × Addr)} {outer : List Env} {A₀ : Around} {base h₀ : Heap} {L : Addr} {m : Str → Option Value} {news : List (Addr × Obj)} {s : Shared} {Q E : Value → Shared → Prop}
theorem add_bytes {sn iv sh : Int} {lk key : List UInt8} (h : sh = if sn < iv then (cpl lk key : Int) else 0) (body value : List UInt8) : body ++ var sh ++ var ((key.length : Int) - sh) ++ var value.length ++ key.drop sh.toNat ++ value = body ++ ent lk key value (!decide (sn < iv)) := by
  subst h
  by_cases h : sn < iv <;> simp [ent, h]
theorem c_add (B : Below A₀ base outer h₀) (F : Fr h₀ L s.heap m) (X : (hd.heap_1 w.params).In h₀) (N : News h₀ L s.heap news) (T : Top vw (looseW vw []) mean mg mb h₀) (hk : cs.kind = .function) (hdp : dp + 25 < recursionLimit) (hun : un + 200 < cLine) {x o : Addr} {iv sn en : Int} {body lk key value : List UInt8} {ps : List Int} {rest : List (Addr × Obj)} {b : Bool} {tq tv : Tok} (H : Has w h₀ L s.heap x iv o body ps sn en false lk rest) (O : Ord w b o rest)
    (hord : 0 < en → 0 < (if b then cmpI key lk else cmpB key lk)) (hik : b = true → 0 < en → IK key ∧ IK lk) (hen : 0 ≤ en) (hsn : 0 ≤ sn) (hiv : iv ≤ 3) (hk1 : key.length < 1000) (hk2 : lk.length < 1000) (hk3 : value.length < 1000) (hbo : body.length < 10000) (hps : ps.length < 100)
    (hret : ∀ (h' : Heap) (tk' : Nat), Fr h₀ L h' m → Has w h₀ L h' x iv o (body ++ ent lk key value (!decide (sn < iv))) (if sn < iv then ps else ps ++ [(body.length : Int)]) (if sn < iv then sn + 1 else 1) (en + 1) false key rest → Q .none { s with heap := h', toks := tk' }) :
    wpC (model PySem.Challenge.rw_no0404_01.prog w) (ktrTop dp un gd cn cs L a ccd cl outer) (call (.ref 178) [.ref x, .bytes key.toArray tq, .bytes value.toArray tv]) Q E s := by
  obtain ⟨sh, hsh⟩ : ∃ sh : Int, sh = if sn < iv then (cpl lk key : Int) else 0 := ⟨_, rfl⟩
  obtain ⟨sn', hsn'⟩ : ∃ sn' : Int, sn' = if sn < iv then sn else 0 := ⟨_, rfl⟩
  obtain ⟨ps', hps'⟩ : ∃ ps' : List Int, ps' = if sn < iv then ps else ps ++ [(body.length : Int)] := ⟨_, rfl⟩
  have hv1 := var_len sh; have hv2 := var_len ((key.length : Int) - sh); have hv3 := var_len (value.length : Int)
  have hc1 := cpl_le_left lk key; have hc2 := cpl_le_right lk key
  have hs1 : 0 ≤ sh := by rw [hsh]; split <;> omega
  have hs2 : sh ≤ key.length := by rw [hsh]; split <;> omega
  have hs3 : 0 ≤ sn' := by rw [hsn']; split <;> omega
  have hs4 : sn' ≤ 3 := by rw [hsn']; split <;> omega
  revert X; k_fill; intro X; clear N
  refine Has.elim H ?_; clear H; intro dx bf rl k1 k2 k3 k4 k5 k6 k7 k8 ti ts te tl ep vs N hvs off n1 n2 n3 n4 n5 n6
  have hlen := hvs.length
  refine wpC_call ?_
  k_dflt cell_enter
  clear F N
  refine aExecs_cons ?_; k_steps
  (with_reducible rename Fr _ _ _ _ => F1)
  refine seqF F1 (fun m nw => (m (Str.ofString "self") = some (.ref x) ∧ m (Str.ofString "key") = some (.bytes key.toArray tq) ∧ m (Str.ofString "value") = some (.bytes value.toArray tv)) ∧ Led ((x, instObj 188 dx) :: (dx, bd w k1 k2 k3 k4 k5 k6 k7 k8 iv ti o bf rl sn ts en te false lk tl) :: (bf, baObj body.toArray) :: (rl, W.listOf vs.toArray ep) :: rest) nw) (fun Qk hQk => ?_) ?_
  · clear hv1 hv2 hv3 hs1 hs2 hs3 hs4 hsh hsn' hps'
    by_cases he : en = 0
    · refine cOf ?_; k_steps
      exact hQk _ _ (Mid.intro (by assumption) (by assumption) ⟨⟨rfl, rfl, rfl⟩, fun p hp => hp⟩)
    · have he' : 0 < en := by omega
      have ho := hord he'
      cases b
      · rw [if_neg (by decide)] at ho
        refine cOf ?_; k_steps
        exact hQk _ _ (Mid.intro (by assumption) (by assumption) ⟨⟨rfl, rfl, rfl⟩, fun p hp => hp⟩)
      · obtain ⟨ik1, ik2⟩ := hik rfl he'
        rw [if_pos rfl] at ho
        refine cOf ?_; k_steps
        exact hQk _ _ (Mid.intro (by assumption) (by assumption) ⟨⟨rfl, rfl, rfl⟩, fun p hp => hp⟩)
  clear hord hik O
  repeat ((with_reducible rename News _ _ _ _ => qz); clear qz)
  clear F1
  rintro h2 tk2 m2 nw2 F2 N2 ⟨⟨e1, e2, e3⟩, hl⟩
  rw [mset1 e1, mset1 e2, mset1 e3] at F2
  replace N2 := hl.news N2
  clear e1 e2 e3 hl
  dsimp only
  refine aExecs_cons ?_; k_steps
  (with_reducible rename Fr _ _ _ _ => F3)
  refine seqF F3 (fun m nw => ((∃ t, m (Str.ofString "shared") = some (.int sh t)) ∧ m (Str.ofString "self") = some (.ref x) ∧ m (Str.ofString "key") = some (.bytes key.toArray tq) ∧ m (Str.ofString "value") = some (.bytes value.toArray tv)) ∧
      ∃ (vs' : List Value) (ts' ep' : Nat), IntsAre vs' ps' ∧ Led ((x, instObj 188 dx) :: (dx, bd w k1 k2 k3 k4 k5 k6 k7 k8 iv ti o bf rl sn' ts' en te false lk tl) :: (bf, baObj body.toArray) :: (rl, W.listOf vs'.toArray ep') :: rest) nw) (fun Qk hQk => cOf ?_) ?_
  · clear hv1 hv2 hv3 hs1 hs2 hs3 hs4
    k_steps
    · have q1 : sh = (cpl lk key : Int) := by rw [hsh, if_pos ‹sn < iv›]
      have q2 : sn' = sn := by rw [hsn', if_pos ‹sn < iv›]
      have q3 : ps' = ps := by rw [hps', if_pos ‹sn < iv›]
      clear hsh hsn' hps'
      subst q1 q2 q3
      exact hQk _ _ (Mid.intro (by assumption) (by assumption) ⟨⟨⟨_, rfl⟩, rfl, rfl, rfl⟩, vs, _, _, hvs, .cons (by k_mem) (.cons (by k_mem) (.cons (by k_mem) (.cons (by k_mem) (by k_sub))))⟩)
    · have q1 : sh = 0 := by rw [hsh, if_neg ‹¬ sn < iv›]
      have q2 : sn' = 0 := by rw [hsn', if_neg ‹¬ sn < iv›]
      have q3 : ps' = ps ++ [(body.length : Int)] := by rw [hps', if_neg ‹¬ sn < iv›]
      clear hsh hsn' hps'
      subst q1 q2 q3
      refine hQk _ _ (Mid.intro (by assumption) (by assumption) ⟨⟨⟨_, rfl⟩, rfl, rfl, rfl⟩, _, _, _, ?ia9, .cons (by k_mem) (.cons (by k_mem) (.cons (by k_mem) (.cons (by k_mem) (by k_sub))))⟩)
      case ia9 => (rw [List.concat_eq_append]; exact IntsAre.append hvs (.cons _ _ .nil))
  clear hvs hlen F3
  repeat ((with_reducible rename News _ _ _ _ => qz); clear qz)
  rintro h4 tk4 m4 nw4 F4 N4 ⟨⟨⟨tsh, e0⟩, e1, e2, e3⟩, vs', ts', ep', hvs', hl⟩
  rw [mset1 e0, mset1 e1, mset1 e2, mset1 e3] at F4
  replace N4 := hl.news N4
  clear e0 e1 e2 e3 hl
  dsimp only
  refine wpC_execs_cons (wpC_Expr (wpC_CallMeth ?_)); k_steps
  refine wpC_withC keeps_builtin (wpC_CallName ?_); k_steps
  refine wpC_withA (keeps_K (K := hd.heap_1 w.params) (by k_dflt k_is)) ?_; k_steps
  k_dflt (refine' c_pv ?qB ?qF ?qX ?qN ?qT ?qk ?qd ?qu ?qa0 ?qa1 ?_; (case qB => k_asm); (case qF => k_asm); (case qX => k_asm); (case qN => k_asm); (case qT => k_asm); (case qk => first | rfl | assumption); (case qd => ktr_room); (case qu => ktr_units); (case qa0 => omega); (case qa1 => omega)); intro t' h' tk' F' N'
  refine ⟨trivial, ?_⟩
  (with_reducible rename Fr _ _ _ _ => Fx); (with_reducible rename News _ _ _ _ => Nx); refine c_extend Fx Nx (by k_upd) (by ((try simp only [List.length_append, List.length_drop]); omega)) ?_
  clear Fx Nx; intro h9 F9 N9; dsimp only
  refine wpC_execs_cons (wpC_Expr (wpC_CallMeth ?_)); k_steps
  refine wpC_withC keeps_builtin (wpC_CallName ?_); k_steps
  refine wpC_withA (keeps_K (K := hd.heap_1 w.params) (by k_dflt k_is)) ?_; k_steps
  k_dflt (refine' c_pv ?qB ?qF ?qX ?qN ?qT ?qk ?qd ?qu ?qa0 ?qa1 ?_; (case qB => k_asm); (case qF => k_asm); (case qX => k_asm); (case qN => k_asm); (case qT => k_asm); (case qk => first | rfl | assumption); (case qd => ktr_room); (case qu => ktr_units); (case qa0 => omega); (case qa1 => omega)); intro t' h' tk' F' N'
  refine ⟨trivial, ?_⟩
  (with_reducible rename Fr _ _ _ _ => Fx); (with_reducible rename News _ _ _ _ => Nx); refine c_extend Fx Nx (by k_upd) (by ((try simp only [List.length_append, List.length_drop]); omega)) ?_
  clear Fx Nx; intro h9 F9 N9; dsimp only
  refine wpC_execs_cons (wpC_Expr (wpC_CallMeth ?_)); k_steps
  refine wpC_withC keeps_builtin (wpC_CallName ?_); k_steps
  refine wpC_withA (keeps_K (K := hd.heap_1 w.params) (by k_dflt k_is)) ?_; k_steps
  k_dflt (refine' c_pv ?qB ?qF ?qX ?qN ?qT ?qk ?qd ?qu ?qa0 ?qa1 ?_; (case qB => k_asm); (case qF => k_asm); (case qX => k_asm); (case qN => k_asm); (case qT => k_asm); (case qk => first | rfl | assumption); (case qd => ktr_room); (case qu => ktr_units); (case qa0 => omega); (case qa1 => omega)); intro t' h' tk' F' N'
  refine ⟨trivial, ?_⟩
  (with_reducible rename Fr _ _ _ _ => Fx); (with_reducible rename News _ _ _ _ => Nx); refine c_extend Fx Nx (by k_upd) (by ((try simp only [List.length_append, List.length_drop]); omega)) ?_
  clear Fx Nx; intro h9 F9 N9; dsimp only
  refine wpC_execs_cons (wpC_Expr (wpC_CallMeth ?_)); k_steps
  refine wpC_withA keeps_builtin ?_; k_steps
  (with_reducible rename Fr _ _ _ _ => Fx); (with_reducible rename News _ _ _ _ => Nx); refine c_extend Fx Nx (by k_upd) (by ((try simp only [List.length_append, List.length_drop]); omega)) ?_
  clear Fx Nx; intro h9 F9 N9; dsimp only
  refine wpC_execs_cons (wpC_Expr (wpC_CallMeth ?_)); k_steps
  refine wpC_withA keeps_builtin ?_; k_steps
  (with_reducible rename Fr _ _ _ _ => Fx); (with_reducible rename News _ _ _ _ => Nx); refine c_extend Fx Nx (by k_upd) (by ((try simp only [List.length_append, List.length_drop]); omega)) ?_
  clear Fx Nx; intro h9 F9 N9; dsimp only
  iterate 3 (refine aExecs_cons ?_; k_steps)
  (with_reducible rename Fr _ _ _ _ => Fx); (with_reducible rename News _ _ _ _ => Nx)
  refine wpC_execs_nil (leaveK_ Fx Nx ?_); intro Fz Nz
  refine hret _ _ Fz ?_
  rw [← add_bytes hsh, ← hps', show (if sn < iv then sn + 1 else 1) = sn' + 1 by rw [hsn']; split <;> rfl]
  refine has_of (dx := dx) (bf := bf) (rl := rl) (l := _) Nz (by k_mem) (by k_mem) (by k_mem) (by k_mem) (by k_sub) hvs' off n1 n2 n3 n4 n5 n6

end

section
variable {w : World} {mg mb : Str → Option Value} {mean : ExcName → Option Value} {dp un : Nat} {gd : Option (List Code)} {cn : Str} {cs : Scope} {a : Addr} {ccd : Value} {cl : List (Str × Addr)} {outer : List Env} {A₀ : Around} {base h₀ : Heap} {L : Addr} {m : Str → Option Value} {news : List (Addr × Obj)} {s : Shared} {Q E : Value → Shared → Prop}
theorem l_add_fin (B : Below A₀ base [] h₀) (XB : (hd.heap_1 w.params).In base) (TB : Top vw (looseW vw []) mean mg mb base) (F : Fr h₀ L s.heap m) (X : (hd.heap_1 w.params).In h₀) (N : News h₀ L s.heap news) (T : Top vw (looseW vw []) mean mg mb h₀) (hk : cs.kind = .function) (hdp : dp + 40 < recursionLimit) (hun : un + 400 < cLine) {x o : Addr} {iv sn en : Int} {body lk : List UInt8} {ps : List Int} {rest : List (Addr × Obj)} {key value : List UInt8} {tk tv : Tok} (H : Has w h₀ L s.heap x iv o body ps sn en true lk rest)
    (hret : ∀ (t : Tok) (h' : Heap) (tk' : Nat), Fr h₀ L h' m → Has w h₀ L h' x iv o body ps sn en true lk rest → Q (.int 1 t) { s with heap := h', toks := tk' }) :
    wpAny (model PySem.Challenge.rw_no0404_01.prog w) (ktrTop dp un gd cn cs L a ccd cl []) (call (.ref 380) [.ref x, .bytes key.toArray tk, .bytes value.toArray tv]) Q E s := by
  clear N
  refine Has.elim H ?_; clear H; intro dx bf rl k1 k2 k3 k4 k5 k6 k7 k8 ti ts te tl ep vs N hvs off n1 n2 n3 n4 n5 n6
  revert X XB; k_fill; intro X XB
  refine wpAny_call ?_
  k_dflt (refine' codeA_tryX ?k1 ?k2 ?k3 ?k4 ?k5 ?kA ?kF ?kK ?k6 ?k7 ?k8 ?k9 ?kB ?_ ?c2 ?c3 ?c4 ?c5; (case kA => exact rfl); (case kF => exact rfl); (case kK => assumption); (case k1 => k_asm); (case k2 => k_asm); (case k3 => assumption); (case k4 => k_asm); (case k5 => k_asm); (case k6 => k_is); (case k7 => k_is); (case k8 => ktr_room); (case k9 => exact BindsTo.of_eq rfl); (case c5 => decide); (case kB => exact locs rfl); (case c2 => exact rfl); (case c3 => exact rfl); (case c4 => exact rfl); k_whole; intro g' L' h' FG' F' N' B' X' T' D' l1; (try dsimp only); (try k_lt l1); (try k_fold))
  k_steps
  refine wpAny_call ?_
  k_dflt (refine' code_def ?k1 ?k2 ?k3 ?k4 ?k5 ?kA ?kF ?kK ?k6 ?k7 ?k8 ?k9 ?kB ?_ ?c2 ?c3 ?c4 ?c5; (case kA => exact rfl); (case kF => exact rfl); (case kK => first | exact rfl | assumption); (case k1 => k_asm); (case k2 => k_asm); (case k3 => k_asm); (case k4 => k_asm); (case k5 => k_asm); (case k6 => k_is); (case k7 => k_is); (case k8 => ktr_room); (case k9 => exact BindsTo.of_eq rfl); (case c5 => decide); (case kB => exact locs rfl); (case c2 => exact rfl); (case c3 => exact rfl); (case c4 => exact rfl); k_whole; intro g' L' h' FG' F' N' B' X' T'; (try dsimp only); (try k_fold))
  k_steps
  all_goals (refine hret _ _ _ (by assumption) ?_; (with_reducible rename News _ _ _ _ => Nz); refine has_of (dx := dx) (bf := bf) (rl := rl) (l := _) Nz (by k_mem) (by k_mem) (by k_mem) (by k_mem) (by k_sub) hvs off n1 n2 n3 n4 n5 n6)
theorem l_finish_fin (B : Below A₀ base [] h₀) (XB : (hd.heap_1 w.params).In base) (TB : Top vw (looseW vw []) mean mg mb base) (F : Fr h₀ L s.heap m) (X : (hd.heap_1 w.params).In h₀) (N : News h₀ L s.heap news) (T : Top vw (looseW vw []) mean mg mb h₀) (hk : cs.kind = .function) (hdp : dp + 40 < recursionLimit) (hun : un + 400 < cLine) {x o : Addr} {iv sn en : Int} {body lk : List UInt8} {ps : List Int} {rest : List (Addr × Obj)}  (H : Has w h₀ L s.heap x iv o body ps sn en true lk rest)
    (hret : ∀ (t : Tok) (h' : Heap) (tk' : Nat), Fr h₀ L h' m → Has w h₀ L h' x iv o body ps sn en true lk rest → Q (.none) { s with heap := h', toks := tk' }) :
    wpAny (model PySem.Challenge.rw_no0404_01.prog w) (ktrTop dp un gd cn cs L a ccd cl []) (call (.ref 387) [.ref x]) Q E s := by
  clear N
  refine Has.elim H ?_; clear H; intro dx bf rl k1 k2 k3 k4 k5 k6 k7 k8 ti ts te tl ep vs N hvs off n1 n2 n3 n4 n5 n6
  revert X XB; k_fill; intro X XB
  refine wpAny_call ?_
  k_dflt (refine' codeA_tryX ?k1 ?k2 ?k3 ?k4 ?k5 ?kA ?kF ?kK ?k6 ?k7 ?k8 ?k9 ?kB ?_ ?c2 ?c3 ?c4 ?c5; (case kA => exact rfl); (case kF => exact rfl); (case kK => assumption); (case k1 => k_asm); (case k2 => k_asm); (case k3 => assumption); (case k4 => k_asm); (case k5 => k_asm); (case k6 => k_is); (case k7 => k_is); (case k8 => ktr_room); (case k9 => exact BindsTo.of_eq rfl); (case c5 => decide); (case kB => exact locs rfl); (case c2 => exact rfl); (case c3 => exact rfl); (case c4 => exact rfl); k_whole; intro g' L' h' FG' F' N' B' X' T' D' l1; (try dsimp only); (try k_lt l1); (try k_fold))
  k_steps
  refine wpAny_call ?_
  k_dflt (refine' code_def ?k1 ?k2 ?k3 ?k4 ?k5 ?kA ?kF ?kK ?k6 ?k7 ?k8 ?k9 ?kB ?_ ?c2 ?c3 ?c4 ?c5; (case kA => exact rfl); (case kF => exact rfl); (case kK => first | exact rfl | assumption); (case k1 => k_asm); (case k2 => k_asm); (case k3 => k_asm); (case k4 => k_asm); (case k5 => k_asm); (case k6 => k_is); (case k7 => k_is); (case k8 => ktr_room); (case k9 => exact BindsTo.of_eq rfl); (case c5 => decide); (case kB => exact locs rfl); (case c2 => exact rfl); (case c3 => exact rfl); (case c4 => exact rfl); k_whole; intro g' L' h' FG' F' N' B' X' T'; (try dsimp only); (try k_fold))
  k_steps
  all_goals (refine hret 0 _ _ (by assumption) ?_; (with_reducible rename News _ _ _ _ => Nz); refine has_of (dx := dx) (bf := bf) (rl := rl) (l := _) Nz (by k_mem) (by k_mem) (by k_mem) (by k_mem) (by k_sub) hvs off n1 n2 n3 n4 n5 n6)
theorem l_add_low0 (B : Below A₀ base [] h₀) (XB : (hd.heap_1 w.params).In base) (TB : Top vw (looseW vw []) mean mg mb base) (F : Fr h₀ L s.heap m) (X : (hd.heap_1 w.params).In h₀) (N : News h₀ L s.heap news) (T : Top vw (looseW vw []) mean mg mb h₀) (hk : cs.kind = .function) (hdp : dp + 40 < recursionLimit) (hun : un + 400 < cLine) {x o : Addr} {iv sn en : Int} {body lk : List UInt8} {ps : List Int} {rest : List (Addr × Obj)} {key value : List UInt8} {tk tv : Tok} (H : Has w h₀ L s.heap x iv o body ps sn en false lk rest)
    (O : Ord w false o rest) (he : 0 < en) (hc : ¬ 0 < cmpB key lk) (hk1 : key.length < 1000) (hk2 : lk.length < 1000)
    (hret : ∀ (t : Tok) (h' : Heap) (tk' : Nat), Fr h₀ L h' m → Has w h₀ L h' x iv o body ps sn en false lk rest → Q (.int 1 t) { s with heap := h', toks := tk' }) :
    wpAny (model PySem.Challenge.rw_no0404_01.prog w) (ktrTop dp un gd cn cs L a ccd cl []) (call (.ref 380) [.ref x, .bytes key.toArray tk, .bytes value.toArray tv]) Q E s := by
  clear N
  refine Has.elim H ?_; clear H; intro dx bf rl k1 k2 k3 k4 k5 k6 k7 k8 ti ts te tl ep vs N hvs off n1 n2 n3 n4 n5 n6
  revert X XB; k_fill; intro X XB
  refine wpAny_call ?_
  k_dflt (refine' codeA_tryX ?k1 ?k2 ?k3 ?k4 ?k5 ?kA ?kF ?kK ?k6 ?k7 ?k8 ?k9 ?kB ?_ ?c2 ?c3 ?c4 ?c5; (case kA => exact rfl); (case kF => exact rfl); (case kK => assumption); (case k1 => k_asm); (case k2 => k_asm); (case k3 => assumption); (case k4 => k_asm); (case k5 => k_asm); (case k6 => k_is); (case k7 => k_is); (case k8 => ktr_room); (case k9 => exact BindsTo.of_eq rfl); (case c5 => decide); (case kB => exact locs rfl); (case c2 => exact rfl); (case c3 => exact rfl); (case c4 => exact rfl); k_whole; intro g' L' h' FG' F' N' B' X' T' D' l1; (try dsimp only); (try k_lt l1); (try k_fold))
  k_steps
  refine wpAny_call ?_
  k_dflt (refine' code_def ?k1 ?k2 ?k3 ?k4 ?k5 ?kA ?kF ?kK ?k6 ?k7 ?k8 ?k9 ?kB ?_ ?c2 ?c3 ?c4 ?c5; (case kA => exact rfl); (case kF => exact rfl); (case kK => first | exact rfl | assumption); (case k1 => k_asm); (case k2 => k_asm); (case k3 => k_asm); (case k4 => k_asm); (case k5 => k_asm); (case k6 => k_is); (case k7 => k_is); (case k8 => ktr_room); (case k9 => exact BindsTo.of_eq rfl); (case c5 => decide); (case kB => exact locs rfl); (case c2 => exact rfl); (case c3 => exact rfl); (case c4 => exact rfl); k_whole; intro g' L' h' FG' F' N' B' X' T'; (try dsimp only); (try k_fold))
  k_steps
  all_goals (refine hret _ _ _ (by assumption) ?_; (with_reducible rename News _ _ _ _ => Nz); refine has_of (dx := dx) (bf := bf) (rl := rl) (l := _) Nz (by k_mem) (by k_mem) (by k_mem) (by k_mem) (by k_sub) hvs off n1 n2 n3 n4 n5 n6)
theorem l_add_low1 (B : Below A₀ base [] h₀) (XB : (hd.heap_1 w.params).In base) (TB : Top vw (looseW vw []) mean mg mb base) (F : Fr h₀ L s.heap m) (X : (hd.heap_1 w.params).In h₀) (N : News h₀ L s.heap news) (T : Top vw (looseW vw []) mean mg mb h₀) (hk : cs.kind = .function) (hdp : dp + 40 < recursionLimit) (hun : un + 400 < cLine) {x o : Addr} {iv sn en : Int} {body lk : List UInt8} {ps : List Int} {rest : List (Addr × Obj)} {key value : List UInt8} {tk tv : Tok} (H : Has w h₀ L s.heap x iv o body ps sn en false lk rest)
    (O : Ord w true o rest) (he : 0 < en) (ik1 : IK key) (ik2 : IK lk) (hc : ¬ 0 < cmpI key lk) (hk1 : key.length < 1000) (hk2 : lk.length < 1000)
    (hret : ∀ (t : Tok) (h' : Heap) (tk' : Nat), Fr h₀ L h' m → Has w h₀ L h' x iv o body ps sn en false lk rest → Q (.int 1 t) { s with heap := h', toks := tk' }) :
    wpAny (model PySem.Challenge.rw_no0404_01.prog w) (ktrTop dp un gd cn cs L a ccd cl []) (call (.ref 380) [.ref x, .bytes key.toArray tk, .bytes value.toArray tv]) Q E s := by
  clear N
  refine Has.elim H ?_; clear H; intro dx bf rl k1 k2 k3 k4 k5 k6 k7 k8 ti ts te tl ep vs N hvs off n1 n2 n3 n4 n5 n6
  revert X XB; k_fill; intro X XB
  refine wpAny_call ?_
  k_dflt (refine' codeA_tryX ?k1 ?k2 ?k3 ?k4 ?k5 ?kA ?kF ?kK ?k6 ?k7 ?k8 ?k9 ?kB ?_ ?c2 ?c3 ?c4 ?c5; (case kA => exact rfl); (case kF => exact rfl); (case kK => assumption); (case k1 => k_asm); (case k2 => k_asm); (case k3 => assumption); (case k4 => k_asm); (case k5 => k_asm); (case k6 => k_is); (case k7 => k_is); (case k8 => ktr_room); (case k9 => exact BindsTo.of_eq rfl); (case c5 => decide); (case kB => exact locs rfl); (case c2 => exact rfl); (case c3 => exact rfl); (case c4 => exact rfl); k_whole; intro g' L' h' FG' F' N' B' X' T' D' l1; (try dsimp only); (try k_lt l1); (try k_fold))
  k_steps
  refine wpAny_call ?_
  k_dflt (refine' code_def ?k1 ?k2 ?k3 ?k4 ?k5 ?kA ?kF ?kK ?k6 ?k7 ?k8 ?k9 ?kB ?_ ?c2 ?c3 ?c4 ?c5; (case kA => exact rfl); (case kF => exact rfl); (case kK => first | exact rfl | assumption); (case k1 => k_asm); (case k2 => k_asm); (case k3 => k_asm); (case k4 => k_asm); (case k5 => k_asm); (case k6 => k_is); (case k7 => k_is); (case k8 => ktr_room); (case k9 => exact BindsTo.of_eq rfl); (case c5 => decide); (case kB => exact locs rfl); (case c2 => exact rfl); (case c3 => exact rfl); (case c4 => exact rfl); k_whole; intro g' L' h' FG' F' N' B' X' T'; (try dsimp only); (try k_fold))
  k_steps
  all_goals (refine hret _ _ _ (by assumption) ?_; (with_reducible rename News _ _ _ _ => Nz); refine has_of (dx := dx) (bf := bf) (rl := rl) (l := _) Nz (by k_mem) (by k_mem) (by k_mem) (by k_mem) (by k_sub) hvs off n1 n2 n3 n4 n5 n6)
theorem l_add_short (B : Below A₀ base [] h₀) (XB : (hd.heap_1 w.params).In base) (TB : Top vw (looseW vw []) mean mg mb base) (F : Fr h₀ L s.heap m) (X : (hd.heap_1 w.params).In h₀) (N : News h₀ L s.heap news) (T : Top vw (looseW vw []) mean mg mb h₀) (hk : cs.kind = .function) (hdp : dp + 40 < recursionLimit) (hun : un + 400 < cLine) {x o : Addr} {iv sn en : Int} {body lk : List UInt8} {ps : List Int} {rest : List (Addr × Obj)} {key value : List UInt8} {tk tv : Tok} (H : Has w h₀ L s.heap x iv o body ps sn en false lk rest)
    (O : Ord w true o rest) (he : 0 < en) (hk1 : key.length < 8)
    (hret : ∀ (t : Tok) (h' : Heap) (tk' : Nat), Fr h₀ L h' m → Has w h₀ L h' x iv o body ps sn en false lk rest → Q (.int 2 t) { s with heap := h', toks := tk' }) :
    wpAny (model PySem.Challenge.rw_no0404_01.prog w) (ktrTop dp un gd cn cs L a ccd cl []) (call (.ref 380) [.ref x, .bytes key.toArray tk, .bytes value.toArray tv]) Q E s := by
  clear N
  refine Has.elim H ?_; clear H; intro dx bf rl k1 k2 k3 k4 k5 k6 k7 k8 ti ts te tl ep vs N hvs off n1 n2 n3 n4 n5 n6
  obtain ⟨d, u, du, k, o1, o2, o3, o4⟩ := O
  have N1 : News h₀ L s.heap ((o, instObj 333 d) :: (d, dictOf [⟨PyData.keyHash w.params (Str.ofString "user_order"), .str (Str.ofString "user_order") k, .ref u⟩] 1) :: (u, instObj 279 du) :: (du, emptyDict) :: (x, instObj 188 dx) :: (dx, bd w k1 k2 k3 k4 k5 k6 k7 k8 iv ti o bf rl sn ts en te false lk tl) :: (bf, baObj body.toArray) :: (rl, W.listOf vs.toArray ep) :: rest) := by
    exact Led.news (.cons (.tail _ (.tail _ (.tail _ (.tail _ o1)))) (.cons (.tail _ (.tail _ (.tail _ (.tail _ o2)))) (.cons (.tail _ (.tail _ (.tail _ (.tail _ o3)))) (.cons (.tail _ (.tail _ (.tail _ (.tail _ o4)))) (fun p hp => hp))))) N
  clear N
  revert X XB; k_fill; intro X XB
  refine wpAny_call ?_
  k_dflt (refine' codeA_tryX ?k1 ?k2 ?k3 ?k4 ?k5 ?kA ?kF ?kK ?k6 ?k7 ?k8 ?k9 ?kB ?_ ?c2 ?c3 ?c4 ?c5; (case kA => exact rfl); (case kF => exact rfl); (case kK => assumption); (case k1 => k_asm); (case k2 => k_asm); (case k3 => assumption); (case k4 => k_asm); (case k5 => k_asm); (case k6 => k_is); (case k7 => k_is); (case k8 => ktr_room); (case k9 => exact BindsTo.of_eq rfl); (case c5 => decide); (case kB => exact locs rfl); (case c2 => exact rfl); (case c3 => exact rfl); (case c4 => exact rfl); k_whole; intro g' L' h' FG' F' N' B' X' T' D' l1; (try dsimp only); (try k_lt l1); (try k_fold))
  k_steps
  refine wpAny_call ?_
  k_dflt (refine' code_def ?k1 ?k2 ?k3 ?k4 ?k5 ?kA ?kF ?kK ?k6 ?k7 ?k8 ?k9 ?kB ?_ ?c2 ?c3 ?c4 ?c5; (case kA => exact rfl); (case kF => exact rfl); (case kK => first | exact rfl | assumption); (case k1 => k_asm); (case k2 => k_asm); (case k3 => k_asm); (case k4 => k_asm); (case k5 => k_asm); (case k6 => k_is); (case k7 => k_is); (case k8 => ktr_room); (case k9 => exact BindsTo.of_eq rfl); (case c5 => decide); (case kB => exact locs rfl); (case c2 => exact rfl); (case c3 => exact rfl); (case c4 => exact rfl); k_whole; intro g' L' h' FG' F' N' B' X' T'; (try dsimp only); (try k_fold))
  k_steps
  refine wpAny_call ?_
  k_dflt (refine' code_def ?k1 ?k2 ?k3 ?k4 ?k5 ?kA ?kF ?kK ?k6 ?k7 ?k8 ?k9 ?kB ?_ ?c2 ?c3 ?c4 ?c5; (case kA => exact rfl); (case kF => exact rfl); (case kK => first | exact rfl | assumption); (case k1 => k_asm); (case k2 => k_asm); (case k3 => k_asm); (case k4 => k_asm); (case k5 => k_asm); (case k6 => k_is); (case k7 => k_is); (case k8 => ktr_room); (case k9 => exact BindsTo.of_eq rfl); (case c5 => decide); (case kB => exact locs rfl); (case c2 => exact rfl); (case c3 => exact rfl); (case c4 => exact rfl); k_whole; intro g' L' h' FG' F' N' B' X' T'; (try dsimp only); (try k_fold))
  k_steps
  refine wpAny_call ?_
  k_dflt (refine' code_def ?k1 ?k2 ?k3 ?k4 ?k5 ?kA ?kF ?kK ?k6 ?k7 ?k8 ?k9 ?kB ?_ ?c2 ?c3 ?c4 ?c5; (case kA => exact rfl); (case kF => exact rfl); (case kK => first | exact rfl | assumption); (case k1 => k_asm); (case k2 => k_asm); (case k3 => k_asm); (case k4 => k_asm); (case k5 => k_asm); (case k6 => k_is); (case k7 => k_is); (case k8 => ktr_room); (case k9 => exact BindsTo.of_eq rfl); (case c5 => decide); (case kB => exact locs rfl); (case c2 => exact rfl); (case c3 => exact rfl); (case c4 => exact rfl); k_whole; intro g' L' h' FG' F' N' B' X' T'; (try dsimp only); (try k_fold))
  k_steps
  all_goals (refine hret _ _ _ (by assumption) ?_; (with_reducible rename News _ _ _ _ => Nz); refine has_of (dx := dx) (bf := bf) (rl := rl) (l := _) Nz (by k_mem) (by k_mem) (by k_mem) (by k_mem) (by k_sub) hvs off n1 n2 n3 n4 n5 n6)

theorem l_add_no (B : Below A₀ base [] h₀) (XB : (hd.heap_1 w.params).In base) (TB : Top vw (looseW vw []) mean mg mb base) (F : Fr h₀ L s.heap m) (X : (hd.heap_1 w.params).In h₀) (N : News h₀ L s.heap news) (T : Top vw (looseW vw []) mean mg mb h₀) (hk : cs.kind = .function) (hdp : dp + 40 < recursionLimit) (hun : un + 400 < cLine) {x o : Addr} {iv sn en : Int} {body lk : List UInt8} {ps : List Int} {rest : List (Addr × Obj)} {key value : List UInt8} {tk tv : Tok} {b fin : Bool} {n : Nat} (H : Has w h₀ L s.heap x iv o body ps sn en fin lk rest)
    (O : Ord w b o rest) (hlow : Low fin n (rises b lk key)) (he : en = n) (hik : b = true → 0 < n → IK key ∧ IK lk) (hk1 : key.length < 1000) (hk2 : lk.length < 1000)
    (hret : ∀ (t : Tok) (h' : Heap) (tk' : Nat), Fr h₀ L h' m → Has w h₀ L h' x iv o body ps sn en fin lk rest → Q (.int 1 t) { s with heap := h', toks := tk' }) :
    wpAny (model PySem.Challenge.rw_no0404_01.prog w) (ktrTop dp un gd cn cs L a ccd cl []) (call (.ref 380) [.ref x, .bytes key.toArray tk, .bytes value.toArray tv]) Q E s := by
  cases fin
  · obtain ⟨hz, hr⟩ := low_f hlow
    cases b
    · exact l_add_low0 B XB TB F X N T hk hdp hun H O (by omega) (low0 hr) hk1 hk2 hret
    · exact l_add_low1 B XB TB F X N T hk hdp hun H O (by omega) (hik rfl hz).1 (hik rfl hz).2 (low1 (hik rfl hz).2 (hik rfl hz).1 hr) hk1 hk2 hret
  · exact l_add_fin B XB TB F X N T hk hdp hun H hret

end

section
variable {w : World} {mg mb : Str → Option Value} {mean : ExcName → Option Value} {dp un : Nat} {gd : Option (List Code)} {cn : Str} {cs : Scope} {a : Addr} {ccd : Value} {cl : List (Str × Addr)} {outer : List Env} {A₀ : Around} {base h₀ : Heap} {L : Addr} {m : Str → Option Value} {news : List (Addr × Obj)} {s : Shared} {Q E : Value → Shared → Prop}
theorem l_add_ok (B : Below A₀ base outer h₀) (F : Fr h₀ L s.heap m) (X : (hd.heap_1 w.params).In h₀) (N : News h₀ L s.heap news) (T : Top vw (looseW vw []) mean mg mb h₀) (hk : cs.kind = .function) (hdp : dp + 30 < recursionLimit) (hun : un + 240 < cLine) {x o : Addr} {iv sn en : Int} {body lk key value : List UInt8} {ps : List Int} {rest : List (Addr × Obj)} {b : Bool} {tk tv : Tok} (H : Has w h₀ L s.heap x iv o body ps sn en false lk rest) (O : Ord w b o rest)
    (hord : 0 < en → 0 < (if b then cmpI key lk else cmpB key lk)) (hik : b = true → 0 < en → IK key ∧ IK lk) (hen : 0 ≤ en) (hsn : 0 ≤ sn) (hiv : iv ≤ 3) (hk1 : key.length < 1000) (hk2 : lk.length < 1000) (hk3 : value.length < 1000) (hbo : body.length < 10000) (hps : ps.length < 100)
    (hret : ∀ (t : Tok) (h' : Heap) (tk' : Nat), Fr h₀ L h' m → Has w h₀ L h' x iv o (body ++ ent lk key value (!decide (sn < iv))) (if sn < iv then ps else ps ++ [(body.length : Int)]) (if sn < iv then sn + 1 else 1) (en + 1) false key rest → Q (.int 0 t) { s with heap := h', toks := tk' }) :
    wpC (model PySem.Challenge.rw_no0404_01.prog w) (ktrTop dp un gd cn cs L a ccd cl outer) (call (.ref 380) [.ref x, .bytes key.toArray tk, .bytes value.toArray tv]) Q E s := by
  revert X; k_fill; intro X; clear N
  refine Has.elim H ?_; clear H; intro dx bf rl k1 k2 k3 k4 k5 k6 k7 k8 ti ts te tl ep vs N hvs off n1 n2 n3 n4 n5 n6
  refine wpC_call ?_
  k_dflt cell_enter
  clear F N
  refine wpC_execs_cons (wpC_Try ?_)
  refine wpC_execs_cons (wpC_Expr (wpC_CallMeth ?_)); k_steps
  refine wpC_withA (keeps_K (K := hd.heap_1 w.params) (by k_dflt k_is)) ?_; k_steps
  (with_reducible rename Fr _ _ _ _ => Fx); (with_reducible rename News _ _ _ _ => Nx)
  have H9 : Has w _ _ _ x iv o body ps sn en false lk rest := has_of (dx := dx) (bf := bf) (rl := rl) Nx (by k_mem) (by k_mem) (by k_mem) (by k_mem) (by k_sub) hvs off n1 n2 n3 n4 n5 n6
  k_dflt (refine' c_add ?qB ?qF ?qX ?qN ?qT ?qk ?qd ?qu ?qa0 ?qa1 ?qa2 ?qa3 ?qa4 ?qa5 ?qa6 ?qa7 ?qa8 ?qa9 ?qa10 ?qa11 ?_; (case qB => k_asm); (case qF => k_asm); (case qX => k_asm); (case qN => k_asm); (case qT => k_asm); (case qk => first | rfl | assumption); (case qd => ktr_room); (case qu => ktr_units); (case qa0 => exact H9); (case qa1 => exact O); (case qa2 => exact hord); (case qa3 => exact hik); (case qa4 => exact hen); (case qa5 => exact hsn); (case qa6 => exact hiv); (case qa7 => exact hk1); (case qa8 => exact hk2); (case qa9 => exact hk3); (case qa10 => exact hbo); (case qa11 => exact hps)); intro h' tk' F' H'
  clear Fx Nx H9
  refine Has.elim H' ?_; clear H'; intro dx' bf' rl' k1' k2' k3' k4' k5' k6' k7' k8' ti' ts' te' tl' ep' vs' N' hvs' off' n1' n2' n3' n4' n5' n6'
  dsimp only
  refine wpC_execs_nil ?_; dsimp only
  refine wpC_execs_nil ?_; dsimp only
  refine aExecs_cons ?_; k_steps
  (with_reducible rename News _ _ _ _ => Nz)
  refine hret _ _ _ (by assumption) ?_
  exact has_of (dx := dx') (bf := bf') (rl := rl') (l := _) Nz (by k_mem) (by k_mem) (by k_mem) (by k_mem) (by k_sub) hvs' off' n1' n2' n3' n4' n5' n6'

end

section
variable {w : World} {mg mb : Str → Option Value} {mean : ExcName → Option Value} {dp un : Nat} {gd : Option (List Code)} {cn : Str} {cs : Scope} {a : Addr} {ccd : Value} {cl : List (Str × Addr)} {outer : List Env} {A₀ : Around} {base h₀ : Heap} {L : Addr} {m : Str → Option Value} {news : List (Addr × Obj)} {s : Shared} {Q E : Value → Shared → Prop}
theorem l_finish_ok (B : Below A₀ base outer h₀) (F : Fr h₀ L s.heap m) (X : (hd.heap_1 w.params).In h₀) (N : News h₀ L s.heap news) (T : Top vw (looseW vw []) mean mg mb h₀) (hk : cs.kind = .function) (hdp : dp + 30 < recursionLimit) (hun : un + 240 < cLine) {x o : Addr} {iv sn en : Int} {body lk : List UInt8} {ps : List Int} {rest : List (Addr × Obj)} (H : Has w h₀ L s.heap x iv o body ps sn en false lk rest)
    (hb : ∀ n ∈ ps, 0 ≤ n ∧ n < 65536) (hbo : body.length < 10000) (hps : ps.length < 100)
    (hret : ∀ (t : Tok) (h' : Heap) (tk' : Nat), Fr h₀ L h' m → Has w h₀ L h' x iv o body ps sn en true lk rest → Q (.bytes (body ++ (ps ++ [(ps.length : Int)]).flatMap fix).toArray t) { s with heap := h', toks := tk' }) :
    wpC (model PySem.Challenge.rw_no0404_01.prog w) (ktrTop dp un gd cn cs L a ccd cl outer) (call (.ref 387) [.ref x]) Q E s := by
  revert X; k_fill; intro X; clear N
  refine Has.elim H ?_; clear H; intro dx bf rl k1 k2 k3 k4 k5 k6 k7 k8 ti ts te tl ep vs N hvs off n1 n2 n3 n4 n5 n6
  refine wpC_call ?_
  k_dflt cell_enter
  clear F N
  refine wpC_execs_cons (wpC_Try ?_)
  refine wpC_execs_cons (wpC_Return_some (wpC_CallMeth ?_)); k_steps
  refine wpC_with0 (keeps_K (K := hd.heap_1 w.params) (by k_dflt k_is)) (by k_in) ?_
  (with_reducible rename Fr _ _ _ _ => Fx); (with_reducible rename News _ _ _ _ => Nx)
  have H9 : Has w _ _ _ x iv o body ps sn en false lk rest := has_of (dx := dx) (bf := bf) (rl := rl) Nx (by k_mem) (by k_mem) (by k_mem) (by k_mem) (by k_sub) hvs off n1 n2 n3 n4 n5 n6
  k_dflt (refine' c_finish ?qB ?qF ?qX ?qN ?qT ?qk ?qd ?qu ?qa0 ?qa1 ?qa2 ?qa3 ?_; (case qB => k_asm); (case qF => k_asm); (case qX => k_asm); (case qN => k_asm); (case qT => k_asm); (case qk => first | rfl | assumption); (case qd => ktr_room); (case qu => ktr_units); (case qa0 => exact H9); (case qa1 => exact hb); (case qa2 => exact hbo); (case qa3 => exact hps)); intro t' h' tk' F' H'
  clear Fx Nx H9
  refine Has.elim H' ?_; clear H'; intro dx' bf' rl' k1' k2' k3' k4' k5' k6' k7' k8' ti' ts' te' tl' ep' vs' N' hvs' off' n1' n2' n3' n4' n5' n6'
  dsimp only
  k_steps
  (with_reducible rename News _ _ _ _ => Nz)
  refine hret _ _ _ (by assumption) ?_
  exact has_of (dx := dx') (bf := bf') (rl := rl') (l := _) Nz (by k_mem) (by k_mem) (by k_mem) (by k_mem) (by k_sub) hvs' off' n1' n2' n3' n4' n5' n6'

end

section
variable {w : World} {mg mb : Str → Option Value} {mean : ExcName → Option Value} {dp un : Nat} {gd : Option (List Code)} {cn : Str} {cs : Scope} {a : Addr} {ccd : Value} {cl : List (Str × Addr)} {outer : List Env} {A₀ : Around} {base h₀ : Heap} {L : Addr} {m : Str → Option Value} {news : List (Addr × Obj)} {s : Shared} {Q E : Value → Shared → Prop}
def Hide (p : Prop) : Prop := p
theorem gen_list {vs : List Value} {ns : List Int} (_ : IntsAre vs ns) : ∃ ms, Hide (ms = ns) := ⟨ns, rfl⟩
local macro_rules | `(tactic| walk_at "eval ListComp") => `(tactic| (k_here; (with_reducible rename Hide _ => hX9); lcg_calm; k_dflt (refine LCt.ListComp_T (F₀ := by k_asm) (by with_unfolding_all rfl) (by decide) (by rfl) (by decide) (by rfl) ?_)))
local macro_rules | `(tactic| walk_at "subscriptTail") => `(tactic| (k_here; (with_reducible show wpAny _ _ (subscriptTail _ (Expr.Name _ _) (Value.ref _) (Value.int _ _)) _ _ _); (with_reducible rename Hide _ => hX9); k_dflt (refine' item_anyK ?k1 ?k2 ?k3 ?k4 ?k5 ?_ ?k6; (case k1 => is_list); (case k2 => assumption); (case k3 => omega); (case k4 => omega); (case k5 => omega); (case k6 => with_unfolding_all rfl); k_whole); intro _))
local macro_rules | `(tactic| walk_at "CompEnd") => `(tactic| (refine LCg.CompEnd.intro (by assumption) (by assumption) _ (fun _ h => h) (by assumption) trivial ?_))
def Fact (p : Prop) : Prop := p
def Hold (p : Prop) : Prop := p
theorem hold {p : Prop} (h : Hold p) : p := h
local macro_rules | `(tactic| walk_at "CompSrcT") => `(tactic| (k_here; (with_reducible rename Hide _ => hX9); refine hold ?_))
theorem var_len9 (i : Int) : (var i).length ≤ 2 := by unfold var; split <;> simp [octets]
theorem c_entry (B : Below A₀ base outer h₀) (F : Fr h₀ L s.heap m) (X : (hd.heap_1 w.params).In h₀) (N : News h₀ L s.heap news) (T : Top vw (looseW vw []) mean mg mb h₀) (hk : cs.kind = .function) (hdp : dp + 10 < recursionLimit) (hun : un + 80 < cLine) {last key value : List UInt8} {tl tk tv : Tok} {whole : Bool} (h1 : last.length < 1000) (h2 : key.length < 1000) (h3 : value.length < 1000)
  (hret : ∀ (t : Tok) (h' : Heap) (tk' : Nat), Fr h₀ L h' m → News h₀ L h' news → Q (.bytes (ent last key value whole).toArray t) { s with heap := h', toks := tk' }) :
  wpAny (model PySem.Challenge.rw_no0404_01.prog w) (ktrTop dp un gd cn cs L a ccd cl outer) (call (.ref 359) [.bytes last.toArray tl, .bytes key.toArray tk, .bytes value.toArray tv, .bool whole]) Q E s := by
  cases whole
  · revert X; k_fill; intro X
    refine wpAny_call ?_
    k_dflt (refine' codeA_cells ?k1 ?k2 ?k3 ?k5 ?kA ?kF ?kK ?k6 ?k7 ?k8 ?k9 ?kB ?kD ?_ ?c2 ?c3 ?c4; (case kA => exact rfl); (case kF => exact rfl); (case kK => assumption); (case k1 => k_asm); (case k2 => k_asm); (case k3 => k_asm); (case k5 => k_asm); (case k6 => k_is); (case k7 => k_is); (case k8 => ktr_room); (case k9 => exact BindsTo.of_eq rfl); (case kB => exact rfl); (case kD => decide +kernel); (case c2 => exact rfl); (case c3 => exact rfl); (case c4 => exact rfl); k_whole; intro L' h' tk' cells' FG' F' N' Y' B' X' T'; k_cells Y'; (try simp only [List.cons_append, List.nil_append, List.append_nil] at N'); (try dsimp only); (try k_lift B'); (try k_fold))
    k_steps
    (with_reducible rename IntsAre _ (List.map _ (List.foldl _ _ _)) => hIz)
    (with_reducible rename IntsAre _ (List.foldl _ _ _) => hIm)
    (with_reducible rename (List.length _ = List.length (List.map _ (List.foldl _ _ _))) => hLz)
    (with_reducible rename (List.length _ = List.length (List.foldl _ _ _)) => hLm)
    (with_reducible rename (List.length _ ≤ _) => hLe)
    clear hLz hLm hLe
    repeat ((with_reducible rename (List.length _ = List.length (List.foldl _ _ _)) => hLw); clear hLw)
    obtain ⟨zs, hzs⟩ := gen_list hIz
    rw [← show _ = _ from hzs] at hIz
    obtain ⟨ms, hms⟩ := gen_list hIm
    rw [← show _ = _ from hms] at hIm
    have hzl : zs.length = ms.length := by rw [show _ = _ from hzs, show _ = _ from hms, List.length_map]
    have hzs' : zs = ms.map (cost key.length) := by rw [show _ = _ from hms]; exact hzs
    have hpos : 0 < zs.length := by rw [hzl]; exact (ms_len hms h2).1
    have hml : ms.length < 2000 := (ms_len hms h2).2
    k_dflt (with_unfolding_all refine' kso_min ?k1 ?k2 ?k3 ?k4 ?k5 ?k6 ?_; (case k1 => k_asm); (case k2 => k_asm); (case k3 => kso_list); (case k4 => exact hIz); (case k5 => exact hpos); (case k6 => with_unfolding_all rfl); k_whole)
    intro h9 M t9 k9 F' N' hM1 hM2
    have hP : Fact (∀ bs : List Int, bs = List.foldl (fun l k => if zs.getD k.toNat 0 = M then l ++ [ms.getD k.toNat 0] else l) [] (rangeKs 0 ((ms.length : Int) - 0).toNat) → 0 < bs.length ∧ ∀ best : Int, best ∈ bs → (∀ a, a ∈ bs → a ≤ best) → best = cpl last key) := fun bs hbs => ⟨List.length_pos_of_mem (bs_pos hms hzs' hM1 hM2 hbs), fun best b1 b2 => best_is hms hzs' hM1 hM2 hbs b1 b2⟩
    clear hzs hzs' hM1 hM2
    k_steps
    unfold Hold
    refine LCt.CompSrcT.range (by rfl) (by k_asm) (by k_asm) (by assumption) (small_one (by omega) (by omega) (by omega) (by omega)) (rangeSize_nat _ _) (by rw [sizeLine_eq]; omega) ?_
    intro g'
    refine kci_range (fun l k => if zs.getD k.toNat 0 = M then l ++ [ms.getD k.toNat 0] else l) (fun k' t' I' oI' C' oC' D' m' ys' l' h' tk' E' hlo' hhi' hI' hC' hx' F' N' off' ne' => ?_) ?_ ?_
    · intro hMark'
      have hhi : k' < (ms.length : Int) := by clear ne'; omega
      clear hhi'
      k_steps
    · show ∀ _, _ → _ → _
      intro ys9 hI9 hL9
      have hX9 : Hide True := trivial
      clear hL9
      obtain ⟨bs, hbs⟩ := gen_list hI9
      rw [← show _ = _ from hbs] at hI9
      obtain ⟨hbp, hP2⟩ := hP bs hbs
      have hP3 : Fact (∀ best : Int, best ∈ bs → (∀ a, a ∈ bs → a ≤ best) → best = cpl last key) := hP2
      clear hbs hP2
      k_steps
      have hbest := hP3 _ (by assumption) (by assumption)
      subst hbest
      have c1 := cpl_le_left last key
      have c2 := cpl_le_right last key
      have v1 := var_len9 (cpl last key)
      have v2 := var_len9 ((key.length : Int) - cpl last key)
      have v3 := var_len9 value.length
      k_steps
      refine retB hret ?_ (by assumption) (by first | assumption | exact keepN N (by assumption))
      unfold ent
      simp only [Bool.false_eq_true, if_false, Int.toNat_natCast]
    · intro l k; dsimp only; split <;> simp
  · revert X; k_fill; intro X
    refine wpAny_call ?_
    k_dflt (refine' codeA_cells ?k1 ?k2 ?k3 ?k5 ?kA ?kF ?kK ?k6 ?k7 ?k8 ?k9 ?kB ?kD ?_ ?c2 ?c3 ?c4; (case kA => exact rfl); (case kF => exact rfl); (case kK => assumption); (case k1 => k_asm); (case k2 => k_asm); (case k3 => k_asm); (case k5 => k_asm); (case k6 => k_is); (case k7 => k_is); (case k8 => ktr_room); (case k9 => exact BindsTo.of_eq rfl); (case kB => exact rfl); (case kD => decide +kernel); (case c2 => exact rfl); (case c3 => exact rfl); (case c4 => exact rfl); k_whole; intro L' h' tk' cells' FG' F' N' Y' B' X' T'; k_cells Y'; (try simp only [List.cons_append, List.nil_append, List.append_nil] at N'); (try dsimp only); (try k_lift B'); (try k_fold))
    have v0 := var_len9 0
    have v2 := var_len9 ((key.length : Int) - 0)
    have v3 := var_len9 value.length
    k_steps
    · have e : ∀ x, x = [0].getD (0 + ((0 : Nat) : Int)).toNat 0 → x = (0 : Int) := fun x h => h
      have e0 := e _ (by assumption)
      subst e0
      k_steps
      refine retB hret ?_ (by assumption) (by first | assumption | exact keepN N (by assumption))
      unfold ent
      simp only [if_true, Int.toNat_zero, List.drop_zero]
    · exfalso
      have e : ∀ {f : Int → Int} {M : Int}, M ∈ List.map f [0] → ¬ (List.map f [0]).getD (0 + ((0 : Nat) : Int)).toNat 0 ≠ M := fun {f M} h q => q (List.mem_singleton.mp (show M ∈ [f 0] from h)).symm
      exact e (by assumption) (by assumption)

end

local macro_rules | `(tactic| walk_at "call ref") => `(tactic| (k_here; (with_reducible show wpAny _ _ (call (Value.ref 342) _) _ _ _); k_dflt (refine c_draw (by k_asm) (by k_asm) (by k_asm) (by k_asm) (by k_asm) (by first | rfl | assumption) (by ktr_room) (by ktr_units) (by k_mem) (by assumption) (by assumption) (by assumption) (by assumption) (by omega) (by omega) ?_; k_whole); intro r' t' h' tk' lo9' hi9' F' N'; (try k_sweep)))
local macro_rules | `(tactic| walk_at "call ref") => `(tactic| (k_here; (with_reducible show wpAny _ _ (call (Value.ref 347) _) _ _ _); k_dflt (refine c_word (by k_asm) (by k_asm) (by k_asm) (by k_asm) (by k_asm) (by first | rfl | assumption) (by ktr_room) (by ktr_units) (by omega) (by omega) ?_; k_whole); intro r' t' h' tk' len9' F' N'; (try k_sweep)))
local macro_rules | `(tactic| walk_at "call ref") => `(tactic| (k_here; (with_reducible show wpAny _ _ (call (Value.ref 359) _) _ _ _); k_dflt (refine c_entry (by k_asm) (by k_asm) (by k_asm) (by k_asm) (by k_asm) (by first | rfl | assumption) (by ktr_room) (by ktr_units) (by (first | omega | assumption | (simp only [List.length_take, List.length_drop, List.length_append] at *; omega))) (by (first | omega | assumption | (simp only [List.length_take, List.length_drop, List.length_append] at *; omega))) (by (first | omega | assumption | (simp only [List.length_take, List.length_drop, List.length_append] at *; omega))) ?_; k_whole); intro t' h' tk' F' N'; (try k_sweep)))
local macro_rules | `(tactic| walk_at "call ref") => `(tactic| (k_here; (with_reducible show wpAny _ _ (call (Value.ref 366) _) _ _ _); k_dflt (refine c_rises (by k_asm) (by k_asm) (by k_asm) (by k_asm) (by k_asm) (by first | rfl | assumption) (by ktr_room) (by ktr_units) (by (first | omega | assumption | (simp only [List.length_take, List.length_drop, List.length_append] at *; omega))) (by (first | omega | assumption | (simp only [List.length_take, List.length_drop, List.length_append] at *; omega))) (by assumption) ?_; k_whole); intro h' tk' F' N'; (try k_sweep)))

section
variable {w : World} {mg mb : Str → Option Value} {mean : ExcName → Option Value} {dp un : Nat} {gd : Option (List Code)} {cn : Str} {cs : Scope} {a : Addr} {ccd : Value} {cl : List (Str × Addr)} {outer : List Env} {A₀ : Around} {base h₀ : Heap} {L : Addr} {m : Str → Option Value} {news : List (Addr × Obj)} {s : Shared} {Q E : Value → Shared → Prop}
local macro_rules | `(tactic| walk_at "subscriptTail") => `(tactic| (k_here; (with_reducible show wpAny _ _ (subscriptTail _ (Expr.Name _ _) (Value.ref _) (Value.int _ _)) _ _ _); k_dflt (refine' item_anyK ?k1 ?k2 ?k3 ?k4 ?k5 ?_ ?k6; (case k1 => is_list); (case k2 => assumption); (case k3 => omega); (case k4 => omega); (case k5 => omega); (case k6 => with_unfolding_all rfl); k_whole); intro _))
local macro_rules | `(tactic| walk_at "CompEnd") => `(tactic| (refine LCg.CompEnd.intro (by assumption) (by assumption) _ (fun _ h => h) (by assumption) trivial ?_))
local macro_rules | `(tactic| walk_at "call ref") => `(tactic| (k_here; (with_reducible show wpAny _ _ (call (Value.ref 387) _) _ _ _); (with_reducible rename Has _ _ _ _ _ _ _ _ _ _ _ true _ _ => hH9); k_dflt (refine l_finish_fin (by k_asm) (by k_asm) (by k_asm) (by k_asm) (by k_asm) (by k_asm) (by k_asm) (by first | rfl | assumption) (by ktr_room) (by ktr_units) (by exact hH9) ?_); k_whole; clear hH9; intro t' h' tk' F' H'; have N' := H'.rest))
local macro_rules | `(tactic| walk_at "call ref") => `(tactic| (k_here; (with_reducible show wpAny _ _ (call (Value.ref 380) _) _ _ _); (with_reducible rename Has _ _ _ _ _ _ _ _ _ _ _ true _ _ => hH9); k_dflt (refine l_add_fin (by k_asm) (by k_asm) (by k_asm) (by k_asm) (by k_asm) (by k_asm) (by k_asm) (by first | rfl | assumption) (by ktr_room) (by ktr_units) (by exact hH9) ?_); k_whole; clear hH9; intro t' h' tk' F' H'; have N' := H'.rest))

theorem dec_cases {r : Int} (_ : r < 10000000) : r.fmod 6 < 2 ∨ ¬ r.fmod 6 < 2 := Decidable.em _
theorem iv_pos {r : Int} (h : ¬ r.fmod 6 < 2) : 1 ≤ r.fmod 6 - 1 := by omega
theorem iv_rng (z : Int) : 1 ≤ 1 + z.fmod 3 ∧ 1 + z.fmod 3 ≤ 3 := by
  rw [fm_pos _ (show (0 : Int) ≤ 3 by decide)]; omega
theorem off2 {a b c : Addr} {x y : Obj} (h1 : @Ne Nat a c) (h2 : @Ne Nat b c) : OwnOff [(a, x), (b, y)] [c] := by
  intro p hp q hq
  cases List.mem_singleton.mp hq
  simp only [List.mem_cons, List.not_mem_nil, or_false] at hp
  rcases hp with rfl | rfl
  · exact h1
  · exact h2
theorem ordI {w : World} {m : Str → Option Value} {nw : List (Addr × Obj)} {o d u du c ln : Addr} {k : Nat} {oc x : Obj} (hm : m (Str.ofString "order") = some (.ref o))
    (h1 : (o, instObj 333 d) ∈ nw) (h2 : (d, dictOf [⟨PyData.keyHash w.params (Str.ofString "user_order"), .str (Str.ofString "user_order") k, .ref u⟩] 1) ∈ nw) (h3 : (u, instObj 279 du) ∈ nw) (h4 : (du, emptyDict) ∈ nw)
    (hc : (c, oc) ∈ nw) (hn : (ln, x) ∈ nw) (n1 : @Ne Nat o c) (n2 : @Ne Nat d c) (n3 : @Ne Nat u c) (n4 : @Ne Nat du c) :
    ∃ o od, m (Str.ofString "order") = some (.ref o) ∧ Ord w true o od ∧ Led ((c, oc) :: (ln, x) :: od) nw ∧ OwnOff od [c] :=
  ⟨o, [(o, instObj 333 d), (d, dictOf [⟨PyData.keyHash w.params (Str.ofString "user_order"), .str (Str.ofString "user_order") k, .ref u⟩] 1), (u, instObj 279 du), (du, emptyDict)], hm,
    ⟨d, u, du, k, .head _, .tail _ (.head _), .tail _ (.tail _ (.head _)), .tail _ (.tail _ (.tail _ (.head _)))⟩, .cons hc (.cons hn (.cons h1 (.cons h2 (.cons h3 (.cons h4 .nil))))), by
      intro p hp q hq
      cases List.mem_singleton.mp hq
      simp only [List.mem_cons, List.not_mem_nil, or_false] at hp
      rcases hp with rfl | rfl | rfl | rfl
      · exact n1
      · exact n2
      · exact n3
      · exact n4⟩
theorem off_ne4 {c a1 a2 a3 a4 : Addr} {o : Obj} {r : List (Addr × Obj)} (h : OwnOff ((c, o) :: r) [a1, a2, a3, a4]) : (@Ne Nat c a1 ∧ @Ne Nat c a2 ∧ @Ne Nat c a3 ∧ @Ne Nat c a4) ∧ OwnOff r [a1, a2, a3, a4] :=
  ⟨⟨h _ (.head _) a1 (.head _), h _ (.head _) a2 (.tail _ (.head _)), h _ (.head _) a3 (.tail _ (.tail _ (.head _))), h _ (.head _) a4 (.tail _ (.tail _ (.tail _ (.head _))))⟩, fun p hp q hq => h p (.tail _ hp) q hq⟩
theorem off_app {r : List (Addr × Obj)} {a b : List Addr} (h1 : OwnOff r a) (h2 : OwnOff r b) : OwnOff r (a ++ b) := fun p hp q hq => (List.mem_append.mp hq).elim (h1 p hp q) (h2 p hp q)
theorem nums_ok (l : List Int) : ∀ n ∈ List.map (fun k' : Int => k'.fmod 999983) l, 0 ≤ n ∧ n < 1000000 := by
  intro n hn
  obtain ⟨k, _, rfl⟩ := List.mem_map.mp hn
  rw [fm_pos _ (show (0 : Int) ≤ 999983 by decide)]
  omega
theorem the_law : PySem.Challenge.rw_no0404_01.Holds := by
  refine hd ?_
  k_fill
  intro w s₀ s₁ mg mb G Y fa o pm cd doc dV kV ho hd hcd hD hmg hg args vals as hpre hlay hrd hwl hlo
  have KX := kIn_of Y
  have V := (Ground.X G).2
  have X := (Ground.X G).1
  refine Ground.open G ?_
  intro T B D TE TW
  try (refine guard_noD D (by decide +kernel) ?_; clear D)
  obtain ⟨_, _, M⟩ := bmod_of_top T
  clear hmg
  wrow_args hpre hlay hrd hwl hlo
  refine enterC ?_
  refine codeC_mono ?_ (fun _ _ g => GoodW.toG g)
  have K0 : Below callerA s₁.heap [] s₁.heap := below_caller _
  have he := Dflts.none hD rfl; subst he; have he := Dflts.noKw hD; subst he
  refine call_cellsC (by decide) ho (fd_plain hd) (Top.nolimit T) hcd rfl (kinds_of (by kinds_ok)) (by decide) fun h₁ tk₁ cells F N0 X0 => ?_
  cells_open X0
  k_drop
  (with_reducible rename (Obj.data _ = Data.cell _) => hdc)
  replace hdc : _ = Data.cell none := hdc
  replace X0 := trivial
  dsimp only at F hcd ⊢
  clear hd ho hD G Y V X TE TW B M
  refine aExecs_cons ?_
  k_steps
  (with_reducible rename IntsAre _ (List.map _ _) => hI9)
  refine seqC (h₀ := s₁.heap) (L := s₁.heap.objs.size) (fun m nw => ∃ ln us ns ep oc, m (Str.ofString "nums") = some (.ref ln) ∧ Led [(s₁.heap.objs.size + 1, oc), (ln, W.listOf us.toArray ep)] nw ∧ oc.data = Data.cell none ∧ IntsAre us ns ∧ 0 < ns.length ∧ ns.length < 100 ∧ (∀ n ∈ ns, 0 ≤ n ∧ n < 1000000) ∧ @Ne Nat (s₁.heap.objs.size + 1) ln) (gen fun Qk hQk => cOf ?_) ?_
  · k_steps
    · refine hQk _ _ (Mid.intro (by assumption) (by assumption) ⟨_, _, _, _, _, rfl, .cons (by k_mem) (.cons (by k_mem) .nil), hdc, .cons 13 _ .nil, by decide, by decide, by decide, by omega⟩)
    · refine hQk _ _ (Mid.intro (by assumption) (by assumption) ⟨_, _, _, _, _, rfl, .cons (by k_mem) (.cons (by k_mem) .nil), hdc, hI9, by omega, by simp [List.length_map, List.length_take]; omega, nums_ok _, by omega⟩)
  clear hI9 hcd
  rintro h2 tk2 m2 nw2 F2 N2 ⟨ln, us, ns, ep, oc, hm1, hl, hdc2, hus, hn1, hn2, hnb, hne⟩
  replace N2 := hl.news N2
  clear hl
  rw [mset1 hm1] at F2
  dsimp only
  refine aExecs_cons ?_
  k_steps
  refine aExecs_cons ?_
  k_steps
  (with_reducible rename (_ < (10000000 : Int)) => hrhi)
  (with_reducible rename ((0 : Int) ≤ _) => hrlo)
  (with_reducible rename Fr _ _ _ _ => F3)
  (with_reducible rename News _ _ _ _ => N3)
  try clear F2
  try clear N2
  refine seqC (h₀ := s₁.heap) (L := s₁.heap.objs.size) (fun m nw => (∃ r t, m (Str.ofString "setup") = some (.int r t) ∧ 0 ≤ r ∧ r < 10000000 ∧ m (Str.ofString "told") = some (.bool (decide (r.fmod 6 < 2)))) ∧ m (Str.ofString "nums") = some (.ref ln) ∧ Led [(s₁.heap.objs.size + 1, oc), (ln, W.listOf us.toArray ep)] nw) (gen fun Qk hQk => ?_) ?_
  · rcases dec_cases hrhi with hc | hc
    rotate_left
    · refine wpC_Try (wpC_execs_cons (wpC_Expr_any (wpC_CallName ?_)))
      k_steps
      refine wpC_withA (keeps_K (K := hd.heap_1 w.params) (by k_dflt k_is)) ?_
      k_steps
      k_dflt (refine' c_make ?qB ?qF ?qX ?qN ?qT ?qk ?qd ?qu ?qa0 ?_; (case qB => k_asm); (case qF => k_asm); (case qX => k_asm); (case qN => k_asm); (case qT => k_asm); (case qk => first | rfl | assumption); (case qd => ktr_room); (case qu => ktr_units); (case qa0 => exact iv_pos hc))
      intro x9 h9 tk9 F9 H9
      have N9 := H9.rest
      dsimp only
      refine wpC_execs_nil ?_
      dsimp only
      refine wpC_execs_nil ?_
      exact hQk _ _ (Mid.intro F9 N9 ⟨⟨_, _, rfl, hrlo, hrhi, congrArg (fun b => some (Value.bool b)) (decide_eq_false hc).symm⟩, rfl, .cons (by k_mem) (.cons (by k_mem) .nil)⟩)
    · refine cOf (wpAny_Try_except ?_)
      k_steps
      dsimp only [InitBack]
      (with_reducible rename RaisedK _ _ _ _ _ _ _ _ => rkX)
      (with_reducible rename Heap.UpToSlots _ _ => usX)
      (with_reducible rename Fr s₁.heap _ _ _ => fgX)
      k_dflt (refine' caught_cells (bmB := [.type "Exception", .type "BaseException", .type "object"]) (newId := "Exception.__new__") K0 fgX usX rkX KX ?cT ?cex ?cq ?chb ?_ ?ck ?cx ?cd ?cE; (case cT => k_asm); (case cex => k_is); (case cq => k_exc); (case chb => rfl); (case ck => rfl); (case cx => rfl); (case cd => decide); (case cE => passes_own); k_whole)
      intro h9 F9 N9
      clear fgX usX rkX
      k_steps
      exact hQk _ _ (Mid.intro (by assumption) (by assumption) ⟨⟨_, _, rfl, hrlo, hrhi, congrArg (fun b => some (Value.bool b)) (decide_eq_true hc).symm⟩, rfl, .cons (by k_mem) (.cons (by k_mem) .nil)⟩)
  clear F3 N3 hrlo hrhi hm1
  rintro h3 tk3 m3 nw3 F3 N3 ⟨⟨r, tr, hm1', hr0, hr1, hm2'⟩, hm3', hl⟩
  replace N3 := hl.news N3
  clear hl
  rw [mset1 hm1', mset1 hm2', mset1 hm3'] at F3
  dsimp only
  refine aExecs_cons ?_
  k_steps
  refine aExecs_cons ?_
  k_steps
  refine aExecs_cons ?_
  k_steps
  refine aExecs_cons ?_
  k_steps
  refine gen2 fun Qz Ez hQz => ?_
  refine seqC (h₀ := s₁.heap) (L := s₁.heap.objs.size) (fun m nw => (∃ iv t, m (Str.ofString "interval") = some (.int iv t) ∧ 1 ≤ iv ∧ iv ≤ 3) ∧ (∃ b, m (Str.ofString "internal") = some (.bool b)) ∧ (∃ b, m (Str.ofString "wide") = some (.bool b)) ∧
      m (Str.ofString "nums") = some (.ref ln) ∧ ∃ o d, m (Str.ofString "order") = some (.ref o) ∧ Led [(o, instObj 279 d), (d, emptyDict), (s₁.heap.objs.size + 1, oc), (ln, W.listOf us.toArray ep)] nw ∧
      @Ne Nat (s₁.heap.objs.size + 1) o ∧ @Ne Nat (s₁.heap.objs.size + 1) d) (gen fun Qk hQk => cOf ?_) ?_
  · k_steps
    exact hQk _ _ (Mid.intro (by assumption) (by assumption) ⟨⟨_, _, rfl, (iv_rng _).1, (iv_rng _).2⟩, ⟨_, rfl⟩, ⟨_, rfl⟩, rfl, _, _, rfl, .cons (by k_mem) (.cons (by k_mem) (.cons (by k_mem) (.cons (by k_mem) .nil))), by omega, by omega⟩)
  rintro h4 tk4 m4 nw4 F4 N4 ⟨⟨iv, tiv, hm1, hiv1, hiv2⟩, ⟨b, hm2⟩, ⟨wd, hm3⟩, hm4, o, d, hm5, hl, ne1, ne2⟩
  replace N4 := hl.news N4
  try clear F3
  try clear N3
  clear hl hm1' hm2' hm3'
  rw [mset1 hm1, mset1 hm2, mset1 hm3, mset1 hm4, mset1 hm5] at F4
  dsimp only
  refine seqC (h₀ := s₁.heap) (L := s₁.heap.objs.size) (fun m nw => (∃ t, m (Str.ofString "interval") = some (.int iv t)) ∧ m (Str.ofString "internal") = some (.bool b) ∧ m (Str.ofString "wide") = some (.bool wd) ∧
      m (Str.ofString "nums") = some (.ref ln) ∧ ∃ o od, m (Str.ofString "order") = some (.ref o) ∧ Ord w b o od ∧ Led ((s₁.heap.objs.size + 1, oc) :: (ln, W.listOf us.toArray ep) :: od) nw ∧ OwnOff od [s₁.heap.objs.size + 1]) (gen fun Qk hQk => cOf ?_) ?_
  · cases b
    · k_steps
      exact hQk _ _ (Mid.intro (by assumption) (by assumption) ⟨⟨_, rfl⟩, rfl, rfl, rfl, o, [(o, instObj 279 d), (d, emptyDict)], rfl, ⟨d, .head _, .tail _ (.head _)⟩, .cons (by k_mem) (.cons (by k_mem) (.cons (by k_mem) (.cons (by k_mem) .nil))), off2 (Ne.symm ne1) (Ne.symm ne2)⟩)
    · k_steps
      exact hQk _ _ (Mid.intro (by assumption) (by assumption) ⟨⟨_, rfl⟩, rfl, rfl, rfl, ordI rfl (by k_mem) (by k_mem) (by k_mem) (by k_mem) (by k_mem) (by k_mem) (by omega) (by omega) (by omega) (by omega)⟩)
  try clear F4
  try clear N4
  clear ne1 ne2 hm1 hm2 hm3 hm4 hm5
  rintro h5 tk5 m5 nw5 F5 N5 ⟨⟨tiv', hm1⟩, hm2, hm3, hm4, o', od, hm5, hO, hl, hoff⟩
  replace N5 := hl.news N5
  clear hl
  rw [mset1 hm1, mset1 hm2, mset1 hm3, mset1 hm4, mset1 hm5] at F5
  dsimp only
  refine wpC_execs_cons (wpC_Assign_Name (wpC_CallName ?_))
  k_steps
  refine wpC_withA (keeps_K (K := hd.heap_1 w.params) (by k_dflt k_is)) ?_
  k_steps
  k_dflt (refine' c_make ?qB ?qF ?qX ?qN ?qT ?qk ?qd ?qu ?qa0 ?_; (case qB => k_asm); (case qF => k_asm); (case qX => k_asm); (case qN => k_asm); (case qT => k_asm); (case qk => first | rfl | assumption); (case qd => ktr_room); (case qu => ktr_units); (case qa0 => exact hiv1))
  intro x h6 tk6 F6 H6
  try clear F5
  try clear N5
  refine Has.elim H6 ?_; clear H6; intro dx bf rl k1 k2 k3 k4 k5 k6 k7 k8 ti ts te tl ep2 vs2 N6 hvs off n1 n2 n3 n4 n5 n6
  obtain ⟨⟨c1, c2, c3, c4⟩, off5⟩ := off_ne4 off
  obtain ⟨⟨e1, e2, e3, e4⟩, off6⟩ := off_ne4 off5
  have off7 : OwnOff od [s₁.heap.objs.size + 1, x, dx, bf, rl] := off_app hoff off6
  clear off off5 off6 hoff
  k_steps
  iterate 6 (refine aExecs_cons ?_; k_steps)
  (with_reducible rename (_ < _ ∧ _) => hlt9)
  obtain ⟨z1, z2, z3, z4, z5, z6, z7⟩ := hlt9
  have hen0 : (0 : Int) = ((([] : List Int).length : Nat) : Int) := rfl
  refine seqC (h₀ := s₁.heap) (L := s₁.heap.objs.size) (fun m nw => (∃ acts t, m (Str.ofString "acts") = some (.int acts t) ∧ 0 ≤ acts ∧ acts ≤ 7) ∧ ∃ hb : List UInt8, hb.length ≤ 126 ∧ JJ w s₁.heap.objs.size iv b wd hb x ln o' us ep od 0 m nw) (gen fun Qk hQk => cOf ?_) ?_
  · cases wd
    · k_steps
      refine hQk _ _ (Mid.intro (by assumption) (by assumption) ⟨⟨_, _, rfl, by decide, by decide⟩, [], by decide, [], [], [], false, inv0 b, ?_⟩)
      refine lay_of ⟨⟨_, rfl⟩, rfl, rfl, rfl, rfl, ⟨_, rfl⟩, ⟨_, rfl⟩, rfl, ⟨_, rfl⟩⟩ (by k_mem) (by k_mem) (by k_mem) (by k_mem) (by k_mem) (by assumption) (by k_mem) (by k_mem) (fun p hp => by repeat (first | exact hp | refine List.Mem.tail _ ?_)) hvs .nil rfl hen0 rfl (off_new off7 z7) (by first | assumption | exact Ne.symm (by assumption) | omega) (by first | assumption | exact Ne.symm (by assumption) | omega) (by first | assumption | exact Ne.symm (by assumption) | omega) (by first | assumption | exact Ne.symm (by assumption) | omega) (by first | assumption | exact Ne.symm (by assumption) | omega) (by first | assumption | exact Ne.symm (by assumption) | omega) (by first | assumption | exact Ne.symm (by assumption) | omega) (by first | assumption | exact Ne.symm (by assumption) | omega) (by first | assumption | exact Ne.symm (by assumption) | omega) (by first | assumption | exact Ne.symm (by assumption) | omega) (by first | assumption | exact Ne.symm (by assumption) | omega) (by first | assumption | exact Ne.symm (by assumption) | omega) (by first | assumption | exact Ne.symm (by assumption) | omega) (by first | assumption | exact Ne.symm (by assumption) | omega) (by first | assumption | exact Ne.symm (by assumption) | omega) (by first | assumption | exact Ne.symm (by assumption) | omega) (by first | assumption | exact Ne.symm (by assumption) | omega) (by first | assumption | exact Ne.symm (by assumption) | omega) (by first | assumption | exact Ne.symm (by assumption) | omega) (by first | assumption | exact Ne.symm (by assumption) | omega) (by first | assumption | exact Ne.symm (by assumption) | omega) 
    · k_steps
      refine hQk _ _ (Mid.intro (by assumption) (by assumption) ⟨⟨_, _, rfl, by decide, by decide⟩, List.replicate 126 107, by decide, [], [], [], false, inv0 b, ?_⟩)
      refine lay_of ⟨⟨_, rfl⟩, rfl, rfl, rfl, rfl, ⟨_, rfl⟩, ⟨_, rfl⟩, rfl, ⟨_, rfl⟩⟩ (by k_mem) (by k_mem) (by k_mem) (by k_mem) (by k_mem) (by assumption) (by k_mem) (by k_mem) (fun p hp => by repeat (first | exact hp | refine List.Mem.tail _ ?_)) hvs .nil rfl hen0 rfl (off_new off7 z7) (by first | assumption | exact Ne.symm (by assumption) | omega) (by first | assumption | exact Ne.symm (by assumption) | omega) (by first | assumption | exact Ne.symm (by assumption) | omega) (by first | assumption | exact Ne.symm (by assumption) | omega) (by first | assumption | exact Ne.symm (by assumption) | omega) (by first | assumption | exact Ne.symm (by assumption) | omega) (by first | assumption | exact Ne.symm (by assumption) | omega) (by first | assumption | exact Ne.symm (by assumption) | omega) (by first | assumption | exact Ne.symm (by assumption) | omega) (by first | assumption | exact Ne.symm (by assumption) | omega) (by first | assumption | exact Ne.symm (by assumption) | omega) (by first | assumption | exact Ne.symm (by assumption) | omega) (by first | assumption | exact Ne.symm (by assumption) | omega) (by first | assumption | exact Ne.symm (by assumption) | omega) (by first | assumption | exact Ne.symm (by assumption) | omega) (by first | assumption | exact Ne.symm (by assumption) | omega) (by first | assumption | exact Ne.symm (by assumption) | omega) (by first | assumption | exact Ne.symm (by assumption) | omega) (by first | assumption | exact Ne.symm (by assumption) | omega) (by first | assumption | exact Ne.symm (by assumption) | omega) (by first | assumption | exact Ne.symm (by assumption) | omega) 
  clear n1 n2 n3 n4 n5 n6 c1 c2 c3 c4 e1 e2 e3 e4 z1 z2 z3 z4 z5 z6 z7 off7 hvs hen0 hm1 hm2 hm3 hm4 hm5
  rintro h7 tk7 m7 nw7 F7 N7 ⟨⟨acts, ta, hma, ha0, ha1⟩, hb, hhb, hJ⟩
  rw [mset1 hma] at F7
  dsimp only
  refine wpC_execs_cons (wpC_For ?_)
  k_steps
  (with_reducible rename IsRange _ _ _ _ _ _ _ _ => hrg)
  (with_reducible rename Fr _ _ _ _ => F8)
  (with_reducible rename News _ _ _ _ => N8)
  k_dflt (refine iterC_range (n := acts.toNat) rfl hrg (small_one (by omega) (by omega) (by omega) (by omega)) (by rw [rangeSize_nat]; congr 1; omega) rfl rfl rfl F8 N8 (JJ w s₁.heap.objs.size iv b wd hb x ln o' us ep od) ?_ ?_ ?_)
  · exact hJ.set (by decide)
  · clear hJ hrg hma hne hr0 hr1
    repeat ((with_reducible rename Fr _ _ _ _ => qz); clear qz)
    repeat ((with_reducible rename News _ _ _ _ => qz); clear qz)
    repeat ((with_reducible rename (_ ∧ _) => qz); clear qz)
    repeat ((with_reducible rename (List.length _ = _) => qz); clear qz)
    repeat ((with_reducible rename (Obj.data _ = _) => qz); clear qz)
    rintro I i ti9 m1 nw1 s9 oI hi ⟨ss, body, last, fin, hInv, hLay⟩ hoff F N
    change Fr s₁.heap s₁.heap.objs.size _ _ at F
    change News s₁.heap s₁.heap.objs.size _ _ at N
    have hi7 : i < 7 := by omega
    clear hi
    refine Lay.out hLay ?_; clear hLay; intro tiv tb tlq th dx bf rl ls k1 k2 k3 k4 k5 k6 k7 k8 ti ts te tl ep2 ep3 vs us2 oc hmq hled hvs hus2 hoc hoff2 hap
    rw [hmq] at F
    replace N := (Led.cons (.head _) (fun p hp => .tail _ (hled p hp))).news N
    obtain ⟨hapI, i8⟩ := off_I hoff hled
    obtain ⟨h9, g9, d9, t9, os9⟩ := s9
    refine gen fun Qt hQt => ?_
    clear hled hoff hmq
    have hlen2 := hus2.length
    obtain ⟨v1, v2, v3, v4, v5, v6⟩ := hInv
    refine aExecs_cons ?_
    k_steps
    refine aExecs_cons ?_
    k_steps
    (with_reducible rename Fr _ _ _ _ => Fq)
    refine aExecs_cons (Assign_step (L := s₁.heap.objs.size) (m := mOf Fq) (h₀ := s₁.heap) rfl (by with_unfolding_all rfl) (by rfl) (by decide) (by rfl) (by decide) (by rfl) (by rfl) (by rfl) ?_)
    k_steps
    (with_reducible rename IsRange _ _ _ _ _ _ _ _ => hrg)
    (with_reducible rename Fr _ _ _ _ => Fz)
    (with_reducible rename News _ _ _ _ => Nz)
    refine ⟨_, 0, (ss.length : Int), iv, _, _, _, nth iv ss.length, _, rfl, rfl, Fz, Nz, hrg, small_step (by omega) (by omega) hiv1 hiv2, nth_size hiv1 (by omega), (by have := nth_le (iv := iv) (len := ss.length) hiv1 (by omega); rw [sizeLine_eq]; omega), ?_⟩
    rintro _ ⟨g', rfl⟩
    refine kcf_rest (ks := idx iv ss.length) (fun k => ss.getD k.toNat 0) (by simp [idx]) idx_get (fun k' t' I' oI' C' oC' D' m' ys' h' tk' E' hk' hC' hx' F' N' off' ne' mark => ?_) ?_
    · obtain ⟨kl, kh⟩ := idx_mem hiv1 (by omega) hk'
      clear ne' hk'
      k_steps
    · show ∀ _, _ → _
      intro ys9 hI9
      have hpl : IntsAre ys9 (pls iv ss) := hI9
      clear hI9
      k_steps
      (with_reducible rename (_ ≠ _ ∧ _) => ho1)
      obtain ⟨w1, w2, w3, w4, w5, w6, w7, w8, w9⟩ := ho1
      (with_reducible rename (_ < (10000000 : Int)) => hrhi)
      (with_reducible rename ((0 : Int) ≤ _) => hrlo)
      refine seqC (h₀ := s₁.heap) (L := s₁.heap.objs.size) (Turn w s₁.heap.objs.size iv b wd hb x ln o' us ep od ss body last fin I oI) (gen fun Qk hQk => cOf ?_) ?_
      · k_steps
        · (with_reducible rename (_ < _ ∧ _) => hlt9)
          obtain ⟨y0, y1, y2, y3, y4, y5, y6, y7, y8, y9⟩ := hlt9
          refine hQk _ _ (Mid.intro (by assumption) (by assumption) ⟨⟨_, _, _, rfl, hrlo, hrhi, rfl⟩, _, _, 0, rfl, ps_zero (by assumption) (.cons 0 ?tk9 .nil), ?lay9⟩)
          case lay9 => exact lay_ap ⟨⟨_, rfl⟩, rfl, rfl, rfl, rfl, ⟨_, rfl⟩, ⟨_, rfl⟩, rfl, ⟨_, rfl⟩⟩ (by k_mem) (by k_mem) (by k_mem) (by k_mem) (by k_mem) hoc (by k_mem) (by k_mem) (List.forall_mem_cons.mpr ⟨by k_mem, List.forall_mem_cons.mpr ⟨by k_mem, fun p hp => by repeat (first | exact hp | refine List.Mem.tail _ ?_)⟩⟩) hvs hus2 rfl rfl rfl (off_cons6 (offI hapI hoff2) (Nat.ne_of_gt y6) (Nat.ne_of_gt y7) (Nat.ne_of_gt y2) (Nat.ne_of_gt y3) (Nat.ne_of_gt y4) (Nat.ne_of_gt y5)) hap
        · refine hQk _ _ (Mid.intro (by assumption) (by assumption) ⟨⟨_, _, _, rfl, hrlo, hrhi, rfl⟩, _, _, ys9.length, rfl, ps_more (by assumption) hpl, ?_⟩)
          exact lay_ap ⟨⟨_, rfl⟩, rfl, rfl, rfl, rfl, ⟨_, rfl⟩, ⟨_, rfl⟩, rfl, ⟨_, rfl⟩⟩ (by k_mem) (by k_mem) (by k_mem) (by k_mem) (by k_mem) hoc (by k_mem) (by k_mem) (List.forall_mem_cons.mpr ⟨lst_mem (by k_mem), List.forall_mem_cons.mpr ⟨by k_mem, fun p hp => by repeat (first | exact hp | refine List.Mem.tail _ ?_)⟩⟩) hvs hus2 rfl rfl rfl (off_cons6 (offI hapI hoff2) (Ne.symm w6) (Ne.symm w7) (Ne.symm w2) (Ne.symm w3) (Ne.symm w4) (Ne.symm w5)) hap
      · clear hpl hvs hus2 hoc hoff2 hap hlen2 hrg hrlo hrhi w1 w2 w3 w4 w5 w6 w7 w8 w9
        repeat ((with_reducible rename Fr _ _ _ _ => qz); clear qz)
        repeat ((with_reducible rename News _ _ _ _ => qz); clear qz)
        rintro h10 tk10 m10 nw10 F10 N10 ⟨⟨r, tx, ty, u1, hr0, hr1, u2⟩, lp, vp, epp, u3, hvp, hLay⟩
        refine Lay.out hLay ?_; clear hLay; intro tiv tb tlq th dx bf rl ls k1 k2 k3 k4 k5 k6 k7 k8 ti ts te tl ep2 ep3 vs us2 oc hmq hled hvs hus2 hoc hoff2 hap
        rw [mset1 u1, mset1 u2, mset1 u3, hmq] at F10
        replace N10 := hled.news N10
        clear hled u1 u2 u3 hmq
        have hlen2 := hus2.length
        dsimp only
        refine seqC (h₀ := s₁.heap) (L := s₁.heap.objs.size) (fun m nw => ∃ ss body last fin, Inv b (i + 1) ss body last ∧ Lay w s₁.heap.objs.size iv b wd hb x ln o' us ep ((I, oI) :: od) ss body last fin m nw) (gen fun Qk hQk => ?_) ?_
        · refine wpC_If ?_
          refine cOf ?_
          k_steps
          · refine wpC_execs_cons (wpC_Expr (wpC_CallMeth ?_)); k_steps
            refine wpC_with0 (keeps_K (K := hd.heap_1 w.params) (by k_dflt k_is)) (by k_in) ?_
            (with_reducible rename Fr _ _ _ _ => Fx); (with_reducible rename News _ _ _ _ => Nx)
            have H9 : Has w _ _ _ x iv o' body (psOf iv ss) (snOf iv ss) ss.length fin last ((s₁.heap.objs.size + 1, oc) :: (ls, W.listOf us2.toArray ep3) :: (ln, W.listOf us.toArray ep) :: (lp, W.listOf vp.toArray epp) :: (I, oI) :: od) := has_of (dx := dx) (bf := bf) (rl := rl) Nx (by k_mem) (by k_mem) (by k_mem) (by k_mem) (by k_sub) hvs (off_rest hap hoff2) hap.n1 hap.n2 hap.n3 hap.n4 hap.n5 hap.n6
            k_dflt (refine' c_reset ?qB ?qF ?qX ?qN ?qT ?qk ?qd ?qu ?qa0 ?_; (case qB => k_asm); (case qF => k_asm); (case qX => k_asm); (case qN => k_asm); (case qT => k_asm); (case qk => first | rfl | assumption); (case qd => ktr_room); (case qu => ktr_units); (case qa0 => exact H9))
            intro h' tk' F' H'
            clear Fx Nx H9
            refine Has.elim H' ?_; clear H'; intro dx' bf' rl' k1' k2' k3' k4' k5' k6' k7' k8' ti' ts' te' tl' ep' vs' N' hvs' off' n1' n2' n3' n4' n5' n6'
            obtain ⟨hap', hoff'⟩ := apart_of hap hoff2 off' n1' n2' n3' n4' n5' n6'
            clear off' n1' n2' n3' n4' n5' n6' hap hoff2
            dsimp only
            refine aExecs_cons ?_; k_steps
            have c1 := hap'.c1; have c2 := hap'.c2; have c3 := hap'.c3; have c4 := hap'.c4; have d1 := hap'.q1; have d2 := hap'.q2
            refine aExecs_cons ?_; k_steps
            clear c1 c2 c3 c4 d1 d2
            refine aExecs_cons ?_; k_steps
            refine aExecs_cons ?_; k_steps
            refine wpC_execs_nil ?_
            (with_reducible rename (_ < _ ∧ _) => hlt9)
            obtain ⟨y1, y2, y3, y4, y5, y6, y7, y8, y9, y10⟩ := hlt9
            refine hQk _ _ (Mid.intro (by assumption) (by assumption) ⟨[], [], [], false, inv_new b _, ?_⟩)
            exact lay_ap ⟨⟨_, rfl⟩, rfl, rfl, rfl, rfl, ⟨_, rfl⟩, ⟨_, rfl⟩, rfl, ⟨_, rfl⟩⟩ (by k_mem) (by k_mem) (by k_mem) (by k_mem) (by k_mem) (by assumption) (by k_mem) (by k_mem) (List.forall_mem_cons.mpr ⟨by k_mem, fun p hp => by repeat (first | exact hp | refine List.Mem.tail _ ?_)⟩) hvs' .nil rfl rfl rfl (off_ls (off_tail hoff') ⟨y9, y10⟩) (apart_ls hap' y1 y2 y3 y4 y5 y7)
          · refine wpC_execs_one (wpC_If (cOf ?_))
            k_steps
            · cases fin
              · refine wpC_execs_cons (wpC_Assign_Name (wpC_CallName ?_))
                k_steps
                refine wpC_withA (keeps_K (K := hd.heap_1 w.params) (by k_dflt k_is)) ?_
                k_steps
                (with_reducible rename Fr _ _ _ _ => Fx); (with_reducible rename News _ _ _ _ => Nx)
                have H9 : Has w _ _ _ x iv o' body (psOf iv ss) (snOf iv ss) ss.length false last ((s₁.heap.objs.size + 1, oc) :: (ls, W.listOf us2.toArray ep3) :: (ln, W.listOf us.toArray ep) :: (lp, W.listOf vp.toArray epp) :: (I, oI) :: od) := has_of (dx := dx) (bf := bf) (rl := rl) Nx (by k_mem) (by k_mem) (by k_mem) (by k_mem) (List.forall_mem_cons.mpr ⟨by k_mem, List.forall_mem_cons.mpr ⟨by k_mem, List.forall_mem_cons.mpr ⟨by k_mem, List.forall_mem_cons.mpr ⟨by k_mem, List.forall_mem_cons.mpr ⟨by k_mem, fun p hp => by repeat (first | exact hp | refine List.Mem.tail _ ?_)⟩⟩⟩⟩⟩) hvs (off_rest hap hoff2) hap.n1 hap.n2 hap.n3 hap.n4 hap.n5 hap.n6
                have hp1 := psOf_len (ss := ss) hiv1
                k_dflt (refine' l_finish_ok ?qB ?qF ?qX ?qN ?qT ?qk ?qd ?qu ?qa0 ?qa1 ?qa2 ?qa3 ?_; (case qB => k_asm); (case qF => k_asm); (case qX => k_asm); (case qN => k_asm); (case qT => k_asm); (case qk => first | rfl | assumption); (case qd => ktr_room); (case qu => ktr_units); (case qa0 => exact H9); (case qa1 => exact psOf_mem hiv1 v4); (case qa2 => omega); (case qa3 => omega))
                intro tq h' tk' F' H'
                clear Fx Nx H9
                refine Has.elim H' ?_; clear H'; intro dx' bf' rl' k1' k2' k3' k4' k5' k6' k7' k8' ti' ts' te' tl' ep' vs' N' hvs' off' n1' n2' n3' n4' n5' n6'
                obtain ⟨hap', hoff'⟩ := apart_of hap hoff2 off' n1' n2' n3' n4' n5' n6'
                clear off' n1' n2' n3' n4' n5' n6' hap hoff2
                k_steps
                refine aExecs_cons ?_; k_steps
                refine wpC_execs_cons (wpC_If (wpC_and ?_))
                k_steps
                refine wpC_and_last (wpC_isTrue_Compare1 (cOf ?_))
                k_steps
                refine wpC_CallName ?_
                k_steps
                refine wpC_withA (keeps_K (K := hd.heap_1 w.params) (by k_dflt k_is)) ?_
                k_steps
                k_dflt (refine' c_block ?qB ?qF ?qX ?qN ?qT ?qk ?qd ?qu ?qa0 ?qa1 ?qa2 ?qa3 ?qa4 ?_; (case qB => k_asm); (case qF => k_asm); (case qX => k_asm); (case qN => k_asm); (case qT => k_asm); (case qk => first | rfl | assumption); (case qd => ktr_room); (case qu => ktr_units); (case qa0 => k_mem); (case qa1 => exact hvp); (case qa2 => omega); (case qa3 => exact psOf_mem hiv1 v4); (case qa4 => omega))
                intro tq2 h2' tk2' F2' N2'
                dsimp only
                refine cOf (r_ne_same ?_)
                refine cOf ?_
                k_steps
                refine wpC_execs_nil ?_
                dsimp only
                refine aExecs_cons ?_; k_steps
                refine wpC_execs_nil ?_
                refine hQk _ _ (Mid.intro (by assumption) (by assumption) ⟨ss, body, last, true, inv_up ⟨v1, v2, v3, v4, v5, v6⟩, ?_⟩)
                exact lay_ap ⟨⟨_, rfl⟩, rfl, rfl, rfl, rfl, ⟨_, rfl⟩, ⟨_, rfl⟩, rfl, ⟨_, rfl⟩⟩ (by k_mem) (by k_mem) (by k_mem) (by k_mem) (by k_mem) hoc (by k_mem) (by k_mem) (List.forall_mem_cons.mpr ⟨by k_mem, fun p hp => by repeat (first | exact hp | refine List.Mem.tail _ ?_)⟩) hvs' hus2 rfl rfl rfl (off_tail hoff') hap'
              · refine wpC_execs_cons (wpC_Assign_Name (wpC_CallName ?_))
                k_steps
                refine wpC_withA (keeps_K (K := hd.heap_1 w.params) (by k_dflt k_is)) ?_
                k_steps
                refine cOf ?_
                (with_reducible rename Fr _ _ _ _ => Fx); (with_reducible rename News _ _ _ _ => Nx)
                have H9 : Has w _ _ _ x iv o' body (psOf iv ss) (snOf iv ss) ss.length true last ((s₁.heap.objs.size + 1, oc) :: (ls, W.listOf us2.toArray ep3) :: (ln, W.listOf us.toArray ep) :: (lp, W.listOf vp.toArray epp) :: (I, oI) :: od) := has_of (dx := dx) (bf := bf) (rl := rl) Nx (by k_mem) (by k_mem) (by k_mem) (by k_mem) (List.forall_mem_cons.mpr ⟨by k_mem, List.forall_mem_cons.mpr ⟨by k_mem, List.forall_mem_cons.mpr ⟨by k_mem, List.forall_mem_cons.mpr ⟨by k_mem, List.forall_mem_cons.mpr ⟨by k_mem, fun p hp => by repeat (first | exact hp | refine List.Mem.tail _ ?_)⟩⟩⟩⟩⟩) hvs (off_rest hap hoff2) hap.n1 hap.n2 hap.n3 hap.n4 hap.n5 hap.n6
                k_dflt (refine' l_finish_fin ?qB ?qXB ?qTB ?qF ?qX ?qN ?qT ?qk ?qd ?qu ?qa0 ?_; (case qB => k_asm); (case qXB => k_asm); (case qTB => k_asm); (case qF => k_asm); (case qX => k_asm); (case qN => k_asm); (case qT => k_asm); (case qk => first | rfl | assumption); (case qd => ktr_room); (case qu => ktr_units); (case qa0 => exact H9))
                intro tq h' tk' F' H'
                clear Fx Nx H9
                refine Has.elim H' ?_; clear H'; intro dx' bf' rl' k1' k2' k3' k4' k5' k6' k7' k8' ti' ts' te' tl' ep' vs' N' hvs' off' n1' n2' n3' n4' n5' n6'
                obtain ⟨hap', hoff'⟩ := apart_of hap hoff2 off' n1' n2' n3' n4' n5' n6'
                clear off' n1' n2' n3' n4' n5' n6' hap hoff2
                k_steps
                refine aExecs_cons ?_; k_steps
                refine aExecs_cons ?_; k_steps
                refine aExecs_cons ?_; k_steps
                refine wpC_execs_nil ?_
                refine hQk _ _ (Mid.intro (by assumption) (by assumption) ⟨ss, body, last, true, inv_up ⟨v1, v2, v3, v4, v5, v6⟩, ?_⟩)
                exact lay_ap ⟨⟨_, rfl⟩, rfl, rfl, rfl, rfl, ⟨_, rfl⟩, ⟨_, rfl⟩, rfl, ⟨_, rfl⟩⟩ (by k_mem) (by k_mem) (by k_mem) (by k_mem) (by k_mem) hoc (by k_mem) (by k_mem) (List.forall_mem_cons.mpr ⟨by k_mem, fun p hp => by repeat (first | exact hp | refine List.Mem.tail _ ?_)⟩) hvs' hus2 rfl rfl rfl (off_tail hoff') hap'
            · refine wpC_execs_one ?_
              (with_reducible rename Fr _ _ _ _ => Fz)
              (with_reducible rename News _ _ _ _ => Nz)
              refine ifC (h₀ := s₁.heap) (L := s₁.heap.objs.size) (m := mOf Fz) (nw := nOf Nz) (fun c => CC c b ss.length) (genA fun Qk hQk => ?_) ?_ ?_
              · cases b
                · k_steps
                  all_goals exact hQk _ _ ⟨_, _, rfl, by assumption, by assumption, cc_no⟩
                · k_steps
                  all_goals first | exact hQk _ _ ⟨_, _, rfl, by assumption, by assumption, cc_no⟩ | exact hQk _ _ ⟨_, _, rfl, by assumption, by assumption, cc_yes (by omega)⟩
              · intro hC h3 tk3 F3 N3
                obtain ⟨hbt, hpos⟩ := hC rfl
                dsimp only [mOf, nOf] at F3 N3
                clear hC Fz Nz
                refine wpC_execs_cons (wpC_Assign_Name (wpC_CallName ?_))
                k_steps
                refine wpC_withA (keeps_K (K := hd.heap_1 w.params) (by k_dflt k_is)) ?_
                k_steps
                refine cOf ?_
                have hO2 : Ord w true o' ((s₁.heap.objs.size + 1, oc) :: (ls, W.listOf us2.toArray ep3) :: (ln, W.listOf us.toArray ep) :: (lp, W.listOf vp.toArray epp) :: (I, oI) :: od) := (hbt ▸ hO).mono (fun p hp => .tail _ (.tail _ (.tail _ (.tail _ (.tail _ hp)))))
                cases fin
                · (with_reducible rename Fr _ _ _ _ => Fx); (with_reducible rename News _ _ _ _ => Nx)
                  have H9 : Has w _ _ _ x iv o' body (psOf iv ss) (snOf iv ss) ss.length false last ((s₁.heap.objs.size + 1, oc) :: (ls, W.listOf us2.toArray ep3) :: (ln, W.listOf us.toArray ep) :: (lp, W.listOf vp.toArray epp) :: (I, oI) :: od) := has_of (dx := dx) (bf := bf) (rl := rl) Nx (by k_mem) (by k_mem) (by k_mem) (by k_mem) (List.forall_mem_cons.mpr ⟨by k_mem, List.forall_mem_cons.mpr ⟨by k_mem, List.forall_mem_cons.mpr ⟨by k_mem, List.forall_mem_cons.mpr ⟨by k_mem, List.forall_mem_cons.mpr ⟨by k_mem, fun p hp => by repeat (first | exact hp | refine List.Mem.tail _ ?_)⟩⟩⟩⟩⟩) hvs (off_rest hap hoff2) hap.n1 hap.n2 hap.n3 hap.n4 hap.n5 hap.n6
                  k_dflt (refine' l_add_short ?qB ?qXB ?qTB ?qF ?qX ?qN ?qT ?qk ?qd ?qu ?qa0 ?qa1 ?qa2 ?qa3 ?_; (case qB => k_asm); (case qXB => k_asm); (case qTB => k_asm); (case qF => k_asm); (case qX => k_asm); (case qN => k_asm); (case qT => k_asm); (case qk => first | rfl | assumption); (case qd => ktr_room); (case qu => ktr_units); (case qa0 => exact H9); (case qa1 => exact hO2); (case qa2 => omega); (case qa3 => decide))
                  intro tq h' tk' F' H'
                  clear Fx Nx H9
                  refine Has.elim H' ?_; clear H'; intro dx' bf' rl' k1' k2' k3' k4' k5' k6' k7' k8' ti' ts' te' tl' ep' vs' N' hvs' off' n1' n2' n3' n4' n5' n6'
                  obtain ⟨hap', hoff'⟩ := apart_of hap hoff2 off' n1' n2' n3' n4' n5' n6'
                  clear off' n1' n2' n3' n4' n5' n6' hap hoff2
                  k_steps
                  refine aExecs_cons ?_; k_steps
                  refine wpC_execs_nil ?_
                  refine hQk _ _ (Mid.intro (by assumption) (by assumption) ⟨ss, body, last, false, inv_up ⟨v1, v2, v3, v4, v5, v6⟩, ?_⟩)
                  exact lay_ap ⟨⟨_, rfl⟩, rfl, rfl, rfl, rfl, ⟨_, rfl⟩, ⟨_, rfl⟩, rfl, ⟨_, rfl⟩⟩ (by k_mem) (by k_mem) (by k_mem) (by k_mem) (by k_mem) hoc (by k_mem) (by k_mem) (List.forall_mem_cons.mpr ⟨by k_mem, fun p hp => by repeat (first | exact hp | refine List.Mem.tail _ ?_)⟩) hvs' hus2 rfl rfl rfl (off_tail hoff') hap'
                · (with_reducible rename Fr _ _ _ _ => Fx); (with_reducible rename News _ _ _ _ => Nx)
                  have H9 : Has w _ _ _ x iv o' body (psOf iv ss) (snOf iv ss) ss.length true last ((s₁.heap.objs.size + 1, oc) :: (ls, W.listOf us2.toArray ep3) :: (ln, W.listOf us.toArray ep) :: (lp, W.listOf vp.toArray epp) :: (I, oI) :: od) := has_of (dx := dx) (bf := bf) (rl := rl) Nx (by k_mem) (by k_mem) (by k_mem) (by k_mem) (List.forall_mem_cons.mpr ⟨by k_mem, List.forall_mem_cons.mpr ⟨by k_mem, List.forall_mem_cons.mpr ⟨by k_mem, List.forall_mem_cons.mpr ⟨by k_mem, List.forall_mem_cons.mpr ⟨by k_mem, fun p hp => by repeat (first | exact hp | refine List.Mem.tail _ ?_)⟩⟩⟩⟩⟩) hvs (off_rest hap hoff2) hap.n1 hap.n2 hap.n3 hap.n4 hap.n5 hap.n6
                  k_dflt (refine' l_add_fin ?qB ?qXB ?qTB ?qF ?qX ?qN ?qT ?qk ?qd ?qu ?qa0 ?_; (case qB => k_asm); (case qXB => k_asm); (case qTB => k_asm); (case qF => k_asm); (case qX => k_asm); (case qN => k_asm); (case qT => k_asm); (case qk => first | rfl | assumption); (case qd => ktr_room); (case qu => ktr_units); (case qa0 => exact H9))
                  intro tq h' tk' F' H'
                  clear Fx Nx H9
                  refine Has.elim H' ?_; clear H'; intro dx' bf' rl' k1' k2' k3' k4' k5' k6' k7' k8' ti' ts' te' tl' ep' vs' N' hvs' off' n1' n2' n3' n4' n5' n6'
                  obtain ⟨hap', hoff'⟩ := apart_of hap hoff2 off' n1' n2' n3' n4' n5' n6'
                  clear off' n1' n2' n3' n4' n5' n6' hap hoff2
                  k_steps
                  refine aExecs_cons ?_; k_steps
                  refine wpC_execs_nil ?_
                  refine hQk _ _ (Mid.intro (by assumption) (by assumption) ⟨ss, body, last, true, inv_up ⟨v1, v2, v3, v4, v5, v6⟩, ?_⟩)
                  exact lay_ap ⟨⟨_, rfl⟩, rfl, rfl, rfl, rfl, ⟨_, rfl⟩, ⟨_, rfl⟩, rfl, ⟨_, rfl⟩⟩ (by k_mem) (by k_mem) (by k_mem) (by k_mem) (by k_mem) hoc (by k_mem) (by k_mem) (List.forall_mem_cons.mpr ⟨by k_mem, fun p hp => by repeat (first | exact hp | refine List.Mem.tail _ ?_)⟩) hvs' hus2 rfl rfl rfl (off_tail hoff') hap'
              · intro hC h3 tk3 F3 N3
                dsimp only [mOf, nOf] at F3 N3
                clear hC Fz Nz
                have hy := y_rng (r := r)
                refine aExecs_cons ?_
                k_steps
                clear hy
                (with_reducible rename (List.length _ ≤ 3) => hr3)
                (with_reducible rename Fr _ _ _ _ => Fz)
                (with_reducible rename News _ _ _ _ => Nz)
                refine setC (h₀ := s₁.heap) (L := s₁.heap.objs.size) (m := mOf Fz) (nw := nOf Nz) (Str.ofString "key") (fun v => ∃ (key : List UInt8) (t : Tok), v = .bytes key.toArray t ∧ key.length ≤ 140 ∧ (b = true → IK key)) (genA fun Qk hQk => ?_) ?_
                · cases b
                  · k_steps
                    exact hQk _ _ ⟨rfl, _, _, _, rfl, set_same (by assumption) rfl, by assumption, _, _, rfl, by (simp only [List.length_append]; omega), fun h => c_false h⟩
                  · k_steps
                    exact hQk _ _ ⟨rfl, _, _, _, rfl, by assumption, cb_drop (by assumption) (by k_sub), _, _, rfl, by (simp [octets]; omega), fun _ => ik_of (ab_rng).1 (ab_rng).2⟩
                rintro _ ⟨key, tkey, rfl, hkl, hik⟩ h4 tk4 F4 N4
                dsimp only [mOf, nOf] at F4 N4
                clear Fz Nz hr3
                refine setC (h₀ := s₁.heap) (L := s₁.heap.objs.size) (m := mOf F4) (nw := nOf N4) (Str.ofString "value") (fun v => ∃ (value : List UInt8) (t : Tok), v = .bytes value.toArray t ∧ value.length ≤ 130) (genA fun Qk hQk => ?_) ?_
                · k_steps
                  (with_reducible rename IntsAre (List.flatten _) (List.flatten _) => hfl)
                  k_dflt (refine' r_bytes_list ?kbaF ?kbaN ?kbah ?kbal hfl ?kbar ?kban ?_; (case kbaF => k_asm); (case kbaN => k_asm); (case kbah => rfl); (case kbal => k_mem); (case kbar => exact rep_mem); (case kban => exact four_len'))
                  intro h9 t9 k9 F' N'
                  k_steps
                  exact hQk _ _ ⟨rfl, _, _, _, rfl, by assumption, cb_drop (by assumption) (by k_sub), _, _, rfl, four_len⟩
                rintro _ ⟨value, tval, rfl, hvl⟩ h5 tk5 F5 N5
                dsimp only [mOf, nOf] at F5 N5
                clear F4 N4
                refine setC (h₀ := s₁.heap) (L := s₁.heap.objs.size) (m := mOf F5) (nw := nOf N5) (Str.ofString "value") (fun v => ∃ (value : List UInt8) (t : Tok), v = .bytes value.toArray t ∧ value.length ≤ 130) (genA fun Qk hQk => ?_) ?_
                · cases wd
                  · k_steps
                    all_goals exact hQk _ _ ⟨rfl, _, _, _, rfl, set_same (by assumption) rfl, by assumption, _, _, rfl, hvl⟩
                  · k_steps
                    · (with_reducible rename IntsAre (List.flatten _) (List.flatten _) => hfl)
                      k_dflt (refine' r_bytes_list ?kbaF ?kbaN ?kbah ?kbal hfl ?kbar ?kban ?_; (case kbaF => k_asm); (case kbaN => k_asm); (case kbah => rfl); (case kbal => k_mem); (case kbar => exact rep_mem); (case kban => (rw [rep_len]; decide)))
                      intro h9 t9 k9 F' N'
                      k_steps
                      exact hQk _ _ ⟨rfl, _, _, _, rfl, by assumption, cb_drop (by assumption) (by k_sub), _, _, rfl, by rw [octets, List.length_map, rep_len]; decide⟩
                    · exact hQk _ _ ⟨rfl, _, _, _, rfl, set_same (by assumption) rfl, by assumption, _, _, rfl, hvl⟩
                clear hvl
                rintro _ ⟨value, tval, rfl, hvl⟩ h6 tk6 F6 N6
                dsimp only [mOf, nOf] at F6 N6
                clear F5 N5
                refine aExecs_cons ?_
                k_steps
                (with_reducible rename Fr _ _ _ _ => Fz)
                (with_reducible rename News _ _ _ _ => Nz)
                try clear F6
                try clear N6
                refine setC (h₀ := s₁.heap) (L := s₁.heap.objs.size) (m := mOf Fz) (nw := nOf Nz) (Str.ofString "want") (fun v => ∃ t, (Low fin ss.length (rises b last key) ∧ v = .int 1 t) ∨ (¬ Low fin ss.length (rises b last key) ∧ v = .int 0 t)) (genA fun Qk hQk => ?_) ?_
                · cases fin
                  · rcases Nat.eq_zero_or_pos ss.length with hz | hz
                    · k_steps
                      exact hQk _ _ ⟨rfl, _, _, _, rfl, set_same (by assumption) rfl, by assumption, _, .inr ⟨low_zero hz, rfl⟩⟩
                    · have hrr := rr_of v6 hik hz
                      k_steps
                      · exact hQk _ _ ⟨rfl, _, _, _, rfl, set_same (by assumption) rfl, by assumption, _, .inr ⟨low_up (by assumption), rfl⟩⟩
                      · exact hQk _ _ ⟨rfl, _, _, _, rfl, by assumption, by assumption, _, .inl ⟨low_down hz (by assumption), rfl⟩⟩
                  · k_steps
                    exact hQk _ _ ⟨rfl, _, _, _, rfl, by assumption, by assumption, _, .inl ⟨.inl rfl, rfl⟩⟩
                rintro _ ⟨tw, hw⟩ h7 tk7 F7 N7
                dsimp only [mOf, nOf] at F7 N7
                clear Fz Nz
                have hO2 : Ord w b o' ((s₁.heap.objs.size + 1, oc) :: (ls, W.listOf us2.toArray ep3) :: (ln, W.listOf us.toArray ep) :: (lp, W.listOf vp.toArray epp) :: (I, oI) :: od) := hO.mono (fun p hp => .tail _ (.tail _ (.tail _ (.tail _ (.tail _ hp)))))
                rcases hw with ⟨hlow, rfl⟩ | ⟨hlow, rfl⟩
                · refine wpC_execs_cons (wpC_If (wpC_isTrue_Compare1 (wpC_CallName ?_)))
                  k_steps
                  refine wpC_withA (keeps_K (K := hd.heap_1 w.params) (by k_dflt k_is)) ?_
                  k_steps
                  refine cOf ?_
                  (with_reducible rename Fr _ _ _ _ => Fx); (with_reducible rename News _ _ _ _ => Nx)
                  have H9 : Has w _ _ _ x iv o' body (psOf iv ss) (snOf iv ss) ss.length fin last ((s₁.heap.objs.size + 1, oc) :: (ls, W.listOf us2.toArray ep3) :: (ln, W.listOf us.toArray ep) :: (lp, W.listOf vp.toArray epp) :: (I, oI) :: od) := has_of (dx := dx) (bf := bf) (rl := rl) Nx (by k_mem) (by k_mem) (by k_mem) (by k_mem) (List.forall_mem_cons.mpr ⟨by k_mem, List.forall_mem_cons.mpr ⟨by k_mem, List.forall_mem_cons.mpr ⟨by k_mem, List.forall_mem_cons.mpr ⟨by k_mem, List.forall_mem_cons.mpr ⟨by k_mem, fun p hp => by repeat (first | exact hp | refine List.Mem.tail _ ?_)⟩⟩⟩⟩⟩) hvs (off_rest hap hoff2) hap.n1 hap.n2 hap.n3 hap.n4 hap.n5 hap.n6
                  k_dflt (refine' l_add_no ?qB ?qXB ?qTB ?qF ?qX ?qN ?qT ?qk ?qd ?qu ?qa0 ?qa1 ?qa2 ?qa3 ?qa4 ?qa5 ?qa6 ?_; (case qB => k_asm); (case qXB => k_asm); (case qTB => k_asm); (case qF => k_asm); (case qX => k_asm); (case qN => k_asm); (case qT => k_asm); (case qk => first | rfl | assumption); (case qd => ktr_room); (case qu => ktr_units); (case qa0 => exact H9); (case qa1 => exact hO2); (case qa2 => exact hlow); (case qa3 => rfl); (case qa4 => exact fun hb hz => ⟨hik hb, v6 hb hz⟩); (case qa5 => omega); (case qa6 => omega))
                  intro tq h' tk' F' H'
                  clear Fx Nx H9
                  refine Has.elim H' ?_; clear H'; intro dx' bf' rl' k1' k2' k3' k4' k5' k6' k7' k8' ti' ts' te' tl' ep' vs' N' hvs' off' n1' n2' n3' n4' n5' n6'
                  obtain ⟨hap', hoff'⟩ := apart_of hap hoff2 off' n1' n2' n3' n4' n5' n6'
                  clear off' n1' n2' n3' n4' n5' n6' hap hoff2
                  dsimp only
                  refine cOf ?_
                  k_steps
                  refine cOf (r_ne_int rfl ?_)
                  refine cOf ?_
                  k_steps
                  refine wpC_execs_nil ?_
                  dsimp only
                  refine aExecs_cons ?_
                  k_steps
                  refine wpC_execs_nil ?_
                  refine hQk _ _ (Mid.intro (by assumption) (by assumption) ⟨ss, body, last, fin, inv_up ⟨v1, v2, v3, v4, v5, v6⟩, ?_⟩)
                  exact lay_ap ⟨⟨_, rfl⟩, rfl, rfl, rfl, rfl, ⟨_, rfl⟩, ⟨_, rfl⟩, rfl, ⟨_, rfl⟩⟩ (by k_mem) (by k_mem) (by k_mem) (by k_mem) (by k_mem) hoc (by k_mem) (by k_mem) (List.forall_mem_cons.mpr ⟨by k_mem, fun p hp => by repeat (first | exact hp | refine List.Mem.tail _ ?_)⟩) hvs' hus2 rfl rfl rfl (off_tail hoff') hap'
                · obtain ⟨rfl, hup⟩ := low_no hlow
                  refine wpC_execs_cons (wpC_If (wpC_isTrue_Compare1 (wpC_CallName ?_)))
                  k_steps
                  refine wpC_withA (keeps_K (K := hd.heap_1 w.params) (by k_dflt k_is)) ?_
                  k_steps
                  (with_reducible rename Fr _ _ _ _ => Fx); (with_reducible rename News _ _ _ _ => Nx)
                  have H9 : Has w _ _ _ x iv o' body (psOf iv ss) (snOf iv ss) ss.length false last ((s₁.heap.objs.size + 1, oc) :: (ls, W.listOf us2.toArray ep3) :: (ln, W.listOf us.toArray ep) :: (lp, W.listOf vp.toArray epp) :: (I, oI) :: od) := has_of (dx := dx) (bf := bf) (rl := rl) Nx (by k_mem) (by k_mem) (by k_mem) (by k_mem) (List.forall_mem_cons.mpr ⟨by k_mem, List.forall_mem_cons.mpr ⟨by k_mem, List.forall_mem_cons.mpr ⟨by k_mem, List.forall_mem_cons.mpr ⟨by k_mem, List.forall_mem_cons.mpr ⟨by k_mem, fun p hp => by repeat (first | exact hp | refine List.Mem.tail _ ?_)⟩⟩⟩⟩⟩) hvs (off_rest hap hoff2) hap.n1 hap.n2 hap.n3 hap.n4 hap.n5 hap.n6
                  have hp1 := psOf_len (ss := ss) hiv1
                  have hp2 := sn_nn (ss := ss) hiv1
                  have hp3 : 0 < (ss.length : Int) → 0 < (if b then cmpI key last else cmpB key last) := fun hz => up_of (fun hb => ⟨v6 hb (by omega), hik hb⟩) (hup (by omega))
                  have hp4 : b = true → 0 < (ss.length : Int) → IK key ∧ IK last := fun hb hz => ⟨hik hb, v6 hb (by omega)⟩
                  k_dflt (refine' l_add_ok ?qB ?qF ?qX ?qN ?qT ?qk ?qd ?qu ?qa0 ?qa1 ?qa2 ?qa3 ?qa4 ?qa5 ?qa6 ?qa7 ?qa8 ?qa9 ?qa10 ?qa11 ?_; (case qB => k_asm); (case qF => k_asm); (case qX => k_asm); (case qN => k_asm); (case qT => k_asm); (case qk => first | rfl | assumption); (case qd => ktr_room); (case qu => ktr_units); (case qa0 => exact H9); (case qa1 => exact hO2); (case qa2 => exact hp3); (case qa3 => exact hp4); (case qa4 => omega); (case qa5 => exact hp2); (case qa6 => exact hiv2); (case qa7 => omega); (case qa8 => omega); (case qa9 => omega); (case qa10 => omega); (case qa11 => omega))
                  intro tq h' tk' F' H'
                  clear hp1 hp2 hp3 hp4
                  rw [ps_add hiv1 (fun h => by rw [(v5 h).1]; rfl), sn_add (a := (body.length : Int)) hiv1, ent_whole hiv1 (fun h => (v5 h).2)] at H'
                  clear Fx Nx H9
                  refine Has.elim H' ?_; clear H'; intro dx' bf' rl' k1' k2' k3' k4' k5' k6' k7' k8' ti' ts' te' tl' ep' vs' N' hvs' off' n1' n2' n3' n4' n5' n6'
                  obtain ⟨hap', hoff'⟩ := apart_of hap hoff2 off' n1' n2' n3' n4' n5' n6'
                  clear off' n1' n2' n3' n4' n5' n6' hap hoff2
                  dsimp only
                  refine cOf ?_
                  k_steps
                  refine cOf (r_ne_int rfl ?_)
                  refine cOf ?_
                  k_steps
                  refine wpC_execs_nil ?_
                  dsimp only
                  refine wpC_execs_one ?_
                  have f1 := hap'.l1; have f2 := hap'.l2; have f3 := hap'.l3; have f4 := hap'.l4; have f5 := hap'.q1; have f6 := hap'.q3
                  refine wpC_If (cOf ?_)
                  k_steps
                  refine aExecs_cons ?_
                  k_steps
                  clear f1 f2 f3 f4 f5 f6
                  refine aExecs_cons ?_
                  k_steps
                  rw [whole_eq hiv1]
                  refine r_add ?hsz ?_
                  case hsz => exact Nat.le_trans (Nat.add_le_add_left ent_len _) (by omega)
                  intro t9 k9
                  k_steps
                  refine aExecs_cons ?_
                  k_steps
                  refine wpC_execs_nil ?_
                  refine hQk _ _ (Mid.intro (by assumption) (by assumption) ⟨ss ++ [(body.length : Int)], body ++ ent last key value (whole iv ss.length), key, false, inv_add hi7 ⟨v1, v2, v3, v4, v5, v6⟩ hkl hvl hik, ?_⟩)
                  exact lay_ap ⟨⟨_, rfl⟩, rfl, rfl, rfl, rfl, ⟨_, rfl⟩, ⟨_, rfl⟩, rfl, ⟨_, rfl⟩⟩ (by k_mem) (by k_mem) (by k_mem) (by k_mem) (by k_mem) hoc (by k_mem) (by k_mem) (List.forall_mem_cons.mpr ⟨by k_mem, fun p hp => by repeat (first | exact hp | refine List.Mem.tail _ ?_)⟩) hvs' (IntsAre.append hus2 (.cons _ _ .nil)) rfl len_snoc rfl (off_tail hoff') hap'
        · rintro h20 tk20 m20 nw20 F20 N20 ⟨ss, body, last, fin, hInv, hLay⟩
          refine Lay.out hLay ?_; clear hLay; intro tiv tb tlq th dx bf rl ls k1 k2 k3 k4 k5 k6 k7 k8 ti ts te tl ep2 ep3 vs us2 oc hmq hled hvs hus2 hoc hoff2 hap
          rw [hmq] at F20
          replace N20 := hled.news N20
          clear hled hmq
          have hlen2 := hus2.length
          have hI9 := hInv
          obtain ⟨v1, v2, v3, v4, v5, v6⟩ := hInv
          dsimp only
          refine setC (h₀ := s₁.heap) (L := s₁.heap.objs.size) (m := mOf F20) (nw := nOf N20) (Str.ofString "size") (fun v => ∃ t, v = .int (body.length + 4 * (psOf iv ss).length + 4) t) (genA fun Qk hQk => ?_) ?_
          · k_steps
            (with_reducible rename Fr _ _ _ _ => F')
            (with_reducible rename News _ _ _ _ => N')
            k_dflt (refine max_two_N (by with_unfolding_all rfl) F' N' ?_)
            intro hm9 tm9 Fm9 Nm9
            k_steps
            refine hQk _ _ ⟨rfl, _, _, _, rfl, by assumption, by assumption, ?_⟩
            rw [psOf_max (ss := ss) hiv1]
            exact ⟨_, rfl⟩
          rintro _ ⟨tsz, rfl⟩ h21 tk21 F21 N21
          dsimp only [mOf, nOf] at F21 N21
          clear F20 N20
          refine wpC_execs_one (wpC_If (wpC_or (wpC_isTrue_Compare1 (wpC_CallMeth ?_))))
          k_steps
          refine wpC_with0 (keeps_K (K := hd.heap_1 w.params) (by k_dflt k_is)) (by k_in) (cOf ?_)
          (with_reducible rename Fr _ _ _ _ => Fx); (with_reducible rename News _ _ _ _ => Nx)
          have H9 : Has w _ _ _ x iv o' body (psOf iv ss) (snOf iv ss) ss.length fin last ((s₁.heap.objs.size + 1, oc) :: (ls, W.listOf us2.toArray ep3) :: (ln, W.listOf us.toArray ep) :: (I, oI) :: od) := has_of (dx := dx) (bf := bf) (rl := rl) Nx (by k_mem) (by k_mem) (by k_mem) (by k_mem) (List.forall_mem_cons.mpr ⟨by k_mem, List.forall_mem_cons.mpr ⟨by k_mem, List.forall_mem_cons.mpr ⟨by k_mem, List.forall_mem_cons.mpr ⟨by k_mem, fun p hp => by repeat (first | exact hp | refine List.Mem.tail _ ?_)⟩⟩⟩⟩) hvs (off_rest hap hoff2) hap.n1 hap.n2 hap.n3 hap.n4 hap.n5 hap.n6
          have hp1 := psOf_len (ss := ss) hiv1
          k_dflt (refine' c_estimate ?qB ?qF ?qX ?qN ?qT ?qk ?qd ?qu ?qa0 ?qa1 ?qa2 ?_; (case qB => k_asm); (case qF => k_asm); (case qX => k_asm); (case qN => k_asm); (case qT => k_asm); (case qk => first | rfl | assumption); (case qd => ktr_room); (case qu => ktr_units); (case qa0 => exact H9); (case qa1 => omega); (case qa2 => omega))
          intro tq h' tk' F' H'
          clear hp1
          clear Fx Nx H9
          refine Has.elim H' ?_; clear H'; intro dx' bf' rl' k1' k2' k3' k4' k5' k6' k7' k8' ti' ts' te' tl' ep' vs' N' hvs' off' n1' n2' n3' n4' n5' n6'
          obtain ⟨hap', hoff'⟩ := apart_of hap hoff2 off' n1' n2' n3' n4' n5' n6'
          clear off' n1' n2' n3' n4' n5' n6' hap hoff2
          dsimp only
          refine cOf ?_
          k_steps
          refine cOf (r_ne_int rfl ?_)
          refine cOf ?_
          k_steps
          refine wpC_or (wpC_isTrue_Compare1 (wpC_CallMeth ?_))
          k_steps
          refine wpC_with0 (keeps_K (K := hd.heap_1 w.params) (by k_dflt k_is)) (by k_in) (cOf ?_)
          (with_reducible rename Fr _ _ _ _ => Fx); (with_reducible rename News _ _ _ _ => Nx)
          have H9 : Has w _ _ _ x iv o' body (psOf iv ss) (snOf iv ss) ss.length fin last ((s₁.heap.objs.size + 1, oc) :: (ls, W.listOf us2.toArray ep3) :: (ln, W.listOf us.toArray ep) :: (I, oI) :: od) := has_of (dx := dx') (bf := bf') (rl := rl') Nx (by k_mem) (by k_mem) (by k_mem) (by k_mem) (List.forall_mem_cons.mpr ⟨by k_mem, List.forall_mem_cons.mpr ⟨by k_mem, List.forall_mem_cons.mpr ⟨by k_mem, List.forall_mem_cons.mpr ⟨by k_mem, fun p hp => by repeat (first | exact hp | refine List.Mem.tail _ ?_)⟩⟩⟩⟩) hvs' (off_rest hap' hoff') hap'.n1 hap'.n2 hap'.n3 hap'.n4 hap'.n5 hap'.n6
          k_dflt (refine' c_empty ?qB ?qF ?qX ?qN ?qT ?qk ?qd ?qu ?qa0 ?_; (case qB => k_asm); (case qF => k_asm); (case qX => k_asm); (case qN => k_asm); (case qT => k_asm); (case qk => first | rfl | assumption); (case qd => ktr_room); (case qu => ktr_units); (case qa0 => exact H9))
          intro h'' tk'' F'' H''
          clear Fx Nx H9
          refine Has.elim H'' ?_; clear H''; intro dy by' ry j1 j2 j3 j4 j5 j6 j7 j8 tj tsj tej tlj ej vj Nj hvj offj g1 g2 g3 g4 g5 g6
          obtain ⟨hapj, hoffj⟩ := apart_of hap' hoff' offj g1 g2 g3 g4 g5 g6
          clear offj g1 g2 g3 g4 g5 g6 hap' hoff'
          dsimp only
          refine cOf ?_
          k_steps
          refine cOf (r_ne_bool ?hbq ?_)
          case hbq => (by_cases hz : ss.length = 0 <;> simp [hz])
          refine cOf ?_
          k_steps
          refine wpC_or (wpC_isTrue_Compare1 (cOf ?_))
          k_steps
          refine cOf ?_
          k_steps
          refine cOf (r_ne_same ?_)
          refine cOf ?_
          k_steps
          refine cOf ?_
          k_steps
          refine wpC_execs_nil ?_
          exact hQt _ _ (turn_end (by assumption) (by assumption) hI9 (lay_ap ⟨⟨_, rfl⟩, rfl, rfl, rfl, rfl, ⟨_, rfl⟩, ⟨_, rfl⟩, rfl, ⟨_, rfl⟩⟩ (by k_mem) (by k_mem) (by k_mem) (by k_mem) (by k_mem) hoc (by k_mem) (by k_mem) (List.forall_mem_cons.mpr ⟨by k_mem, fun p hp => by repeat (first | exact hp | refine List.Mem.tail _ ?_)⟩) hvj hus2 rfl rfl rfl hoffj hapj) hapI.i7 i8)
  · clear hJ hrg hma hne
    repeat ((with_reducible rename Fr _ _ _ _ => qz); clear qz)
    repeat ((with_reducible rename News _ _ _ _ => qz); clear qz)
    repeat ((with_reducible rename (_ ∧ _) => qz); clear qz)
    repeat ((with_reducible rename (List.length _ = _) => qz); clear qz)
    repeat ((with_reducible rename (Obj.data _ = _) => qz); clear qz)
    rintro h30 tk30 m30 nw30 F N ⟨ss, body, last, fin, hInv, hLay⟩
    change Fr s₁.heap s₁.heap.objs.size _ _ at F
    change News s₁.heap s₁.heap.objs.size _ _ at N
    refine Lay.out hLay ?_; clear hLay; intro tiv tb tlq th dx bf rl ls k1 k2 k3 k4 k5 k6 k7 k8 ti ts te tl ep2 ep3 vs us2 oc hmq hled hvs hus2 hoc hoff2 hap
    rw [hmq] at F
    replace N := hled.news N
    clear hled hmq
    have hlen2 := hus2.length
    obtain ⟨v1, v2, v3, v4, v5, v6⟩ := hInv
    have hac : acts.toNat ≤ 7 := by omega
    dsimp only
    refine aExecs_cons (Assign_step (L := s₁.heap.objs.size) (m := mOf F) (h₀ := s₁.heap) rfl (by with_unfolding_all rfl) (by rfl) (by decide) (by rfl) (by decide) (by rfl) (by rfl) (by rfl) ?_)
    k_steps
    (with_reducible rename IsRange _ _ _ _ _ _ _ _ => hrg)
    (with_reducible rename Fr _ _ _ _ => Fz)
    (with_reducible rename News _ _ _ _ => Nz)
    refine ⟨_, 0, (ss.length : Int), iv, _, _, _, nth iv ss.length, _, rfl, rfl, Fz, Nz, hrg, small_step (by omega) (by omega) hiv1 hiv2, nth_size hiv1 (by omega), (by have := nth_le (iv := iv) (len := ss.length) hiv1 (by omega); rw [sizeLine_eq]; omega), ?_⟩
    rintro _ ⟨g', rfl⟩
    refine kcf_rest (ks := idx iv ss.length) (fun k => ss.getD k.toNat 0) (by simp [idx]) idx_get (fun k' t' I' oI' C' oC' D' m' ys' h' tk' E' hk' hC' hx' F' N' off' ne' mark => ?_) ?_
    · obtain ⟨kl, kh⟩ := idx_mem hiv1 (by omega) hk'
      clear ne' hk'
      k_steps
    show ∀ _, _ → _
    intro ys9 hI9
    have hpl : IntsAre ys9 (pls iv ss) := hI9
    clear hI9
    k_steps
    (with_reducible rename (_ ≠ _ ∧ _) => ho1)
    obtain ⟨w2, w3, w4, w5, w6, w7, w8, w9⟩ := ho1
    refine seqC (h₀ := s₁.heap) (L := s₁.heap.objs.size) (fun m nw => ∃ lp vp epp, m (Str.ofString "places") = some (.ref lp) ∧ IntsAre vp (psOf iv ss) ∧ Lay w s₁.heap.objs.size iv b wd hb x ln o' us ep ((lp, W.listOf vp.toArray epp) :: od) ss body last fin m nw) (gen fun Qk hQk => cOf ?_) ?_
    · k_steps
      · (with_reducible rename (_ < _ ∧ _) => hlt9)
        obtain ⟨y0, y2, y3, y4, y5, y6, y7, y8, y9⟩ := hlt9
        refine hQk _ _ (Mid.intro (by assumption) (by assumption) ⟨_, _, 0, rfl, ps_zero (by assumption) (.cons 0 ?tkE .nil), ?layE⟩)
        case layE => exact lay_ap ⟨⟨_, rfl⟩, rfl, rfl, rfl, rfl, ⟨_, rfl⟩, ⟨_, rfl⟩, rfl, ⟨_, rfl⟩⟩ (by k_mem) (by k_mem) (by k_mem) (by k_mem) (by k_mem) hoc (by k_mem) (by k_mem) (List.forall_mem_cons.mpr ⟨by k_mem, fun p hp => by repeat (first | exact hp | refine List.Mem.tail _ ?_)⟩) hvs hus2 rfl rfl rfl (off_cons6 hoff2 (Nat.ne_of_gt y6) (Nat.ne_of_gt y7) (Nat.ne_of_gt y2) (Nat.ne_of_gt y3) (Nat.ne_of_gt y4) (Nat.ne_of_gt y5)) hap
      · refine hQk _ _ (Mid.intro (by assumption) (by assumption) ⟨_, _, ys9.length, rfl, ps_more (by assumption) hpl, ?_⟩)
        exact lay_ap ⟨⟨_, rfl⟩, rfl, rfl, rfl, rfl, ⟨_, rfl⟩, ⟨_, rfl⟩, rfl, ⟨_, rfl⟩⟩ (by k_mem) (by k_mem) (by k_mem) (by k_mem) (by k_mem) hoc (by k_mem) (by k_mem) (List.forall_mem_cons.mpr ⟨lst_mem (by k_mem), fun p hp => by repeat (first | exact hp | refine List.Mem.tail _ ?_)⟩) hvs hus2 rfl rfl rfl (off_cons6 hoff2 (Ne.symm w6) (Ne.symm w7) (Ne.symm w2) (Ne.symm w3) (Ne.symm w4) (Ne.symm w5)) hap
    clear hpl hvs hus2 hoc hoff2 hap hlen2 hrg w2 w3 w4 w5 w6 w7 w8 w9
    repeat ((with_reducible rename Fr _ _ _ _ => qz); clear qz)
    repeat ((with_reducible rename News _ _ _ _ => qz); clear qz)
    rintro h31 tk31 m31 nw31 F N ⟨lp, vp, epp, u3, hvp, hLay⟩
    refine Lay.out hLay ?_; clear hLay; intro tiv tb tlq th dx bf rl ls k1 k2 k3 k4 k5 k6 k7 k8 ti ts te tl ep2 ep3 vs us2 oc hmq hled hvs hus2 hoc hoff2 hap
    rw [mset1 u3, hmq] at F
    replace N := hled.news N
    clear hled u3 hmq
    dsimp only
    refine seqC (h₀ := s₁.heap) (L := s₁.heap.objs.size) (fun m nw => m (Str.ofString "builder") = some (.ref x) ∧ ∃ m', Lay w s₁.heap.objs.size iv b wd hb x ln o' us ep od ss body last true m' nw) (gen fun Qk hQk => ?_) ?_
    · cases fin
      · refine wpC_If (wpC_and ?_)
        k_steps
        refine wpC_and_last (wpC_isTrue_Compare1 (wpC_CallName ?_))
        k_steps
        refine wpC_withA (keeps_K (K := hd.heap_1 w.params) (by k_dflt k_is)) ?_
        k_steps
        (with_reducible rename Fr _ _ _ _ => Fx); (with_reducible rename News _ _ _ _ => Nx)
        have H9 : Has w _ _ _ x iv o' body (psOf iv ss) (snOf iv ss) ss.length false last ((s₁.heap.objs.size + 1, oc) :: (ls, W.listOf us2.toArray ep3) :: (ln, W.listOf us.toArray ep) :: (lp, W.listOf vp.toArray epp) :: od) := has_of (dx := dx) (bf := bf) (rl := rl) Nx (by k_mem) (by k_mem) (by k_mem) (by k_mem) (List.forall_mem_cons.mpr ⟨by k_mem, List.forall_mem_cons.mpr ⟨by k_mem, List.forall_mem_cons.mpr ⟨by k_mem, List.forall_mem_cons.mpr ⟨by k_mem, fun p hp => by repeat (first | exact hp | refine List.Mem.tail _ ?_)⟩⟩⟩⟩) hvs (off_rest hap hoff2) hap.n1 hap.n2 hap.n3 hap.n4 hap.n5 hap.n6
        have hp1 := psOf_len (ss := ss) hiv1
        k_dflt (refine' l_finish_ok ?qB ?qF ?qX ?qN ?qT ?qk ?qd ?qu ?qa0 ?qa1 ?qa2 ?qa3 ?_; (case qB => k_asm); (case qF => k_asm); (case qX => k_asm); (case qN => k_asm); (case qT => k_asm); (case qk => first | rfl | assumption); (case qd => ktr_room); (case qu => ktr_units); (case qa0 => exact H9); (case qa1 => exact psOf_mem hiv1 v4); (case qa2 => omega); (case qa3 => omega))
        intro tq h' tk' F' H'
        clear Fx Nx H9
        refine Has.elim H' ?_; clear H'; intro dx' bf' rl' k1' k2' k3' k4' k5' k6' k7' k8' ti' ts' te' tl' ep' vs' N' hvs' off' n1' n2' n3' n4' n5' n6'
        obtain ⟨hap', hoff'⟩ := apart_of hap hoff2 off' n1' n2' n3' n4' n5' n6'
        clear off' n1' n2' n3' n4' n5' n6' hap hoff2
        dsimp only
        refine wpC_CallName ?_
        k_steps
        refine wpC_withA (keeps_K (K := hd.heap_1 w.params) (by k_dflt k_is)) ?_
        k_steps
        k_dflt (refine' c_block ?qB ?qF ?qX ?qN ?qT ?qk ?qd ?qu ?qa0 ?qa1 ?qa2 ?qa3 ?qa4 ?_; (case qB => k_asm); (case qF => k_asm); (case qX => k_asm); (case qN => k_asm); (case qT => k_asm); (case qk => first | rfl | assumption); (case qd => ktr_room); (case qu => ktr_units); (case qa0 => k_mem); (case qa1 => exact hvp); (case qa2 => omega); (case qa3 => exact psOf_mem hiv1 v4); (case qa4 => omega))
        intro tq2 h2' tk2' F2' N2'
        dsimp only
        refine cOf (r_ne_same ?_)
        refine cOf ?_
        k_steps
        refine wpC_execs_nil ?_
        (with_reducible rename Fr _ _ _ _ => Fy)
        refine hQk _ _ (Mid.intro (by assumption) (by assumption) ⟨rfl, fun z => if z = Str.ofString "finished" then some (.bool true) else mOf Fy z, ?_⟩)
        exact lay_ap ⟨⟨_, rfl⟩, rfl, rfl, rfl, rfl, ⟨_, rfl⟩, ⟨_, rfl⟩, rfl, ⟨_, rfl⟩⟩ (by k_mem) (by k_mem) (by k_mem) (by k_mem) (by k_mem) hoc (by k_mem) (by k_mem) (fun p hp => by repeat (first | exact hp | refine List.Mem.tail _ ?_)) hvs' hus2 rfl rfl rfl (off_tail hoff') hap'
      · refine cOf ?_
        k_steps
        (with_reducible rename Fr _ _ _ _ => Fy)
        refine hQk _ _ (Mid.intro (by assumption) (by assumption) ⟨rfl, mOf Fy, ?_⟩)
        exact lay_ap ⟨⟨_, rfl⟩, rfl, rfl, rfl, rfl, ⟨_, rfl⟩, ⟨_, rfl⟩, rfl, ⟨_, rfl⟩⟩ (by k_mem) (by k_mem) (by k_mem) (by k_mem) (by k_mem) hoc (by k_mem) (by k_mem) (fun p hp => by repeat (first | exact hp | refine List.Mem.tail _ ?_)) hvs hus2 rfl rfl rfl (off_tail hoff2) hap
    clear hvs hus2 hoc hoff2 hap
    repeat ((with_reducible rename Fr _ _ _ _ => qz); clear qz)
    repeat ((with_reducible rename News _ _ _ _ => qz); clear qz)
    rintro h32 tk32 m32 nw32 F N ⟨hbr, m33, hLay⟩
    refine Lay.out hLay ?_; clear hLay; intro tiv tb tlq th dx bf rl ls k1 k2 k3 k4 k5 k6 k7 k8 ti ts te tl ep2 ep3 vs us2 oc hmq hled hvs hus2 hoc hoff2 hap
    rw [mset1 hbr] at F
    replace N := hled.news N
    clear hled hmq
    dsimp only
    refine wpC_execs_one (cOf ?_)
    (with_reducible rename Fr _ _ _ _ => Fx); (with_reducible rename News _ _ _ _ => Nx)
    have H9 : Has w _ _ _ x iv o' body (psOf iv ss) (snOf iv ss) ss.length true last ((s₁.heap.objs.size + 1, oc) :: (ls, W.listOf us2.toArray ep3) :: (ln, W.listOf us.toArray ep) :: od) := has_of (dx := dx) (bf := bf) (rl := rl) Nx (by k_mem) (by k_mem) (by k_mem) (by k_mem) (List.forall_mem_cons.mpr ⟨by k_mem, List.forall_mem_cons.mpr ⟨by k_mem, List.forall_mem_cons.mpr ⟨by k_mem, fun p hp => by repeat (first | exact hp | refine List.Mem.tail _ ?_)⟩⟩⟩) hvs (off_rest hap hoff2) hap.n1 hap.n2 hap.n3 hap.n4 hap.n5 hap.n6
    repeat' ((fail_if_success (with_reducible show GoodW _ _ _ _ _ _ _)); first | (k_unfold; (try dsimp only)) | (walk1; (all_goals (try dsimp only))) | (dsimp only; walk1))
    (with_reducible rename Fr _ _ _ _ => Fend)
    refine hQz _ _ ?_
    exact law_good (by exact Fend) (by exact hg) (by rfl)

end

end Mine
end

theorem PySem.Challenge.cw_no0404_01_holds : PySem.Challenge.rw_no0404_01.Holds :=
  Mine.the_law
