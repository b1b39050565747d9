import PyProof.Rows.All
import Wide.All
import OpenK.AllK
import Wide.FinOn
import Lean
import PySem.Challenge.RW_nz0294_01
open PySem PySem.W PyProof.Rows PySem.Calls PySem.Spec
set_option Elab.async false
set_option maxRecDepth 100000
set_option maxHeartbeats 8000000
set_option linter.unusedVariables false

set_option compiler.extract_closed false
namespace Mine
/-! The logic over the contexts in which no decoder holds a buffer: a bytearray may be resized there. -/

/-- an activation that may hold a bytearray from its resize -/
def holder : Code → Bool
  | .builtin id ⟨_ :: _, _⟩ => Builtin.Bytes.decodersThatHold.contains id
  | _ => false
def Cl (Γ : PySem.Ctx) : Prop := holder Γ.code = false ∧ ∀ x ∈ Γ.below, holder x.1 = false
theorem Cl.enter {Γ : PySem.Ctx} (h : Cl Γ) {c : Code} (hc : holder c = false) (hd : Option Value) (p : Pos) : Cl (Γ.enter c hd p) :=
  ⟨hc, fun x hx => by rcases List.mem_cons.mp hx with rfl | hx; exact h.1; exact h.2 x hx⟩
theorem Cl.goto {Γ : PySem.Ctx} (h : Cl Γ) {c : Code} (hc : holder c = false) : Cl (Γ.goto c) := ⟨hc, h.2⟩

def wpC {α : Type} (M : Model) (A : Around) (t : Sem α) (Q : α → Shared → Prop) (E : Value → Shared → Prop) (s : Shared) : Prop :=
  ∀ Γ p, Γ.In A → Cl Γ → Sem.wp M Γ t (fun a _ s' => Q a s') (fun e _ s' => E e s') p s
def codeC (M : Model) (A : Around) (c : Code) (R : Result → Shared → Prop) (s : Shared) : Prop :=
  ∀ Γ p, Γ.code = c → Γ.Below A → Cl Γ → wpCode M Γ R p s

section
variable {α β : Type} {M : Model} {A : Around} {E : Value → Shared → Prop} {s : Shared}
theorem wpC_any {t : Sem α} {Q : α → Shared → Prop} (h : wpAny M A t Q E s) : wpC M A t Q E s := fun Γ p hΓ _ => h Γ p hΓ
theorem codeC_any {c : Code} {R : Result → Shared → Prop} (h : codeAny M A c R s) : codeC M A c R s := fun Γ p hc hΓ _ => h Γ p hc hΓ
theorem wpC_pure {a : α} {Q : α → Shared → Prop} (h : Q a s) : wpC M A (pure a) Q E s := fun _ _ _ _ => h
theorem wpC_mono {t : Sem α} {Q Q' : α → Shared → Prop} {E' : Value → Shared → Prop} (h : wpC M A t Q E s) (hQ : ∀ a s, Q a s → Q' a s) (hE : ∀ e s, E e s → E' e s) : wpC M A t Q' E' s :=
  fun Γ p hΓ hC => Sem.wp_mono M Γ t (fun a _ s => hQ a s) (fun e _ s => hE e s) p s (h Γ p hΓ hC)
theorem wpC_bind {m : Sem α} {f : α → Sem β} {Q : β → Shared → Prop} (h : wpC M A m (fun a s' => wpC M A (f a) Q E s') E s) : wpC M A (m >>= f) Q E s := fun Γ p hΓ hC => by
  rw [Sem.wp_bind']
  exact Sem.wp_mono M Γ m (fun a p' s' h' => h' Γ p' hΓ hC) (fun _ _ _ h' => h') p s (h Γ p hΓ hC)
/-- a leaf that the library knows, then on -/
theorem wpC_then {m : Sem α} {f : α → Sem β} {Q : β → Shared → Prop} (h : wpAny M A m (fun a s' => wpC M A (f a) Q E s') E s) : wpC M A (m >>= f) Q E s := wpC_bind (wpC_any h)
theorem wpC_tryCatch {m : Sem α} {k : Value → Sem α} {Q : α → Shared → Prop} (h : wpC M A m Q (fun e s' => wpC M A (k e) Q E s') s) : wpC M A (tryCatch m k) Q E s := fun Γ p hΓ hC => by
  rw [Sem.wp_tryCatch']
  exact Sem.wp_mono M Γ m (fun _ _ _ h' => h') (fun e p' s' h' => h' Γ p' hΓ hC) p s (h Γ p hΓ hC)
theorem wpC_onRaise {m : Sem α} {k : Value → Sem Unit} {Q : α → Shared → Prop} (h : wpC M A m Q (fun e s' => wpAny M A (k e) (fun _ s'' => E e s'') E s') s) : wpC M A (m.onRaise k) Q E s := fun Γ p hΓ hC => by
  rw [Sem.wp_onRaise]
  exact Sem.wp_mono M Γ m (fun _ _ _ h' => h') (fun e p' s' h' => h' Γ p' hΓ) p s (h Γ p hΓ hC)
theorem wpC_attempt {m : Sem α} {Q : Except Value α → Shared → Prop} (h : wpC M A m (fun a => Q (.ok a)) (fun e => Q (.error e)) s) : wpC M A m.attempt Q E s := fun Γ p hΓ hC => by rw [Sem.wp_attempt]; exact h Γ p hΓ hC
theorem wpC_holding {vs : List Value} {m : Sem α} {Q : α → Shared → Prop} (h : wpC M A m Q E s) : wpC M A (holding vs m) Q E s := fun Γ p hΓ hC => by rw [Sem.wp_holding]; exact h Γ p hΓ hC
theorem wpC_keep {vs : List Value} {m : Sem α} {Q : α → Shared → Prop} (h : wpC M A m Q E s) : wpC M A (m.keep vs) Q E s := fun Γ p hΓ hC => by rw [Sem.wp_keep]; exact h Γ p hΓ hC
theorem wpC_standAt {pos : Pos} {Q : Unit → Shared → Prop} (h : Q () s) : wpC M A (standAt pos) Q E s := fun _ _ _ _ => h
theorem wpC_rule {tag : String} {Q : Unit → Shared → Prop} (h : Q () s) : wpC M A (rule tag) Q E s := fun _ _ _ _ => h
theorem wpC_point {Q : Unit → Shared → Prop} (h : Q () s) : wpC M A point Q E s := fun _ _ _ _ => h
theorem wpC_operate {vs : List Value} {m : Sem Value} {Q : Value → Shared → Prop} (h : wpC M A m Q E s) : wpC M A (operate vs m) Q E s := fun Γ p hΓ hC => by rw [Sem.wp_operate]; exact h Γ p hΓ hC

/-- the look at the stack: no decoder, no guard holds it -/
theorem wpC_exported {self : Value} {Q : Bool → Shared → Prop} (hg : A.guards = some []) (h : Q false s) : wpC M A (Builtin.Bytes.exported self) Q E s := fun Γ p hΓ hC => by
  show Q (((Γ.code, p) :: Γ.below).any _) s
  rw [show ((Γ.code, p) :: Γ.below).any _ = false from ?_]
  · exact h
  have hno : guardsOf ((Γ.code, p) :: Γ.below) = [] := by rw [guardsOf_cons]; exact hΓ.2.2.2.1 _ hg
  have hcl : ∀ x ∈ ((Γ.code, p) :: Γ.below), holder x.1 = false := fun x hx => by
    rcases List.mem_cons.mp hx with rfl | hx
    · exact hC.1
    · exact hC.2 x hx
  rw [List.any_eq_false]
  intro x hx
  have h1 := hcl x hx
  have h2 : x.1.isGuard = false := by
    cases q : x.1.isGuard with
    | false => rfl
    | true =>
      have : x.1 ∈ guardsOf ((Γ.code, p) :: Γ.below) := List.mem_filter.mpr ⟨List.mem_map_of_mem hx, q⟩
      rw [hno] at this; cases this
  obtain ⟨c, pos⟩ := x
  dsimp only at h1 h2 ⊢
  unfold Code.isGuard at h2
  split
  all_goals try (rename (c, pos) = _ => hq; injection hq with hq _; subst hq)
  · exact absurd (show guardIds.contains _ = false from h2) (by decide)
  · exact absurd (show guardIds.contains _ = false from h2) (by decide)
  · exact absurd (show guardIds.contains _ = false from h2) (by decide)
  · exact absurd (show guardIds.contains _ = false from h2) (by decide)
  · exact absurd (show guardIds.contains _ = false from h2) (by decide)
  · rw [show Builtin.Bytes.decodersThatHold.contains _ = false from h1, Bool.and_false]
    exact Bool.false_ne_true
  · exact Bool.false_ne_true

theorem wpC_run {c : Code} {h : Option Value} {Q : Flow → Shared → Prop} (hc : codeC M (A.mark h) c (fun r s' => match r with | .ok f => Q f s' | .error e => E e s') s) (hk : holder c = false) (hnb : h ≠ some byPass := by intro x; cases x) :
    wpC M A (run c h) Q E s := fun Γ p hΓ hC => by rw [Sem.wp_run]; exact hc _ p rfl (hΓ.enter c h p hnb) (hC.enter hk h p)
theorem wpC_runValue {c : Code} {Q : Value → Shared → Prop} (hc : codeC M A c (fun r s' => match r with | .ok (.ret v) => Q v s' | .ok _ => False | .error e => E e s') s) (hk : holder c = false) : wpC M A (runValue c) Q E s :=
  fun Γ p hΓ hC => by rw [Sem.wp_runValue]; exact hc _ p rfl (hΓ.enter c none p (by intro x; cases x)) (hC.enter hk none p)
theorem wpC_call {f : Value} {pos : List Value} {kw : List (Str × Value)} {Q : Value → Shared → Prop} (hc : codeC M A (.call f ⟨pos, kw⟩) (fun r s' => match r with | .ok (.ret v) => Q v s' | .ok _ => False | .error e => E e s') s) :
    wpC M A (call f pos kw) Q E s := wpC_runValue hc rfl
theorem codeC_mono {c : Code} {R R' : Result → Shared → Prop} (h : codeC M A c R s) (hR : ∀ r s, R r s → R' r s) : codeC M A c R' s := fun Γ p hc hΓ hC => wpCode_mono hR (h Γ p hc hΓ hC)
theorem codeC_of_tree {c : Code} {R : Result → Shared → Prop}
    (h : wpC M (A.under c) (M.den c) (fun fin s' => match fin with | .done f => R (.ok f) s' | .again c' => c'.quiet = true ∧ holder c' = false ∧ codeC M A c' R s') (fun e s' => R (.error e) s') s) : codeC M A c R s := fun Γ p hc hΓ hC => by
  rw [wpCode_iff_wp, hc]
  refine Sem.wp_mono M Γ _ (fun fin p' s' h' => ?_) (fun _ _ _ h' => h') p s (h Γ p (hc ▸ hΓ.in) hC)
  cases fin with
  | done f => exact h'
  | again c' => exact ⟨h'.1, h'.2.2 (Γ.goto c') p' rfl (hΓ.goto c') (hC.goto h'.2.1)⟩
theorem codeC_loop {c : Code} {R : Result → Shared → Prop} (hq : c.quiet = true) (hk : holder c = false) (I : Nat → Shared → Prop)
    (turn : ∀ n s, I n s → wpC M (A.under c) (M.den c)
      (fun fin s' => match fin with | .done f => R (.ok f) s' | .again c' => (c' = c ∧ ∃ m, m < n ∧ I m s') ∨ (c'.quiet = true ∧ holder c' = false ∧ codeC M A c' R s')) (fun e s' => R (.error e) s') s)
    (n : Nat) (h : I n s) : codeC M A c R s := by
  induction n using Nat.strongRecOn generalizing s with
  | ind n ih =>
    refine codeC_of_tree (wpC_mono (turn n s h) (fun fin s' hf => ?_) fun _ _ h' => h')
    cases fin with
    | done f => exact hf
    | again c' =>
      rcases hf with ⟨rfl, m, hm, hI⟩ | hf
      · exact ⟨hq, hk, ih m hm hI⟩
      · exact hf
end

section
variable {M : Model} {A : Around} {E : Value → Shared → Prop} {s : Shared} {env : Env}
theorem wpC_execs_nil {Q : Flow → Shared → Prop} (h : Q .next s) : wpC M A (execs [] env) Q E s := fun _ _ _ _ => h
theorem wpC_execs_cons {st rest} {Q : Flow → Shared → Prop}
    (h : wpC M A (exec st env) (fun f s' => match f with | .next => wpC M A (execs rest env) Q E s' | f => Q f s') E s) : wpC M A (execs (st :: rest) env) Q E s := fun Γ p hΓ hC => by
  rw [execs_cons, Sem.wp_bind']
  refine Sem.wp_mono M Γ _ (fun f p' s' h' => ?_) (fun _ _ _ h' => h') _ _ (h Γ p hΓ hC)
  cases f <;> first | exact h' Γ p' hΓ hC | exact h'
/-- a statement that the library walks, then on -/
theorem wpC_execs_any {st rest} {Q : Flow → Shared → Prop}
    (h : wpAny M A (exec st env) (fun f s' => match f with | .next => wpC M A (execs rest env) Q E s' | f => Q f s') E s) : wpC M A (execs (st :: rest) env) Q E s := wpC_execs_cons (wpC_any h)
theorem wpC_If {test body orelse pos} {Q : Flow → Shared → Prop}
    (h : wpC M A (isTrue test env (eval test env)) (fun b s₂ => if b then wpC M A (execs body env) Q E s₂ else wpC M A (execs orelse env) Q E s₂) E s) : wpC M A (exec (.If test body orelse pos) env) Q E s := by
  rw [exec_If]
  refine wpC_bind (wpC_standAt (wpC_bind (wpC_mono h (fun b s₂ h₂ => ?_) fun _ _ x => x)))
  cases b <;> exact h₂
theorem wpC_Return {e pos} {Q : Flow → Shared → Prop} (h : wpC M A (eval e env) (fun v => Q (.ret v)) E s) : wpC M A (exec (.Return (some e) pos) env) Q E s := by
  rw [exec_Return_some]
  exact wpC_bind (wpC_standAt (wpC_bind (wpC_mono h (fun v s' h' => wpC_pure h') fun _ _ x => x)))
theorem wpC_Assign_Name {x pos' value pos} {Q : Flow → Shared → Prop} (h : wpC M A (eval value env) (fun v s₁ => wpAny M A (storeName env x v) (fun _ => Q .next) E s₁) E s)
    (hs : swapsWith value (some (.Name x pos')) pos.line env = pure false := by rfl) : wpC M A (exec (.Assign [.Name x pos'] value pos) env) Q E s := by
  rw [exec_Assign_Name env x pos' value pos hs]
  refine wpC_bind (wpC_standAt (wpC_bind (wpC_mono h (fun v s₁ h₁ => ?_) fun _ _ x => x)))
  refine wpC_bind (wpC_standAt (wpC_bind (wpC_any (wpAny_bindName (wpAny_mono h₁ (fun _ s₂ h₂ => wpC_pure h₂) fun _ _ x => x)))))
theorem wpC_Expr {e pos} {Q : Flow → Shared → Prop} (h : wpC M A (eval e env) (fun v s' => match v with | .ref _ => False | _ => Q .next s') E s)
    (hi : interactive env = false := by rfl) (hs : swapsWith e none pos.line env = pure false := by rfl) : wpC M A (exec (.Expr e pos) env) Q E s := by
  rw [exec_Expr env e pos hi hs]
  refine wpC_bind (wpC_standAt (wpC_bind (wpC_mono h (fun v s' h' => ?_) fun _ _ x => x)))
  have hv : ∀ a, v ≠ .ref a := fun a hva => by subst hva; exact h'
  rw [dropValue_plain hv]
  refine wpC_pure ?_
  cases v <;> first | exact h' | exact (hv _ rfl).elim
theorem wpC_runOwn {c : Code} {h : Option Value} {Q : Flow → Shared → Prop} (hc : codeC M (A.mark h) c (fun r s' => match r with | .ok f => Q f s' | .error e => cameBackBy M A env E e s') s) (hk : holder c = false) (hnb : h ≠ some byPass := by intro x; cases x) :
    wpC M A (runOwn c env h) Q E s := by
  unfold runOwn
  exact wpC_onRaise (wpC_run hc hk hnb)
theorem wpC_noted {α : Type} {m : Sem α} {Q : α → Shared → Prop} (h : wpC M A m Q (notedBy M A env E) s) : wpC M A (m.onRaise fun x => do noteFrame x env; theTreesLotGoes x) Q E s :=
  wpC_onRaise (wpC_mono h (fun _ _ q => q) fun _ _ hx => wpAny_bind (wpAny_mono hx (fun _ _ e => wpAny_theTreesLotGoes e) fun _ _ e => e))
end

section
variable {prog : Program} {w : World} {A : Around} {E : Value → Shared → Prop} {s : Shared} {env : Env}
theorem whileC {test : Expr} {body : List Stmt} {pos : Pos} {Q : Flow → Shared → Prop} (hE : PassesOwn (model prog w) A env E) (I : Nat → Shared → Prop) (n : Nat) (h : I n s)
    (turn : ∀ n s, I n s → wpC (model prog w) A (isTrue test env (eval test env)) (fun b s₂ =>
        if b then wpC (model prog w) A (execs body env) (fun f s₃ => match f with
            | .next | .cont => ∃ m, m < n ∧ I m s₃
            | .brk => Q .next s₃
            | .ret v => Q (.ret v) s₃) E s₂
        else Q .next s₂) E s) : wpC (model prog w) A (exec (.While test body [] pos) env) Q E s := by
  rw [exec_While]
  refine wpC_bind (wpC_standAt (wpC_runOwn (codeC_loop rfl rfl I (fun n s hI => ?_) n h) rfl))
  show wpC _ A ((whileTurn test body [] env).onRaise (fun x => do noteFrame x env; theTreesLotGoes x)) _ _ s
  refine wpC_noted ?_
  simp only [whileTurn]
  refine wpC_bind (wpC_mono (turn n s hI) (fun b s₂ h₂ => ?_) hE)
  cases b with
  | false => exact wpC_bind (wpC_execs_nil (wpC_pure h₂))
  | true =>
    simp only [if_true] at h₂ ⊢
    refine wpC_bind (wpC_mono h₂ (fun f s₃ h₃ => ?_) hE)
    cases f with
    | next => exact wpC_pure (.inl ⟨rfl, h₃⟩)
    | cont => exact wpC_pure (.inl ⟨rfl, h₃⟩)
    | brk => exact wpC_pure h₃
    | ret v => exact wpC_pure h₃

theorem forC {target iter : Expr} {body : List Stmt} {pos : Pos} {Q : Flow → Shared → Prop} (hE : PassesOwn (model prog w) A env E)
    (h : wpAny (model prog w) A (eval iter env) (fun x s₁ => wpAny (model prog w) A (pyIter x) (fun it s₂ => ∃ (I : Nat → Shared → Prop) (n : Nat), I n s₂ ∧
      ∀ n s, I n s → wpAny (model prog w) A (pyNext it) (fun r s₁ => match r with
        | none => Q .next s₁
        | some v => wpAny (model prog w) A (assign target env v) (fun _ s₂ => wpC (model prog w) A (execs body env) (fun f s₃ => match f with
          | .next | .cont => ∃ m, m < n ∧ I m s₃
          | .brk => Q .next s₃
          | .ret v => Q (.ret v) s₃) E s₂) E s₁) E s) E s₁) E s)
    (hs : ∀ x, foldedSetIterable iter env x = pure x := by intro _; rfl) (ht : ∀ it v, letOwnedTupleGo target it v = pure () := by intro _ _; rfl) :
    wpC (model prog w) A (exec (.For target iter body [] pos) env) Q E s := by
  rw [exec_For]
  refine wpC_bind (wpC_standAt (wpC_bind (wpC_any (wpAny_mono h (fun x s₁ h₁ => ?_) fun _ _ x => x))))
  refine wpC_bind (wpC_any (wpAny_of_eq (hs x) ?_))
  refine wpC_bind (wpC_standAt (wpC_bind (wpC_holding (wpC_any (wpAny_mono h₁ (fun it s₂ h₂ => ?_) fun _ _ x => x)))))
  obtain ⟨I, n, hI, turn⟩ := h₂
  refine wpC_runOwn (codeC_loop rfl rfl I (fun n s hI => ?_) n hI) rfl
  show wpC _ _ ((forTurn target it body [] env).onRaise (fun x => do noteFrame x env; theTreesLotGoes x)) _ _ s
  refine wpC_noted ?_
  simp only [forTurn]
  refine wpC_bind (wpC_standAt (wpC_bind (wpC_onRaise (wpC_mono (wpC_any (turn n s hI)) (fun r s₁ h₁ => ?_) fun e s' h' => wpAny_standAt (hE e s' h')))))
  cases r with
  | none => exact wpC_pure (.inr ⟨rfl, rfl, codeC_any (codeAny_block (wpAny_execs_nil h₁))⟩)
  | some v =>
    refine wpC_bind (wpC_any (wpAny_of_eq (ht it v) ?_))
    refine wpC_bind (wpC_mono (wpC_any h₁) (fun _ s₂ h₂ => wpC_bind (wpC_mono h₂ (fun f s₃ h₃ => ?_) hE)) hE)
    cases f with
    | next => exact wpC_pure (.inl ⟨rfl, h₃⟩)
    | cont => exact wpC_pure (.inl ⟨rfl, h₃⟩)
    | brk => exact wpC_pure h₃
    | ret v => exact wpC_pure h₃
end


/-! The head: the library's, with a walk over the clean contexts in place of all. -/
theorem caller_clean : Cl (⟨.builtin "claim.caller" {}, none, none, [], none⟩ : PySem.Ctx) := ⟨rfl, fun x hx => nomatch hx⟩
theorem wp_of_wpC_done {M : Model} {A : Around} {Γ : PySem.Ctx} {t : Sem Fin} {R : Result → Shared → Prop} {s : Shared} (hin : Γ.In A) (hcl : Cl Γ)
    (h : wpC M A t (fun fin s' => ∃ f, fin = .done f ∧ R (.ok f) s') (fun e s' => R (.error e) s') s) (p : Pos) :
    Sem.wp M Γ t (Sem.finPost M Γ R) (fun e _ s' => R (.error e) s') p s := by
  refine Sem.wp_mono M Γ t (fun fin p' s' h' => ?_) (fun _ _ _ h' => h') p s (h Γ p hin hcl)
  obtain ⟨f, rfl, hf⟩ := h'
  exact hf
theorem thread_ends_C {prog : Program} {w : World} {t : Sem Fin} {s : Shared} {R : Result → Shared → Prop} (hreg : s.asleep)
    (h : wpC (model prog w) callerA t (fun fin s' => ∃ f, fin = .done f ∧ (R (.ok f) s' ∧ leftWithCleanup s'.gens = false)) (fun e s' => R (.error e) s' ∧ leftWithCleanup s'.gens = false) s) :
    ∃ n r s' s'', runN (denote table) prog w n s ⟨t, .builtin "claim.caller" {}, default, []⟩ = .halted (outcomeOf r) s' ∧
      schedN (denote table) prog w n (.single s ⟨t, .builtin "claim.caller" {}, default, []⟩) = .halted (outcomeOf r) s' ∧ s'.forget = s''.forget ∧ R r s'' := by
  obtain ⟨n, r, s₁, s₂, hs, hn, hfo, hR⟩ := wp_halts_full (M := model prog w) (R := R) hreg (wp_of_wpC_done (R := fun r s' => R r s' ∧ leftWithCleanup s'.gens = false) caller_in caller_clean h default)
  exact ⟨n, r, s₂, s₁, hn, hs, hfo, hR⟩

theorem callFrom_C {c : ClaimW} {tree : List Value → Sem Fin} {w : World} {s : Shared} {free : Addr → Prop} {gens : Prop} {kept : Heap → Prop} (hz : s.asleep) (hgens : s.gens = #[])
    (hspec : ∀ args, c.pre args = true → WData.layableAll args = true →
      ∀ ord : List DictEntry → List DictEntry, (∀ l, (ord l).Perm l) →
      ∃ vs s₁, layAllW c.records (classAt s.heap) w.params ord args s = some (vs, s₁) ∧
        wpC (model c.prog w) callerA (tree vs) (fun fin s' => ∃ f, fin = .done f ∧ (c.Ends s args vs s₁ (.ok f) s' ∧ s'.os = s.os ∧ AllBare s'.gens ∧ kept s'.heap))
          (fun e s' => c.Ends s args vs s₁ (.error e) s' ∧ s'.os = s.os ∧ AllBare s'.gens ∧ kept s'.heap) s₁) :
    c.CallFrom (fun vs => ⟨tree vs, .builtin "claim.caller" {}, default, []⟩) w free gens kept s := by
  intro args hpre hlay ord hord
  obtain ⟨vs, s₁, hlaid, hcode⟩ := hspec args hpre hlay ord hord
  have hal := layAllW_rest _ _ _ hlaid
  obtain ⟨k, r, s', s'', hrun, hsched, hfo, hcase, hos, hkp⟩ := thread_ends_C (prog := c.prog) (w := w) (t := tree vs) (s := s₁)
    (R := fun r s' => c.Ends s args vs s₁ r s' ∧ s'.os = s.os ∧ kept s'.heap)
    (Shared.asleep_of_life hal.2.2.2 hz)
    (wpC_mono hcode (by
      rintro fin s' ⟨f, e, h1, h2, h3, h4⟩
      exact ⟨f, e, ⟨h1, h2, h4⟩, leftWithCleanup_false_of_bare h3⟩) (by
      rintro e s' ⟨h1, h2, h3, h4⟩
      exact ⟨⟨h1, h2, h4⟩, leftWithCleanup_false_of_bare h3⟩))
  obtain ⟨eh, _, _, eo, _⟩ := Shared.forget_eq hfo
  have hcase := hcase.congr eh
  have hkp : kept s'.heap := by rw [eh]; exact hkp
  rw [← eo] at hos
  have hlife : s'.heap.life = s.heap.life := (runN_life _ _ _ hrun).trans hal.2.2.2
  refine ⟨vs, s₁, hlaid, k, _, s', hsched, ?_, (fun _ i x hx => by rw [hgens] at hx; simp at hx), hkp, by rw [hlife], Shared.rest_eq hos⟩
  rcases hcase with ⟨v, rfl, d1, d2, d3, d4, d5⟩ | ⟨e, ob, cls, rfl, d1, d2, d3, d4, d5⟩
  · exact .inl ⟨v, rfl, d1, d2, d3, fun b o y _ => d4 b o y, d5⟩
  · exact .inr ⟨e, ob, cls, rfl, d1, d2, d3, d4, fun b o y _ => d5 b o y⟩

/-- what the head leaves to the walk -/
abbrev WalkC (q : Program) (loose : List Str) (XP : (Str → Option Value) → Heap → Prop) (YP : World → Heap → Prop) (r : RowW) (d : DefRec) (kwd : List (Str × Expr)) (run : Value → List Value → Sem Value) : Prop :=
  ∀ (w : World) (s₀ s₁ : Shared) (mg mb : Str → Option Value), Ground q loose r.records XP w s₀ mg mb s₁.heap → YP w s₁.heap → ∀ (a : Addr) (o : Obj) (pm cd doc dV kV : Value), s₁.heap.get? a = some o →
    o.data = .func { docDef d.name d.params d.body d.scope pm cd doc with defaults := dV, kwdefaults := kV } → s₁.heap.CodeRec cd d.name → Dflts mg s₁.heap d.params kwd dV kV → mg d.name = some (.ref a) → s₁.gens = #[] →
    ∀ (args : List WData) (vals : List Value) (as : List Addr), r.claim.pre args = true → WData.layableAll args = true → ReadsAllW r.records (classAt s₀.heap) s₁.heap vals args as → WellAll w.params s₁.heap vals args → (∀ a ∈ as, (a == sysModules) = false) →
      wpC (model r.prog w) callerA (run (.ref a) vals) (fun v s' => GoodWG r.claim (classAt s₀.heap) (ExcName.means s₀.heap) args s₁ (.ok (.ret v)) s')
        (fun e s' => GoodWG r.claim (classAt s₀.heap) (ExcName.means s₀.heap) args s₁ (.error e) s') s₁

theorem open_C {r : RowW} {run : Value → List Value → Sem Value} {tree : List Value → Sem Fin} {q : Program} {loose defs kps : List Str} {writes : Bool} {Xt : Shared → Bool} {XP : (Str → Option Value) → Heap → Prop} {α : Type} {Yf : Shared → α} {Ya : World → α} {YP : World → Heap → Prop} {N : Nat}
    (left : LeftO r.prog q loose Xt Yf Ya N) (hY : ∀ w s, Yf s = Ya w → YP w s.heap) (hYk : ∀ w h h', YP w h → (∀ b o, h.get? b = some o → h'.get? b = some o) → YP w h') (hX : ∀ s, Xt s = true → XP (s.heap.nsMap mainGlobals) s.heap) (hXk : ∀ mg h h', XP mg h → (∀ b o, h.get? b = some o → h'.get? b = some o) → XP mg h')
    (hRf : ∀ s, Xt s = true → RecFacts r.records s.heap) (hwr : (!writes || r.records.isEmpty) = true) (ok : (chainsOk q && opensWell r.prog && (frees r && r.within.isEmpty)) = true) (hb : r.prog.bare) (hw : r.promised)
    (ht : ∀ vs (w : World) (s : Shared) mg f (Q : Fin → Shared → Prop) (E : Value → Shared → Prop), s.heap.Ns mainGlobals mg → mg r.name = some f → wpC (model r.prog w) callerA (run f vs) (fun v s' => Q (.done (.ret v)) s') E s → wpC (model r.prog w) callerA (tree vs) Q E s)
    (pin : ∀ w s, s.heap.isNs mainGlobals = true → Ground q loose [] XP w s (s.heap.nsMap mainGlobals) (s.heap.nsMap builtinsNs) s.heap → ∀ n ∈ defs, isTheDefsW r.prog s.heap n)
    (call : ∀ (w : World) (s₀ s₁ : Shared) (mg mb : Str → Option Value), Ground q loose r.records XP w s₀ mg mb s₁.heap → YP w s₁.heap → ∀ (args : List WData) (vs : List Value) (as : List Addr),
      r.claim.pre args = true → WData.layableAll args = true → Laid r.records w s₀ s₁ args vs as → sysModules < s₀.heap.objs.size → ∃ f, mg r.name = some f ∧
        wpC (model r.prog w) callerA (run f vs) (fun v s' => GoodWG r.claim (classAt s₀.heap) (ExcName.means s₀.heap) args s₁ (.ok (.ret v)) s')
          (fun e s' => GoodWG r.claim (classAt s₀.heap) (ExcName.means s₀.heap) args s₁ (.error e) s') s₁) : r.claim.HoldsOpenBy (fun vs => ⟨tree vs, .builtin "claim.caller" {}, default, []⟩) defs kps writes := by
  obtain ⟨ok, k5⟩ := Bool.and_eq_true_iff.mp ok
  obtain ⟨hch, o1⟩ := Bool.and_eq_true_iff.mp ok
  obtain ⟨k5, k6⟩ := Bool.and_eq_true_iff.mp k5
  obtain ⟨hsame, hu, ha, hap, hm⟩ := frees_parts k5
  refine ⟨⟨hb, o1, by show r.makers.map _ = []; rw [hm]; rfl⟩, hw.witness, fun w => ⟨(left.behind hX hch w).1, fun s' hs' => ?_⟩⟩
  obtain ⟨s₀, hf, hg0, s, hT, hz, hgens, hg, G00, y⟩ := (left.behind (XP := fun mg h => XP mg h ∧ RecFacts r.records h) (fun s hs => ⟨hX s hs, hRf s hs⟩) hch w).2 s' hs'
  have G0 : Ground q loose [] XP w s (s.heap.nsMap mainGlobals) (s.heap.nsMap builtinsNs) s.heap := ⟨G00.T, G00.B, G00.D, G00.TE, G00.TD, G00.W, G00.X.1, G00.cls, G00.has, G00.apart, G00.once, G00.K⟩
  have RF := G00.X.2
  have hT' := hT
  refine ⟨s₀, hf, hg0, s, hT, pin w s hg G0, RF.1, RF.2.1, ?_⟩
  have hgens : s.gens = #[] := Array.eq_empty_of_size_eq_zero (beq_iff_eq.mp hgens)
  have G : Ground q loose r.records XP w s _ _ s.heap := RF.ground G0
  refine callFrom_C (c := r.claim) hz hgens fun args hpre hlay ord hord => ?_
  obtain ⟨⟨vs, s₁⟩, hlaid⟩ := Option.isSome_iff_exists.mp (layAllW_isSome (P := w.params) (ord := ord) G.has args r.args s (pre_splitW hpre).1)
  have keeps := layAllW_keeps _ _ _ hlaid
  have hal := layAllW_rest _ _ _ hlaid
  obtain ⟨as, hrd, hin, hold⟩ := reads_layAllW hord _ _ _ hlaid hlay s₁.heap (fun _ _ e => e)
  have L : Laid r.records w s s₁ args vs as := ⟨⟨ord, hord, hlaid⟩, hrd, hin, hold, keeps, hal.1.trans hgens, hal.2.2.1⟩
  have G₁ := G.keeps hXk keeps
  obtain ⟨f, hf, h⟩ := call w s s₁ _ _ G₁ (hYk _ _ _ (hY w s y) keeps) args vs as hpre hlay L G.low
  have hi := ident_freeW hu ha hap
  have hwi : r.claim.within = [] := List.isEmpty_iff.mp k6
  exact ⟨vs, s₁, hlaid, ht vs w s₁ _ f _ _ G₁.T.g hf (wpC_mono h (fun v s' g => ⟨_, rfl, have z := g.laid (c := r.claim) hsame hwi hi L; ⟨z.1, z.2.1, z.2.2, fun q => ⟨namesKept_of hT' hg kps keeps g.2.1.old, noTable hwr q⟩⟩⟩) fun e s' g => have z := g.laid (c := r.claim) hsame hwi hi L; ⟨z.1, z.2.1, z.2.2, fun q => ⟨namesKept_of hT' hg kps keeps g.2.1.old, noTable hwr q⟩⟩)⟩

/-! LeftO is written out here, so that the library's head closes it at once (its print: NO PIECES) and no twins of the heap are stored: 2 MB in place of 16. -/
theorem PySem.W.holds_open {r : OpenRow} {q : Program} {loose : List Str} {Xt : Shared → Bool} {XP : (Str → Option Value) → Heap → Prop} {α : Type} {Yf : Shared → α} {Ya : World → α} {YP : World → Heap → Prop} {d : DefRec} {kwd : List (Str × Expr)} {N : Nat}
    (left : ∀ w, (openEnds treeTable r.prog w N).map (fun s => (openSeen q loose (importedModules r.prog.main.body) Xt true s, Yf s)) = some (openGood q loose, Ya w)) (hY : ∀ w s, Yf s = Ya w → YP w s.heap) (hYk : ∀ w h h', YP w h → (∀ b o, h.get? b = some o → h'.get? b = some o) → YP w h')
    (hX : ∀ s, Xt s = true → XP (s.heap.nsMap mainGlobals) s.heap) (hXk : ∀ mg h h', XP mg h → (∀ b o, h.get? b = some o → h'.get? b = some o) → XP mg h')
    (hdef : defOf q r.name = some (d, kwd)) (hp : r.prog.theDef r.name = some (d.params, d.body, d.scope)) (hk : kwWritten? d.params.kwonlyargs d.params.kw_defaults = some kwd) (hRf : ∀ s, Xt s = true → RecFacts r.records s.heap) (hwr : (!r.writes || r.records.isEmpty) = true)
    (k1 : r.wellSaid = true) (ok : (chainsOk q && opensWell r.prog && (frees r.toRowW && r.within.isEmpty)) = true) (hb : r.prog.bare) (hw : r.toRowW.promised)
    (call : WalkC q loose XP YP r.toRowW d kwd fun f vs => PySem.call f vs) : r.Holds := by
  refine ⟨k1, hw, open_C (r := r.toRowW) (run := fun f vs => PySem.call f vs) (tree := fun vs => do match ← nsGet mainNs r.name with
      | some f => do ret (← PySem.call f vs)
      | none => unsupported "claim.caller:no-such-global") left hY hYk hX hXk hRf hwr ok hb hw
    (fun vs w s mg f Q E hg hf h => wpC_then (wpAny_nsGet hg (by rw [hf]; exact wpC_bind (wpC_mono h (fun _ _ x => wpC_pure x) fun _ _ x => x))))
    (fun w s hg G n hn => ?_) fun w s₀ s₁ mg mb G Y args vs as hpre hlay L low => ?_⟩
  · obtain rfl : n = r.name := by split at hn <;> simp_all
    exact pinned_of_view hg G hdef hp hk
  · obtain ⟨a, o, pm, cd, doc, dV, kV, h1, h2, h3, h4, h5⟩ := G.fn hdef
    exact ⟨.ref a, h1, call w s₀ s₁ mg mb G Y a o pm cd doc dV kV h2 h3 h4 h5 (defOf_name hdef ▸ h1) L.gens args vs as hpre hlay L.reads L.well (L.low low)⟩


open_top hd for PySem.Challenge.rw_nz0294_01



/-- the top behind the law's own door: its table of codes is laid aside -/
abbrev TopZ (mean : ExcName → Option Value) (mg mb : Str → Option Value) (h : Heap) : Prop :=
  Top topProg (looseW hd.view_39 [Str.ofString "PostError"] ++ (recsOf hd.view_39).map (·.name) ++ (litsOf hd.view_39).map (·.1) ++ (clssOf hd.view_39 (looseW hd.view_39 [Str.ofString "PostError"])).map (·.name)) mean mg mb h

/-- what stands stays -/
def Ext (h h' : Heap) : Prop := ∀ b o, h.get? b = some o → h'.get? b = some o
theorem Ext.refl {h : Heap} : Ext h h := fun _ _ e => e
theorem Ext.trans {a b c : Heap} (x : Ext a b) (y : Ext b c) : Ext a c := fun i o e => y i o (x i o e)

/-- a place to stand with nothing handled -/
abbrev Ar (dp un : Nat) (fr : Option (List Env)) (gd : Option (List Code)) : Around := { handled := none, depth := dp, frames := fr, guards := gd, units := un }

section
variable {prog : Program} {w : World} {A : Around} {s : Shared} {K : Frag} {p : Program} {loose : List Str} {mean : ExcName → Option Value} {mg mb : Str → Option Value}
  {R : Result → Shared → Prop} {name qual : Str} {params : Arguments} {body : List Stmt} {scope : Scope} {dV kV doc pm cdv ct oc : Value} {an od : Option Addr} {osl : Array (Option Value)} {f : Addr} {args : Args} {binds : List (Str × Value)}

theorem enterR (X : K.In s.heap) (T : Top p loose mean mg mb s.heap)
    (ho : K.lookup f = some ⟨oc, od, .func (fnOf name qual params body scope dV kV doc pm an cdv ct), osl⟩) (hcd : codeIn K cdv qual = true) (hroom : A.depth < recursionLimit)
    (hbind : BindsTo s (fnOf name qual params body scope dV kV doc pm an cdv ct) args binds) (hloc : ∀ y ∈ binds, scope.names.lookup y.1 = some .local)
    (h : ∀ L' h₁, Fr s.heap L' h₁ (fun y => binds.reverse.lookup y) → News s.heap L' h₁ [] →
      wpAny (model prog w) (A.deeper (envOf qual scope L' f cdv)) (execs body (envOf qual scope L' f cdv))
        (fun fl s' => R (.ok (.ret (match fl with | .ret v => v | _ => .none))) s')
        (fun e s' => wpAny (model prog w) (A.deeper (envOf qual scope L' f cdv)) (leaving (envOf qual scope L' f cdv) e) (fun _ s'' => R (.error e) s'') (fun e' s'' => R (.error e') s'') s')
        { s with heap := h₁, toks := s.toks + binds.length })
    (hcell : ∀ x ∈ scope.names, x.2 ≠ .cell) (hco : scope.isCoroutine = false := by rfl) (hgen : scope.isGenerator = false := by rfl) (hk : scope.kind = .function := by rfl) :
    codeAny (model prog w) A (.call (.ref f) args) R s := by
  refine codeAny_call_def (fd := fnOf name qual params body scope dV kV doc pm an cdv ct) (body := body) (binds := binds) hroom (X _ _ ho) rfl T.nolimit (codeRec_of X hcd) rfl hbind hcell hloc (fun h₁ hns hk₁ => ?_) hco hgen hk
  exact h s.heap.objs.size h₁ ⟨hns, hk₁, Nat.le_refl _⟩ News.nil

theorem enterRC (X : K.In s.heap) (T : Top p loose mean mg mb s.heap)
    (ho : K.lookup f = some ⟨oc, od, .func (fnOf name qual params body scope dV kV doc pm an cdv ct), osl⟩) (hcd : codeIn K cdv qual = true) (hroom : A.depth < recursionLimit)
    (hbind : BindsTo s (fnOf name qual params body scope dV kV doc pm an cdv ct) args binds)
    (hkind : (binds.all fun y => scope.names.lookup y.1 == some .local || scope.names.lookup y.1 == some .cell) = true)
    (hnd : ((cellsFrom 0 scope.names []).map (·.1)).Nodup)
    (h : ∀ L' h₁ tk cells, Fr s.heap L' h₁ (bindL (envOfC qual scope L' f cdv).kindOf binds fun _ => none) → News s.heap L' h₁ cells →
      CellsAre (bindC (envOfC qual scope L' f cdv).kindOf binds fun _ => none) (cellsFrom (L' + 1) scope.names []) cells →
      wpAny (model prog w) (A.deeper (envOfC qual scope L' f cdv)) (execs body (envOfC qual scope L' f cdv))
        (fun fl s' => R (.ok (.ret (match fl with | .ret v => v | _ => .none))) s')
        (fun e s' => wpAny (model prog w) (A.deeper (envOfC qual scope L' f cdv)) (leaving (envOfC qual scope L' f cdv) e) (fun _ s'' => R (.error e) s'') (fun e' s'' => R (.error e') s'') s')
        { s with heap := h₁, toks := tk })
    (hco : scope.isCoroutine = false := by rfl) (hgen : scope.isGenerator = false := by rfl) (hk : scope.kind = .function := by rfl) :
    codeAny (model prog w) A (.call (.ref f) args) R s := by
  refine codeAny_call_function hroom (X _ _ ho) rfl hco hgen rfl (codeRec_of X hcd) (hbind _ _ _ _ ?_)
  refine wpAny_newFunctionEnv_cells hk (kindsX hkind _) fun env' he s' x => ?_
  subst he
  refine ⟨T.nolimit.keeps x.toInCall.keep, codeAny_func ?_⟩
  obtain ⟨h₁, tk, rfl, _⟩ := x.done
  have hk₁ := x.toInCall.keep
  obtain ⟨cells, NC, Y⟩ := Cl.news (h₀ := s.heap) (Nat.le_refl _) fun n c hm => ⟨x.cell n c (lookup_of_mem_nodup (cellsFrom_names scope.names 0 (s.heap.objs.size + 1) [] [] rfl ▸ hnd) hm), x.above n c hm⟩
  exact h s.heap.objs.size h₁ tk cells ⟨x.toInCall.ns, hk₁, Nat.le_refl _⟩ NC Y
end

/-- a call that comes back with R of its value, all that stood standing -/
def Ret (prog : Program) (w : World) (dp un : Nat) (fr : Option (List Env)) (gd : Option (List Code)) (f : Value) (args : List Value) (s : Shared) (R : Value → Heap → Prop) : Prop :=
  ∀ Q E, (∀ r h' tk', Ext s.heap h' → R r h' → Q r { s with heap := h', toks := tk' }) → wpAny (model prog w) (Ar dp un fr gd) (call f args) Q E s

theorem Ret.use {prog : Program} {w : World} {dp un : Nat} {fr : Option (List Env)} {gd : Option (List Code)} {f : Value} {args : List Value} {s : Shared} {R : Value → Heap → Prop}
    {h₀ : Heap} {L : Addr} {m : Str → Option Value} {news : List (Addr × Obj)} {Q E : Value → Shared → Prop} (C : Ret prog w dp un fr gd f args s R) (F : Fr h₀ L s.heap m) (N : News h₀ L s.heap news)
    (h : ∀ r h' tk', R r h' → Fr h₀ L h' m → News h₀ L h' news → Q r { s with heap := h', toks := tk' }) : wpAny (model prog w) (Ar dp un fr gd) (call f args) Q E s :=
  C Q E fun r h' tk' k hr => h r h' tk' hr (F.keeps k) (N.grown k)

/-- the end of a body -/
def Back (s : Shared) (R : Value → Heap → Prop) (fl : Flow) (s' : Shared) : Prop :=
  ∃ h' tk', s' = { s with heap := h', toks := tk' } ∧ Ext s.heap h' ∧ R (match fl with | .ret v => v | _ => .none) h'
theorem Back.of {s : Shared} {R : Value → Heap → Prop} {L : Addr} {h' : Heap} {tk' : Nat} {m : Str → Option Value} {v : Value} (F : Fr s.heap L h' m) (hr : R v h') : Back s R (.ret v) { s with heap := h', toks := tk' } :=
  ⟨h', tk', rfl, F.keep, hr⟩

section
variable {prog : Program} {w : World} {dp un : Nat} {fr : Option (List Env)} {gd : Option (List Code)} {s : Shared} {K : Frag} {p : Program} {loose : List Str} {mean : ExcName → Option Value} {mg mb : Str → Option Value}
  {R : Value → Heap → Prop} {name qual : Str} {params : Arguments} {body : List Stmt} {scope : Scope} {dV kV doc pm cdv ct oc : Value} {an od : Option Addr} {osl : Array (Option Value)} {f : Addr} {args : List Value} {binds : List (Str × Value)}

theorem Ret.enter (X : K.In s.heap) (T : Top p loose mean mg mb s.heap)
    (ho : K.lookup f = some ⟨oc, od, .func (fnOf name qual params body scope dV kV doc pm an cdv ct), osl⟩) (hcd : codeIn K cdv qual = true) (hroom : dp < recursionLimit)
    (hbind : BindsTo s (fnOf name qual params body scope dV kV doc pm an cdv ct) ⟨args, []⟩ binds) (hloc : ∀ y ∈ binds, scope.names.lookup y.1 = some .local)
    (h : ∀ L' h₁, Fr s.heap L' h₁ (fun y => binds.reverse.lookup y) → News s.heap L' h₁ [] →
      wpAny (model prog w) ((Ar dp un fr gd).deeper (envOf qual scope L' f cdv)) (execs body (envOf qual scope L' f cdv)) (Back s R) (fun _ _ => False) { s with heap := h₁, toks := s.toks + binds.length })
    (hcell : ∀ x ∈ scope.names, x.2 ≠ .cell) (hco : scope.isCoroutine = false := by rfl) (hgen : scope.isGenerator = false := by rfl) (hk : scope.kind = .function := by rfl) :
    Ret prog w dp un fr gd (.ref f) args s R := by
  intro Q E ret
  refine wpAny_call (enterR X T ho hcd hroom hbind hloc (fun L' h₁ F N => ?_) hcell hco hgen hk)
  refine wpAny_mono (h L' h₁ F N) (fun fl s' hb => ?_) fun _ _ x => x.elim
  obtain ⟨h', tk', rfl, hk', hr⟩ := hb
  exact ret _ _ _ hk' hr

theorem Ret.enterC (X : K.In s.heap) (T : Top p loose mean mg mb s.heap)
    (ho : K.lookup f = some ⟨oc, od, .func (fnOf name qual params body scope dV kV doc pm an cdv ct), osl⟩) (hcd : codeIn K cdv qual = true) (hroom : dp < recursionLimit)
    (hbind : BindsTo s (fnOf name qual params body scope dV kV doc pm an cdv ct) ⟨args, []⟩ binds)
    (hkind : (binds.all fun y => scope.names.lookup y.1 == some .local || scope.names.lookup y.1 == some .cell) = true)
    (hnd : ((cellsFrom 0 scope.names []).map (·.1)).Nodup)
    (h : ∀ L' h₁ tk cells, Fr s.heap L' h₁ (bindL (envOfC qual scope L' f cdv).kindOf binds fun _ => none) → News s.heap L' h₁ cells →
      CellsAre (bindC (envOfC qual scope L' f cdv).kindOf binds fun _ => none) (cellsFrom (L' + 1) scope.names []) cells →
      wpAny (model prog w) ((Ar dp un fr gd).deeper (envOfC qual scope L' f cdv)) (execs body (envOfC qual scope L' f cdv)) (Back s R) (fun _ _ => False) { s with heap := h₁, toks := tk })
    (hco : scope.isCoroutine = false := by rfl) (hgen : scope.isGenerator = false := by rfl) (hk : scope.kind = .function := by rfl) :
    Ret prog w dp un fr gd (.ref f) args s R := by
  intro Q E ret
  refine wpAny_call (enterRC X T ho hcd hroom hbind hkind hnd (fun L' h₁ tk cells F N Y => ?_) hco hgen hk)
  refine wpAny_mono (h L' h₁ tk cells F N Y) (fun fl s' hb => ?_) fun _ _ x => x.elim
  obtain ⟨h', tk', rfl, hk', hr⟩ := hb
  exact ret _ _ _ hk' hr
end

def IsI (v : Int) (r : Value) (_ : Heap) : Prop := ∃ t, r = .int v t
def IsB (v : Bool) (r : Value) (_ : Heap) : Prop := ∃ _t : Tok, r = .bool v
theorem IsB.of {b v : Bool} {h : Heap} (e : b = v) : IsB v (.bool b) h := ⟨0, by rw [e]⟩
theorem IsB.dec {p q : Prop} [Decidable p] [Decidable q] {h : Heap} (e : p ↔ q) : IsB (decide q) (.bool (decide p)) h := ⟨0, by rw [decide_eq_decide.mpr e]⟩
def IsS (v : Str) (r : Value) (_ : Heap) : Prop := ∃ t, r = .str v t
def IsY (v : Array UInt8) (r : Value) (_ : Heap) : Prop := ∃ t, r = .bytes v t
section
variable {prog : Program} {w : World} {dp un : Nat} {fr : Option (List Env)} {gd : Option (List Code)} {f : Value} {args : List Value} {s : Shared} {h₀ : Heap} {L : Addr} {m : Str → Option Value} {news : List (Addr × Obj)} {Q E : Value → Shared → Prop}
theorem Ret.useI {v : Int} (C : Ret prog w dp un fr gd f args s (IsI v)) (F : Fr h₀ L s.heap m) (N : News h₀ L s.heap news)
    (h : ∀ t h' tk', Fr h₀ L h' m → News h₀ L h' news → Q (.int v t) { s with heap := h', toks := tk' }) : wpAny (model prog w) (Ar dp un fr gd) (call f args) Q E s :=
  C.use F N fun _ h' tk' ⟨t, e⟩ F' N' => e ▸ h t h' tk' F' N'
theorem Ret.useB {v : Bool} (C : Ret prog w dp un fr gd f args s (IsB v)) (F : Fr h₀ L s.heap m) (N : News h₀ L s.heap news)
    (h : ∀ h' tk', Fr h₀ L h' m → News h₀ L h' news → Q (.bool v) { s with heap := h', toks := tk' }) : wpAny (model prog w) (Ar dp un fr gd) (call f args) Q E s :=
  C.use F N fun _ h' tk' ⟨_, e⟩ F' N' => e ▸ h h' tk' F' N'
theorem Ret.useS {v : Str} (C : Ret prog w dp un fr gd f args s (IsS v)) (F : Fr h₀ L s.heap m) (N : News h₀ L s.heap news)
    (h : ∀ t h' tk', Fr h₀ L h' m → News h₀ L h' news → Q (.str v t) { s with heap := h', toks := tk' }) : wpAny (model prog w) (Ar dp un fr gd) (call f args) Q E s :=
  C.use F N fun _ h' tk' ⟨t, e⟩ F' N' => e ▸ h t h' tk' F' N'
end
/-- what a later state of the flow must meet -/
def Post (Q P : Flow → Shared → Prop) : Prop := ∀ f s, P f s → Q f s
def NextQ (M : Model) (A : Around) (E : Value → Shared → Prop) (rest : List Stmt) (env : Env) (Q : Flow → Shared → Prop) (f : Flow) (s' : Shared) : Prop := match f with | .next => wpAny M A (execs rest env) Q E s' | f => Q f s'
section
variable {M : Model} {A : Around} {E : Value → Shared → Prop} {rest : List Stmt} {env : Env} {Q P : Flow → Shared → Prop} {s : Shared}
theorem NextQ.next (h : Post P (NextQ M A E rest env Q)) (p : wpAny M A (execs rest env) Q E s) : P .next s := h _ _ p
theorem NextQ.ret {v : Value} (h : Post P (NextQ M A E rest env Q)) (p : Q (.ret v) s) : P (.ret v) s := h _ _ p
theorem NextQ.brk (h : Post P (NextQ M A E rest env Q)) (p : Q .brk s) : P .brk s := h _ _ p
theorem NextQ.cont (h : Post P (NextQ M A E rest env Q)) (p : Q .cont s) : P .cont s := h _ _ p
/-- a statement with its way on as a name of its own -/
theorem execs_abs {st : Stmt} (h : ∀ P, Post P (NextQ M A E rest env Q) → wpAny M A (exec st env) P E s) : wpAny M A (execs (st :: rest) env) Q E s :=
  wpAny_execs_cons (h _ fun f _ p => by cases f <;> exact p)
theorem execs_abs_n {S : Shared} {L : Addr} {hp : Heap} {m : Str → Option Value} {st : Stmt} (F : Fr s.heap L hp m) (e : S = ⟨hp, s.gens, s.drawn, S.toks, s.os⟩)
    (h : ∀ k P, Post P (NextQ M A E rest env Q) → wpAny M A (exec st env) P E ⟨hp, s.gens, s.drawn, k, s.os⟩) : wpAny M A (execs (st :: rest) env) Q E S := by
  rw [e]
  exact execs_abs (h _)
end
theorem room1 {a b c n : Nat} (h : a + b < c) (e : n ≤ b) : a + n < c := Nat.lt_of_le_of_lt (Nat.add_le_add_left e a) h

local macro_rules | `(tactic| walk_at "mine room") => `(tactic| first | ((try dsimp only [Ar, Around.deeper, Around.in1]); (try simp only [Nat.add_assoc, Nat.reduceAdd]); exact room1 (by assumption) (by decide)) | omega | (dsimp only [Ar, Around.deeper, Around.in1]; omega))
local macro_rules | `(tactic| walk_at "mine top") => `(tactic| first | assumption | exact Top.keeps (by assumption) (Fr.keep (by assumption)))
local macro_rules | `(tactic| walk_at "mine step") => `(tactic| ((fail_if_success (with_reducible show wpAny _ _ (exec (Stmt.While _ _ _ _) _) _ _ _)); (fail_if_success (with_reducible show wpAny _ _ (exec (Stmt.For _ _ _ _ _) _) _ _ _)); (fail_if_success (with_reducible show wpAny _ _ (eval (Expr.ListComp _ _ _ _) _) _ _ _)); (fail_if_success (with_reducible show wpAny _ _ (pyIter _) (fun it s₂ => LoopAtV _ _ _ _ _ _ _ _ _ it s₂) _ _)); first | (k_unfold; (try dsimp only)) | walk1 | (dsimp only; walk1)))
local macro_rules | `(tactic| walk_at "mine steps") => `(tactic| repeat' (first | ((with_reducible show wpAny _ _ (execs (_ :: _) _) _ _ _); first | (refine' execs_abs_n ?F ?e ?_; (case F => assumption); (case e => rfl); intro k' P' hP') | (refine execs_abs ?_; intro P' hP')) | with_reducible refine NextQ.next (by assumption) ?_ | with_reducible refine NextQ.ret (by assumption) ?_ | with_reducible refine NextQ.brk (by assumption) ?_ | with_reducible refine NextQ.cont (by assumption) ?_ | (walk_at "mine step")))
local macro_rules | `(tactic| walk_at "frm") => `(tactic| (funext z'; (repeat' split) <;> first | rfl | contradiction | simp_all))

/-! numbers: small steps proved once -/
theorem tn1 {a : Int} (h : 0 ≤ a) : (a + 1).toNat = a.toNat + 1 := Int.toNat_add h (by decide)
theorem tnlt {n : Nat} {a : Int} (h : a < n) : ((n : Int) - (a + 1)).toNat < ((n : Int) - a).toNat := by
  obtain ⟨k, hk⟩ := Int.eq_ofNat_of_zero_le (Int.sub_nonneg.mpr (Int.add_one_le_of_lt h))
  rw [show (n : Int) - a = k + 1 by rw [← hk, ← Int.sub_sub, Int.sub_add_cancel], hk]
  exact Nat.lt_succ_self k
theorem tnlt' {n : Nat} {a b : Int} (h : a < n) (h' : a < b) : ((n : Int) - b).toNat < ((n : Int) - a).toNat :=
  Nat.lt_of_le_of_lt (Int.toNat_le_toNat (Int.sub_le_sub_left (Int.add_one_le_of_lt h') _)) (tnlt h)
theorem sub1 {i k : Nat} (h : i < k) : k - i = k - (i + 1) + 1 := (Nat.sub_add_cancel (Nat.sub_pos_of_lt h)).symm
theorem sp6 {n i : Nat} (h : i ≤ n) : ((n : Int) + 1 - 1 + (i : Int) * -1) = ((n - i : Nat) : Int) := by
  rw [Int.add_sub_cancel, Int.mul_neg, Int.mul_one, Int.ofNat_sub h]; rfl
theorem sc6 (n : Nat) : (6 * ((n : Int) + 1) - 8 * (n : Int)).toNat = 6 * (n + 1) - 8 * n := Int.toNat_sub (6 * (n + 1)) (8 * n)
theorem sp8 {n : Nat} (h : 1 ≤ n) : (6 * (n : Int) - 8 * ((n : Int) - 1)).toNat = 6 * n - 8 * (n - 1) := by
  rw [show (n : Int) - 1 = ((n - 1 : Nat) : Int) from (Int.ofNat_sub h).symm]
  exact Int.toNat_sub (6 * n) (8 * (n - 1))
theorem sb8 {n i : Nat} (h : i < n - 1) : ((n : Int) - 1 - 1 + (i : Int) * -1) = ((n - 2 - i : Nat) : Int) := by
  obtain ⟨d, rfl⟩ : ∃ d, n = i + 2 + d := ⟨n - (i + 2), (Nat.add_sub_cancel' (Nat.add_lt_of_lt_sub h)).symm⟩
  rw [Nat.sub_sub, Nat.add_comm 2 i, Nat.add_sub_cancel_left]
  omega
theorem bn1 (b i : Nat) : ((b : Int) + (i : Int) * 1).toNat = b + i := by rw [Int.mul_one]; rfl
theorem bn2 (i : Nat) : (0 + (i : Int) * 2).toNat = i * 2 := by rw [Int.zero_add]; rfl
theorem min_take (m n : Nat) : min (m + n) n = n := Nat.min_eq_right (Nat.le_add_left ..)
/-- a text by its signs -/
def Tx (cs : List Nat) : Str := ⟨cs.toArray⟩
theorem Tx.length (cs : List Nat) : (Tx cs).length = cs.length := by simp [Tx, Str.length]
theorem Tx.inj {a b : List Nat} (h : Tx a = Tx b) : a = b := by
  have : (Tx a).cps.toList = (Tx b).cps.toList := by rw [h]
  simpa [Tx] using this
theorem Tx.append (a b : List Nat) : Tx a ++ Tx b = Tx (a ++ b) := by
  show Str.append (Tx a) (Tx b) = Tx (a ++ b)
  simp [Str.append, Tx]

section
variable {prog : Program} {w : World} {A : Around} {E : Value → Shared → Prop} {s : Shared} {t u : Tok} {cs ds : List Nat}
theorem len_tx {Q : Value → Shared → Prop} (hz : cs.length ≤ 16777216) (h : ∀ t' k, Q (.int (cs.length : Int) t') { s with toks := k }) : wpAny (model prog w) A (call (.builtin "len") [.str (Tx cs) t]) Q E s :=
  P.len_str (by rw [Tx.length]; omega) (by rw [Tx.length]; exact h _ _)
theorem ord_tx {c : Nat} {Q : Value → Shared → Prop} (h : ∀ t' k, Q (.int (c : Int) t') { s with toks := k }) : wpAny (model prog w) A (call (.builtin "ord") [.str (Tx [c]) t]) Q E s :=
  P.ord_of_char (h _ _)
theorem chr_tx {i : Int} {Q : Value → Shared → Prop} (h0 : 0 ≤ i) (h1 : i ≤ 1114111) (h : ∀ t' k, Q (.str (Tx [i.toNat]) t') { s with toks := k }) : wpAny (model prog w) A (call (.builtin "chr") [.int i t]) Q E s :=
  chr_of_range h0 h1 (h _ _)
theorem item_tx {value slice : Expr} {i : Int} {Q : Value → Shared → Prop} (hz : cs.length ≤ 16777216) (h0 : 0 ≤ i) (h1 : i < cs.length) (h : ∀ t' k, Q (.str (Tx [cs.getD i.toNat 0]) t') { s with toks := k })
    (hs : subscripted slice false (.str (Tx cs) t) (.int i u) = operate [.str (Tx cs) t, .int i u] (getItem (.str (Tx cs) t) (.int i u)) := by with_unfolding_all rfl)
    (ht : ∀ r, letTemporaryGo value (.str (Tx cs) t) r = pure () := by intro _; with_unfolding_all rfl) :
    wpAny (model prog w) A (subscriptTail value slice (.str (Tx cs) t) (.int i u)) Q E s := by
  refine tail_of_ItemOn ⟨"str", _, F.slot_str_getitem.lookup, typeIs_str _ _ _, P.getItem_str (c := cs.getD i.toNat 0) ?_ ?_ (h _ _)⟩ hs ht
  · rw [decide_eq_false (by omega), decide_eq_false (by omega)]; rfl
  · have hl : i.toNat < cs.length := by omega
    have e : seqIndex? i cs.length = some i.toNat := by
      have : ¬ i < 0 := by omega
      simp [seqIndex?, this, h0, h1]
    rw [Tx.length, e]
    simp [Tx, hl, List.getD_eq_getElem?_getD]
theorem eq_tx {Q : Value → Shared → Prop} (h : Q (.bool (decide (cs = ds))) s) : wpAny (model prog w) A (compareOp .Eq (.str (Tx cs) t) (.str (Tx ds) u)) Q E s := by
  refine P.eq_str ?_
  have e : ((Tx cs).cps.toList == (Tx ds).cps.toList) = decide (cs = ds) := by
    rw [Bool.eq_iff_iff]; simp [Tx]
  rw [e]; exact h
theorem add_tx {Q : Value → Shared → Prop} (hz : cs.length + ds.length ≤ 16777216) (h : ∀ t' k, Q (.str (Tx (cs ++ ds)) t') { s with toks := k }) : wpAny (model prog w) A (binaryOp .Add (.str (Tx cs) t) (.str (Tx ds) u)) Q E s := by
  refine add_str (fun t' k => ?_) (by rw [Tx.length, Tx.length, sizeLine_eq]; exact hz)
  rw [Tx.append]; exact h t' k
end

section
variable {prog : Program} {w : World} {A : Around} {E : Value → Shared → Prop} {s : Shared} {env : Env} {h₀ : Heap} {x : Str} {body : List Stmt} {Q : Flow → Shared → Prop} {m₀ : Str → Option Value}

theorem iter_rangeN {r : Addr} {a₀ b₀ c₀ : Int} {t₀ u₀ v₀ : Tok} {n : Nat} {news : List (Addr × Obj)} (J : Nat → (Str → Option Value) → List (Addr × Obj) → Prop)
    (hh : A.handled = none) (hr : IsRange s.heap r a₀ b₀ c₀ t₀ u₀ v₀) (hsmall : Builtin.Range.small a₀ b₀ c₀ = true) (hn : Builtin.Range.rangeSize a₀ b₀ c₀ = (n : Int)) (F : Fr h₀ env.locals s.heap m₀) (N : News h₀ env.locals s.heap news) (hj : J 0 m₀ news)
    (turn : ∀ i t m₁ news₁ h tk own, i < n → news₁.map (·.1) = news.map (·.1) → OwnOff own (news.map (·.1)) → J i m₁ news₁ → Fr h₀ env.locals h (fun y => if y = x then some (.int (a₀ + i * c₀) t) else m₁ y) → News h₀ env.locals h (news₁ ++ own) →
      wpAny (model prog w) A (execs body env) (InvPostN h₀ env.locals (J (i + 1)) own (news.map (·.1)) { s with heap := h, toks := tk } Q) E { s with heap := h, toks := tk })
    (done : ∀ m₁ news₁ h tk, J n m₁ news₁ → Fr h₀ env.locals h m₁ → News h₀ env.locals h news₁ → Q .next { s with heap := h, toks := tk }) :
    wpAny (model prog w) A (pyIter (.ref r)) (fun it s₂ => LoopAtV prog w A h₀ env x body Q E it s₂) E s := by
  refine wpAny_pyIter_range hr hsmall ?_
  refine loop_invN J (Walks.range hh s.heap.objs.size a₀ c₀ n) ?_ ?_ ?_ ?_ (by show IsRangeIter _ _ _ _ _; rw [hn]; simpa using Heap.get?_push_size _ rfl) (F.push _) (fun p hp => ⟨Heap.get?_push_of_some _ (N p hp).1, (N p hp).2⟩) hj ?_ ?_
  · intro hm
    exact absurd F.ns.lt ((List.mem_singleton.mp hm) ▸ Nat.lt_irrefl _)
  · intro b hb
    rw [List.mem_singleton.mp hb]
    exact next_is_new F
  · intro p hp hI
    exact absurd (Heap.lt_size (N p hp).1) ((List.mem_singleton.mp hI) ▸ Nat.lt_irrefl _)
  · intro p hp hI
    exact absurd (Heap.lt_size (N p hp).1) ((List.mem_singleton.mp hI) ▸ Nat.lt_irrefl _)
  · rintro i v m₁ news₁ h tk own hi ⟨t, rfl⟩ hadr hoff hJ F₁ N₁
    exact turn i t m₁ news₁ h tk own hi hadr hoff hJ F₁ N₁
  · intro m₁ news₁ h tk hJ F₁ N₁
    exact done m₁ news₁ h tk hJ F₁ N₁
end

local macro_rules | `(tactic| walk_at "mine size") => `(tactic| first | exact Nat.le_trans (by assumption) (by decide) | omega | ((try simp only [List.length_map, List.length_append, List.length_cons, List.length_nil, List.length_take, List.length_drop, List.length_range]); omega))
local macro_rules | `(tactic| walk_at "call builtin:len") => `(tactic| ((with_reducible show wpAny _ _ (call (Value.builtin "len") [Value.str (Tx _) _]) _ _ _); (refine len_tx (by walk_at "mine size") ?_); intro _ _))
local macro_rules | `(tactic| walk_at "call builtin:ord") => `(tactic| ((with_reducible show wpAny _ _ (call (Value.builtin "ord") [Value.str (Tx _) _]) _ _ _); (refine ord_tx ?_); intro _ _))
local macro_rules | `(tactic| walk_at "call builtin:chr") => `(tactic| ((with_reducible show wpAny _ _ (call (Value.builtin "chr") [Value.int _ _]) _ _ _); (refine chr_tx (by walk_at "mine num") (by walk_at "mine num") ?_); intro _ _))
local macro_rules | `(tactic| walk_at "subscriptTail Name Name str int") => `(tactic| ((with_reducible show wpAny _ _ (subscriptTail _ _ (Value.str (Tx _) _) (Value.int _ _)) _ _ _); (refine item_tx (by walk_at "mine size") (by omega) (by walk_at "mine size") ?_); intro _ _))
local macro_rules | `(tactic| walk_at "subscriptTail Name Constant str int") => `(tactic| ((with_reducible show wpAny _ _ (subscriptTail _ _ (Value.str (Tx _) _) (Value.int _ _)) _ _ _); (refine item_tx (by walk_at "mine size") (by omega) (by walk_at "mine size") ?_); intro _ _))
local macro_rules | `(tactic| walk_at "subscriptTail Name BinOp str int") => `(tactic| ((with_reducible show wpAny _ _ (subscriptTail _ _ (Value.str (Tx _) _) (Value.int _ _)) _ _ _); (refine item_tx (by walk_at "mine size") (by omega) (by walk_at "mine size") ?_); intro _ _))
local macro_rules | `(tactic| walk_at "compareOp Eq str str") => `(tactic| ((with_reducible show wpAny _ _ (compareOp _ (Value.str (Tx _) _) (Value.str (Tx _) _)) _ _ _); (refine eq_tx ?_)))
local macro_rules | `(tactic| walk_at "binaryOp Add str str") => `(tactic| ((with_reducible show wpAny _ _ (binaryOp Operator.Add (Value.str (Tx _) _) (Value.str (Tx _) _)) _ _ _); (refine add_tx (by walk_at "mine size") ?_); intro _ _))
local macro_rules | `(tactic| walk_at "mine num") => `(tactic| first | omega | (simp only [show (2 : Int) ^ (10 : Int).toNat = 1024 from rfl]; omega))

theorem Fr.as {h₀ h : Heap} {L : Addr} {m m' : Str → Option Value} (F : Fr h₀ L h m) (e : m = m') : Fr h₀ L h m' := e ▸ F
theorem frX {x : Str} {v : Value} {m₁ m₀ : Str → Option Value} (h : ∀ z, z ≠ x → m₁ z = m₀ z) : (fun y => if y = x then some v else m₁ y) = fun y => if y = x then some v else m₀ y := by
  funext y
  by_cases e : y = x
  · simp [e]
  · simp [e, h y e]
theorem frD {x : Str} {m₁ m₀ : Str → Option Value} (h : ∀ z, z ≠ x → m₁ z = m₀ z) : m₁ = fun y => if y = x then m₁ x else m₀ y := by
  funext y
  by_cases e : y = x
  · simp [e]
  · simp [e, h y e]
section
variable {σ : Type} {prog : Program} {w : World} {A : Around} {E : Value → Shared → Prop} {s : Shared} {env : Env} {h₀ : Heap} {L : Addr} {x : Str} {body : List Stmt} {Q : Flow → Shared → Prop}

/-- the end of a turn, the loop's own state being of a type -/
def TurnNext (h₀ : Heap) (L : Addr) (x : Str) (fm : σ → Str → Option Value) (fn : σ → List (Addr × Obj)) (R : σ → Prop) (own : List (Addr × Obj)) (s₁ s₂ : Shared) : Prop :=
  ∃ h' tk' m' σ', s₂ = { s₁ with heap := h', toks := tk' } ∧ Fr h₀ L h' m' ∧ News h₀ L h' (fn σ' ++ own) ∧ (∀ z, z ≠ x → m' z = fm σ' z) ∧ R σ'
def TurnS (h₀ : Heap) (L : Addr) (x : Str) (fm : σ → Str → Option Value) (fn : σ → List (Addr × Obj)) (R : σ → Prop) (own : List (Addr × Obj)) (s₁ : Shared) (Q : Flow → Shared → Prop) (f : Flow) (s₂ : Shared) : Prop :=
  match f with
  | .ret v => Q (.ret v) s₂
  | .brk => Q .next s₂
  | .next => TurnNext h₀ L x fm fn R own s₁ s₂
  | .cont => TurnNext h₀ L x fm fn R own s₁ s₂
theorem TurnNext.of {fm : σ → Str → Option Value} {fn : σ → List (Addr × Obj)} {R : σ → Prop} {own : List (Addr × Obj)} {s₁ : Shared} {h' : Heap} {tk' : Nat} {m' : Str → Option Value} (σ' : σ) (F : Fr h₀ L h' m') (N : News h₀ L h' (fn σ' ++ own))
    (hm : ∀ z, z ≠ x → m' z = fm σ' z) (r : R σ') : TurnNext h₀ L x fm fn R own s₁ { s₁ with heap := h', toks := tk' } := ⟨h', tk', m', σ', rfl, F, N, hm, r⟩

theorem loopS {I : Addr} {fp wr : List Addr} {n : Nat} {P : Nat → Value → Prop} {St : Nat → Heap → Prop} (fm : σ → Str → Option Value) (fn : σ → List (Addr × Obj)) (R : Nat → σ → Prop) (σ₀ : σ) (hL : env.locals = L)
    (W : Walks prog w A I fp wr n P St) (hLf : L ∉ fp) (hwr : ∀ b ∈ wr, h₀.get? b = none) (hnw : ∀ p ∈ fn σ₀, p.1 ∉ wr) (hfp : ∀ q ∈ fn σ₀, q.1 ∉ fp) (hst : St 0 s.heap) (F : Fr h₀ L s.heap (fm σ₀)) (N : News h₀ L s.heap (fn σ₀)) (h0 : R 0 σ₀)
    (adr : ∀ σ', (fn σ').map (·.1) = (fn σ₀).map (·.1))
    (turn : ∀ i v σ' h tk own, i < n → P i v → R i σ' → OwnOff own ((fn σ').map (·.1)) → Fr h₀ L h (fun y => if y = x then some v else fm σ' y) → News h₀ L h (fn σ' ++ own) →
      wpAny (model prog w) A (execs body env) (TurnS h₀ L x fm fn (R (i + 1)) own { s with heap := h, toks := tk } Q) E { s with heap := h, toks := tk })
    (done : ∀ σ' vx h tk, R n σ' → Fr h₀ L h (fun y => if y = x then vx else fm σ' y) → News h₀ L h (fn σ') → Q .next { s with heap := h, toks := tk }) :
    LoopAtV prog w A h₀ env x body Q E (.ref I) s := by
  subst hL
  refine loop_invN (fun i m nx => ∃ σ', nx = fn σ' ∧ (∀ z, z ≠ x → m z = fm σ' z) ∧ R i σ') W hLf hwr hnw hfp hst F N ⟨σ₀, rfl, fun _ _ => rfl, h0⟩ ?_ ?_
  · rintro i v m₁ nx h tk own hi hP _ hoff ⟨σ', rfl, hm, hR⟩ F₁ N₁
    refine wpAny_mono (turn i v σ' h tk own hi hP hR (by rw [adr]; exact hoff) (Fr.as F₁ (frX hm)) N₁) (fun f s₂ hf => ?_) fun _ _ e => e
    have fin : TurnNext h₀ env.locals x fm fn (R (i + 1)) own { s with heap := h, toks := tk } s₂ → InvEndN h₀ env.locals (fun m nx => ∃ σ', nx = fn σ' ∧ (∀ z, z ≠ x → m z = fm σ' z) ∧ R (i + 1) σ') own ((fn σ₀).map (·.1)) { s with heap := h, toks := tk } s₂ := by
      rintro ⟨h', tk', m', σ₂, e, F₂, N₂, hm₂, hR₂⟩
      exact ⟨h', tk', m', _, fn σ₂, e, F₂, N₂, fun p hp => List.mem_append_left _ hp, fun p hp => List.mem_append_right _ hp, adr σ₂, σ₂, rfl, hm₂, hR₂⟩
    cases f with
    | ret v => exact hf
    | brk => exact hf
    | next => exact fin hf
    | cont => exact fin hf
  · rintro m₁ nx h tk ⟨σ', rfl, hm, hR⟩ F₁ N₁
    exact done σ' _ h tk hR (Fr.as F₁ (frD hm)) N₁

theorem iter_rangeS {r : Addr} {a₀ b₀ c₀ : Int} {t₀ u₀ v₀ : Tok} {n : Nat} (fm : σ → Str → Option Value) (fn : σ → List (Addr × Obj)) (R : Nat → σ → Prop) (σ₀ : σ) (hL : env.locals = L)
    (hh : A.handled = none) (hr : IsRange s.heap r a₀ b₀ c₀ t₀ u₀ v₀) (hsmall : Builtin.Range.small a₀ b₀ c₀ = true) (hn : Builtin.Range.rangeSize a₀ b₀ c₀ = (n : Int)) (F : Fr h₀ L s.heap (fm σ₀)) (N : News h₀ L s.heap (fn σ₀)) (h0 : R 0 σ₀)
    (adr : ∀ σ', (fn σ').map (·.1) = (fn σ₀).map (·.1))
    (turn : ∀ i t σ' h tk own, i < n → R i σ' → OwnOff own ((fn σ').map (·.1)) → Fr h₀ L h (fun y => if y = x then some (.int (a₀ + i * c₀) t) else fm σ' y) → News h₀ L h (fn σ' ++ own) →
      wpAny (model prog w) A (execs body env) (TurnS h₀ L x fm fn (R (i + 1)) own { s with heap := h, toks := tk } Q) E { s with heap := h, toks := tk })
    (done : ∀ σ' vx h tk, R n σ' → Fr h₀ L h (fun y => if y = x then vx else fm σ' y) → News h₀ L h (fn σ') → Q .next { s with heap := h, toks := tk }) :
    wpAny (model prog w) A (pyIter (.ref r)) (fun it s₂ => LoopAtV prog w A h₀ env x body Q E it s₂) E s := by
  refine wpAny_pyIter_range hr hsmall ?_
  refine loopS fm fn R σ₀ hL (Walks.range hh s.heap.objs.size a₀ c₀ n) ?_ ?_ ?_ ?_ (by show IsRangeIter _ _ _ _ _; rw [hn]; simpa using Heap.get?_push_size _ rfl) (F.push _) (fun p hp => ⟨Heap.get?_push_of_some _ (N p hp).1, (N p hp).2⟩) h0 adr ?_ ?_
  · intro hm
    exact absurd F.ns.lt ((List.mem_singleton.mp hm) ▸ Nat.lt_irrefl _)
  · intro b hb
    rw [List.mem_singleton.mp hb]
    exact next_is_new F
  · intro p hp hI
    exact absurd (Heap.lt_size (N p hp).1) ((List.mem_singleton.mp hI) ▸ Nat.lt_irrefl _)
  · intro p hp hI
    exact absurd (Heap.lt_size (N p hp).1) ((List.mem_singleton.mp hI) ▸ Nat.lt_irrefl _)
  · rintro i v σ' h tk own hi ⟨t, rfl⟩ hR hoff F₁ N₁
    exact turn i t σ' h tk own hi hR hoff F₁ N₁
  · exact done

theorem iter_listS {l : Addr} {vs : List Value} {ns : List Int} (fm : σ → Str → Option Value) (fn : σ → List (Addr × Obj)) (R : Nat → σ → Prop) (σ₀ : σ) (hL : env.locals = L)
    (hh : A.handled = none) (hl : h₀.IsList l vs.toArray) (hi : IntsAre vs ns) (F : Fr h₀ L s.heap (fm σ₀)) (N : News h₀ L s.heap (fn σ₀)) (h0 : R 0 σ₀)
    (adr : ∀ σ', (fn σ').map (·.1) = (fn σ₀).map (·.1))
    (turn : ∀ i k t σ' h tk own, ns[i]? = some k → R i σ' → OwnOff own ((fn σ').map (·.1)) → Fr h₀ L h (fun y => if y = x then some (.int k t) else fm σ' y) → News h₀ L h (fn σ' ++ own) →
      wpAny (model prog w) A (execs body env) (TurnS h₀ L x fm fn (R (i + 1)) own { s with heap := h, toks := tk } Q) E { s with heap := h, toks := tk })
    (done : ∀ σ' vx h tk, R ns.length σ' → Fr h₀ L h (fun y => if y = x then vx else fm σ' y) → News h₀ L h (fn σ') → Q .next { s with heap := h, toks := tk }) :
    wpAny (model prog w) A (pyIter (.ref l)) (fun it s₂ => LoopAtV prog w A h₀ env x body Q E it s₂) E s := by
  have hls : s.heap.IsList l vs.toArray := hl.at fun o e => F.keep l o e
  obtain ⟨ol, hol, _⟩ := id hl
  have hlt : l < h₀.objs.size := Heap.lt_size hol
  have hne : l ≠ s.heap.objs.size := Nat.ne_of_lt (Nat.lt_trans (Nat.lt_of_lt_of_le hlt F.above) F.ns.lt)
  refine wpAny_pyIter_list hls ?_
  have hlen : vs.toArray.size = ns.length := by simp [hi.length]
  refine loopS fm fn R σ₀ hL (Walks.list hh s.heap.objs.size l hne vs.toArray) ?_ ?_ ?_ ?_ ⟨⟨_, Heap.get?_push_size _ rfl, rfl, rfl⟩, hls.at fun o e => Heap.get?_push_of_some _ e⟩ (F.push _) (fun p hp => ⟨Heap.get?_push_of_some _ (N p hp).1, (N p hp).2⟩) h0 adr ?_ ?_
  · intro hm
    rcases List.mem_cons.mp hm with e | hm
    · exact absurd F.ns.lt (e ▸ Nat.lt_irrefl _)
    · exact absurd (Nat.lt_of_lt_of_le hlt F.above) ((List.mem_singleton.mp hm) ▸ Nat.lt_irrefl _)
  · intro b hb
    rw [List.mem_singleton.mp hb]
    exact next_is_new F
  · intro p hp hI
    exact absurd (Heap.lt_size (N p hp).1) ((List.mem_singleton.mp hI) ▸ Nat.lt_irrefl _)
  · intro p hp hI
    rcases List.mem_cons.mp hI with e | hI
    · exact absurd (Heap.lt_size (N p hp).1) (e ▸ Nat.lt_irrefl _)
    · have e := List.mem_singleton.mp hI
      rw [← e] at hol
      have := (N p hp).2.2
      rw [hol] at this; cases this
  · rintro i v σ' h tk own hin hP hR hoff F₁ N₁
    have hlt' : i < ns.length := hlen ▸ hin
    obtain ⟨t, hx⟩ := hi.get i ns[i] (by simp [hlt'])
    have hv : v = .int ns[i] t := by
      have hP' : vs[i]? = some v := by simpa using hP
      rw [hx] at hP'; exact (Option.some.inj hP').symm
    subst hv
    exact turn i ns[i] t σ' h tk own (by simp [hlt']) hR hoff F₁ N₁
  · rw [hlen]; exact done

theorem iter_bytesS {b : Array UInt8} {tb : Tok} {ks : List Int} (fm : σ → Str → Option Value) (fn : σ → List (Addr × Obj)) (R : Nat → σ → Prop) (σ₀ : σ) (hL : env.locals = L)
    (hh : A.handled = none) (hk : KBw.bInts b = ks) (F : Fr h₀ L s.heap (fm σ₀)) (N : News h₀ L s.heap (fn σ₀)) (h0 : R 0 σ₀)
    (adr : ∀ σ', (fn σ').map (·.1) = (fn σ₀).map (·.1))
    (turn : ∀ i k t σ' h tk own, ks[i]? = some k → 0 ≤ k → k < 256 → R i σ' → OwnOff own ((fn σ').map (·.1)) → Fr h₀ L h (fun y => if y = x then some (.int k t) else fm σ' y) → News h₀ L h (fn σ' ++ own) →
      wpAny (model prog w) A (execs body env) (TurnS h₀ L x fm fn (R (i + 1)) own { s with heap := h, toks := tk } Q) E { s with heap := h, toks := tk })
    (done : ∀ σ' vx h tk, R ks.length σ' → Fr h₀ L h (fun y => if y = x then vx else fm σ' y) → News h₀ L h (fn σ') → Q .next { s with heap := h, toks := tk }) :
    wpAny (model prog w) A (pyIter (.bytes b tb)) (fun it s₂ => LoopAtV prog w A h₀ env x body Q E it s₂) E s := by
  subst hk
  refine KBw.pyIter_bytes ?_
  refine loopS fm fn R σ₀ hL (KBw.walks hh s.heap.objs.size b tb) ?_ ?_ ?_ ?_ ⟨_, Heap.get?_push_size _ rfl, rfl, rfl⟩ (F.push _) (fun p hp => ⟨Heap.get?_push_of_some _ (N p hp).1, (N p hp).2⟩) h0 adr ?_ ?_
  · intro hm
    exact absurd F.ns.lt ((List.mem_singleton.mp hm) ▸ Nat.lt_irrefl _)
  · intro b hb
    rw [List.mem_singleton.mp hb]
    exact next_is_new F
  · intro p hp hI
    exact absurd (Heap.lt_size (N p hp).1) ((List.mem_singleton.mp hI) ▸ Nat.lt_irrefl _)
  · intro p hp hI
    exact absurd (Heap.lt_size (N p hp).1) ((List.mem_singleton.mp hI) ▸ Nat.lt_irrefl _)
  · rintro i v σ' h tk own hi ⟨c, u, hc, rfl⟩ hR hoff F₁ N₁
    have e := KBw.ints_get hc
    have hb := KBw.ints_in (b := b) (List.mem_of_getElem? e)
    exact turn i _ u σ' h tk own e hb.1 hb.2 hR hoff F₁ N₁
  · rw [← KBw.ints_length b]; exact done
end

section
variable {σ : Type} {prog : Program} {w : World} {A : Around} {s : Shared} {env : Env} {h₀ : Heap} {L : Addr} {body : List Stmt} {Q : Flow → Shared → Prop} {test : Expr} {pos : Pos}
def WNext (h₀ : Heap) (L : Addr) (fm : σ → Str → Option Value) (fn : σ → List (Addr × Obj)) (R : σ → Prop) (μ : σ → Nat) (k : Nat) (s₁ s₂ : Shared) : Prop :=
  ∃ h' tk' σ', s₂ = { s₁ with heap := h', toks := tk' } ∧ Fr h₀ L h' (fm σ') ∧ News h₀ L h' (fn σ') ∧ R σ' ∧ μ σ' < k
theorem WNext.of {fm : σ → Str → Option Value} {fn : σ → List (Addr × Obj)} {R : σ → Prop} {μ : σ → Nat} {k : Nat} {s₁ : Shared} {h' : Heap} {tk' : Nat} {m' : Str → Option Value} (σ' : σ) (F : Fr h₀ L h' m') (N : News h₀ L h' (fn σ'))
    (hm : m' = fm σ') (r : R σ') (hk : μ σ' < k) : WNext h₀ L fm fn R μ k s₁ { s₁ with heap := h', toks := tk' } := ⟨h', tk', σ', rfl, hm ▸ F, N, r, hk⟩
def WTurn (h₀ : Heap) (L : Addr) (fm : σ → Str → Option Value) (fn : σ → List (Addr × Obj)) (R : σ → Prop) (μ : σ → Nat) (k : Nat) (s₁ : Shared) (Q : Flow → Shared → Prop) (f : Flow) (s₂ : Shared) : Prop :=
  match f with
  | .ret v => Q (.ret v) s₂
  | .brk => Q .next s₂
  | .next => WNext h₀ L fm fn R μ k s₁ s₂
  | .cont => WNext h₀ L fm fn R μ k s₁ s₂
theorem whileS {E : Value → Shared → Prop} (hE : PassesOwn (model prog w) A env E) (fm : σ → Str → Option Value) (fn : σ → List (Addr × Obj)) (R : σ → Prop) (μ : σ → Nat) (σ₀ : σ) (F : Fr h₀ L s.heap (fm σ₀)) (N : News h₀ L s.heap (fn σ₀)) (h0 : R σ₀)
    (turn : ∀ σ' h tk, R σ' → Fr h₀ L h (fm σ') → News h₀ L h (fn σ') →
      wpAny (model prog w) A (isTrue test env (eval test env)) (fun b s₂ => if b then wpAny (model prog w) A (execs body env) (WTurn h₀ L fm fn R μ (μ σ') { s with heap := h, toks := tk } Q) E s₂ else Q .next s₂) E { s with heap := h, toks := tk }) :
    wpAny (model prog w) A (exec (.While test body [] pos) env) Q E s := by
  refine wpAny_While (codeAny_whileLoop (fun n s' => ∃ h tk σ', s' = { s with heap := h, toks := tk } ∧ Fr h₀ L h (fm σ') ∧ News h₀ L h (fn σ') ∧ R σ' ∧ n = μ σ') (fun n s' hI => ?_) (μ σ₀) ⟨s.heap, s.toks, σ₀, rfl, F, N, h0, rfl⟩)
  obtain ⟨h, tk, σ', rfl, F', N', hR, rfl⟩ := hI
  refine wpAny_mono (turn σ' h tk hR F' N') (fun b s₂ hb => ?_) hE
  cases b with
  | false => exact wpAny_execs_nil hb
  | true =>
    simp only [if_true] at hb ⊢
    refine wpAny_mono hb (fun f s₃ h₃ => ?_) hE
    have fin : WNext h₀ L fm fn R μ (μ σ') { s with heap := h, toks := tk } s₃ → ∃ m, m < μ σ' ∧ ∃ h tk σ', s₃ = { s with heap := h, toks := tk } ∧ Fr h₀ L h (fm σ') ∧ News h₀ L h (fn σ') ∧ R σ' ∧ m = μ σ' := by
      rintro ⟨h', tk', σ₂, e, F₂, N₂, hR₂, hk⟩
      exact ⟨μ σ₂, hk, h', tk', σ₂, e, F₂, N₂, hR₂, rfl⟩
    cases f with
    | ret v => exact h₃
    | brk => exact h₃
    | next => exact fin h₃
    | cont => exact fin h₃
end
/-- the frame in a loop: names that the body stores anyhow, the rest known -/
abbrev fmU {ρ : Type} (stored : List Str) (g : ρ → Str → Option Value) : ρ × (Str → Option Value) → Str → Option Value := fun σ y => if stored.contains y then σ.2 y else g σ.1 y
theorem fmU_start (stored : List Str) (m : Str → Option Value) : m = fun y => if stored.contains y then m y else m y := by
  funext y; split <;> rfl
theorem TurnNext.ofU {ρ : Type} {stored : List Str} {g : ρ → Str → Option Value} {fn : ρ → List (Addr × Obj)} {R : ρ → Prop} {h₀ : Heap} {L : Addr} {x : Str} {own : List (Addr × Obj)} {s₁ : Shared} {h' : Heap} {tk' : Nat} {m' : Str → Option Value} (r' : ρ) (F : Fr h₀ L h' m') (N : News h₀ L h' (fn r' ++ own))
    (hm : ∀ z, z ≠ x → stored.contains z = false → m' z = g r' z) (r : R r') : TurnNext h₀ L x (fmU stored g) (fun σ => fn σ.1) (fun σ => R σ.1) own s₁ { s₁ with heap := h', toks := tk' } :=
  ⟨h', tk', m', (r', m'), rfl, F, N, fun z hz => by
    show m' z = if stored.contains z then m' z else g r' z
    cases e : stored.contains z with
    | true => simp
    | false => simpa using hm z hz e, r⟩


section
variable {prog : Program} {w : World} {dp un : Nat} {fr : Option (List Env)} {gd : Option (List Code)} {s : Shared} {mean : ExcName → Option Value} {mg mb : Str → Option Value}

theorem is_half_spec {i : Int} {t : Tok} (X : (hd.heap_39 w.params).In s.heap) (T : TopZ mean mg mb s.heap) (hdp : dp + 1 < recursionLimit) (hun : un + 8 < cLine) :
    Ret prog w dp un fr gd (.ref 116) [.int i t] s (IsB (decide (55296 ≤ i ∧ i ≤ 57343))) := by
  refine Ret.enter (binds := [(Str.ofString "code", Value.int i t)]) X T (by k_dflt k_is) (by k_dflt k_is) (by omega) (BindsTo.of_eq rfl) (locs rfl) (fun L' h' F' N' => ?_) (by decide)
  walk_at "mine steps"
  all_goals refine Back.of (by assumption) ?_
  all_goals exact IsB.dec (by omega)

theorem is_plain_spec {i : Int} {t : Tok} (X : (hd.heap_39 w.params).In s.heap) (T : TopZ mean mg mb s.heap) (hdp : dp + 1 < recursionLimit) (hun : un + 8 < cLine) :
    Ret prog w dp un fr gd (.ref 109) [.int i t] s (IsB (decide (32 ≤ i ∧ i ≤ 126))) := by
  refine Ret.enter (binds := [(Str.ofString "code", Value.int i t)]) X T (by k_dflt k_is) (by k_dflt k_is) (by omega) (BindsTo.of_eq rfl) (locs rfl) (fun L' h' F' N' => ?_) (by decide)
  walk_at "mine steps"
  all_goals refine Back.of (by assumption) ?_
  all_goals exact IsB.dec (by omega)

local macro_rules | `(tactic| walk_at "call ref") => `(tactic| ((with_reducible show wpAny _ _ (call (Value.ref 116) _) _ _ _); k_dflt (refine Ret.useB (is_half_spec (by k_in) (by walk_at "mine top") (by walk_at "mine room") (by walk_at "mine room")) (by k_asm) (by k_asm) ?_; k_whole); intro _ _ _ _))

theorem is_barred_spec {i : Int} {t : Tok} (X : (hd.heap_39 w.params).In s.heap) (T : TopZ mean mg mb s.heap) (hdp : dp + 2 < recursionLimit) (hun : un + 18 < cLine) :
    Ret prog w dp un fr gd (.ref 172) [.int i t] s (IsB (decide (i < 32 ∨ (127 ≤ i ∧ i ≤ 159) ∨ i = 8232 ∨ i = 8233 ∨ (55296 ≤ i ∧ i ≤ 57343)))) := by
  refine Ret.enter (binds := [(Str.ofString "code", Value.int i t)]) X T (by k_dflt k_is) (by k_dflt k_is) (by omega) (BindsTo.of_eq rfl) (locs rfl) (fun L' h' F' N' => ?_) (by decide)
  walk_at "mine steps"
  all_goals refine Back.of (by assumption) ?_
  all_goals first | exact IsB.dec (by omega) | (refine IsB.of ?_; symm; simp only [decide_eq_true_eq, decide_eq_false_iff_not]; omega)

theorem law_code_spec {i : Int} {t : Tok} (X : (hd.heap_39 w.params).In s.heap) (T : TopZ mean mg mb s.heap) (hdp : dp + 2 < recursionLimit) (hun : un + 18 < cLine) :
    Ret prog w dp un fr gd (.ref 186) [.int i t] s (IsI (([97, 55295, 55296, 56319, 56320, 57343, 57344, 1114111, 98, 65533] : List Int).getD (i.fmod 10).toNat 0)) := by
  refine Ret.enter (binds := [(Str.ofString "cell", Value.int i t)]) X T (by k_dflt k_is) (by k_dflt k_is) (by omega) (BindsTo.of_eq rfl) (locs rfl) (fun L' h' F' N' => ?_) (by decide)
  walk_at "mine steps"
  all_goals refine Back.of (by assumption) ?_
  exact ⟨_, rfl⟩
end

local macro_rules | `(tactic| walk_at "call ref") => `(tactic| ((with_reducible show wpAny _ _ (call (Value.ref 116) _) _ _ _); k_dflt (refine Ret.useB (is_half_spec (by k_in) (by walk_at "mine top") (by walk_at "mine room") (by walk_at "mine room")) (by k_asm) (by k_asm) ?_; k_whole); intro _ _ _ _))
local macro_rules | `(tactic| walk_at "call ref") => `(tactic| ((with_reducible show wpAny _ _ (call (Value.ref 109) _) _ _ _); k_dflt (refine Ret.useB (is_plain_spec (by k_in) (by walk_at "mine top") (by walk_at "mine room") (by walk_at "mine room")) (by k_asm) (by k_asm) ?_; k_whole); intro _ _ _ _))
local macro_rules | `(tactic| walk_at "call ref") => `(tactic| ((with_reducible show wpAny _ _ (call (Value.ref 172) _) _ _ _); k_dflt (refine Ret.useB (is_barred_spec (by k_in) (by walk_at "mine top") (by walk_at "mine room") (by walk_at "mine room")) (by k_asm) (by k_asm) ?_; k_whole); intro _ _ _ _))
local macro_rules | `(tactic| walk_at "call ref") => `(tactic| ((with_reducible show wpAny _ _ (call (Value.ref 186) _) _ _ _); k_dflt (refine Ret.useI (law_code_spec (by k_in) (by walk_at "mine top") (by walk_at "mine room") (by walk_at "mine room")) (by k_asm) (by k_asm) ?_; k_whole); intro _ _ _ _ _))

/-- one turn nearer to the end -/
def Turned (I : Nat → Shared → Prop) (n : Nat) (s : Shared) : Prop := ∃ m, m < n ∧ I m s
theorem Turned.of {I : Nat → Shared → Prop} {n m : Nat} {s : Shared} (h : m < n) (i : I m s) : Turned I n s := ⟨m, h, i⟩
theorem whileR {A : Around} {s : Shared} {env : Env} {test : Expr} {body : List Stmt} {pos : Pos} {Q : Flow → Shared → Prop} {prog : Program} {w : World} (I : Nat → Shared → Prop) (n : Nat) (h : I n s)
    (turn : ∀ n s, I n s → wpAny (model prog w) A (isTrue test env (eval test env)) (fun b s₂ =>
        if b then wpAny (model prog w) A (execs body env) (fun f s₃ => match f with
            | .next | .cont => Turned I n s₃
            | .brk => Q .next s₃
            | .ret v => Q (.ret v) s₃) (fun _ _ => False) s₂
        else Q .next s₂) (fun _ _ => False) s) :
    wpAny (model prog w) A (exec (.While test body [] pos) env) Q (fun _ _ => False) s := by
  refine wpAny_While (codeAny_whileLoop I (fun n s hI => ?_) n h)
  refine wpAny_mono (turn n s hI) (fun b s₂ hb => ?_) fun _ _ x => x.elim
  cases b with
  | false => exact wpAny_execs_nil hb
  | true =>
    simp only [if_true] at hb ⊢
    refine wpAny_mono hb (fun f s₃ h₃ => ?_) fun _ _ x => x.elim
    cases f <;> exact h₃

/-- the place behind the signs that are not plain -/
def runEnd (cs : List Nat) (b : Nat) : Nat := b + ((cs.drop b).takeWhile fun c => !decide (32 ≤ c ∧ c ≤ 126)).length
theorem runEnd_step {cs : List Nat} {b : Nat} (h : b < cs.length) (hp : ¬ (32 ≤ cs.getD b 0 ∧ cs.getD b 0 ≤ 126)) : runEnd cs b = runEnd cs (b + 1) := by
  unfold runEnd
  rw [List.drop_eq_getElem_cons h]
  have e : cs.getD b 0 = cs[b] := by simp [List.getD_eq_getElem?_getD, h]
  rw [e] at hp
  rw [List.takeWhile_cons_of_pos (by simp only [decide_eq_true_eq, Bool.not_eq_true', decide_eq_false_iff_not]; exact hp)]
  simp only [List.length_cons]; omega
theorem runEnd_stop {cs : List Nat} {b : Nat} (h : b < cs.length → (32 ≤ cs.getD b 0 ∧ cs.getD b 0 ≤ 126)) : runEnd cs b = b := by
  unfold runEnd
  by_cases hb : b < cs.length
  · rw [List.drop_eq_getElem_cons hb]
    have e : cs.getD b 0 = cs[b] := by simp [List.getD_eq_getElem?_getD, hb]
    have hp := h hb
    rw [e] at hp
    rw [List.takeWhile_cons_of_neg (by simpa using hp)]
    rfl
  · rw [List.drop_eq_nil_of_le (by omega)]; rfl

section
variable {prog : Program} {w : World} {dp un : Nat} {fr : Option (List Env)} {gd : Option (List Code)} {s : Shared} {mean : ExcName → Option Value} {mg mb : Str → Option Value}
theorem run_behind_spec {cs : List Nat} {b : Int} {t t2 : Tok} (X : (hd.heap_39 w.params).In s.heap) (T : TopZ mean mg mb s.heap) (hdp : dp + 2 < recursionLimit) (hun : un + 18 < cLine)
    (hx : cs.length ≤ 1000) (h0 : 0 ≤ b) (hb : b ≤ cs.length) :
    Ret prog w dp un fr gd (.ref 130) [.str (Tx cs) t, .int b t2] s (IsI (runEnd cs b.toNat)) := by
  refine Ret.enter (binds := [(Str.ofString "text", Value.str (Tx cs) t), (Str.ofString "begin", Value.int b t2)]) X T (by k_dflt k_is) (by k_dflt k_is) (by omega) (BindsTo.of_eq rfl) (locs rfl) (fun L' h' F' N' => ?_) (by decide)
  walk_at "mine steps"
  refine whileR (fun n s' => ∃ h' tk e te, s' = { s with heap := h', toks := tk } ∧ Fr s.heap L' h' (fun y => if y = Str.ofString "end" then some (Value.int e te) else List.lookup y [(Str.ofString "text", Value.str (Tx cs) t), (Str.ofString "begin", Value.int b t2)].reverse) ∧ News s.heap L' h' [] ∧
    b ≤ e ∧ e ≤ cs.length ∧ runEnd cs b.toNat = runEnd cs e.toNat ∧ n = (cs.length - e).toNat) (cs.length - b).toNat ⟨_, _, b, _, rfl, by assumption, by assumption, by omega, by omega, rfl, rfl⟩ ?_
  rintro n s' ⟨h', tk, e, te, rfl, F', N', hbe, hel, hre, rfl⟩
  walk_at "mine steps"
  · refine Back.of (by assumption) ⟨te, ?_⟩
    rw [hre, runEnd_stop (fun _ => by omega), Int.toNat_of_nonneg (Int.le_trans h0 hbe)]
  · refine Turned.of ?_ ⟨_, _, e + 1, _, rfl, Fr.as (by assumption) (by walk_at "frm"), by assumption, by omega, by omega, ?_, rfl⟩
    · exact tnlt (by assumption)
    · rw [hre, tn1 (Int.le_trans h0 hbe)]
      exact runEnd_step (by omega) (by omega)
  · refine Back.of (by assumption) ⟨te, ?_⟩
    rw [hre, runEnd_stop (fun _ => by omega), Int.toNat_of_nonneg (Int.le_trans h0 hbe)]
end

local macro_rules | `(tactic| walk_at "call ref") => `(tactic| ((with_reducible show wpAny _ _ (call (Value.ref 130) _) _ _ _); k_dflt (refine Ret.useI (run_behind_spec (by k_in) (by walk_at "mine top") (by walk_at "mine room") (by walk_at "mine room") (by walk_at "mine size") (by walk_at "mine size") (by walk_at "mine size")) (by k_asm) (by k_asm) ?_; k_whole); intro _ _ _ _ _))

/-- the end of a comprehension's turn -/
def EltEnd (Y : Value → Prop) (s : Shared) (y : Value) (s' : Shared) : Prop := Y y ∧ ∃ h' tk', s' = { s with heap := h', toks := tk' } ∧ Ext s.heap h'
theorem EltEnd.of {Y : Value → Prop} {s : Shared} {y : Value} {h' : Heap} {tk' : Nat} (hy : Y y) (e : Ext s.heap h') : EltEnd Y s y { s with heap := h', toks := tk' } := ⟨hy, h', tk', rfl, e⟩
theorem ints_of {f : Nat → Int} : ∀ (ys : List Value) (k : Nat), (∀ i y, ys[i]? = some y → ∃ t : Tok, y = Value.int (f (k + i)) t) → IntsAre ys ((List.range' k ys.length).map f)
  | [], _, _ => IntsAre.nil
  | y :: ys, k, h => by
    obtain ⟨t, rfl⟩ := h 0 y rfl
    exact IntsAre.cons _ _ (ints_of ys (k + 1) fun i y hy => by rw [show k + 1 + i = k + (i + 1) by omega]; exact h (i + 1) y (by simpa using hy))
theorem ints_of0 {f : Nat → Int} {ys : List Value} {n : Nat} (hl : ys.length = n) (h : ∀ i y, ys[i]? = some y → ∃ t : Tok, y = Value.int (f i) t) : IntsAre ys ((List.range n).map f) := by
  rw [List.range_eq_range', ← hl]
  exact ints_of ys 0 (fun i y hy => by rw [Nat.zero_add]; exact h i y hy)
section
variable {prog : Program} {w : World} {A : Around} {E : Value → Shared → Prop} {s : Shared} {h₀ : Heap} {L : Addr} {m : Str → Option Value} {env : Env}

/-- every turn of a list comprehension alike -/
theorem compRest_all {elt : Expr} {x : Str} {scope : Scope} {cl : List (Str × Addr)} {P : Nat → Value → Prop} {S : List (Addr × Obj) → Prop} {Fin : List Value → List (Addr × Obj) → Prop} {news : List (Addr × Obj)} {n : Nat} (Y : Nat → Value → Prop)
    (hS : S news)
    (helt : ∀ i ys v I oI C oC D m₂ h tk (E' : Value → Shared → Prop), i < n → P i v → LCg.NsObj oC m₂ → m₂ x = some v → Fr h₀ L h m → News h₀ L h ((I, oI) :: (C, oC) :: (D, LCg.lst ys) :: news) → LCg.Off3 I C D news → ((@Ne Nat I C) ∧ (@Ne Nat I D) ∧ (@Ne Nat C D)) →
      wpAny (model prog w) A (eval elt (compEnvC scope cl C env)) (EltEnd (Y i) { s with heap := h, toks := tk }) E' { s with heap := h, toks := tk })
    (fin : ∀ ys : List Value, ys.length = n → (∀ i y, ys[i]? = some y → Y i y) → Fin ys news) :
    LCg.CompRest prog w A h₀ L m env elt x scope cl s S P Fin n 0 [] news := by
  have key : ∀ k i (ys : List Value), i + k = n → ys.length = i → (∀ j y, ys[j]? = some y → Y j y) → LCg.CompRest prog w A h₀ L m env elt x scope cl s S P Fin k i ys news := by
    intro k
    induction k with
    | zero =>
      intro i ys hi hl hY
      exact LCg.CompRest.zero (fin ys (by omega) hY)
    | succ k ih =>
      intro i ys hi hl hY
      refine LCg.CompRest.succ fun v I oI C oC D m₂ h tk E' hP hC hx F N off ne => ?_
      refine wpAny_mono (helt i ys v I oI C oC D m₂ h tk E' (by omega) hP hC hx F N off ne) (fun y s' hy => ?_) fun _ _ x => x
      obtain ⟨hYy, h', tk', rfl, hext⟩ := hy
      refine LCg.CompEnd.intro (F.keeps hext) (N.grown hext) news (fun p hp => hp) off hS (ih (i + 1) (ys ++ [y]) (by omega) (by simp [hl]) fun j z hz => ?_)
      by_cases hj : j < ys.length
      · rw [List.getElem?_append_left hj] at hz; exact hY j z hz
      · rw [List.getElem?_append_right (by omega)] at hz
        have : j - ys.length = 0 := by
          cases hh : j - ys.length with
          | zero => rfl
          | succ q => rw [hh] at hz; simp at hz
        rw [this] at hz
        have : j = i := by omega
        subst this
        simp at hz; subst hz; exact hYy
  exact key n 0 [] (by omega) rfl (fun j y hy => by simp at hy)

def RangeSrc (prog : Program) (w : World) (A : Around) (h₀ : Heap) (L : Addr) (m : Str → Option Value) (env : Env) (elt : Expr) (x : Str) (scope : Scope) (cl : List (Str × Addr)) (Q : Value → Shared → Prop) (xv : Value) (s₁ : Shared) : Prop :=
  ∃ r a b c t u v n news, xv = .ref r ∧ A.handled = none ∧ Fr h₀ L s₁.heap m ∧ News h₀ L s₁.heap news ∧ IsRange s₁.heap r a b c t u v ∧ Builtin.Range.small a b c = true ∧ Builtin.Range.rangeSize a b c = ((n : Nat) : Int) ∧ n ≤ sizeLine ∧
      ∀ g, LCg.CompRest prog w A h₀ L m env elt x scope cl { s₁ with heap := g } (fun _ => True) (fun i v => ∃ t, v = .int (a + (i : Int) * c) t) (LCg.FinE h₀ L m { s₁ with heap := g } Q) n 0 [] news
theorem RangeSrc.of {elt : Expr} {x : Str} {scope : Scope} {cl : List (Str × Addr)} {Q : Value → Shared → Prop} {r : Addr} {a b c : Int} {t u v : Tok} {n : Nat} {news : List (Addr × Obj)} {s₁ : Shared}
    (hh : A.handled = none) (F : Fr h₀ L s₁.heap m) (N : News h₀ L s₁.heap news) (hr : IsRange s₁.heap r a b c t u v) (hsm : Builtin.Range.small a b c = true) (hn : Builtin.Range.rangeSize a b c = ((n : Nat) : Int)) (hsz : n ≤ sizeLine)
    (h : ∀ g, LCg.CompRest prog w A h₀ L m env elt x scope cl { s₁ with heap := g } (fun _ => True) (fun i v => ∃ t, v = .int (a + (i : Int) * c) t) (LCg.FinE h₀ L m { s₁ with heap := g } Q) n 0 [] news) :
    RangeSrc prog w A h₀ L m env elt x scope cl Q (.ref r) s₁ := ⟨r, a, b, c, t, u, v, n, news, rfl, hh, F, N, hr, hsm, hn, hsz, h⟩
theorem comp_range {elt iter : Expr} {x : Str} {px : Pos} {scope : Scope} {cl : List (Str × Addr)} {pos : Pos} {Q : Value → Shared → Prop} (F₀ : Fr h₀ L s.heap m)
    (hclos : closureFor scope env = pure cl) (hcell : ∀ y ∈ scope.names, y.2 ≠ .cell) (hkind : scope.kind = .function)
    (hnames : ∀ y ∈ scope.names, y.2 = .local → scope.names.lookup y.1 = some .local) (hx : scope.names.lookup x = some .local)
    (h : wpAny (model prog w) A (eval iter env) (RangeSrc prog w A h₀ L m env elt x scope cl Q) E s)
    (hs : ∀ x, foldedSetIterable iter env x = pure x := by intro _; rfl) :
    wpAny (model prog w) A (eval (.ListComp elt [⟨.Name x px, iter, [], 0⟩] scope pos) env) Q E s := by
  rw [eval_ListComp]
  refine wpAny_comprehension_free (use := none) rfl hs hclos hkind hnames (wpAny_mono h (fun xv s₁ h₁ => ?_) fun _ _ e => e)
  obtain ⟨r, a, b, c, t, u, v, n, news, rfl, hh, F, N, hr, hsm, hn, hsz, R⟩ := h₁
  refine wpAny_pyIter_range hr hsm ?_
  refine LCg.block_U (Walks.range hh s₁.heap.objs.size a c n) hsz (fun i h st => ⟨_, st⟩) (fun i h h' o nw st e e' _ _ _ => ?_) hcell hkind hx (by show IsRangeIter _ _ _ _ _; rw [hn]; simpa using Heap.get?_push_size _ rfl) (fun b hb => ?_)
    (F.keeps fun _ _ e => Heap.get?_push_of_some _ e) (N.grown fun _ _ e => Heap.get?_push_of_some _ e) (Nat.ne_of_lt F.ns.lt) (next_is_new F) (fun p hp => Nat.ne_of_lt (Heap.lt_size (N p hp).1)) trivial (R _) ?_
  · have st' : h.get? s₁.heap.objs.size = some _ := st
    show h'.get? s₁.heap.objs.size = some _
    rw [e', ← e]; exact st'
  · rw [List.mem_singleton.mp hb]
    show s₁.heap.objs.size < (s₁.heap.push _).objs.size
    rw [Heap.size_push]; exact Nat.lt_succ_self _
  · intro D C h tk m' ys news' F' N' o1 hn hC₀ hD₀ hCL hDL hCD offC fin
    refine ⟨m', hn, fun h'' hs'' => fin D h'' tk (F'.change hs'' hCL hC₀) (fun p hp => ?_) o1⟩
    refine ⟨hs''.extBut _ _ ?_ (N' p hp).1, (N' p hp).2⟩
    rcases List.mem_cons.mp hp with rfl | hp
    · exact Ne.symm hCD
    · exact offC p hp
end

local macro_rules | `(tactic| walk_at "mine idx") => `(tactic| first | omega | ((try simp only [bitAnd_m6, bitAnd_m8, List.length_map, List.length_append, List.length_cons, List.length_nil, List.length_take, List.length_drop, List.length_range]); omega))
local macro_rules | `(tactic| walk_at "subscriptTail Name BinOp bytes int") => `(tactic| ((with_reducible show wpAny _ _ (subscriptTail _ _ (Value.bytes _ _) (Value.int _ _)) _ _ _); (refine KBw.item_K (by kba_ints) (by walk_at "mine idx") (by walk_at "mine idx") (by walk_at "mine idx") ?_); intro _ _ kLo kHi))
local macro_rules | `(tactic| walk_at "subscriptTail Name Name bytes int") => `(tactic| ((with_reducible show wpAny _ _ (subscriptTail _ _ (Value.bytes _ _) (Value.int _ _)) _ _ _); (refine KBw.item_K (by kba_ints) (by walk_at "mine idx") (by walk_at "mine idx") (by walk_at "mine idx") ?_); intro _ _ kLo kHi))
local macro_rules | `(tactic| walk_at "call type:bytes") => `(tactic| ((with_reducible show wpAny _ _ (call (Value.type "bytes") [Value.ref _]) _ _ _); k_dflt (refine' KBa.make_K ?F ?N ?h ?l ?i ?r ?n ?_; (case F => k_asm); (case N => k_asm); (case h => rfl); (case l => exact News.isList (by k_asm) (by k_mem)); (case i => assumption); (case r => assumption); (case n => walk_at "mine idx")); intro h' t' k' F' N' kbaIn))

section
variable {prog : Program} {w : World} {A : Around} {E : Value → Shared → Prop} {s : Shared} {h₀ : Heap} {L : Addr} {m : Str → Option Value}
theorem append_my {D : Addr} {vs : List Value} {n : Nat} {x : Value} {own : List (Addr × Obj)} {Q : Value → Shared → Prop}
    (F : Fr h₀ L s.heap m) (N : News h₀ L s.heap ([(D, W.listOf vs.toArray n)] ++ own)) (hoff : ∀ p ∈ own, p.1 ≠ D) (hsz : vs.length ≤ 16777216)
    (h : ∀ h' n', Fr h₀ L h' m → News h₀ L h' ([(D, W.listOf (vs ++ [x]).toArray n')] ++ own) → Q .none { s with heap := h' }) :
    wpAny (model prog w) A (call (.builtin "list.append") [.ref D, x]) Q E s :=
  append_in (own := []) (rest := own) (hsz := by rw [sizeLine_eq]; exact hsz) F N (fun _ h => nomatch h) hoff fun h' F' N' => h h' _ F' N'
theorem extend_my {D b : Addr} {vs ws : List Value} {n : Nat} {ns ms : List Int} {own : List (Addr × Obj)} {Q : Value → Shared → Prop}
    (F : Fr h₀ L s.heap m) (N : News h₀ L s.heap ([(D, W.listOf vs.toArray n)] ++ own)) (hoff : ∀ p ∈ own, p.1 ≠ D) (hb : s.heap.get? b = some (LCg.lst ws)) (hi : IntsAre vs ns) (hj : IntsAre ws ms) (hsz : ns.length + ms.length ≤ 16777216)
    (h : ∀ h' n', Fr h₀ L h' m → News h₀ L h' ([(D, W.listOf (vs ++ ws).toArray n')] ++ own) → IntsAre (vs ++ ws) (ns ++ ms) → Q .none { s with heap := h' }) :
    wpAny (model prog w) A (call (.builtin "list.extend") [.ref D, .ref b]) Q E s :=
  extend_in_ints (own := []) (rest := own) (hsz := by rw [sizeLine_eq, hi.length, List.size_toArray, hj.length]; exact hsz) F N (fun _ h => nomatch h) hoff hb hi hj fun h' n' F' N' I' => h h' n' F' N' I'
end

local macro_rules | `(tactic| walk_at "mine led") => `(tactic| first | assumption | exact News.tail' (by assumption) | exact News.tail' (News.tail' (by assumption)))
local macro_rules | `(tactic| walk_at "mine off1") => `(tactic| first | (exact OwnOff.ne (by assumption) (by simp)) | (exact List.forall_mem_nil _))
local macro_rules | `(tactic| walk_at "mine off") => `(tactic| first | (walk_at "mine off1") | (refine List.forall_mem_cons.mpr ⟨?_, ?_⟩; (first | exact Nat.ne_of_lt (by assumption) | exact Nat.ne_of_gt (by assumption)); (walk_at "mine off1")))
local macro_rules | `(tactic| walk_at "call builtin:list.append") => `(tactic| ((with_reducible show wpAny _ _ (call (Value.builtin "list.append") [Value.ref _, _]) _ _ _); (refine append_my (by k_asm) (by walk_at "mine led") (by walk_at "mine off") (by walk_at "mine size") ?_); intro h' n' F' N'))
local macro_rules | `(tactic| walk_at "call builtin:list.extend") => `(tactic| ((with_reducible show wpAny _ _ (call (Value.builtin "list.extend") [Value.ref _, Value.ref _]) _ _ _); (refine extend_my (by k_asm) (by walk_at "mine led") (by walk_at "mine off") (by first | assumption | exact News.get (by assumption) (.head _)) (by assumption) (by assumption) (by walk_at "mine size") ?_); intro h' n' F' N' I'))

def IsLI (ns : List Int) (r : Value) (h : Heap) : Prop := ∃ a vs, r = .ref a ∧ h.get? a = some (LCg.lst vs) ∧ IntsAre vs ns
def tot (ks : List Int) : Int := ks.foldl (fun T k => 256 * T + k) 0
theorem tot_succ {ks : List Int} {i : Nat} {k : Int} (h : ks[i]? = some k) : tot (ks.take (i + 1)) = 256 * tot (ks.take i) + k := by
  unfold tot
  rw [List.take_add_one, h]; simp
theorem fold_bound {b : Int} (hb : 0 < b) : ∀ {ks : List Int}, (∀ k ∈ ks, 0 ≤ k ∧ k < b) → ∀ (n : Nat) (T : Int), 0 ≤ T → T < b ^ n → 0 ≤ ks.foldl (fun T k => b * T + k) T ∧ ks.foldl (fun T k => b * T + k) T < b ^ (n + ks.length)
  | [], _, _, _, h, h' => ⟨h, h'⟩
  | k :: r, hk, n, T, h, h' => by
    have hk0 := hk k (.head _)
    have := fold_bound hb (fun k h => hk k (.tail _ h)) (n + 1) (b * T + k) (Int.add_nonneg (Int.mul_nonneg (Int.le_of_lt hb) h) hk0.1) (Int.lt_of_lt_of_le (Int.add_lt_add_left hk0.2 _) (by
      have := Int.mul_le_mul_of_nonneg_left (Int.add_one_le_of_lt h') (Int.le_of_lt hb)
      rwa [Int.mul_add, Int.mul_one, ← Int.pow_succ'] at this))
    rw [List.length_cons, Nat.add_comm r.length, ← Nat.add_assoc]
    exact this
theorem pow_mono {b : Int} (hb : 1 ≤ b) {m n : Nat} (h : m ≤ n) : b ^ m ≤ b ^ n := by
  obtain ⟨k, rfl⟩ := Nat.exists_eq_add_of_le h
  have hp : ∀ n : Nat, (0 : Int) < b ^ n := fun n => Int.pow_pos (Int.lt_of_lt_of_le (by decide) hb)
  have := Int.mul_le_mul_of_nonneg_left (Int.add_one_le_of_lt (hp k)) (Int.le_of_lt (hp m))
  rwa [Int.zero_add, Int.mul_one, ← Int.pow_add] at this
theorem tot_bound {ks : List Int} (h : ∀ k ∈ ks, 0 ≤ k ∧ k < 256) : 0 ≤ tot ks ∧ tot ks < 256 ^ ks.length :=
  Nat.zero_add ks.length ▸ fold_bound (by decide) h 0 0 (by decide) (by decide)
theorem tot_bound3 {ks : List Int} (h : ∀ k ∈ ks, 0 ≤ k ∧ k < 256) (h3 : ks.length ≤ 3) (i : Nat) : 0 ≤ tot (ks.take i) ∧ tot (ks.take i) < 16777216 :=
  have := tot_bound (ks := ks.take i) fun k hk => h k (List.mem_of_mem_take hk)
  ⟨this.1, Int.lt_of_lt_of_le this.2 (pow_mono (b := 256) (n := 3) (by decide) (Nat.le_trans (List.length_take_le' ..) h3))⟩
theorem c123 : ∀ {n : Nat}, 1 ≤ n → n ≤ 3 → n = 1 ∨ n = 2 ∨ n = 3
  | 1, _, _ => .inl rfl
  | 2, _, _ => .inr (.inl rfl)
  | 3, _, _ => .inr (.inr rfl)
section
variable {prog : Program} {w : World} {dp un : Nat} {fr : Option (List Env)} {gd : Option (List Code)} {s : Shared} {mean : ExcName → Option Value} {mg mb : Str → Option Value}
def gcode (sg ks : List Int) (i : Nat) : Int := sg.getD ((tot ks * 2 ^ (6 * (ks.length + 1) - 8 * ks.length) / 2 ^ (6 * (ks.length - i))) % 64).toNat 0
theorem group_codes_spec {b al : Array UInt8} {ks sg : List Int} {t t2 : Tok} (X : (hd.heap_39 w.params).In s.heap) (T : TopZ mean mg mb s.heap) (hdp : dp + 2 < recursionLimit) (hun : un + 18 < cLine)
    (hk : KBw.bInts b = ks) (ha : KBw.bInts al = sg) (h0 : 1 ≤ ks.length) (h3 : ks.length ≤ 3) (hs : sg.length = 64) :
    Ret prog w dp un fr gd (.ref 76) [.bytes b t, .bytes al t2] s (IsLI ((List.range (ks.length + 1)).map (gcode sg ks))) := by
  refine Ret.enterC (binds := [(Str.ofString "octets", Value.bytes b t), (Str.ofString "alphabet", Value.bytes al t2)]) X T (by k_dflt k_is) (by k_dflt k_is) (by omega) (BindsTo.of_eq rfl) (by exact rfl) (by decide +kernel) (fun L' h' tk cells F' N' Y' => ?_)
  k_cells Y'
  try dsimp only
  walk_at "mine steps"
  refine For_invVF (by assumption) rfl rfl ?_
  walk_at "mine steps"
  refine' KBmo.iter_bytesN (m₀ := ?m₀) (fun i m nx => (∀ z, z ≠ Str.ofString "code" → m z = ?m₀ z) ∧ ∃ oc oa tc, nx = [(L' + 1 + 1, oc), (L' + 1, oa)] ∧ oc.data = .cell (some (.int (tot (ks.take i)) tc)) ∧ oa.data = .cell (some (.bytes al t2))) hk rfl ?F ?N ?j ?turn ?done
  case F => assumption
  case N => assumption
  case j => exact ⟨fun _ _ => rfl, _, _, _, rfl, by assumption, by assumption⟩
  case turn =>
    rintro i k tc m₁ nx h tk own hik hk0 hk1 hoff ⟨hm, oc, oa, tt, rfl, hc, hoa⟩ F' N'
    replace F' : Fr s.heap L' h _ := Fr.as F' (frX hm)
    replace N' : News s.heap L' h ((L' + 1 + 1, oc) :: (L' + 1, oa) :: own) := N'
    clear hm
    have hb := tot_bound3 (fun k hk' => KBw.ints_in (b := b) (hk ▸ hk')) h3 i
    walk_at "mine steps"
    refine' InvEndN.intro ?F ?N ?j ?e ?a ?b
    case F => assumption
    case N => assumption
    case j => exact ⟨fun z hz => if_neg hz, _, oa, _, rfl, by rw [tot_succ hik]; assumption, hoa⟩
    case e => rfl
    case a => exact fun p hp => List.mem_append_left own hp
    case b => exact fun p hp => List.mem_append_right [_, _] hp
  case done =>
    rintro m₁ nx h tk ⟨hm, oc, oa, tt, rfl, hc, hoa⟩ F' N'
    replace F' : Fr s.heap L' h _ := Fr.as F' (frD hm)
    replace N' : News s.heap L' h [(L' + 1 + 1, oc), (L' + 1, oa)] := N'
    clear hm
    generalize m₁ (Str.ofString "code") = vc at F'
    have hb := tot_bound3 (fun k hk' => KBw.ints_in (b := b) (hk ▸ hk')) h3 ks.length
    walk_at "mine steps"
    refine' comp_range ?F ?c ?d ?k ?n ?x ?_ ?s
    case F => assumption
    case c => rfl
    case d => decide
    case k => rfl
    case n => decide
    case x => rfl
    case s => exact fun _ => rfl
    walk_at "mine steps"
    refine RangeSrc.of (n := ks.length + 1) rfl (by assumption) (by assumption) (by assumption) ?_ ?_ ?_ fun g => ?_
    · rcases c123 h0 h3 with e | e | e <;> rw [e] <;> decide
    · rcases c123 h0 h3 with e | e | e <;> rw [e] <;> decide
    · exact Nat.le_trans (Nat.succ_le_succ h3) (by decide)
    refine compRest_all (Y := fun i v => ∃ t, v = .int (gcode sg ks i) t) trivial ?_ ?_
    · intro i ys v I oI C oC D m₂ h tk E' hi hP hC hx F' N' off' ne'
      obtain ⟨t9, rfl⟩ := hP
      clear off' ne'
      have e8 := sp6 (Nat.le_of_lt_succ hi)
      have h8 : 0 ≤ 6 * ((ks.length : Int) + 1 - 1 + (i : Int) * -1) := by rw [e8]; exact Int.natCast_nonneg (6 * _)
      walk_at "mine steps"
      refine EltEnd.of ⟨_, congrArg (fun z => Value.int z _) ?_⟩ (fun _ _ e => e)
      rw [List.take_length, bitAnd_m6, Int.fdiv_eq_ediv_of_nonneg _ (Int.le_of_lt (Int.pow_pos (by decide)))]
      show _ = gcode sg ks i
      unfold gcode
      rw [sc6, e8]; rfl
    · intro ys hl hY
      intro D h tk F' N' _
      refine NextQ.ret (by assumption) ?_
      refine Back.of F' ⟨D, ys, rfl, N'.get (.head _), ints_of0 hl hY⟩
end

local macro_rules | `(tactic| walk_at "call ref") => `(tactic| ((with_reducible show wpAny _ _ (call (Value.ref 76) _) _ _ _); k_dflt (refine Ret.use (group_codes_spec (by k_in) (by walk_at "mine top") (by walk_at "mine room") (by walk_at "mine room") (by kba_ints) (by kba_ints) (by walk_at "mine size") (by walk_at "mine size") (by walk_at "mine size")) (by k_asm) (by k_asm) ?_; k_whole); intro r' h' tk' e' F' N'; obtain ⟨a', vs', e', hg', hi'⟩ := e'; subst e'))

def tot6 (ks : List Int) : Int := ks.foldl (fun T k => 64 * T + k) 0
theorem tot6_succ {ks : List Int} {i : Nat} {k : Int} (h : ks[i]? = some k) : tot6 (ks.take (i + 1)) = 64 * tot6 (ks.take i) + k := by
  unfold tot6
  rw [List.take_add_one, h]; simp
theorem tot6_bound4 {ks : List Int} (h : ∀ k ∈ ks, 0 ≤ k ∧ k < 64) (h3 : ks.length ≤ 4) (i : Nat) : 0 ≤ tot6 (ks.take i) ∧ tot6 (ks.take i) < 16777216 :=
  have := fold_bound (b := 64) (ks := ks.take i) (by decide) (fun k hk => h k (List.mem_of_mem_take hk)) 0 0 (by decide) (by decide)
  ⟨this.1, Int.lt_of_lt_of_le this.2 (pow_mono (b := 64) (n := 4) (by decide) ((Nat.zero_add _).symm ▸ Nat.le_trans (List.length_take_le' ..) h3))⟩
theorem frX2 {x y : Str} {v u : Value} {m₁ m₀ : Str → Option Value} (hy : m₁ y = some u) (h : ∀ z, z ≠ x → z ≠ y → m₁ z = m₀ z) : (fun z => if z = x then some v else m₁ z) = fun z => if z = x then some v else if z = y then some u else m₀ z := by
  funext z
  by_cases e : z = x
  · simp [e]
  · by_cases e' : z = y
    · subst e'; simp [e, hy]
    · simp [e, e', h z e e']
theorem frD2 {x y : Str} {u : Value} {m₁ m₀ : Str → Option Value} (hy : m₁ y = some u) (h : ∀ z, z ≠ x → z ≠ y → m₁ z = m₀ z) : m₁ = fun z => if z = y then some u else if z = x then m₁ x else m₀ z := by
  funext z
  by_cases e' : z = y
  · subst e'; simp [hy]
  · by_cases e : z = x
    · rw [if_neg e', if_pos e, e]
    · simp [e, e', h z e e']

/-- the octet at a place of a group -/
def goct (ns : List Int) (i : Nat) : Int := tot6 ns / 2 ^ (6 * ns.length - 8 * (ns.length - 1)) / 2 ^ (8 * (ns.length - 2 - i)) % 256
def IsPair (ks : List Int) (i : Int) (r : Value) (h : Heap) : Prop := ∃ a b t u, r = .ref a ∧ IsTup h a #[.bytes b t, .int i u] ∧ KBw.bInts b = ks
theorem IsPair.of {ks : List Int} {i j : Int} {a : Addr} {t u : Tok} {h : Heap} (x : IsTup h a #[.bytes (byteArr ks) t, .int i u]) (hB : KBa.In ks) (e : i = j) : IsPair ks j (.ref a) h := ⟨a, _, t, u, rfl, e ▸ x, KBa.ints_make hB⟩
theorem spare_eq {ns : List Int} (h2 : 2 ≤ ns.length) : Builtin.bitAnd (tot6 (ns.take ns.length)) (1 * 2 ^ (6 * (ns.length : Int) - 8 * ((ns.length : Int) - 1)).toNat - 1) = tot6 ns % 2 ^ (6 * ns.length - 8 * (ns.length - 1)) := by
  rw [Int.one_mul, kbt_mask, List.take_length, sp8 (Nat.le_trans (by decide) h2)]
theorem c234 : ∀ {n : Nat}, 2 ≤ n → n ≤ 4 → n = 2 ∨ n = 3 ∨ n = 4
  | 2, _, _ => .inl rfl
  | 3, _, _ => .inr (.inl rfl)
  | 4, _, _ => .inr (.inr rfl)
section
variable {prog : Program} {w : World} {dp un : Nat} {fr : Option (List Env)} {gd : Option (List Code)} {s : Shared} {mean : ExcName → Option Value} {mg mb : Str → Option Value}
theorem group_octets_spec {l : Addr} {vs : List Value} {ns : List Int} (X : (hd.heap_39 w.params).In s.heap) (T : TopZ mean mg mb s.heap) (hdp : dp + 2 < recursionLimit) (hun : un + 18 < cLine)
    (hl : s.heap.IsList l vs.toArray) (hi : IntsAre vs ns) (hr : ∀ n ∈ ns, 0 ≤ n ∧ n < 64) (h2 : 2 ≤ ns.length) (h4 : ns.length ≤ 4) :
    Ret prog w dp un fr gd (.ref 81) [.ref l] s (IsPair ((List.range (ns.length - 1)).map (goct ns)) (tot6 ns % 2 ^ (6 * ns.length - 8 * (ns.length - 1)))) := by
  refine Ret.enterC (binds := [(Str.ofString "worth_row", Value.ref l)]) X T (by k_dflt k_is) (by k_dflt k_is) (by omega) (BindsTo.of_eq rfl) (by exact rfl) (by decide +kernel) (fun L' h' tk cells F' N' Y' => ?_)
  k_cells Y'
  try dsimp only
  walk_at "mine steps"
  refine For_invVF (by assumption) rfl rfl ?_
  walk_at "mine steps"

  refine' iter_invN (m₀ := ?m₀) (fun i m nx => (∃ tc, m (Str.ofString "total") = some (.int (tot6 (ns.take i)) tc)) ∧ (∀ z, z ≠ Str.ofString "number" → z ≠ Str.ofString "total" → m z = ?m₀ z) ∧ ∃ oc, nx = [(L' + 1, oc)] ∧ oc.data = .cell none) ?hh hl hi ?F ?N ?j ?turn ?done
  case hh => rfl
  case F => assumption
  case N => assumption
  case j => exact ⟨⟨_, rfl⟩, fun _ _ _ => rfl, _, rfl, by assumption⟩
  case turn =>
    rintro i k tc m₁ nx h tk own hik _ hoff ⟨⟨tt, ht⟩, hm, oc, rfl, hoc⟩ F' N'
    replace F' : Fr s.heap L' h _ := Fr.as F' (frX2 ht hm)
    replace N' : News s.heap L' h ((L' + 1, oc) :: own) := N'
    clear hm
    have hb := tot6_bound4 hr h4 i
    have hk := hr k (List.mem_of_getElem? hik)
    walk_at "mine steps"
    refine' InvEndN.intro ?F ?N ⟨⟨_, ?h⟩, ?m, oc, rfl, hoc⟩ rfl ?a ?b
    case F => assumption
    case N => assumption
    case h => rw [tot6_succ hik]; rfl
    case m => intro z h1 h2; simp [h1, h2]
    case a => exact fun p hp => List.mem_append_left own hp
    case b => exact fun p hp => List.mem_append_right [_] hp
  case done =>
    rintro m₁ nx h tk ⟨⟨tt, ht⟩, hm, oc, rfl, hoc⟩ F' N'
    replace F' : Fr s.heap L' h _ := Fr.as F' (frD2 ht hm)
    replace N' : News s.heap L' h [(L' + 1, oc)] := N'
    clear hm
    generalize m₁ (Str.ofString "number") = vc at F'
    have hb := tot6_bound4 hr h4 ns.length
    walk_at "mine steps"
    refine' comp_range ?F ?c ?d ?k ?n ?x ?_ ?s
    case F => assumption
    case c => rfl
    case d => decide
    case k => rfl
    case n => decide
    case x => rfl
    case s => exact fun _ => rfl
    walk_at "mine steps"
    refine RangeSrc.of (n := ns.length - 1) rfl (by assumption) (by assumption) (by assumption) ?_ ?_ ?_ fun g => ?_
    · rcases c234 h2 h4 with e | e | e <;> rw [e] <;> decide
    · rcases c234 h2 h4 with e | e | e <;> rw [e] <;> decide
    · exact Nat.le_trans (Nat.le_trans (Nat.sub_le ..) h4) (by decide)
    refine compRest_all (Y := fun i v => ∃ t, v = .int (goct ns i) t) trivial ?_ ?_
    · intro i ys v I oI C oC D m₂ h tk E' hi hP hC hx F' N' off' ne'
      obtain ⟨t9, rfl⟩ := hP
      clear off' ne'
      have e8 := sb8 hi
      have h8 : 0 ≤ 8 * ((ns.length : Int) - 1 - 1 + (i : Int) * -1) := by rw [e8]; exact Int.natCast_nonneg (8 * _)
      walk_at "mine steps"
      refine EltEnd.of ⟨_, congrArg (fun z => Value.int z _) ?_⟩ (fun _ _ e => e)
      rw [List.take_length, bitAnd_m8, Int.fdiv_eq_ediv_of_nonneg _ (Int.le_of_lt (Int.pow_pos (by decide))), Int.fdiv_eq_ediv_of_nonneg _ (Int.le_of_lt (Int.pow_pos (by decide)))]
      show _ = goct ns i
      unfold goct
      rw [sp8 (Nat.le_trans (by decide) h2), e8]; rfl
    · intro ys hl hY D h tk F' N' _
      have hI := ints_of0 hl hY
      have hB : KBa.In ((List.range (ns.length - 1)).map (goct ns)) := fun n hn => by
        obtain ⟨i, _, rfl⟩ := List.mem_map.mp hn
        exact ⟨Int.emod_nonneg _ (by decide), Int.emod_lt_of_pos _ (by decide)⟩
      walk_at "mine steps"
      exact Back.of (by assumption) (IsPair.of (News.isTup (by assumption) (.head _)) hB (spare_eq h2))
end

local macro_rules | `(tactic| walk_at "call ref") => `(tactic| ((with_reducible show wpAny _ _ (call (Value.ref 81) _) _ _ _); k_dflt (refine Ret.use (group_octets_spec (by k_in) (by walk_at "mine top") (by walk_at "mine room") (by walk_at "mine room") (by exact News.isList (by assumption) (.head _)) (by assumption) (by assumption) (by walk_at "mine size") (by walk_at "mine size")) (by k_asm) (by k_asm) ?_; k_whole); intro r' h' tk' e' F' N'; obtain ⟨a', b', t', u', e', hT', hb'⟩ := e'; subst e'))

def chunk (ks : List Int) (i : Nat) : List Int := (ks.drop (3 * i)).take 3
def encChunk (sg c : List Int) : List Int := (List.range (c.length + 1)).map (gcode sg c)
/-- the codes of the first groups -/
def encTo (sg ks : List Int) (n : Nat) : List Int := (List.range n).flatMap fun i => encChunk sg (chunk ks i)
theorem encTo_succ (sg ks : List Int) (n : Nat) : encTo sg ks (n + 1) = encTo sg ks n ++ encChunk sg (chunk ks n) := by
  unfold encTo
  rw [List.range_succ, List.flatMap_append]; simp
def encoded (sg ks : List Int) : List Int := encTo sg ks ((ks.length + 2) / 3)
theorem size_step {n : Nat} {c : Int} (hc : 0 < c) : Builtin.Range.rangeSize 0 n c = if (0 : Int) < n then ((n : Int) - 1) / c + 1 else 0 := by
  unfold Builtin.Range.rangeSize
  rw [if_pos hc, Int.sub_zero]
theorem up3 {i n : Nat} (h : i < (n + 2) / 3) : 3 * i < n := by
  rw [Nat.mul_comm]; exact (Nat.lt_div_iff_mul_lt (by decide)).mp h
theorem up4 {i n : Nat} (h : i < (n + 3) / 4) : 4 * i < n := by
  rw [Nat.mul_comm]; exact (Nat.lt_div_iff_mul_lt (by decide)).mp h
theorem size_up (n c : Nat) : ((n : Int) - 1) / ((c + 1 : Nat) : Int) + 1 = (((n + c) / (c + 1) : Nat) : Int) := by
  have h0 : ((c + 1 : Nat) : Int) ≠ 0 := fun e => nomatch (Int.ofNat.inj e : c + 1 = 0)
  rw [← Int.add_mul_ediv_right _ _ h0, Int.one_mul, show (n : Int) - 1 + ((c + 1 : Nat) : Int) = ((n + c : Nat) : Int) by rw [Int.natCast_add, Int.natCast_add, Int.add_comm (c : Int), ← Int.add_assoc]; exact congrArg (· + (c : Int)) (Int.sub_add_cancel ..)]
  rfl
theorem chunk_c {l : List Int} {b c : Nat} : List.take (min (b + c) l.length - b) (List.drop b l) = (l.drop b).take c := by
  rw [show min (b + c) l.length - b = min c (l.drop b).length by rw [← Nat.sub_min_sub_right, Nat.add_sub_cancel_left, List.length_drop], ← List.take_eq_take_min]
theorem size_c (n c : Nat) : Builtin.Range.rangeSize 0 n ((c + 1 : Nat) : Int) = (((n + c) / (c + 1) : Nat) : Int) := by
  rw [size_step (Int.natCast_pos.mpr (Nat.succ_pos c))]
  split
  · exact size_up n c
  · rename ¬ _ => h
    obtain rfl : n = 0 := Nat.eq_zero_of_not_pos fun h' => h (Int.ofNat_lt.mpr h')
    rw [Nat.zero_add, Nat.div_eq_of_lt (Nat.lt_succ_self c)]; rfl
theorem size_one (n : Nat) : Builtin.Range.rangeSize 0 n 1 = (n : Int) := (size_c n 0).trans (congrArg _ (Nat.div_one n))
theorem size_two2 (n : Nat) : Builtin.Range.rangeSize 0 ((2 * n : Nat) : Int) 2 = (n : Int) := (size_c (2 * n) 1).trans (congrArg _ (Nat.mul_add_div (by decide) n 1))
theorem size_three (n : Nat) : Builtin.Range.rangeSize 0 n 3 = (((n + 2) / 3 : Nat) : Int) := size_c n 2
theorem size_four (n : Nat) : Builtin.Range.rangeSize 0 n 4 = (((n + 3) / 4 : Nat) : Int) := size_c n 3
theorem fits_long {i : Int} (h0 : -1000000 ≤ i) (h1 : i ≤ 1000000) : Builtin.Range.rangeFitsLong i = true := by
  unfold Builtin.Range.rangeFitsLong
  rw [Bool.and_eq_true, decide_eq_true_eq, decide_eq_true_eq]
  have e : (2 : Int) ^ 63 = 9223372036854775808 := by decide
  rw [e]; omega
theorem small_step {a b c : Int} {n : Nat} (ha : -1000 ≤ a ∧ a ≤ 1000) (hb : -1000 ≤ b ∧ b ≤ 1000) (hc : 0 < c ∧ c ≤ 1000) (hn : Builtin.Range.rangeSize a b c = (n : Int)) (hn' : n ≤ 1000) : Builtin.Range.small a b c = true := by
  unfold Builtin.Range.small
  rw [hn, fits_long (by omega) (by omega), fits_long (by omega) (by omega), fits_long (by omega) (by omega), fits_long (by omega) (by omega), if_pos (by omega), fits_long (by omega) (by omega)]
  simp
theorem small0 {n m : Nat} {c : Int} (hn : n ≤ 1000) (hc : 0 < c ∧ c ≤ 1000) (e : Builtin.Range.rangeSize 0 n c = (m : Int)) (hm : m ≤ 1000) : Builtin.Range.small 0 n c = true :=
  small_step ⟨by decide, by decide⟩ ⟨Int.le_trans (by decide) (Int.natCast_nonneg n), Int.ofNat_le.mpr hn⟩ hc e hm
theorem small_three {n : Nat} (h : n ≤ 1000) : Builtin.Range.small 0 n 3 = true :=
  small0 h (by decide) (size_three n) (Nat.le_trans (Nat.div_le_div_right (Nat.add_le_add_right h 2)) (by decide))
theorem chunk_eq {ks : List Int} {i : Nat} (hi : i < (ks.length + 2) / 3) : List.take (clipAt ks.length (0 + (i : Int) * 3 + 3) - clipAt ks.length (0 + (i : Int) * 3)) (List.drop (clipAt ks.length (0 + (i : Int) * 3)) ks) = chunk ks i := by
  have e : 0 + (i : Int) * 3 = ((3 * i : Nat) : Int) := by rw [Int.zero_add, Int.mul_comm]; rfl
  rw [e, show ((3 * i : Nat) : Int) + 3 = ((3 * i + 3 : Nat) : Int) from rfl, clipAt_nat, clipAt_nat, Nat.min_eq_left (Nat.le_of_lt (up3 hi))]
  exact chunk_c
theorem chunk_len {ks : List Int} {i : Nat} (hi : i < (ks.length + 2) / 3) : 1 ≤ (chunk ks i).length ∧ (chunk ks i).length ≤ 3 := by
  unfold chunk
  rw [List.length_take, List.length_drop]
  exact ⟨Nat.le_min.mpr ⟨by decide, Nat.sub_pos_of_lt (up3 hi)⟩, Nat.min_le_left ..⟩
theorem encTo_len (sg ks : List Int) (n : Nat) : (encTo sg ks n).length ≤ 4 * n := by
  induction n with
  | zero => simp [encTo]
  | succ n ih =>
    rw [encTo_succ, List.length_append]
    refine Nat.add_le_add ih ?_
    unfold encChunk chunk
    rw [List.length_map, List.length_range, List.length_take]
    exact Nat.succ_le_succ (Nat.min_le_left ..)
theorem getD_in {l : List Int} (h : ∀ k ∈ l, 0 ≤ k ∧ k < 256) (i : Nat) : 0 ≤ l.getD i 0 ∧ l.getD i 0 < 256 := by
  rw [List.getD_eq_getElem?_getD]
  cases e : l[i]? with
  | none => simp
  | some k => exact h k (List.mem_of_getElem? e)
theorem encTo_in {sg : List Int} (h : ∀ k ∈ sg, 0 ≤ k ∧ k < 256) (ks : List Int) (n : Nat) : KBa.In (encTo sg ks n) := by
  intro k hk
  unfold encTo encChunk at hk
  obtain ⟨i, _, hk⟩ := List.mem_flatMap.mp hk
  obtain ⟨j, _, rfl⟩ := List.mem_map.mp hk
  exact getD_in h _
section
variable {prog : Program} {w : World} {dp un : Nat} {fr : Option (List Env)} {gd : Option (List Code)} {s : Shared} {mean : ExcName → Option Value} {mg mb : Str → Option Value}
theorem part_encoded_spec {b al : Array UInt8} {ks sg : List Int} {t t2 : Tok} (X : (hd.heap_39 w.params).In s.heap) (T : TopZ mean mg mb s.heap) (hdp : dp + 4 < recursionLimit) (hun : un + 40 < cLine)
    (hk : KBw.bInts b = ks) (ha : KBw.bInts al = sg) (h3 : ks.length ≤ 1000) (hs : sg.length = 64) :
    Ret prog w dp un fr gd (.ref 88) [.bytes b t, .bytes al t2] s (fun r _ => ∃ b' t', r = .bytes b' t' ∧ KBw.bInts b' = encoded sg ks) := by
  refine Ret.enter (binds := [(Str.ofString "octets", Value.bytes b t), (Str.ofString "alphabet", Value.bytes al t2)]) X T (by k_dflt k_is) (by k_dflt k_is) (by omega) (BindsTo.of_eq rfl) (locs rfl) (fun L' h' F' N' => ?_) (by decide)
  walk_at "mine steps"
  refine For_invVF (by assumption) rfl rfl ?_
  walk_at "mine steps"
  refine' iter_rangeS (L := L') (n := (ks.length + 2) / 3) (fun (_ : List Value × Nat) => ?m₀) (fun σ => [(?D, W.listOf σ.1.toArray σ.2)]) (fun i σ => IntsAre σ.1 (encTo sg ks i)) ([], 0) rfl ?hh ?hr ?sm ?sz ?F ?N ?j ?adr ?turn ?done
  case hh => rfl
  case hr => assumption
  case F => assumption
  case N => assumption
  case sm => exact small_three (by omega)
  case sz => exact size_three _
  case j => exact IntsAre.nil
  case adr => exact fun _ => rfl
  case turn =>
    rintro i tc ⟨vs, n⟩ h tk own hi hR hoff F' N'
    dsimp only at hR hoff F' N' ⊢
    walk_at "mine steps"
    rename KBw.bInts (KBy.picked _ _ _) = _ => kP
    rw [chunk_eq hi] at kP
    have hc := chunk_len hi
    have hz := encTo_len sg ks i
    walk_at "mine steps"
    refine TurnNext.of (_, _) (by assumption) (by assumption) (fun z hz => if_neg hz) ?_
    rw [encTo_succ]; assumption
  case done =>
    rintro ⟨vs, n⟩ vx h tk hR F' N'
    dsimp only at hR F' N' ⊢
    have hz := encTo_len sg ks ((ks.length + 2) / 3)
    have hB : KBa.In (encTo sg ks ((ks.length + 2) / 3)) := encTo_in (fun k hk => KBw.ints_in (b := al) (ha ▸ hk)) ks _
    walk_at "mine steps"
    exact Back.of (by assumption) ⟨_, _, rfl, KBa.ints_make hB⟩
end


/-! dict([(a, b), ..]) of ints -/
theorem plain_dict_loop : plainId "dict.update.loop" = true := by decide +kernel
theorem entry_dict_loop : entryFor table "dict.update.loop" = some Builtin.«dict.update.loop» := entryFor_of_tree (by kernel_rfl)
theorem no_keys_list : typeLookup (.type "list") "keys" = pure none := by rw [typeLookup_type, builtinLookup_eq_fast]; kernel_rfl

inductive PairsAre : List (Int × Value) → List (Int × Int) → Prop
  | nil : PairsAre [] []
  | cons {k v : Int} {t : Tok} {a : List (Int × Value)} {b : List (Int × Int)} : PairsAre a b → PairsAre ((k, .int v t) :: a) ((k, v) :: b)
theorem PairsAre.snoc {k v : Int} {t : Tok} {a : List (Int × Value)} {b : List (Int × Int)} (h : PairsAre a b) : PairsAre (a ++ [(k, .int v t)]) (b ++ [(k, v)]) := by
  induction h with
  | nil => exact .cons .nil
  | cons h ih => exact .cons ih
theorem PairsAre.keys {a : List (Int × Value)} {b : List (Int × Int)} (h : PairsAre a b) : a.map (·.1) = b.map (·.1) := by
  induction h with
  | nil => rfl
  | cons h ih => simp [ih]
theorem PairsAre.length {a : List (Int × Value)} {b : List (Int × Int)} (h : PairsAre a b) : a.length = b.length := by
  induction h with
  | nil => rfl
  | cons h ih => simp [ih]
/-- the list of pairs, its pairs being tuples on the heap -/
def RowsAre (h : Heap) (ys : List Value) (kv : List (Int × Int)) : Prop := ys.length = kv.length ∧ ∀ (i : Nat) (y : Value) (p : Int × Int), ys[i]? = some y → kv[i]? = some p → ∃ (T : Addr) (t u : Tok), y = Value.ref T ∧ IsTup h T #[.int p.1 t, .int p.2 u]

section
variable {prog : Program} {w : World} {A : Around} {E : Value → Shared → Prop} {s : Shared}
theorem keys_none {a : Addr} {xs : Array Value} {k : Nat} {sl : Array (Option Value)} {Q : Option Value → Shared → Prop} (hx : s.heap.get? a = some { cls := .type "list", dict := none, data := .seq xs k, slots := sl }) (hA : A.handled = none)
    (h : ∀ h' tk, Ext s.heap h' → Q none { s with heap := h', toks := tk }) :
    wpAny (model prog w) A (getAttr? (.ref a) "keys") Q E s := by
  obtain ⟨hp, g, d, tk, os⟩ := s
  have hT : ∀ tk', (⟨hp, g, d, tk', os⟩ : Shared).TypeIs (.ref a) "list" := fun _ => ⟨_, hx, rfl⟩
  have f1 := sub_AttributeError
  have f3 := F.slot_list_getattribute.lookup
  have f4 := F.slot_list_getattribute.bind (.ref a)
  have f5 := am_list_getattr_none
  unfold getAttr? getAttrBy? getAttrBy
  repeat (any_goals (first | assumption | exact hT _ | ((with_reducible show wpAny _ _ (call (Value.builtin "list.__getattribute__") _ _) _ _ _); refine call_meets F.slot_list_getattribute (hT _) am_entry_list_getattribute (F.args_list_getattribute_2 _ _) (meets_getattribute_miss_list a xs k sl "keys" _ no_keys_list (by decide +kernel) (by size_fits)) ⟨hx, hA, fun h' tk' e hx' => ?_⟩) | wp_step))
  obtain ⟨t', u', he⟩ := hx'.there
  have hk := hx'.of.keeps
  show wpAny _ _ (getattributeRaised _ _ _ _ _ _ _) _ _ _
  unfold getattributeRaised
  repeat (any_goals (first | assumption | wp_step))
  all_goals exact h _ _ hk

theorem dict_loop {d I l : Addr} {ys : List Value} {kv : List (Int × Int)} (hh : A.handled = none) (hl : l ≠ I) (hdI : d ≠ I) (hdl : d ≠ l) (hy : ys.length = kv.length) (hnd : (kv.map (·.1)).Nodup) (hsz : kv.length ≤ sizeLine) {R : Result → Shared → Prop} (s₀ : Shared)
    (hrow : ∀ h : Heap, (∀ b o, b ≠ I → b ≠ d → s₀.heap.get? b = some o → h.get? b = some o) → RowsAre h ys kv)
    (done : ∀ h tk kvs, (∀ b o, b ≠ I → b ≠ d → s₀.heap.get? b = some o → h.get? b = some o) → h.DictOf (intKind prog w) d kvs → PairsAre kvs kv → R (.ok (.ret .none)) { s₀ with heap := h, toks := tk }) :
    ∀ (k i : Nat) (h : Heap) (tk : Nat) (it : Int) (tt : Tok) (kvs : List (Int × Value)), i + k = kv.length → (∀ b o, b ≠ I → b ≠ d → s₀.heap.get? b = some o → h.get? b = some o) → h.IsListIter I l i → h.IsList l ys.toArray → h.DictOf (intKind prog w) d kvs → PairsAre kvs (kv.take i) →
      codeAny (model prog w) A (.builtin "dict.update.loop" ⟨[.ref d, .ref I, .int it tt, .none], []⟩) R { s₀ with heap := h, toks := tk } := by
  have W := Walks.list (prog := prog) (w := w) (A := A.in1) hh I l hl ys.toArray
  intro k
  induction k with
  | zero =>
    intro i h tk it tt kvs hi hk hit hli hd hp
    refine codeAny_builtin entry_dict_loop ?_
    rw [Around.under_plainId plain_dict_loop _]
    show wpAny _ A.in1 (pyNext (.ref I) >>= _) _ _ _
    have hn : i = ys.toArray.size := by rw [List.size_toArray]; omega
    refine wpAny_bind (W.done _ _ _ (hn ▸ ⟨hit, hli⟩) fun h' tk' hk' => ?_)
    show wpAny _ _ (Builtin.Dict.addKeywords d [] >>= _) _ _ _
    refine wpAny_bind (wpAny_pure (wpAny_pure (done h' tk' kvs (fun b o hb1 hb2 e => hk' b o (by simpa using hb1) (hk b o hb1 hb2 e)) ?_ ?_)))
    · obtain ⟨o, es, ep, ho, r⟩ := hd
      exact ⟨o, es, ep, hk' d o (by simpa using hdI) ho, r⟩
    · rw [List.take_of_length_le (by omega)] at hp; exact hp
  | succ k ih =>
    intro i h tk it tt kvs hi hk hit hli hd hp
    refine codeAny_builtin entry_dict_loop ?_
    rw [Around.under_plainId plain_dict_loop _]
    show wpAny _ A.in1 (pyNext (.ref I) >>= _) _ _ _
    refine wpAny_bind (W.item i _ _ _ (by rw [List.size_toArray]; omega) ⟨hit, hli⟩ fun v h' tk' hP hst' hk' => ?_)
    have hkk : ∀ b o, b ≠ I → b ≠ d → s₀.heap.get? b = some o → h'.get? b = some o := fun b o hb1 hb2 e => hk' b o (by simpa using hb1) (hk b o hb1 hb2 e)
    have hlt : i < kv.length := by omega
    obtain ⟨T, t, u, rfl, o, ho, hc, n', hdat⟩ := (hrow h' hkk).2 i v kv[i] (by simpa using hP) (by simp [hlt])
    have hd' : h'.DictOf (intKind prog w) d kvs := by
      obtain ⟨o, es, ep, ho, r⟩ := hd
      exact ⟨o, es, ep, hk' d o (by simpa using hdI) ho, r⟩
    show wpAny _ A.in1 (holding [Value.ref T] _ >>= _) _ _ _
    refine wpAny_bind (wpAny_holding (wpAny_bind (wpAny_tryCatch ?_)))
    unfold Builtin.Dict.pairItems
    refine wpAny_bind (wpAny_typeOf ⟨o, ho, hc⟩ ?_)
    rw [if_pos (by rfl)]
    refine wpAny_bind (wpAny_seqItems ho hdat ?_)
    refine wpAny_pure ?_
    show wpAny _ _ (holding [_, _] (dictSet d (.int kv[i].1 t) (.int kv[i].2 u))) _ _ _
    refine wpAny_holding ?_
    have hkn : kv[i].1 ∉ kvs.map (·.1) := by
      rw [hp.keys]
      intro hm
      obtain ⟨q, hq, e⟩ := List.mem_map.mp hm
      obtain ⟨j, hj, e2⟩ := List.mem_iff_getElem.mp hq
      have hjl : j < i := by simpa [List.length_take] using (Nat.lt_of_lt_of_le hj (List.length_take_le _ _))
      have e3 : (kv.map (·.1))[j]'(by simp; omega) = (kv.map (·.1))[i]'(by simp; omega) := by
        simp only [List.getElem_map]
        rw [← e, ← e2, List.getElem_take]
      exact List.pairwise_iff_getElem.mp hnd j i _ _ hjl e3
    have hstored : stored kvs kv[i].1 (.int kv[i].2 u) = kvs ++ [(kv[i].1, .int kv[i].2 u)] := by
      unfold stored
      rw [if_neg]
      rw [List.any_eq_true]
      rintro ⟨p, hp1, hp2⟩
      exact hkn (List.mem_map.mpr ⟨p, hp1, of_decide_eq_true hp2⟩)
    refine wpAny_dictSet_pairs (knd := intKind prog w) (k := kv[i].1) (by show Value.isInt kv[i].1 (Value.int kv[i].1 t) = true; simp [Value.isInt]) hd' (fun h'' hd'' hs'' => ?_) (by have := hp.length; rw [List.length_take] at this; omega)
    rw [hstored] at hd''
    refine wpAny_pure ⟨plainId_quiet plain_dict_loop _, ?_⟩
    refine ih (i + 1) h'' _ _ _ _ (by omega) (fun b o hb1 hb2 e => hs''.extBut b o hb2 (hkk b o hb1 hb2 e)) ?_ ?_ hd'' ?_
    · obtain ⟨o, ho, r⟩ := hst'.1
      exact ⟨o, hs''.extBut I o (Ne.symm hdI) ho, r⟩
    · obtain ⟨o, ho, r⟩ := hst'.2
      exact ⟨o, hs''.extBut l o (Ne.symm hdl) ho, r⟩
    · have e : kv.take (i + 1) = kv.take i ++ [(kv[i].1, kv[i].2)] := by
        rw [List.take_succ_eq_append_getElem hlt]
      rw [e]; exact hp.snoc

theorem call_dict_pairs {l : Addr} {ys : List Value} {kv : List (Int × Int)} {Q : Value → Shared → Prop} (hh : A.handled = none) (hl : s.heap.get? l = some (LCg.lst ys)) (hrow : RowsAre s.heap ys kv) (hnd : (kv.map (·.1)).Nodup) (hsz : kv.length ≤ sizeLine)
    (h : ∀ h' tk kvs, Ext s.heap h' → h'.DictOf (intKind prog w) s.heap.objs.size kvs → PairsAre kvs kv → Q (.ref s.heap.objs.size) { s with heap := h', toks := tk }) :
    wpAny (model prog w) A (call (.type "dict") [.ref l]) Q E s := by
  refine callType_codes (Q₁ := fun obj s₁ => obj = .ref s.heap.objs.size ∧ s₁ = { s with heap := s.heap.push { cls := .type "dict", data := .dict #[] } }) F.kt_called_dict (F.kt_typeCall_dict_1 _) F.entry_dict_init (kt_code_dict_new _ ⟨rfl, rfl⟩) ?_
  rintro obj s₁ ⟨rfl, rfl⟩
  have hnew : (s.heap.push { cls := .type "dict", data := .dict #[] }).DictOf (intKind prog w) s.heap.objs.size [] := Heap.DictOf.new s.heap
  have hl' : (s.heap.push { cls := .type "dict", data := .dict #[] }).get? l = some (LCg.lst ys) := Heap.get?_push_of_some _ hl
  have hlt : l < s.heap.objs.size := Heap.lt_size hl
  refine ⟨hnew.typeIs, F.args_dict_init_2 _ _, ?_⟩
  unfold Builtin.«dict.__init__»
  refine wpAny_bind ?_
  unfold Builtin.Dict.selfAndRest
  refine wpAny_bind (wpAny_notOrdered_dict hnew.typeIs ?_)
  show wpAny _ _ (pure (s.heap.objs.size, [Value.ref l])) _ _ _
  refine wpAny_pure ?_
  show wpAny _ _ (Builtin.Dict.updateFrom "dict.__init__" s.heap.objs.size (.ref l) [] .none) _ _ _
  unfold Builtin.Dict.updateFrom
  refine wpAny_bind (wpAny_typeOf ⟨_, hl', rfl⟩ ?_)
  rw [if_pos (by rfl)]
  refine wpAny_bind (keys_none hl' hh fun h₁ tk₁ hk₁ => ?_)
  rw [if_pos (by rfl)]
  refine wpAny_bind (wpAny_rule ?_)
  have hl₁ : h₁.get? l = some (LCg.lst ys) := hk₁ _ _ hl'
  have hld : h₁.IsList l ys.toArray := ⟨_, hl₁, rfl, _, rfl⟩
  refine wpAny_bind (wpAny_pyIter_list hld ?_)
  refine wpAny_pure ⟨plainId_quiet plain_dict_loop _, ?_⟩
  have hsz₁ : s.heap.objs.size < h₁.objs.size := by
    obtain ⟨o, _, _, ho, _⟩ := hnew
    exact Heap.lt_size (hk₁ _ _ ho)
  have up : ∀ b o, h₁.get? b = some o → (h₁.push { cls := .type "list_iterator", data := .fields #[.ref l, .int 0 0] }).get? b = some o := fun b o e => Heap.get?_push_of_some _ e
  have old : ∀ b o, s.heap.get? b = some o → h₁.get? b = some o := fun b o e => hk₁ _ _ (Heap.get?_push_of_some _ e)
  have below : ∀ b o, s.heap.get? b = some o → b ≠ h₁.objs.size ∧ b ≠ s.heap.objs.size := fun b o e => ⟨Nat.ne_of_lt (Nat.lt_trans (Heap.lt_size e) hsz₁), Nat.ne_of_lt (Heap.lt_size e)⟩
  refine dict_loop (A := A.in1) (s₀ := { s with heap := h₁.push { cls := .type "list_iterator", data := .fields #[.ref l, .int 0 0] }, toks := tk₁ }) (l := l) (ys := ys) (kv := kv) hh (below l _ hl).1 (Nat.ne_of_lt hsz₁) (Ne.symm (below l _ hl).2) hrow.1 hnd hsz ?_ ?_ kv.length 0 _ _ _ _ [] (by omega) (fun _ _ _ _ e => e) ?_ (hld.push _) ?_ ?_
  · intro h' hk'
    refine ⟨hrow.1, fun i y p hy hp => ?_⟩
    obtain ⟨T, t, u, rfl, hT⟩ := hrow.2 i y p hy hp
    obtain ⟨o, ho, r⟩ := hT
    exact ⟨T, t, u, rfl, o, hk' T o (below T _ ho).1 (below T _ ho).2 (up _ _ (old _ _ ho)), r⟩
  · intro h' tk kvs hk' hd hp
    exact ⟨rfl, h h' tk kvs (fun b o e => hk' b o (below b o e).1 (below b o e).2 (up _ _ (old _ _ e))) hd hp⟩
  · exact ⟨_, Heap.get?_push_size _ rfl, rfl, rfl⟩
  · obtain ⟨o, es, ep, ho, r⟩ := hnew
    exact ⟨o, es, ep, up _ _ (hk₁ _ _ ho), r⟩
  · exact .nil
end


abbrev tupO (a b : Value) : Obj := { cls := .type "tuple", data := .seq #[a, b] }
def TupEnd (h₀ : Heap) (L I C D : Addr) (m : Str → Option Value) (led : List (Addr × Obj)) (p : Int × Int) (s : Shared) (y : Value) (s' : Shared) : Prop :=
  ∃ h' tk' T t u, y = Value.ref T ∧ s' = { s with heap := h', toks := tk' } ∧ Fr h₀ L h' m ∧ News h₀ L h' ((T, tupO (.int p.1 t) (.int p.2 u)) :: led) ∧ T ≠ I ∧ T ≠ C ∧ T ≠ D
def RelT (kv : List (Int × Int)) (ys : List Value) (tups : List (Addr × Obj)) : Prop := ∀ (j : Nat) (y : Value) (p : Int × Int), ys[j]? = some y → kv[j]? = some p → ∃ (T : Addr) (t u : Tok), y = Value.ref T ∧ (T, tupO (.int p.1 t) (.int p.2 u)) ∈ tups
section
variable {prog : Program} {w : World} {A : Around} {E : Value → Shared → Prop} {s : Shared} {h₀ : Heap} {L : Addr} {m : Str → Option Value} {env : Env}
theorem compRest_rows {elt : Expr} {x : Str} {scope : Scope} {cl : List (Str × Addr)} {P : Nat → Value → Prop} {Fin : List Value → List (Addr × Obj) → Prop} {news : List (Addr × Obj)} (kv : List (Int × Int))
    (helt : ∀ i ys v I oI C oC D m₂ h tk (E' : Value → Shared → Prop) (p : Int × Int) (tups : List (Addr × Obj)), kv[i]? = some p → P i v → LCg.NsObj oC m₂ → m₂ x = some v → Fr h₀ L h m → News h₀ L h ((I, oI) :: (C, oC) :: (D, LCg.lst ys) :: (news ++ tups)) → LCg.Off3 I C D news → ((@Ne Nat I C) ∧ (@Ne Nat I D) ∧ (@Ne Nat C D)) →
      wpAny (model prog w) A (eval elt (compEnvC scope cl C env)) (TupEnd h₀ L I C D m ((I, oI) :: (C, oC) :: (D, LCg.lst ys) :: (news ++ tups)) p { s with heap := h, toks := tk }) E' { s with heap := h, toks := tk })
    (fin : ∀ (ys : List Value) (tups : List (Addr × Obj)), ys.length = kv.length → RelT kv ys tups → Fin ys (news ++ tups)) :
    LCg.CompRest prog w A h₀ L m env elt x scope cl s (fun _ => True) P Fin kv.length 0 [] news := by
  have key : ∀ k i (ys : List Value) (tups : List (Addr × Obj)), i + k = kv.length → ys.length = i → RelT kv ys tups → LCg.CompRest prog w A h₀ L m env elt x scope cl s (fun _ => True) P Fin k i ys (news ++ tups) := by
    intro k
    induction k with
    | zero =>
      intro i ys tups hi hl hY
      exact LCg.CompRest.zero (fin ys tups (by omega) hY)
    | succ k ih =>
      intro i ys tups hi hl hY
      refine LCg.CompRest.succ fun v I oI C oC D m₂ h tk E' hP hC hx F N off ne => ?_
      have off' := LCg.Off3.mem off
      have hlt : i < kv.length := by omega
      refine wpAny_mono (helt i ys v I oI C oC D m₂ h tk E' kv[i] tups (by simp [hlt]) hP hC hx F N (LCg.Off3.of fun p hp => off' p (List.mem_append_left _ hp)) ne) (fun y s' hy => ?_) fun _ _ x => x
      obtain ⟨h', tk', T, t, u, rfl, rfl, F2, NT, hTI, hTC, hTD⟩ := hy
      have hnew : ∀ p ∈ (I, oI) :: (C, oC) :: (D, LCg.lst ys) :: (news ++ (T, tupO (.int kv[i].1 t) (.int kv[i].2 u)) :: tups), p ∈ (T, tupO (.int kv[i].1 t) (.int kv[i].2 u)) :: (I, oI) :: (C, oC) :: (D, LCg.lst ys) :: (news ++ tups) := by
        intro p hp
        simp only [List.mem_cons, List.mem_append] at hp ⊢
        rcases hp with rfl | rfl | rfl | hp | rfl | hp <;> simp [*]
      refine LCg.CompEnd.intro F2 NT (news ++ (T, tupO (.int kv[i].1 t) (.int kv[i].2 u)) :: tups) hnew (LCg.Off3.of fun p hp => ?_) trivial (ih (i + 1) (ys ++ [.ref T]) _ (by omega) (by simp [hl]) fun j z q hz hq => ?_)
      · rcases List.mem_append.mp hp with hp | hp
        · exact off' p (List.mem_append_left _ hp)
        rcases List.mem_cons.mp hp with rfl | hp
        · exact ⟨hTI, hTC, hTD⟩
        · exact off' p (List.mem_append_right _ hp)
      by_cases hj : j < ys.length
      · rw [List.getElem?_append_left hj] at hz
        obtain ⟨T', t', u', rfl, hm⟩ := hY j z q hz hq
        exact ⟨T', t', u', rfl, .tail _ hm⟩
      · rw [List.getElem?_append_right (by omega)] at hz
        have e0 : j - ys.length = 0 := by
          cases hh : j - ys.length with
          | zero => rfl
          | succ q => rw [hh] at hz; simp at hz
        rw [e0] at hz
        have e1 : j = i := by omega
        subst e1
        simp at hz; subst hz
        have : q = kv[j] := by
          have : kv[j]? = some kv[j] := by simp [hlt]
          rw [hq] at this; exact Option.some.inj this
        subst this
        exact ⟨T, t, u, rfl, .head _⟩
  have := key kv.length 0 [] [] (by omega) rfl (fun j y p hy => by simp at hy)
  rw [List.append_nil] at this; exact this
theorem rows_of {kv : List (Int × Int)} {ys : List Value} {tups led : List (Addr × Obj)} {h : Heap} (hl : ys.length = kv.length) (hY : RelT kv ys tups) (N : News h₀ L h led) (hs : ∀ p ∈ tups, p ∈ led) : RowsAre h ys kv :=
  ⟨hl, fun i y p hy hp => by
    obtain ⟨T, t, u, rfl, hm⟩ := hY i y p hy hp
    exact ⟨T, t, u, rfl, _, (N _ (hs _ hm)).1, rfl, _, rfl⟩⟩
end
def rowsD (kv : List (Int × Int)) : List (PyData × PyData) := kv.map fun p => (.int p.1, .int p.2)
theorem PairsAre.flat {a : List (Int × Value)} {b : List (Int × Int)} (h : PairsAre a b) : PyProof.V.FlatPairs PyData.int a (rowsD b) := by
  induction h with
  | nil => exact .nil
  | cons h ih => exact .cons (.int _ _) ih
def IsDict (prog : Program) (w : World) (kv : List (Int × Int)) (r : Value) (h : Heap) : Prop := ∃ d, r = .ref d ∧ IntTab prog w h d (rowsD kv)
def worths (sg : List Int) : List (Int × Int) := (List.range sg.length).map fun i => (sg.getD i 0, (i : Int))
theorem map_getD_range (l : List Int) : (List.range l.length).map (fun i => l.getD i 0) = l := by
  apply List.ext_getElem
  · simp
  · intro i h1 h2
    simp [List.getD_eq_getElem?_getD, h2]
theorem worths_keys (sg : List Int) : (worths sg).map (·.1) = sg := by
  unfold worths
  rw [List.map_map]
  exact map_getD_range sg
theorem worths_get {sg : List Int} {i : Nat} {p : Int × Int} (h : (worths sg)[i]? = some p) : p = (sg.getD (0 + (i : Int) * 1).toNat 0, 0 + (i : Int) * 1) := by
  unfold worths at h
  rw [List.getElem?_map] at h
  obtain ⟨j, hj, rfl⟩ := Option.map_eq_some_iff.mp h
  have := List.getElem?_eq_some_iff.mp hj
  obtain ⟨hl, e⟩ := this
  rw [List.getElem_range] at e
  subst e
  have e1 : (0 + (i : Int) * 1) = i := by omega
  rw [e1, Int.toNat_natCast]
section
variable {prog : Program} {w : World} {dp un : Nat} {fr : Option (List Env)} {gd : Option (List Code)} {s : Shared} {mean : ExcName → Option Value} {mg mb : Str → Option Value}
theorem worth_table_spec {al : Array UInt8} {sg : List Int} {t2 : Tok} (X : (hd.heap_39 w.params).In s.heap) (T : TopZ mean mg mb s.heap) (hdp : dp + 2 < recursionLimit) (hun : un + 40 < cLine)
    (ha : KBw.bInts al = sg) (hs : sg.length = 64) (hnd : sg.Nodup) :
    Ret prog w dp un fr gd (.ref 71) [.bytes al t2] s (IsDict prog w (worths sg)) := by
  refine Ret.enterC (binds := [(Str.ofString "alphabet", Value.bytes al t2)]) X T (by k_dflt k_is) (by k_dflt k_is) (by omega) (BindsTo.of_eq rfl) (by exact rfl) (by decide +kernel) (fun L' h' tk cells F' N' Y' => ?_)
  k_cells Y'
  try dsimp only
  walk_at "mine steps"
  refine' comp_range ?F ?c ?d ?k ?n ?x ?_ ?s
  case F => assumption
  case c => rfl
  case d => decide
  case k => rfl
  case n => decide
  case x => rfl
  case s => exact fun _ => rfl
  walk_at "mine steps"
  refine RangeSrc.of (n := (worths sg).length) rfl (by assumption) (by assumption) (by assumption) ?_ ?_ ?_ fun g => ?_
  · rw [hs]; decide
  · rw [hs]; unfold worths; rw [List.length_map, List.length_range, hs]; decide
  · unfold worths; rw [List.length_map, List.length_range, hs, sizeLine_eq]; decide
  refine compRest_rows (worths sg) ?_ ?_
  · intro i ys v I oI C oC D m₂ h tk E' p tups hp hP hC hx F' N' off' ne'
    simp only [List.cons_append, List.nil_append] at N'
    obtain ⟨t9, rfl⟩ := hP
    try simp only [LCg.Off3, and_true] at off'
    have hi : i < 64 := by
      have := (List.getElem?_eq_some_iff.mp hp).1
      unfold worths at this
      rw [List.length_map, List.length_range, hs] at this; exact this
    walk_at "mine steps"
    obtain rfl := worths_get hp
    rename (_ < _ ∧ _ < _ ∧ _ < _ ∧ _ < _ ∧ AllLt _ _) => l1
    exact ⟨_, _, _, _, _, rfl, rfl, by assumption, by assumption, Nat.ne_of_gt l1.1, Nat.ne_of_gt l1.2.1, Nat.ne_of_gt l1.2.2.1⟩
  · intro ys tups hl hY D h tk F' N' _
    walk_at "mine steps"
    refine call_dict_pairs rfl (N'.get (.head _)) (rows_of hl hY N' (fun p hp => by simp [hp])) (by rw [worths_keys]; exact hnd) (by unfold worths; rw [List.length_map, List.length_range, hs, sizeLine_eq]; decide) fun h' tk' kvs hext hd hp => ?_
    walk_at "mine steps"
    exact Back.of (F'.keeps hext) ⟨_, rfl, F'.notModules (Nat.lt_of_le_of_lt (by decide) (Heap.lt_size (X 71 _ (by k_dflt k_is)))), kvs, hd, hp.flat⟩
end

local macro_rules | `(tactic| walk_at "call ref") => `(tactic| ((with_reducible show wpAny _ _ (call (Value.ref 71) _) _ _ _); k_dflt (refine Ret.use (worth_table_spec (by k_in) (by walk_at "mine top") (by walk_at "mine room") (by walk_at "mine room") (by kba_ints) (by assumption) (by assumption)) (by k_asm) (by k_asm) ?_; k_whole); intro r' h' tk' e' F' N'; obtain ⟨d', e', hd'⟩ := e'; subst e'))


namespace BJ
open Builtin
theorem slot_join : Slot "bytes" "join" "bytes.join" :=
  .of (owner := "bytes") (n := "join") (by rw [typeLookup_type, builtinLookup_eq_fast]; kernel_rfl) (by decide +kernel) (by decide +kernel) (by decide +kernel)
    (by first | exact .inl (by decide +kernel) | exact .inr (by decide +kernel)) (by rw [isSubtype_type]; kernel_rfl)
theorem entry_join : entryFor table "bytes.join" = some Builtin.«bytes.join» := entryFor_of_tree (by kernel_rfl)
theorem args_join (a b : Value) : argsOk "bytes.join" ⟨[a, b], []⟩ := by unfold argsOk; kernel_rfl
section
variable {M : Model} {A : Around} {E : Value → Shared → Prop} {s : Shared}
theorem take_any {id : String} {b : Array UInt8} {t : Tok} {Q : Option (Array UInt8 × Option Value) → Shared → Prop} (h : Q (some (b, none)) s) : wpAny M A (Bytes.takeBufferQuiet? id (.bytes b t) 0) Q E s := by
  unfold Bytes.takeBufferQuiet? Bytes.takeBuffer?
  refine wpAny_bind (wpAny_attempt ?_)
  refine wpAny_bind (wpAny_of_eq (KBy.special_eq KBy.look_buffer) ?_)
  refine wpAny_bind (wpAny_of_eq KBy.own_buffer ?_)
  refine wpAny_bind (wpAny_of_eq (KBy.special_eq KBy.look_buffer) ?_)
  refine wpAny_bind (wpAny_of_eq KBy.buffer_eq ?_)
  exact wpAny_pure (wpAny_pure h)
theorem letGo_any {b : Array UInt8} {t : Tok} {l : List Value} {Q : Unit → Shared → Prop} (h : Q () s) : wpAny M A (letGo [.bytes b t] l) Q E s := by
  unfold letGo
  refine wpAny_bind (wpAny_holding (wpAny_point ?_))
  unfold letGo
  exact wpAny_pure h
theorem letAll : ∀ (ps : List (Array UInt8 × Tok)) (keep : List Value) {Q : Unit → Shared → Prop}, Q () s → wpAny M A (Bytes.joinLetGo (ps.map fun p => (Value.bytes p.1 p.2, none)) keep) Q E s
  | [], _, _, h => by unfold Bytes.joinLetGo; exact wpAny_pure h
  | p :: ps, keep, Q, h => by
    simp only [List.map_cons]
    unfold Bytes.joinLetGo
    dsimp only
    refine wpAny_bind (letGo_any ?_)
    exact letAll ps keep h
end
theorem any_off : ∀ l : List (Array UInt8 × Tok), ((l.map fun p => (Value.bytes p.1 p.2, (none : Option Value))).any fun x => x.1.onHeap) = false
  | [] => rfl
  | p :: l => by
    simp only [List.map_cons, List.any_cons]
    rw [any_off l]; rfl
theorem size_fold : ∀ (l : List (Array UInt8)) (k : Nat), l.foldl (fun a b => a + b.size) k = k + (l.map KBw.bInts).flatten.length
  | [], k => by simp
  | b :: l, k => by
    simp only [List.foldl_cons, List.map_cons, List.flatten_cons, List.length_append]
    rw [size_fold l, KBw.ints_length]; omega
theorem ints_joined_from : ∀ (ps : List (Array UInt8)) (k : Nat) (acc : Array UInt8), KBw.bInts ((ps.zipIdx k).foldl (fun out (p, i) => (if i > 0 then out ++ (#[] : Array UInt8) else out) ++ p) acc) = KBw.bInts acc ++ (ps.map KBw.bInts).flatten
  | [], _, acc => by simp
  | p :: ps, k, acc => by
    simp only [List.zipIdx_cons, List.foldl_cons, List.map_cons, List.flatten_cons]
    rw [ints_joined_from ps (k + 1)]
    have e : (if k > 0 then acc ++ (#[] : Array UInt8) else acc) = acc := by split <;> simp
    rw [e, KBw.ints_app rfl rfl, List.append_assoc]
theorem ints_joined (ps : List (Array UInt8)) : KBw.bInts (Bytes.joined #[] ps) = (ps.map KBw.bInts).flatten := by
  unfold Bytes.joined
  rw [ints_joined_from]; rfl
theorem type_join : typeOf (.builtin "bytes.join") = pure (.type "method_descriptor") := by kernel_rfl
theorem method_join {M : Model} {A : Around} {E : Value → Shared → Prop} {s : Shared} {b : Array UInt8} {t : Tok} {pl : Sem Bool} {Q : Value × List Value → Shared → Prop} (h : Q (.builtin "bytes.join", [.bytes b t]) s) : wpAny M A (getMethod (.bytes b t) "join" pl) Q E s :=
  getMethod_builtin (typeIs_bytes s b t) FB.plainAttrs_bytes slot_join type_join (fun _ e => by cases e) h
end BJ
section
variable {prog : Program} {w : World} {A : Around} {E : Value → Shared → Prop} {s : Shared}
open Builtin in
theorem join_bytes {l : Addr} {ps : List (Array UInt8 × Tok)} {t : Tok} {n : Nat} {ks : List Int} {Q : Value → Shared → Prop} (hl : s.heap.get? l = some (W.listOf (ps.map fun p => Value.bytes p.1 p.2).toArray n))
    (hk : (ps.map fun p => KBw.bInts p.1).flatten = ks) (hz : ks.length ≤ 16777216) (h : ∀ b t' tk, KBw.bInts b = ks → Q (.bytes b t') { s with toks := tk }) :
    wpAny (model prog w) A (call (.builtin "bytes.join") [.bytes #[] t, .ref l]) Q E s := by
  refine wpAny_call (codeAny_call_builtin BJ.slot_join.plain BJ.entry_join (BJ.slot_join.check _ _ _ _ _ _ _ _ (typeIs_bytes s _ t) (BJ.args_join _ _) ?_))
  unfold Builtin.«bytes.join» Bytes.joinM
  refine wpAny_bind (wpAny_of_eq (a := (Value.bytes #[] t, Value.ref l)) (by rfl) ?_)
  dsimp only
  rw [if_pos (by rfl)]
  refine wpAny_bind ?_
  unfold Bytes.joinItems
  refine wpAny_bind (wpAny_typeOf ⟨_, hl, rfl⟩ ?_)
  rw [if_pos (by rfl)]
  refine wpAny_pure ?_
  refine wpAny_bind (wpAny_seqItems hl rfl ?_)
  dsimp only
  rw [if_pos (by rfl)]
  have hsz : ∀ ps' : List (Array UInt8 × Tok), ps' = ps → (List.map (fun p => Value.bytes p.1 p.2) ps').toArray.size = ps.length := fun ps' e => by rw [e]; simp
  rcases ps with _ | ⟨p, _ | ⟨q, r⟩⟩
  case' cons.nil =>
    refine wpAny_bind (wpAny_typeOf (typeIs_bytes _ _ _) ?_)
    rw [if_pos (by rfl)]
    refine wpAny_bind (wpAny_rule (wpAny_pure (h p.1 _ s.toks ?_)))
    simpa using hk
  case' nil =>
    refine wpAny_bind ?_
    generalize ([] : List (Array UInt8 × Tok)) = ps at hl hk hsz ⊢
  case' cons.cons =>
    refine wpAny_bind ?_
    generalize p :: q :: r = ps at hl hk hsz ⊢
  all_goals
    rw [Std.Legacy.Range.forIn_eq_forIn_range']
    simp only [Std.Legacy.Range.size, Nat.sub_zero, Nat.add_sub_cancel, Nat.div_one]
    refine wpAny_forIn_list _
      (fun rest st s' => s' = s ∧ ∃ i, rest = List.range' i (ps.length - i) ∧ i ≤ ps.length ∧ st = (((ps.take i).map (·.1)).toArray, (ps.take i).map fun p => (Value.bytes p.1 p.2, none)))
      _ ?_ ?_ _ _ ⟨rfl, 0, by rw [hsz _ rfl]; rfl, Nat.zero_le _, by simp⟩
    · rintro x rest b s' ⟨rfl, i, hr, hi, rfl⟩
      have hlt : i < ps.length := by
        rcases Nat.lt_or_ge i ps.length with h | h
        · exact h
        · rw [Nat.sub_eq_zero_of_le h] at hr; simp at hr
      obtain ⟨rfl, hrest⟩ : x = i ∧ rest = List.range' (i + 1) (ps.length - (i + 1)) := by
        have e : ps.length - i = (ps.length - (i + 1)) + 1 := by omega
        rw [e, List.range'_succ] at hr
        injection hr with h1 h2
        exact ⟨h1, h2⟩
      refine wpAny_bind (wpAny_seqItems hl rfl ?_)
      dsimp only
      have hx : (List.map (fun p => Value.bytes p.1 p.2) ps).toArray.getD x Value.none = Value.bytes ps[x].1 ps[x].2 := by
        simp [Array.getD, hlt]
      rw [if_neg ?_, hx]
      · refine wpAny_bind (wpAny_holding (BJ.take_any ?_))
        dsimp only
        refine wpAny_bind (wpAny_seqItems hl rfl ?_)
        dsimp only
        rw [if_neg (by simp)]
        refine wpAny_pure ⟨rfl, x + 1, hrest, hlt, ?_⟩
        rw [List.take_succ_eq_append_getElem hlt]
        simp only [List.map_append, List.map_cons, List.map_nil, List.push_toArray]
      · rw [BJ.any_off]
        decide
    · rintro b s' ⟨rfl, i, hr, hi, rfl⟩
      have hfin : i = ps.length := by
        have := congrArg List.length hr
        simp at this; omega
      subst hfin
      rw [List.take_length]
      have hfold := BJ.size_fold (ps.map (·.1)) 0
      rw [List.map_map, show (KBw.bInts ∘ fun p : Array UInt8 × Tok => p.1) = fun p => KBw.bInts p.1 from rfl, hk] at hfold
      refine wpAny_bind (wpAny_of_eq (a := #[]) (by rfl) ?_)
      dsimp only
      rw [if_neg ?_]
      · have hj := BJ.ints_joined (ps.map (·.1))
        rw [List.map_map, show (KBw.bInts ∘ fun p : Array UInt8 × Tok => p.1) = fun p => KBw.bInts p.1 from rfl, hk] at hj
        refine wpAny_bind (wpAny_mkBytes ?_ ?_)
        · refine wpAny_bind (wpAny_holding (wpAny_point ?_))
          refine wpAny_bind (BJ.letAll ps _ ?_)
          exact wpAny_pure (h _ _ _ hj)
        · have := KBw.ints_length (Builtin.Bytes.joined #[] (ps.map (·.1)))
          rw [hj] at this
          rw [← this, sizeLine_eq]; exact hz
      · rw [KBy.tooLong_not ?_]
        · exact Bool.false_ne_true
        · rw [List.foldl_toArray]
          simp only [Array.size_empty, Nat.zero_mul]
          rw [hfold]; omega
end

local macro_rules | `(tactic| walk_at "call builtin:bytes.join") => `(tactic| ((with_reducible show wpAny _ _ (call (Value.builtin "bytes.join") [Value.bytes _ _, Value.ref _]) _ _ _); (refine join_bytes (by exact News.get (by assumption) (.head _)) (by assumption) (by walk_at "mine size") ?_); intro b' t' k' hb'))
local macro_rules | `(tactic| walk_at "getMethod bytes") => `(tactic| ((with_reducible show wpAny _ _ (getMethod (Value.bytes _ _) _ _) _ _ _); refine BJ.method_join ?_))

/-- a new list of ints -/
def IsLN (h₀ : Heap) (ns : List Int) (r : Value) (h : Heap) : Prop := ∃ a vs n, r = .ref a ∧ h₀.get? a = none ∧ h.get? a = some (W.listOf vs.toArray n) ∧ IntsAre vs ns
theorem Ret.useL {prog : Program} {w : World} {dp un : Nat} {fr : Option (List Env)} {gd : Option (List Code)} {f : Value} {args : List Value} {s : Shared} {ns : List Int}
    {h₀ : Heap} {L : Addr} {m : Str → Option Value} {news : List (Addr × Obj)} {Q E : Value → Shared → Prop} (C : Ret prog w dp un fr gd f args s (IsLN s.heap ns)) (F : Fr h₀ L s.heap m) (N : News h₀ L s.heap news)
    (h : ∀ a vs n h' tk', IntsAre vs ns → Fr h₀ L h' m → News h₀ L h' ((a, W.listOf vs.toArray n) :: news) → Q (.ref a) { s with heap := h', toks := tk' }) : wpAny (model prog w) (Ar dp un fr gd) (call f args) Q E s :=
  C Q E fun r h' tk' k hr => by
    obtain ⟨a, vs, n, rfl, hn, hg, hi⟩ := hr
    refine h a vs n h' tk' hi (F.keeps k) fun p hp => ?_
    rcases List.mem_cons.mp hp with rfl | hp
    · refine ⟨hg, fun e => ?_, ?_⟩
      · obtain ⟨o, _, _, ho, _⟩ := F.ns
        have e' : a = L := e
        rw [e'] at hn; rw [hn] at ho; cases ho
      · cases q : h₀.get? a with
        | none => rfl
        | some o => have := F.keep a o q; rw [hn] at this; cases this
    · exact (N.grown k) p hp
def nums (sg ss : List Int) : List Int := ss.map fun k => (sg.idxOf k : Int)
theorem lookup_worths {sg : List Int} (k : Int) (h : k ∈ sg) : Spec.lookup (.int k) (rowsD (worths sg)) = some (.int (sg.idxOf k : Int)) := by
  have key : ∀ (l : List Int) (b : Nat), k ∈ l → Spec.lookup (.int k) (rowsD ((List.range' b l.length).map fun i => (l.getD (i - b) 0, (i : Int)))) = some (.int ((b + l.idxOf k : Nat) : Int)) := by
    intro l
    induction l with
    | nil => intro b h; cases h
    | cons a l ih =>
      intro b h
      simp only [List.length_cons, List.range'_succ, List.map_cons, rowsD]
      rw [Nat.sub_self]
      show Spec.lookup (.int k) ((PyData.int a, PyData.int b) :: _) = _
      unfold Spec.lookup
      by_cases e : a = k
      · subst e
        simp [Spec.same]
      · have hs : Spec.same (PyData.int a) (PyData.int k) = false := by
          show (a == k) = false
          simpa using e
        rw [hs]
        simp only [Bool.false_eq_true, if_false]
        have hk : k ∈ l := by
          rcases List.mem_cons.mp h with h | h
          · exact absurd h.symm e
          · exact h
        have := ih (b + 1) hk
        unfold rowsD at this
        rw [List.idxOf_cons, show (a == k) = false by simpa using e, cond_false]
        have e2 : b + (l.idxOf k + 1) = b + 1 + l.idxOf k := by omega
        rw [e2, ← this]
        congr 1
        rw [List.map_map, List.map_map]
        refine List.map_congr_left fun i hi => ?_
        have hb : b + 1 ≤ i := by
          have := List.mem_range'.mp hi
          obtain ⟨j, _, rfl⟩ := this; omega
        simp only [Function.comp]
        have e3 : i - b = (i - (b + 1)) + 1 := by omega
        rw [e3, List.getD_cons_succ]
  have := key sg 0 h
  unfold worths
  rw [List.range_eq_range']
  simpa using this
section
variable {prog : Program} {w : World} {A : Around} {E : Value → Shared → Prop} {s : Shared}
theorem notin_has {d : Addr} {D : List (PyData × PyData)} {i : Int} {t : Tok} {dv : PyData} {Q : Value → Shared → Prop} (T : IntTab prog w s.heap d D) (hl : Spec.lookup (.int i) D = some dv) (h : ∀ tk, Q (.bool false) { s with toks := tk }) :
    wpAny (model prog w) A (compareOp .NotIn (.int i t) (.ref d)) Q E s := by
  refine notin_intTab T ?_
  rw [hl]; exact h _
theorem item_has {value slice : Expr} {d : Addr} {D : List (PyData × PyData)} {i j : Int} {t : Tok} {Q : Value → Shared → Prop} (T : IntTab prog w s.heap d D) (hl : Spec.lookup (.int i) D = some (.int j)) (h : ∀ u tk, Q (.int j u) { s with toks := tk })
    (hs : subscripted slice false (.ref d) (.int i t) = operate [.ref d, .int i t] (getItem (.ref d) (.int i t)) := by with_unfolding_all rfl) (hg : ∀ r, letTemporaryGo value (.ref d) r = pure () := by intro _; with_unfolding_all rfl) :
    wpAny (model prog w) A (subscriptTail value slice (.ref d) (.int i t)) Q E s :=
  item_intTab T hl (fun v hv => by cases hv s.heap; exact h _ _) hs hg
end
local macro_rules | `(tactic| walk_at "compareOp NotIn int ref") => `(tactic| ((with_reducible show wpAny _ _ (compareOp _ (Value.int _ _) (Value.ref _)) _ _ _); (refine notin_has (TabAt.keep (by assumption) (Fr.keep (by assumption))) (by assumption) ?_); intro _))
local macro_rules | `(tactic| walk_at "subscriptTail Name Subscript ref int") => `(tactic| ((with_reducible show wpAny _ _ (subscriptTail _ _ (Value.ref _) (Value.int _ _)) _ _ _); (refine item_has (TabAt.keep (by assumption) (Fr.keep (by assumption))) (by assumption) ?_); intro _ _))
section
variable {prog : Program} {w : World} {dp un : Nat} {fr : Option (List Env)} {gd : Option (List Code)} {s : Shared} {mean : ExcName → Option Value} {mg mb : Str → Option Value}
theorem part_numbers_spec {b : Array UInt8} {ss sg : List Int} {d : Addr} {t : Tok} (X : (hd.heap_39 w.params).In s.heap) (T : TopZ mean mg mb s.heap) (hdp : dp + 2 < recursionLimit) (hun : un + 40 < cLine)
    (hk : KBw.bInts b = ss) (hD : IntTab prog w s.heap d (rowsD (worths sg))) (hm : ∀ k ∈ ss, k ∈ sg) (hz : ss.length ≤ 1000) :
    Ret prog w dp un fr gd (.ref 95) [.bytes b t, .ref d] s (IsLN s.heap (nums sg ss)) := by
  refine Ret.enter (binds := [(Str.ofString "signs", Value.bytes b t), (Str.ofString "worths", Value.ref d)]) X T (by k_dflt k_is) (by k_dflt k_is) (by omega) (BindsTo.of_eq rfl) (locs rfl) (fun L' h' F' N' => ?_) (by decide)
  walk_at "mine steps"
  refine For_invVF (by assumption) rfl rfl ?_
  walk_at "mine steps"
  refine' iter_rangeS (L := L') (n := ss.length) (fun (_ : List Value × Nat) => ?m₀) (fun σ => [(?D, W.listOf σ.1.toArray σ.2)]) (fun i σ => IntsAre σ.1 (nums sg (ss.take i))) ([], 0) rfl ?hh ?hr ?sm ?sz ?F ?N ?j ?adr ?turn ?done
  case hh => rfl
  case hr => assumption
  case F => assumption
  case N => assumption
  case sm => exact small0 (by assumption) (by decide) (size_one _) (by assumption)
  case sz => exact size_one _
  case j => exact IntsAre.nil
  case adr => exact fun _ => rfl
  case turn =>
    rintro i tc ⟨vs, n⟩ h tk own hi hR hoff F' N'
    dsimp only at hR hoff F' N' ⊢
    have hvl : vs.length ≤ 1000 := by
      have := hR.length
      unfold nums at this
      rw [List.length_map, List.length_take] at this; omega
    have e1 : (0 + (i : Int) * 1).toNat = i := by omega
    have hin : ss.getD (0 + (i : Int) * 1).toNat 0 ∈ sg := by
      rw [e1]
      refine hm _ ?_
      rw [List.getD_eq_getElem?_getD, List.getElem?_eq_getElem hi]
      exact List.getElem_mem _
    have hlk := lookup_worths _ hin
    walk_at "mine steps"
    refine TurnNext.of (_, _) (by assumption) (by assumption) (fun z hz => if_neg hz) ?_
    have e2 : nums sg (ss.take (i + 1)) = nums sg (ss.take i) ++ [((sg.idxOf (ss.getD (0 + (i : Int) * 1).toNat 0) : Nat) : Int)] := by
      unfold nums
      rw [e1, List.take_succ_eq_append_getElem hi, List.map_append, List.getD_eq_getElem?_getD, List.getElem?_eq_getElem hi]
      rfl
    rw [e2]
    exact hR.append (.cons _ _ .nil)
  case done =>
    rintro ⟨vs, n⟩ vx h tk hR F' N'
    dsimp only at hR F' N' ⊢
    walk_at "mine steps"
    rw [List.take_length] at hR
    exact Back.of F' ⟨_, vs, n, rfl, N'.fresh (.head _), N'.get (.head _), hR⟩
end

local macro_rules | `(tactic| walk_at "call ref") => `(tactic| ((with_reducible show wpAny _ _ (call (Value.ref 95) _) _ _ _); k_dflt (refine Ret.useL (part_numbers_spec (by k_in) (by walk_at "mine top") (by walk_at "mine room") (by walk_at "mine room") (by kba_ints) (by assumption) (by assumption) (by walk_at "mine size")) (by k_asm) (by k_asm) ?_; k_whole); intro a' vs' n' h' tk' I' F' N'))

def chunk4 (ns : List Int) (i : Nat) : List Int := (ns.drop (4 * i)).take 4
def octs (g : List Int) : List Int := (List.range (g.length - 1)).map (goct g)
def decTo (ns : List Int) (n : Nat) : List Int := ((List.range n).map fun i => octs (chunk4 ns i)).flatten
theorem decTo_succ (ns : List Int) (n : Nat) : decTo ns (n + 1) = decTo ns n ++ octs (chunk4 ns n) := by
  unfold decTo
  rw [List.range_succ, List.map_append, List.flatten_append]; simp
def decoded (ns : List Int) : List Int := decTo ns ((ns.length + 3) / 4)
def spare0 (ns : List Int) : Prop := ∀ i, i < (ns.length + 3) / 4 → tot6 (chunk4 ns i) % 2 ^ (6 * (chunk4 ns i).length - 8 * ((chunk4 ns i).length - 1)) = 0
theorem decTo_len (ns : List Int) (n : Nat) : (decTo ns n).length ≤ 3 * n := by
  induction n with
  | zero => simp [decTo]
  | succ n ih =>
    rw [decTo_succ, List.length_append]
    refine Nat.add_le_add ih ?_
    unfold octs chunk4
    rw [List.length_map, List.length_range, List.length_take]
    exact Nat.sub_le_sub_right (Nat.min_le_left ..) 1
theorem chunk4_eq {ns : List Int} {i : Nat} (hi : i < (ns.length + 3) / 4) : List.take (min (0 + (i : Int) * 4 + 4).toNat ns.length - (0 + (i : Int) * 4).toNat) (List.drop (0 + (i : Int) * 4).toNat ns) = chunk4 ns i := by
  unfold chunk4
  have e : 0 + (i : Int) * 4 = ((4 * i : Nat) : Int) := by rw [Int.zero_add, Int.mul_comm]; rfl
  rw [e]
  exact chunk_c
theorem chunk4_len {ns : List Int} {i : Nat} (hi : i < (ns.length + 3) / 4) (h1 : ns.length % 4 ≠ 1) : 2 ≤ (chunk4 ns i).length ∧ (chunk4 ns i).length ≤ 4 := by
  unfold chunk4
  rw [List.length_take, List.length_drop]
  refine ⟨Nat.le_min.mpr ⟨by decide, Nat.lt_of_le_of_ne (Nat.sub_pos_of_lt (up4 hi)) fun e => h1 ?_⟩, Nat.min_le_left ..⟩
  rw [Nat.eq_add_of_sub_eq (Nat.le_of_lt (up4 hi)) e.symm, Nat.add_comm, Nat.mul_add_mod]
theorem nums_in {sg ss : List Int} (hs : sg.length = 64) (hm : ∀ k ∈ ss, k ∈ sg) : ∀ n ∈ nums sg ss, 0 ≤ n ∧ n < 64 := by
  intro n hn
  obtain ⟨k, hk, rfl⟩ := List.mem_map.mp hn
  exact ⟨Int.natCast_nonneg _, Int.ofNat_lt.mpr (Nat.lt_of_lt_of_eq (List.idxOf_lt_length_of_mem (hm k hk)) hs)⟩
theorem fmU_hm {ρ : Type} {stored : List Str} {g : ρ → Str → Option Value} {x : Str} {r : ρ} {m' : Str → Option Value} (h : ∀ z, z ≠ x → stored.contains z = false → m' z = g r z) : ∀ z, z ≠ x → m' z = fmU stored g (r, m') z := fun z hz => by
  show m' z = if stored.contains z then m' z else g r z
  cases e : stored.contains z with
  | true => simp
  | false => simpa using h z hz e
theorem Fr.startU {ρ : Type} {stored : List Str} {g : ρ → Str → Option Value} {r : ρ} {h₀ h : Heap} {L : Addr} (F : Fr h₀ L h (g r)) : Fr h₀ L h (fmU stored g (r, g r)) := Fr.as F (fmU_start _ _)
section
variable {prog : Program} {w : World} {dp un : Nat} {fr : Option (List Env)} {gd : Option (List Code)} {s : Shared} {mean : ExcName → Option Value} {mg mb : Str → Option Value}
theorem part_decoded_spec {b al : Array UInt8} {ss sg : List Int} {t t2 : Tok} (X : (hd.heap_39 w.params).In s.heap) (T : TopZ mean mg mb s.heap) (hdp : dp + 5 < recursionLimit) (hun : un + 80 < cLine)
    (hk : KBw.bInts b = ss) (ha : KBw.bInts al = sg) (hs : sg.length = 64) (hnd : sg.Nodup) (hm : ∀ k ∈ ss, k ∈ sg) (hz : ss.length ≤ 1000) (h1 : ss.length % 4 ≠ 1) (hsp : spare0 (nums sg ss)) :
    Ret prog w dp un fr gd (.ref 102) [.bytes b t, .bytes al t2] s (fun r _ => ∃ b' t', r = .bytes b' t' ∧ KBw.bInts b' = decoded (nums sg ss)) := by
  refine Ret.enter (binds := [(Str.ofString "signs", Value.bytes b t), (Str.ofString "alphabet", Value.bytes al t2)]) X T (by k_dflt k_is) (by k_dflt k_is) (by omega) (BindsTo.of_eq rfl) (locs rfl) (fun L' h' F' N' => ?_) (by decide)
  walk_at "mine steps"
  refine For_invVF (by assumption) rfl rfl ?_
  have hnl : (nums sg ss).length = ss.length := List.length_map ..
  walk_at "mine steps"
  rename IntsAre _ (nums sg ss) => hI
  refine' iter_rangeS (L := L') (n := (ss.length + 3) / 4) (fmU [Str.ofString "group", Str.ofString "octets", Str.ofString "spare"] fun (_ : List (Array UInt8 × Tok) × Nat) => ?m₀) (fun σ => [(?D, W.listOf (σ.1.1.map fun p => Value.bytes p.1 p.2).toArray σ.1.2), (?W, W.listOf (List.toArray ?vs) ?n)]) (fun i σ => (fun (ρ : List (Array UInt8 × Tok) × Nat) => ρ.1.length = i ∧ (ρ.1.map fun p => KBw.bInts p.1).flatten = decTo (nums sg ss) i) σ.1) (([], 0), ?m₀) rfl ?hh ?hr ?sm ?sz ?F ?N ?j ?adr ?turn ?done
  case hh => rfl
  case hr => assumption
  case F => refine Fr.startU ?_; assumption
  case N => assumption
  case sz => rw [hnl]; exact size_four _
  case sm => rw [hnl]; exact small0 hz (by decide) (size_four _) (Nat.le_trans (Nat.div_le_div_right (Nat.add_le_add_right hz 3)) (by decide))
  case j => exact ⟨rfl, rfl⟩
  case adr => exact fun _ => rfl
  case turn =>
    rintro i tc ⟨⟨ps, n⟩, u⟩ h tk own hi ⟨hl, hR⟩ hoff F' N'
    dsimp only [fmU] at hl hR hoff F' N' ⊢
    have hc : List.take (min (0 + (i : Int) * 4 + 4).toNat (nums sg ss).length - (0 + (i : Int) * 4).toNat) (List.drop (0 + (i : Int) * 4).toNat (nums sg ss)) = chunk4 (nums sg ss) i := chunk4_eq (by rw [hnl]; exact hi)
    have hcl := chunk4_len (ns := nums sg ss) (i := i) (by rw [hnl]; exact hi) (by rw [hnl]; exact h1)
    have hcr : ∀ n ∈ chunk4 (nums sg ss) i, 0 ≤ n ∧ n < 64 := fun n hn => nums_in hs hm n (List.mem_of_mem_drop (List.mem_of_mem_take hn))
    walk_at "mine steps"
    · exfalso
      rename ((List.length _ : Nat) : Int) = 1 => h9
      rw [hc] at h9; omega
    rename IntsAre _ (List.take _ _) => hI2
    rw [hc] at hI2
    walk_at "mine steps"
    · exfalso
      rename 0 < _ % _ => h9
      have := hsp i (by rw [hnl]; exact hi)
      omega
    rename KBw.bInts _ = _ => hb9
    refine' TurnNext.of (m' := ?mm) ((ps ++ [(_, _)], _), ?mm) ?F ?N ?m ?r
    case F => assumption
    case N => dsimp only; rw [List.map_append]; assumption
    case m =>
      refine fmU_hm fun z h1 h2 => ?_
      simp only [List.contains_cons, List.contains_nil, Bool.or_false, Bool.or_eq_false_iff, beq_eq_false_iff_ne] at h2
      simp [h1, h2.1, h2.2.1, h2.2.2, List.contains_cons]
    case r =>
      refine ⟨by simp [hl], ?_⟩
      rw [decTo_succ, List.map_append, List.flatten_append, hR]
      simp only [List.map_cons, List.map_nil, List.flatten_cons, List.flatten_nil, List.append_nil, hb9]
      rfl
  case done =>
    rintro ⟨⟨ps, n⟩, u⟩ vx h tk ⟨hl, hR⟩ F' N'
    dsimp only [fmU] at hl hR F' N' ⊢
    have hdl := decTo_len (nums sg ss) ((ss.length + 3) / 4)
    walk_at "mine steps"
    rename KBw.bInts _ = _ => hb9
    exact Back.of (by assumption) ⟨_, _, rfl, by unfold decoded; rw [hnl]; exact hb9⟩
end


theorem in_bytes {prog : Program} {w : World} {A : Around} {E : Value → Shared → Prop} {s : Shared} {b : Array UInt8} {t u : Tok} {ks : List Int} {i : Int} {Q : Value → Shared → Prop} (hk : KBw.bInts b = ks) (h0 : 0 ≤ i) (h1 : i < 256) (h : Q (.bool (decide (i ∈ ks))) s) :
    wpAny (model prog w) A (compareOp .In (.int i t) (.bytes b u)) Q E s := by
  refine In_slot (typeIs_bytes s b u) FB.slot_bytes_contains (wpAny_call_entry FB.slot_bytes_contains (typeIs_bytes s b u) FB.entry_bytes_contains ?_ (FB.args_bytes_contains_2 _ _))
  show wpAny _ _ (Builtin.Bytes.containsIn "bytes.__contains__" (.bytes b u) (.int i t) >>= _) _ _ s
  unfold Builtin.Bytes.containsIn
  refine wpAny_bind (wpAny_bind (wpAny_attempt ?_))
  refine wpAny_of_eq (a := i) (by rfl) ?_
  refine wpAny_bind (wpAny_of_eq KBy.buffer_eq ?_)
  dsimp only
  rw [if_neg (by simp; omega)]
  refine wpAny_pure (wpAny_pure ⟨_, rfl, wpAny_truthy_bool ?_⟩)
  have e : b.contains i.toNat.toUInt8 = decide (i ∈ ks) := by
    rw [Bool.eq_iff_iff, Array.contains_iff_mem, decide_eq_true_eq, ← hk]
    unfold KBw.bInts
    rw [List.mem_map]
    constructor
    · intro hm
      exact ⟨_, by simpa using hm, byte_back h0 h1⟩
    · rintro ⟨c, hc, rfl⟩
      have : ((c.toNat : Nat) : Int).toNat.toUInt8 = c := by simp
      rw [this]; simpa using hc
  rw [e]; exact h
def signs : List Int := [65, 66, 67, 68, 69, 70, 71, 72, 73, 74, 75, 76, 77, 78, 79, 80, 81, 82, 83, 84, 85, 86, 87, 88, 89, 90, 97, 98, 99, 100, 101, 102, 103, 104, 105, 106, 107, 108, 109, 110, 111, 112, 113, 114, 115, 116, 117, 118, 119, 120, 121, 122, 48, 49, 50, 51, 52, 53, 54, 55, 56, 57, 43, 44]
local macro_rules | `(tactic| walk_at "compareOp In int bytes") => `(tactic| ((with_reducible show wpAny _ _ (compareOp _ (Value.int _ _) (Value.bytes _ _)) _ _ _); (refine in_bytes (ks := signs) (by first | assumption | decide +kernel) (by omega) (by omega) ?_)))
def sEnd (ks : List Int) (b : Nat) : Nat := b + ((ks.drop b).takeWhile fun c => decide (c ∈ signs)).length
theorem sEnd_step {ks : List Int} {b : Nat} (h : b < ks.length) (hp : ks.getD b 0 ∈ signs) : sEnd ks b = sEnd ks (b + 1) := by
  unfold sEnd
  rw [List.drop_eq_getElem_cons h]
  have e : ks.getD b 0 = ks[b] := by simp [List.getD_eq_getElem?_getD, h]
  rw [e] at hp
  rw [List.takeWhile_cons_of_pos (by simpa using hp)]
  simp only [List.length_cons]; omega
theorem sEnd_stop {ks : List Int} {b : Nat} (h : b < ks.length → ¬ ks.getD b 0 ∈ signs) : sEnd ks b = b := by
  unfold sEnd
  by_cases hb : b < ks.length
  · rw [List.drop_eq_getElem_cons hb]
    have e : ks.getD b 0 = ks[b] := by simp [List.getD_eq_getElem?_getD, hb]
    have hp := h hb
    rw [e] at hp
    rw [List.takeWhile_cons_of_neg (by simpa using hp)]
    rfl
  · rw [List.drop_eq_nil_of_le (by omega)]; rfl
section
variable {prog : Program} {w : World} {dp un : Nat} {fr : Option (List Env)} {gd : Option (List Code)} {s : Shared} {mean : ExcName → Option Value} {mg mb : Str → Option Value}
theorem shift_behind_spec {b : Array UInt8} {ks : List Int} {i : Int} {t t2 : Tok} (X : (hd.heap_39 w.params).In s.heap) (T : TopZ mean mg mb s.heap) (hdp : dp + 2 < recursionLimit) (hun : un + 40 < cLine)
    (hk : KBw.bInts b = ks) (h0 : 0 ≤ i) (hi : i ≤ ks.length) (hz : ks.length ≤ 1000) (he : sEnd ks i.toNat < ks.length) (h45 : ks.getD (sEnd ks i.toNat) 0 = 45) :
    Ret prog w dp un fr gd (.ref 144) [.bytes b t, .int i t2] s (IsI (sEnd ks i.toNat)) := by
  refine Ret.enter (binds := [(Str.ofString "octets", Value.bytes b t), (Str.ofString "begin", Value.int i t2)]) X T (by k_dflt k_is) (by k_dflt k_is) (by omega) (BindsTo.of_eq rfl) (locs rfl) (fun L' h' F' N' => ?_) (by decide)
  walk_at "mine steps"
  refine' whileS (L := L') PassesOwn.never (fun (σ : Int × Tok) y => if y = Str.ofString "end" then some (.int σ.1 σ.2) else List.lookup y [(Str.ofString "octets", Value.bytes b t), (Str.ofString "begin", Value.int i t2)].reverse) (fun _ => []) (fun σ => i ≤ σ.1 ∧ σ.1 ≤ sEnd ks i.toNat ∧ sEnd ks i.toNat = sEnd ks σ.1.toNat) (fun σ => (ks.length - σ.1).toNat) (i, t2) ?F ?N ?j ?turn
  case F => assumption
  case N => assumption
  case j => exact ⟨by omega, by unfold sEnd; omega, rfl⟩
  rintro ⟨e, te⟩ h tk ⟨he1, he2, he3⟩ F' N'
  dsimp only at he1 he2 he3 F' N' ⊢
  walk_at "mine steps"
  · rename ks.getD _ 0 ∈ signs => hin
    have hst := sEnd_step (ks := ks) (b := e.toNat) (by omega) hin
    have hge : e.toNat + 1 ≤ sEnd ks (e.toNat + 1) := by unfold sEnd; omega
    have e1 : (e + 1).toNat = e.toNat + 1 := tn1 (Int.le_trans h0 he1)
    refine' WNext.of (e + 1, _) ?F ?N ?m ?r ?k
    case F => assumption
    case N => assumption
    case m => walk_at "frm"
    case r => exact ⟨by dsimp only; omega, by dsimp only; omega, by dsimp only; rw [e1, he3, hst]⟩
    case k => exact tnlt (Int.lt_of_le_of_lt he2 (Int.ofNat_lt.mpr he))
  all_goals
    rename ¬ ks.getD _ 0 ∈ signs => hin
    have hst := sEnd_stop (ks := ks) (b := e.toNat) (fun _ => hin)
  · exfalso; omega
  · exfalso
    rw [he3, hst] at h45
    contradiction
  · refine Back.of (by assumption) ⟨_, congrArg (fun z => Value.int z _) ?_⟩
    omega
end

local macro_rules | `(tactic| walk_at "call ref") => `(tactic| ((with_reducible show wpAny _ _ (call (Value.ref 144) _) _ _ _); k_dflt (refine Ret.useI (shift_behind_spec (by k_in) (by walk_at "mine top") (by walk_at "mine room") (by walk_at "mine room") (by kba_ints) (by omega) (by walk_at "mine size") (by walk_at "mine size") (by assumption) (by assumption)) (by k_asm) (by k_asm) ?_; k_whole); intro _ _ _ _ _))

theorem strs_snoc {vs : List Value} {ys : List Str} {y : Str} {t : Tok} (h : StrsAre vs ys) : StrsAre (vs ++ [.str y t]) (ys ++ [y]) := by
  induction h with
  | nil => exact .cons _ _ .nil
  | cons _ _ _ ih => exact .cons _ _ ih
theorem strs_len {vs : List Value} {ys : List Str} (h : StrsAre vs ys) : vs.length = ys.length := by
  induction h with
  | nil => rfl
  | cons _ _ _ ih => simp [ih]
theorem nameIt {h₀ h : Heap} {L a : Addr} {o : Obj} {r : List (Addr × Obj)} (_ : News h₀ L h ((a, o) :: r)) : ∃ D, D = a := ⟨_, rfl⟩
theorem join_tx (css : List (List Nat)) : Str.join (Str.ofString "") (css.map Tx) = Tx css.flatten := by
  induction css with
  | nil => rfl
  | cons a r ih =>
    cases r with
    | nil => simp [Str.join]
    | cons b r =>
      show Tx a ++ Str.ofString "" ++ Str.join (Str.ofString "") ((b :: r).map Tx) = _
      rw [ih, List.flatten_cons, show Tx a ++ Str.ofString "" = Tx a from (by show Tx a ++ Tx [] = Tx a; rw [Tx.append, List.append_nil]), Tx.append, List.flatten_cons, List.flatten_cons]
section
variable {prog : Program} {w : World} {A : Around} {E : Value → Shared → Prop} {s : Shared}
theorem join_my {D : Addr} {vs : List Value} {n : Nat} {css : List (List Nat)} {t : Tok} {Q : Value → Shared → Prop} (hl : s.heap.get? D = some (W.listOf vs.toArray n)) (hi : StrsAre vs (css.map Tx)) (hz : css.flatten.length + css.length ≤ 1048576)
    (h : ∀ t' k, Q (.str (Tx css.flatten) t') { s with toks := k }) : wpAny (model prog w) A (call (.builtin "str.join") [.str (Str.ofString "") t, .ref D]) Q E s := by
  refine join_listW (ys := css.map Tx) ⟨_, hl, rfl, _, rfl⟩ hi (by decide) ?_ ?_
  · rw [List.map_map, List.length_map, show (fun x : Str => x.length) ∘ Tx = List.length from funext Tx.length, ← List.length_flatten]; exact hz
  · intro t' k
    have e : Txt.join (Str.ofString "") (css.map Tx) = Tx css.flatten := (StrLaws.glued_eq_join _ _).trans (join_tx css)
    rw [e]; exact h t' k
end

def enc16 (c : Nat) : List Int := if c > 65535 then [55296 + ((c : Int) - 65536) / 1024, 56320 + ((c : Int) - 65536) % 1024] else [(c : Int)]
/-- the units of a text -/
def units (cs : List Nat) : List Int := cs.flatMap enc16
/-- the octets of units -/
def octets2 (us : List Int) : List Int := us.flatMap fun u => [u / 256, u % 256]
/-- a sign that is shifted -/
def Shifted (c : Nat) : Prop := c ≤ 1114111 ∧ ¬ (32 ≤ c ∧ c ≤ 126) ∧ ¬ (55296 ≤ c ∧ c ≤ 57343)
/-- the state between two units -/
def Mid (us : List Int) (cs ss : List Nat) (high : Int) (i : Nat) : Prop :=
  ∃ rest, cs = ss ++ rest ∧ ((high = 0 ∧ us.drop i = units rest) ∨ ∃ c r, rest = c :: r ∧ c > 65535 ∧ high = 55296 + ((c : Int) - 65536) / 1024 ∧ us.drop i = (56320 + ((c : Int) - 65536) % 1024) :: units r)
theorem qb {c : Nat} (h : c ≤ 1114111) (h' : c > 65535) : 0 ≤ ((c : Int) - 65536) / 1024 ∧ ((c : Int) - 65536) / 1024 < 1024 := by omega
theorem octets2_getD : ∀ (us : List Int) (i : Nat), i < us.length → (octets2 us).getD (2 * i) 0 = us.getD i 0 / 256 ∧ (octets2 us).getD (2 * i + 1) 0 = us.getD i 0 % 256
  | [], i, h => by simp at h
  | u :: us, 0, _ => by simp [octets2]
  | u :: us, i + 1, h => by
    have := octets2_getD us i (by simpa using h)
    have e : octets2 (u :: us) = u / 256 :: u % 256 :: octets2 us := rfl
    rw [e, show 2 * (i + 1) = 2 * i + 1 + 1 by omega, List.getD_cons_succ, List.getD_cons_succ, List.getD_cons_succ, show 2 * i + 1 + 1 + 1 = (2 * i + 1) + 1 + 1 by omega, List.getD_cons_succ, List.getD_cons_succ]
    exact this
theorem octets2_length (us : List Int) : (octets2 us).length = 2 * us.length := by
  induction us with
  | nil => rfl
  | cons u us ih =>
    have e : octets2 (u :: us) = u / 256 :: u % 256 :: octets2 us := rfl
    rw [e, List.length_cons, List.length_cons, ih, List.length_cons]; omega
theorem drop_cons {us r : List Int} {u : Int} {i : Nat} (h : us.drop i = u :: r) : i < us.length ∧ us.getD i 0 = u ∧ us.drop (i + 1) = r := by
  have hl : i < us.length := by
    have := congrArg List.length h
    rw [List.length_drop, List.length_cons] at this; omega
  rw [List.drop_eq_getElem_cons hl] at h
  injection h with h1 h2
  exact ⟨hl, by rw [List.getD_eq_getElem?_getD, List.getElem?_eq_getElem hl]; exact h1, h2⟩
theorem TurnNext.ofP {ρ : Type} {h₀ : Heap} {L : Addr} {x : Str} {fm : ρ × (Str → Option Value) → Str → Option Value} {fn : ρ × (Str → Option Value) → List (Addr × Obj)} {R : ρ × (Str → Option Value) → Prop} {own : List (Addr × Obj)} {s₁ : Shared} {h' : Heap} {tk' : Nat} {m' : Str → Option Value} (r' : ρ) (F : Fr h₀ L h' m') (N : News h₀ L h' (fn (r', m') ++ own))
    (hm : ∀ z, z ≠ x → m' z = fm (r', m') z) (r : R (r', m')) : TurnNext h₀ L x fm fn R own s₁ { s₁ with heap := h', toks := tk' } := ⟨h', tk', m', (r', m'), rfl, F, N, hm, r⟩
theorem strs_snoc_c {vs : List Value} {ss : List Nat} {c k : Nat} {t : Tok} (h : StrsAre vs ((ss.map fun c => [c]).map Tx)) (e : k = c) : StrsAre (vs ++ [.str (Tx [k]) t]) (((ss ++ [c]).map fun c => [c]).map Tx) := by
  subst e
  rw [List.map_append, List.map_append]
  exact strs_snoc h
theorem flat_ones (ss : List Nat) : (ss.map fun c => [c]).flatten = ss := by
  induction ss with
  | nil => rfl
  | cons a r ih => simp [ih]
theorem units_len (cs : List Nat) : (units cs).length ≤ 2 * cs.length := by
  induction cs with
  | nil => simp [units]
  | cons c r ih =>
    have e : units (c :: r) = enc16 c ++ units r := rfl
    have : (enc16 c).length ≤ 2 := by unfold enc16; split <;> simp
    rw [e, List.length_append, List.length_cons]; omega
local macro_rules | `(tactic| walk_at "mine frU") => `(tactic| (refine fmU_hm fun z h1 h2 => ?_; simp only [List.contains_cons, List.contains_nil, Bool.or_false, Bool.or_eq_false_iff, beq_eq_false_iff_ne, ne_eq] at h2; (try dsimp only); (repeat' split) <;> first | rfl | (exfalso; simp_all; done) | (simp_all; done)))
section
variable {prog : Program} {w : World} {dp un : Nat} {fr : Option (List Env)} {gd : Option (List Code)} {s : Shared} {mean : ExcName → Option Value} {mg mb : Str → Option Value}
theorem units_text_spec {b : Array UInt8} {cs : List Nat} {i : Int} {t t2 : Tok} (X : (hd.heap_39 w.params).In s.heap) (T : TopZ mean mg mb s.heap) (hdp : dp + 2 < recursionLimit) (hun : un + 40 < cLine)
    (hk : KBw.bInts b = octets2 (units cs)) (hi : 0 ≤ i ∧ i ≤ 100000) (hz : cs.length ≤ 100) (hc : ∀ c ∈ cs, Shifted c) :
    Ret prog w dp un fr gd (.ref 151) [.bytes b t, .int i t2] s (IsS (Tx cs)) := by
  refine Ret.enter (binds := [(Str.ofString "raw", Value.bytes b t), (Str.ofString "begin", Value.int i t2)]) X T (by k_dflt k_is) (by k_dflt k_is) (by omega) (BindsTo.of_eq rfl) (locs rfl) (fun L' h' F' N' => ?_) (by decide)
  have hul : (units cs).length ≤ 200 := Nat.le_trans (units_len cs) (by omega)
  have hol := octets2_length (units cs)
  walk_at "mine steps"
  refine For_invVF (by assumption) rfl rfl ?_
  walk_at "mine steps"
  obtain ⟨D, hD⟩ := nameIt ‹News s.heap L' _ [(_, W.listOf #[] 0)]›
  subst hD
  refine' iter_rangeS (L := L') (n := (units cs).length) (fmU [Str.ofString "at", Str.ofString "code"] fun (ρ : List Nat × List Value × Nat × Int × Tok) y => if y = Str.ofString "high" then some (.int ρ.2.2.2.1 ρ.2.2.2.2) else if y = Str.ofString "signs" then some (.ref D) else List.lookup y [(Str.ofString "raw", Value.bytes b t), (Str.ofString "begin", Value.int i t2)].reverse) (fun σ => [(D, W.listOf σ.1.2.1.toArray σ.1.2.2.1)])
    (fun j σ => (fun (ρ : List Nat × List Value × Nat × Int × Tok) => StrsAre ρ.2.1 ((ρ.1.map fun c => [c]).map Tx) ∧ Mid (units cs) cs ρ.1 ρ.2.2.2.1 j ∧ ρ.1.length ≤ j) σ.1) (([], [], 0, 0, ?tk), ?m₀) rfl ?hh ?hr ?sm ?sz ?F ?N ?j ?adr ?turn ?done
  case hh => rfl
  case hr => assumption
  case N => assumption
  case F => refine Fr.startU ?_; assumption
  case sz => rw [hol]; exact size_two2 _
  case sm => rw [hol]; exact small0 (Nat.le_trans (Nat.mul_le_mul_left 2 hul) (by decide)) (by decide) (size_two2 _) (Nat.le_trans hul (by decide))
  case j => exact ⟨.nil, ⟨cs, rfl, .inl ⟨rfl, rfl⟩⟩, Nat.le_refl _⟩
  case adr => exact fun _ => rfl
  case turn =>
    rintro j tc ⟨⟨ss, vs, n, high, th⟩, u⟩ h tk own hj ⟨hS, ⟨rest, hrest, hM⟩, hsl⟩ hoff F' N'
    dsimp only [fmU] at hS hrest hM hsl hoff F' N' ⊢
    have hvl : vs.length ≤ 200 := by
      have := strs_len hS
      rw [List.length_map, List.length_map] at this
      exact Nat.le_trans (Nat.le_of_eq this) (Nat.le_trans hsl (Nat.le_trans (Nat.le_of_lt hj) hul))
    have hg := octets2_getD (units cs) j hj
    rw [show 2 * j = (0 + (j : Int) * 2).toNat by rw [bn2, Nat.mul_comm]] at hg
    rw [show (0 + (j : Int) * 2).toNat + 1 = (0 + (j : Int) * 2 + 1).toNat from (tn1 (Int.add_nonneg (by decide) (Int.natCast_nonneg (j * 2)))).symm] at hg
    have hcode := (congr (congrArg (fun x y => x * 256 + y) hg.1) hg.2).trans (Int.ediv_mul_add_emod ..)
    clear hg
    rcases hM with ⟨rfl, hd⟩ | ⟨c, r, rfl, hc6, hh6, hd⟩
    · cases rest with
      | nil =>
        exfalso
        have := congrArg List.length hd
        rw [List.length_drop, show units [] = [] from rfl, List.length_nil] at this; omega
      | cons c r =>
        have hsh : Shifted c := hc c (by rw [hrest]; simp)
        unfold Shifted at hsh
        by_cases h6 : c > 65535
        · have hd' : (units cs).drop j = (55296 + ((c : Int) - 65536) / 1024) :: (56320 + ((c : Int) - 65536) % 1024) :: units r := by rw [hd]; simp [units, enc16, h6]
          obtain ⟨_, hu, hd2⟩ := drop_cons hd'
          rw [hu] at hcode
          have hq0 := qb hsh.1 h6
          clear hu hd'
          generalize hq : ((c : Int) - 65536) / 1024 = q at hcode hq0
          walk_at "mine steps"
          refine' TurnNext.ofP (ss, vs, n, _, _) ?F ?N ?hm ?r
          case F => assumption
          case N => assumption
          case hm => walk_at "mine frU"
          case r => exact ⟨hS, ⟨c :: r, hrest, .inr ⟨c, r, rfl, h6, by dsimp only; rw [hcode, hq], hd2⟩⟩, Nat.le_succ_of_le hsl⟩
        · have hd' : (units cs).drop j = (c : Int) :: units r := by rw [hd]; simp [units, enc16, h6]
          obtain ⟨_, hu, hd2⟩ := drop_cons hd'
          rw [hu] at hcode
          clear hu hd'
          walk_at "mine steps"
          all_goals
            refine' TurnNext.ofP (ss ++ [c], _, _, 0, th) ?F ?N ?hm ?r
            case F => assumption
            case N => assumption
            case hm => walk_at "mine frU"
            case r => exact ⟨strs_snoc_c hS (by rw [hcode]; rfl), ⟨r, by rw [hrest]; simp, .inl ⟨rfl, hd2⟩⟩, by dsimp only; rw [List.length_append]; exact Nat.succ_le_succ hsl⟩
    · have hsh : Shifted c := hc c (by rw [hrest]; simp)
      unfold Shifted at hsh
      obtain ⟨_, hu, hd2⟩ := drop_cons hd
      rw [hu] at hcode
      clear hu
      have hq0 := qb hsh.1 hc6
      have hr0 := Int.emod_nonneg ((c : Int) - 65536) (show (1024 : Int) ≠ 0 by decide)
      have hr1 := Int.emod_lt_of_pos ((c : Int) - 65536) (show (0 : Int) < 1024 by decide)
      have hqr := Int.mul_ediv_add_emod ((c : Int) - 65536) 1024
      clear hd
      generalize ((c : Int) - 65536) / 1024 = q at hh6 hq0 hqr
      generalize ((c : Int) - 65536) % 1024 = rr at hcode hqr hr0 hr1
      walk_at "mine steps"
      refine' TurnNext.ofP (ss ++ [c], _, _, 0, _) ?F ?N ?hm ?r
      case F => assumption
      case N => assumption
      case hm => walk_at "mine frU"
      case r => exact ⟨strs_snoc_c hS (by walk_at "mine num"), ⟨r, by rw [hrest]; simp, .inl ⟨rfl, hd2⟩⟩, by dsimp only; rw [List.length_append]; exact Nat.succ_le_succ hsl⟩
  case done =>
    rintro ⟨⟨ss, vs, n, high, th⟩, u⟩ vx h tk ⟨hS, ⟨rest, hrest, hM⟩, hsl⟩ F' N'
    dsimp only [fmU] at hS hrest hM F' N' ⊢
    rw [List.drop_length] at hM
    rcases hM with ⟨rfl, hd⟩ | ⟨c, r, rfl, hc6, hh6, hd⟩
    · walk_at "mine steps"
      dsimp only at hsl
      refine join_my (N'.get (.head _)) hS (by rw [flat_ones, List.length_map]; omega) fun t' k => ?_
      walk_at "mine steps"
      refine Back.of F' ⟨_, congrArg (fun z => Value.str z _) ?_⟩
      cases rest with
      | nil => rw [hrest, List.append_nil]; congr 1; exact flat_ones ss
      | cons c r =>
        exfalso
        have := congrArg List.length hd
        have e : units (c :: r) = enc16 c ++ units r := rfl
        rw [e, List.length_append, List.length_nil] at this
        have h1 : 1 ≤ (enc16 c).length := by unfold enc16; split <;> simp
        omega
    · cases hd
end

local macro_rules | `(tactic| walk_at "call ref") => `(tactic| ((with_reducible show wpAny _ _ (call (Value.ref 151) _) _ _ _); k_dflt (refine Ret.useS (units_text_spec (by k_in) (by walk_at "mine top") (by walk_at "mine room") (by walk_at "mine room") (by assumption) (by omega) (by walk_at "mine size") (by assumption)) (by k_asm) (by k_asm) ?_; k_whole); intro _ _ _ _ _))

local macro_rules | `(tactic| walk_at "call ref") => `(tactic| ((with_reducible show wpAny _ _ (call (Value.ref 102) _) _ _ _); k_dflt (refine Ret.use (part_decoded_spec (sg := signs) (by k_in) (by walk_at "mine top") (by walk_at "mine room") (by walk_at "mine room") (by assumption) (by decide +kernel) (by assumption) (by assumption) (by assumption) (by walk_at "mine size") (by assumption) (by assumption)) (by k_asm) (by k_asm) ?_; k_whole); intro r' h' tk' e' F' N'; obtain ⟨a', t', e', hb'⟩ := e'; subst e'; rw [show decoded _ = octets2 _ by assumption] at hb'))
section
variable {prog : Program} {w : World} {dp un : Nat} {fr : Option (List Env)} {gd : Option (List Code)} {s : Shared} {mean : ExcName → Option Value} {mg mb : Str → Option Value}
theorem shifted_text_spec {b : Array UInt8} {ks : List Int} {cs : List Nat} {i e : Int} {t t2 t3 : Tok} (X : (hd.heap_39 w.params).In s.heap) (T : TopZ mean mg mb s.heap) (hdp : dp + 7 < recursionLimit) (hun : un + 120 < cLine)
    (hk : KBw.bInts b = ks) (hz : ks.length ≤ 1000) (hi : 0 ≤ i) (hie : i ≤ e) (he : e ≤ ks.length) (hzc : cs.length ≤ 100) (hc : ∀ c ∈ cs, Shifted c)
    (hcut : (ks.drop i.toNat).take (e.toNat - i.toNat) = encoded signs (octets2 (units cs))) (hm : ∀ k ∈ encoded signs (octets2 (units cs)), k ∈ signs) (h1 : (encoded signs (octets2 (units cs))).length % 4 ≠ 1)
    (hsp : spare0 (nums signs (encoded signs (octets2 (units cs))))) (hdec : decoded (nums signs (encoded signs (octets2 (units cs)))) = octets2 (units cs)) :
    Ret prog w dp un fr gd (.ref 158) [.bytes b t, .int i t2, .int e t3] s (IsS (Tx cs)) := by
  refine Ret.enter (binds := [(Str.ofString "octets", Value.bytes b t), (Str.ofString "begin", Value.int i t2), (Str.ofString "end", Value.int e t3)]) X T (by k_dflt k_is) (by k_dflt k_is) (by omega) (BindsTo.of_eq rfl) (locs rfl) (fun L' h' F' N' => ?_) (by decide)
  have hs : signs.length = 64 := by decide
  have hnd : signs.Nodup := by decide
  have hzl : (encoded signs (octets2 (units cs))).length ≤ 1000 := by
    rw [← hcut, List.length_take, List.length_drop]; omega
  have hol := octets2_length (units cs)
  have hul := units_len cs
  walk_at "mine steps"
  rename KBw.bInts (KBy.picked _ _ _) = _ => kP
  rw [clipAt_in (by omega) (by omega), clipAt_in (by omega) (by omega), hcut] at kP
  walk_at "mine steps"
  · exfalso
    rename Int.fmod _ _ = 1 => h9
    rw [Int.fmod_eq_emod_of_nonneg _ (by decide)] at h9
    omega
  · exact Back.of (by assumption) ⟨_, rfl⟩
end

local macro_rules | `(tactic| walk_at "call ref") => `(tactic| ((with_reducible show wpAny _ _ (call (Value.ref 158) _) _ _ _); k_dflt (refine Ret.useS (shifted_text_spec (by k_in) (by walk_at "mine top") (by walk_at "mine room") (by walk_at "mine room") (by kba_ints) (by walk_at "mine size") (by omega) (by omega) (by omega) (by assumption) (by assumption) (by assumption) (by assumption) (by assumption) (by assumption) (by assumption)) (by k_asm) (by k_asm) ?_; k_whole); intro _ _ _ _ _))

/-- the octets of a text in modified UTF-7, piece by piece -/
inductive Enc7 : List Nat → List Int → Prop
  | nil : Enc7 [] []
  | amp {cs : List Nat} {ks : List Int} : Enc7 cs ks → Enc7 (38 :: cs) (38 :: 45 :: ks)
  | plain {c : Nat} {cs : List Nat} {ks : List Int} : 32 ≤ c → c ≤ 126 → c ≠ 38 → Enc7 cs ks → Enc7 (c :: cs) ((c : Int) :: ks)
  | shift {run cs : List Nat} {ks : List Int} : run ≠ [] → run.length ≤ 100 → (∀ c ∈ run, Shifted c) → (cs = [] ∨ ∃ c r, cs = c :: r ∧ 32 ≤ c ∧ c ≤ 126) → Enc7 cs ks → Enc7 (run ++ cs) (38 :: (encoded signs (octets2 (units run)) ++ 45 :: ks))
/-- what is known of the code of a run -/
structure RunFacts (run : List Nat) : Prop where
  hm : ∀ k ∈ encoded signs (octets2 (units run)), k ∈ signs
  h1 : (encoded signs (octets2 (units run))).length % 4 ≠ 1
  hsp : spare0 (nums signs (encoded signs (octets2 (units run))))
  hdec : decoded (nums signs (encoded signs (octets2 (units run)))) = octets2 (units run)
  pos : 1 ≤ (encoded signs (octets2 (units run))).length
theorem WNext.ofP {ρ : Type} {h₀ : Heap} {L : Addr} {fm : ρ × (Str → Option Value) → Str → Option Value} {fn : ρ × (Str → Option Value) → List (Addr × Obj)} {R : ρ × (Str → Option Value) → Prop} {μ : ρ × (Str → Option Value) → Nat} {k : Nat} {s₁ : Shared} {h' : Heap} {tk' : Nat} {m' : Str → Option Value} (r' : ρ) (F : Fr h₀ L h' m') (N : News h₀ L h' (fn (r', m')))
    (hm : ∀ z, m' z = fm (r', m') z) (r : R (r', m')) (hk : μ (r', m') < k) : WNext h₀ L fm fn R μ k s₁ { s₁ with heap := h', toks := tk' } := ⟨h', tk', (r', m'), rfl, Fr.as F (funext hm), N, r, hk⟩
theorem Fr.eta {h₀ h : Heap} {L : Addr} {m : Str → Option Value} (F : Fr h₀ L h m) : Fr h₀ L h (fun y => m y) := F
theorem fmU_hw {ρ : Type} {stored : List Str} {g : ρ → Str → Option Value} {r : ρ} {m' : Str → Option Value} (h : ∀ z, stored.contains z = false → m' z = g r z) : ∀ z, m' z = fmU stored g (r, m') z := fun z => by
  show m' z = if stored.contains z then m' z else g r z
  cases e : stored.contains z with
  | true => simp
  | false => simpa using h z e
theorem sEnd_run {ks r : List Int} {b : Nat} {en : List Int} (hd : ks.drop b = en ++ 45 :: r) (hm : ∀ k ∈ en, k ∈ signs) : sEnd ks b = b + en.length ∧ b + en.length < ks.length ∧ ks.getD (b + en.length) 0 = 45 ∧ ks.drop (b + en.length + 1) = r ∧ (ks.drop b).take en.length = en := by
  have hl := congrArg List.length hd
  rw [List.length_drop, List.length_append, List.length_cons] at hl
  refine ⟨?_, by omega, ?_, ?_, ?_⟩
  · unfold sEnd
    rw [hd, List.takeWhile_append_of_pos (fun k hk => by simpa using hm k hk), List.takeWhile_cons_of_neg (by decide)]
    simp
  · have := congrArg (fun l => l.getD en.length 0) hd
    simp only [List.getD_eq_getElem?_getD, List.getElem?_drop] at this
    rw [List.getD_eq_getElem?_getD, this]
    simp
  · rw [← List.drop_drop, ← List.drop_drop, hd]
    simp
  · rw [hd]; simp
local macro_rules | `(tactic| walk_at "mine frW") => `(tactic| (refine fmU_hw fun z h2 => ?_; have h3 := h2; simp only [List.contains_cons, List.contains_nil, Bool.or_false, Bool.or_eq_false_iff, beq_eq_false_iff_ne, ne_eq] at h3; by_cases q1 : z = Str.ofString "shift_end"; (subst q1; rfl); by_cases q2 : z = Str.ofString "at"; (subst q2; rfl); by_cases q3 : z = Str.ofString "pieces"; (subst q3; rfl); dsimp only; simp only [if_neg q1, if_neg q2, if_neg q3, if_neg h3.1, if_neg h3.2, h2, Bool.false_eq_true, if_false]))
section
variable {prog : Program} {w : World} {dp un : Nat} {fr : Option (List Env)} {gd : Option (List Code)} {s : Shared} {mean : ExcName → Option Value} {mg mb : Str → Option Value}
theorem utf7_text_spec {b : Array UInt8} {ks : List Int} {cs : List Nat} {t : Tok} (X : (hd.heap_39 w.params).In s.heap) (T : TopZ mean mg mb s.heap) (hdp : dp + 9 < recursionLimit) (hun : un + 160 < cLine)
    (hk : KBw.bInts b = ks) (hz : ks.length ≤ 900) (hzc : cs.length ≤ 100) (hE : Enc7 cs ks) (hRF : ∀ run, run ≠ [] → (∀ c ∈ run, Shifted c) → RunFacts run) :
    Ret prog w dp un fr gd (.ref 165) [.bytes b t] s (IsS (Tx cs)) := by
  refine Ret.enter (binds := [(Str.ofString "octets", Value.bytes b t)]) X T (by k_dflt k_is) (by k_dflt k_is) (by omega) (BindsTo.of_eq rfl) (locs rfl) (fun L' h' F' N' => ?_) (by decide)
  walk_at "mine steps"
  obtain ⟨D, hD⟩ := nameIt ‹News s.heap L' _ [(_, W.listOf #[] 0)]›
  subst hD
  refine' whileS (L := L') PassesOwn.never (fmU [Str.ofString "code", Str.ofString "end"] fun (ρ : List (List Nat) × List Value × Nat × (Int × Tok) × (Int × Tok)) y => if y = Str.ofString "shift_end" then some (.int ρ.2.2.2.2.1 ρ.2.2.2.2.2) else if y = Str.ofString "at" then some (.int ρ.2.2.2.1.1 ρ.2.2.2.1.2) else if y = Str.ofString "pieces" then some (.ref D) else List.lookup y [(Str.ofString "octets", Value.bytes b t)].reverse) (fun σ => [(D, W.listOf σ.1.2.1.toArray σ.1.2.2.1)])
    (fun σ => (fun (ρ : List (List Nat) × List Value × Nat × (Int × Tok) × (Int × Tok)) => StrsAre ρ.2.1 (ρ.1.map Tx) ∧ 0 ≤ ρ.2.2.2.1.1 ∧ ρ.2.2.2.1.1 ≤ ks.length ∧ ρ.1.length ≤ ρ.2.2.2.1.1 ∧ ρ.2.2.2.2.1 ≤ ρ.2.2.2.1.1 ∧ ∃ rest, cs = ρ.1.flatten ++ rest ∧ Enc7 rest (ks.drop ρ.2.2.2.1.1.toNat) ∧ (ρ.2.2.2.1.1 = ρ.2.2.2.2.1 → rest = [] ∨ ∃ c r, rest = c :: r ∧ 32 ≤ c ∧ c ≤ 126)) σ.1) (fun σ => (ks.length - σ.1.2.2.2.1.1).toNat) (([], [], 0, (0, ?ta), (-1, ?te)), ?m₀) ?F ?N ?j ?turn
  case N => assumption
  case F => refine Fr.startU ?_; assumption
  case j => exact ⟨.nil, by dsimp only; omega, by dsimp only; omega, by dsimp only; simp, by dsimp only; omega, cs, rfl, hE, fun h => by dsimp only at h; omega⟩
  rintro ⟨⟨css, vs, n, ⟨a, ta⟩, ⟨se, te⟩⟩, u⟩ h tk ⟨hS, ha0, hal, hcl, hsa, rest, hrest, hEr, hse⟩ F' N'
  replace F' := Fr.eta F'
  dsimp only [fmU] at hS ha0 hal hcl hsa hrest hEr hse F' N' ⊢
  have hvl : vs.length ≤ 900 := by
    have := strs_len hS
    rw [List.length_map] at this
    exact Nat.le_trans (Nat.le_of_eq this) (Nat.le_trans (Int.ofNat_le.mp (Int.le_trans hcl hal)) hz)
  generalize hdr : ks.drop a.toNat = kr at hEr
  cases hEr with
  | nil =>
    have hae : a = ks.length := by
      have := congrArg List.length hdr
      rw [List.length_drop, List.length_nil] at this
      exact Int.le_antisymm hal (Int.le_trans (Int.ofNat_le.mpr (Nat.le_of_sub_eq_zero this)) (Int.le_of_eq (Int.toNat_of_nonneg ha0)))
    walk_at "mine steps"
    refine join_my (N'.get (.head _)) hS (by have := congrArg List.length hrest; rw [List.length_append, List.length_nil] at this; omega) fun t' k => ?_
    walk_at "mine steps"
    refine Back.of F' ⟨_, congrArg (fun z => Value.str z _) ?_⟩
    rw [hrest, List.append_nil]
  | @amp cs' ks' hE' =>
    obtain ⟨hal', hg0, hd1⟩ := drop_cons hdr
    have hr := sEnd_run (en := []) hd1 (fun k hk => by cases hk)
    have e1 : a.toNat + 1 = (a + 1).toNat := (tn1 ha0).symm
    rw [e1] at hr
    obtain ⟨hr1, hr2, hr3, hr4, _⟩ := hr
    rw [List.length_nil, Nat.add_zero] at hr1 hr2 hr3 hr4
    have q1 : sEnd ks (a + 1).toNat < ks.length := Nat.lt_of_le_of_lt (Nat.le_of_eq hr1) hr2
    have q2 : ks.getD (sEnd ks (a + 1).toNat) 0 = 45 := by rw [hr1]; exact hr3
    walk_at "mine steps"
    any_goals (exfalso; omega; done)
    show WNext _ _ _ _ _ _ _ _ _
    refine' WNext.ofP (css ++ [[38]], vs ++ [_], _, ((sEnd ks (a + 1).toNat : Int) + 1, _), (se, te)) ?F ?N ?hm ?r ?hk
    case F => assumption
    case N => dsimp only; rw [← List.push_toArray]; assumption
    case hm => walk_at "mine frW"
    case hk => exact tnlt' ((Int.toNat_lt ha0).mp hal') (Int.lt_add_one_of_le (Int.le_trans (Int.le_of_lt (Int.lt_succ a)) (Int.le_of_eq (by rw [hr1, Int.toNat_of_nonneg (Int.add_nonneg ha0 (by decide))]))))
    case r =>
      have e3 : ((sEnd ks (a + 1).toNat : Int) + 1).toNat = (a + 1).toNat + 1 := congrArg (· + 1) hr1
      refine ⟨by rw [List.map_append]; exact strs_snoc hS, by dsimp only; omega, by dsimp only; omega, by dsimp only; rw [List.length_append, List.length_singleton]; omega, by dsimp only; omega, cs', by rw [hrest]; simp, ?_, fun h => ?_⟩
      · dsimp only; rw [e3, hr4]; exact hE'
      · dsimp only at h; omega
  | @plain c cs' ks' h32 h126 h38 hE' =>
    obtain ⟨hal', hg0, hd1⟩ := drop_cons hdr
    walk_at "mine steps"
    any_goals (exfalso; omega; done)
    show WNext _ _ _ _ _ _ _ _ _
    refine' WNext.ofP (css ++ [[c]], vs ++ [_], _, (a + 1, _), (se, te)) ?F ?N ?hm ?r ?hk
    case F => assumption
    case N => dsimp only; rw [← List.push_toArray]; assumption
    case hm => walk_at "mine frW"
    case hk => exact tnlt ((Int.toNat_lt ha0).mp hal')
    case r =>
      have e3 : (a + 1).toNat = a.toNat + 1 := tn1 ha0
      have e4 : (ks.getD a.toNat 0).toNat = c := by rw [hg0]; rfl
      refine ⟨by rw [List.map_append, e4]; exact strs_snoc hS, by dsimp only; omega, by dsimp only; omega, by dsimp only; rw [List.length_append, List.length_singleton]; omega, by dsimp only; omega, cs', by rw [hrest]; simp, ?_, fun h => ?_⟩
      · dsimp only; rw [e3, hd1]; exact hE'
      · dsimp only at h; omega
  | @shift run cs' ks' hne hrl hsh hnx hE' =>
    obtain ⟨hal', hg0, hd1⟩ := drop_cons hdr
    obtain ⟨rm, r1, rsp, rdec, rpos⟩ := hRF run hne hsh
    have hr := sEnd_run hd1 rm
    have e1 : a.toNat + 1 = (a + 1).toNat := (tn1 ha0).symm
    rw [e1] at hr
    obtain ⟨hr1, hr2, hr3, hr4, hr5⟩ := hr
    have q1 : sEnd ks (a + 1).toNat < ks.length := Nat.lt_of_le_of_lt (Nat.le_of_eq hr1) hr2
    have q2 : ks.getD (sEnd ks (a + 1).toNat) 0 = 45 := by rw [hr1]; exact hr3
    have q3 : List.take ((sEnd ks (a + 1).toNat : Int).toNat - (a + 1).toNat) (List.drop (a + 1).toNat ks) = encoded signs (octets2 (units run)) := by
      rw [hr1, show ((((a + 1).toNat + (encoded signs (octets2 (units run))).length : Nat) : Int).toNat - (a + 1).toNat) = (encoded signs (octets2 (units run))).length from Nat.add_sub_cancel_left ..]; exact hr5
    have hs1 : (sEnd ks (a + 1).toNat : Int) = a + 1 + ((encoded signs (octets2 (units run))).length : Int) := by rw [hr1, Int.natCast_add, Int.toNat_of_nonneg (Int.add_nonneg ha0 (by decide))]
    walk_at "mine steps"
    any_goals (exfalso; omega; done)
    · exfalso
      rename a = se => h9
      cases run with
      | nil => exact hne rfl
      | cons c0 r0 =>
        have hs0 := hsh c0 (List.mem_cons_self ..)
        unfold Shifted at hs0
        rcases hse h9 with h | ⟨c, r, h, h1, h2⟩
        · simp at h
        · simp only [List.cons_append, List.cons.injEq] at h
          omega
    · show WNext _ _ _ _ _ _ _ _ _
      refine' WNext.ofP (css ++ [run], vs ++ [_], _, ((sEnd ks (a + 1).toNat : Int) + 1, _), ((sEnd ks (a + 1).toNat : Int) + 1, _)) ?F ?N ?hm ?r ?hk
      case F => assumption
      case N => dsimp only; rw [← List.push_toArray]; assumption
      case hm => walk_at "mine frW"
      case hk => exact tnlt' ((Int.toNat_lt ha0).mp hal') (by dsimp only; rw [hs1]; exact Int.lt_add_one_of_le (Int.le_trans (Int.le_of_lt (Int.lt_succ a)) (Int.le_add_of_nonneg_right (Int.natCast_nonneg _))))
      case r =>
        have e3 : ((sEnd ks (a + 1).toNat : Int) + 1).toNat = (a + 1).toNat + (encoded signs (octets2 (units run))).length + 1 := congrArg (· + 1) hr1
        clear hr1 hr2 q2 q3 hal' hse
        refine ⟨by rw [List.map_append]; exact strs_snoc hS, by dsimp only; omega, by dsimp only; omega, by dsimp only; rw [List.length_append, List.length_singleton]; omega, by dsimp only; omega, cs', by rw [hrest]; simp, ?_, fun h => hnx⟩
        dsimp only; rw [e3, hr4]; exact hE'
end


section
variable {prog : Program} {w : World} {A : Around} {E : Value → Shared → Prop} {s : Shared} {h₀ : Heap} {L : Addr} {m : Str → Option Value}
theorem extend_my2 {D b : Addr} {vs ws : List Value} {n n2 : Nat} {ns ms : List Int} {own : List (Addr × Obj)} {Q : Value → Shared → Prop}
    (F : Fr h₀ L s.heap m) (N : News h₀ L s.heap ([(D, W.listOf vs.toArray n)] ++ own)) (hoff : ∀ p ∈ own, p.1 ≠ D) (hb : s.heap.get? b = some (W.listOf ws.toArray n2)) (hi : IntsAre vs ns) (hj : IntsAre ws ms) (hsz : ns.length + ms.length ≤ 16777216)
    (h : ∀ h' n', Fr h₀ L h' m → News h₀ L h' ([(D, W.listOf (vs ++ ws).toArray n')] ++ own) → IntsAre (vs ++ ws) (ns ++ ms) → Q .none { s with heap := h' }) :
    wpAny (model prog w) A (call (.builtin "list.extend") [.ref D, .ref b]) Q E s :=
  extend_in_ints (own := []) (rest := own) (hsz := by rw [sizeLine_eq, hi.length, List.size_toArray, hj.length]; exact hsz) F N (fun _ h => nomatch h) hoff hb hi hj fun h' n' F' N' I' => h h' n' F' N' I'
end
local macro_rules | `(tactic| walk_at "call builtin:list.extend") => `(tactic| ((with_reducible show wpAny _ _ (call (Value.builtin "list.extend") [Value.ref _, Value.ref _]) _ _ _); (refine extend_my2 (by k_asm) (by walk_at "mine led") (by walk_at "mine off") (by exact News.get (by assumption) (.head _)) (by assumption) (by l_ints) (by walk_at "mine size") ?_); intro h' n' F' N' I'))
theorem div_add {a b c d : Int} (h : a = b * c) (hb : b ≠ 0) : (a + d) / b = c + d / b := by rw [h, Int.add_comm, Int.add_mul_ediv_left _ _ hb, Int.add_comm]
theorem mod_add {a b c d : Int} (h : a = b * c) : (a + d) % b = d % b := by rw [h, Int.add_comm, Int.add_mul_emod_self_left]
theorem mod_sub {a b c d : Int} (h : a = b * c) : (d - a) % b = d % b := by rw [h, Int.sub_eq_add_neg, ← Int.mul_neg, Int.add_mul_emod_self_left]
theorem div8 {x : Int} (h : 0 ≤ x ∧ x < 65536) : 0 ≤ x / 256 ∧ x / 256 < 256 := ⟨Int.ediv_nonneg h.1 (by decide), Int.ediv_lt_of_lt_mul (by decide) h.2⟩
theorem lowb (x : Int) : 0 ≤ 56320 + x % 1024 ∧ 56320 + x % 1024 < 65536 := ⟨Int.add_nonneg (by decide) (Int.emod_nonneg _ (by decide)), Int.lt_of_lt_of_le (Int.add_lt_add_left (Int.emod_lt_of_pos x (by decide)) 56320) (by decide)⟩
theorem highb {c : Nat} (h : c ≤ 1114111) (h' : (65535 : Int) < c) : 0 ≤ 55296 + ((c : Int) - 65536) / 1024 ∧ 55296 + ((c : Int) - 65536) / 1024 < 65536 := by omega
theorem size_be {b e : Nat} (h : b ≤ e) : Builtin.Range.rangeSize b e 1 = ((e - b : Nat) : Int) := by
  unfold Builtin.Range.rangeSize
  rw [if_pos (by decide), Int.ofNat_sub h]
  split
  · rw [Int.ediv_one, Int.sub_add_cancel]
  · rename ¬ _ => h'
    rw [Nat.le_antisymm h (Nat.le_of_not_lt fun g => h' (Int.ofNat_lt.mpr g)), Int.sub_self]
theorem enc_big {c : Nat} (h : c > 65535) : octets2 (enc16 c) = [216 + ((c : Int) - 65536).fdiv 262144, (((c : Int) - 65536).fdiv 1024).fmod 256] ++ [(56320 + (c : Int).fmod 1024).fdiv 256, (56320 + (c : Int).fmod 1024).fmod 256] := by
  have e : enc16 c = [55296 + ((c : Int) - 65536) / 1024, 56320 + ((c : Int) - 65536) % 1024] := by unfold enc16; rw [if_pos h]
  rw [e]
  simp only [Int.fdiv_eq_ediv_of_nonneg _ (show (0 : Int) ≤ 262144 by decide), Int.fdiv_eq_ediv_of_nonneg _ (show (0 : Int) ≤ 1024 by decide), Int.fdiv_eq_ediv_of_nonneg _ (show (0 : Int) ≤ 256 by decide), Int.fmod_eq_emod_of_nonneg _ (show (0 : Int) ≤ 1024 by decide), Int.fmod_eq_emod_of_nonneg _ (show (0 : Int) ≤ 256 by decide)]
  simp only [octets2, List.flatMap_cons, List.flatMap_nil, List.append_nil, List.cons_append, List.nil_append, List.cons.injEq, and_true]
  rw [mod_sub (show (65536 : Int) = 1024 * 64 from rfl), div_add (show (55296 : Int) = 256 * 216 from rfl) (by decide), mod_add (show (55296 : Int) = 256 * 216 from rfl), Int.ediv_ediv_of_nonneg (by decide)]
  exact ⟨rfl, rfl, rfl, rfl⟩
theorem enc_small {c : Nat} (h : ¬ c > 65535) : octets2 (enc16 c) = [(c : Int).fdiv 256, (c : Int).fmod 256] := by
  have e : enc16 c = [(c : Int)] := by unfold enc16; rw [if_neg h]
  rw [e]
  simp only [Int.fdiv_eq_ediv_of_nonneg _ (show (0 : Int) ≤ 256 by decide), Int.fmod_eq_emod_of_nonneg _ (show (0 : Int) ≤ 256 by decide)]
  rfl
section
variable {prog : Program} {w : World} {dp un : Nat} {fr : Option (List Env)} {gd : Option (List Code)} {s : Shared} {mean : ExcName → Option Value} {mg mb : Str → Option Value}
theorem law_units_spec {l : Addr} {vs : List Value} {cs : List Nat} (X : (hd.heap_39 w.params).In s.heap) (T : TopZ mean mg mb s.heap) (hdp : dp + 2 < recursionLimit) (hun : un + 40 < cLine)
    (hl : s.heap.IsList l vs.toArray) (hi : IntsAre vs (cs.map fun c : Nat => (c : Int))) (hc : ∀ c ∈ cs, c ≤ 1114111) (hz : cs.length ≤ 100) :
    Ret prog w dp un fr gd (.ref 193) [.ref l] s (fun r _ => ∃ b' t', r = .bytes b' t' ∧ KBw.bInts b' = octets2 (units cs)) := by
  refine Ret.enter (binds := [(Str.ofString "codes", Value.ref l)]) X T (by k_dflt k_is) (by k_dflt k_is) (by omega) (BindsTo.of_eq rfl) (locs rfl) (fun L' h' F' N' => ?_) (by decide)
  walk_at "mine steps"
  refine For_invVF (by assumption) rfl rfl ?_
  walk_at "mine steps"
  obtain ⟨D, hD⟩ := nameIt ‹News s.heap L' _ [(_, W.listOf #[] 0)]›
  subst hD
  refine' iter_listS (L := L') (fun (_ : List Value × Nat) => ?m₀) (fun σ => [(D, W.listOf σ.1.toArray σ.2)]) (fun i σ => IntsAre σ.1 (octets2 (units (cs.take i)))) ([], 0) rfl ?hh hl hi ?F ?N ?j ?adr ?turn ?done
  case hh => rfl
  case F => assumption
  case N => assumption
  case j => exact IntsAre.nil
  case adr => exact fun _ => rfl
  case turn =>
    rintro i k tc ⟨ws, n⟩ h tk own hik hR hoff F' N'
    dsimp only at hR hoff F' N' ⊢
    obtain ⟨hil, hie⟩ := List.getElem?_eq_some_iff.mp hik
    rw [List.length_map] at hil
    rw [List.getElem_map] at hie
    have hcb := hc cs[i] (List.getElem_mem _)
    have hstep : octets2 (units (cs.take (i + 1))) = octets2 (units (cs.take i)) ++ octets2 (enc16 cs[i]) := by
      rw [List.take_succ_eq_append_getElem hil]
      simp only [units, octets2, List.flatMap_append, List.flatMap_cons, List.flatMap_nil, List.append_nil]
    have hwl : (octets2 (units (cs.take i))).length ≤ 400 := by
      rw [octets2_length]
      have := units_len (cs.take i)
      rw [List.length_take] at this; omega
    subst hie
    walk_at "mine steps"
    all_goals
      refine TurnNext.of (_, _) (by assumption) (by assumption) (fun z hz => by (try dsimp only); (try simp only [if_neg hz]); (try rfl)) ?_
      rename IntsAre (_ ++ _) _ => hI
      dsimp only
    · rw [hstep, enc_big (by omega), ← List.append_assoc]; exact hI
    · rw [hstep, enc_small (by omega)]; exact hI
  case done =>
    rintro ⟨ws, n⟩ vx h tk hR F' N'
    dsimp only at hR F' N' ⊢
    rw [List.length_map, List.take_length] at hR
    have hB : KBa.In (octets2 (units cs)) := by
      intro n hn
      obtain ⟨u, hu, hn⟩ := List.mem_flatMap.mp hn
      obtain ⟨c, hcc, hu⟩ := List.mem_flatMap.mp hu
      have := hc c hcc
      have hub : 0 ≤ u ∧ u ≤ 65535 := by
        unfold enc16 at hu
        split at hu <;> simp at hu <;> omega
      simp at hn; omega
    have hwl : (octets2 (units cs)).length ≤ 400 := by
      rw [octets2_length]
      have := units_len cs; omega
    walk_at "mine steps"
    exact Back.of (by assumption) ⟨_, _, rfl, KBa.ints_make hB⟩
end


/-! an own exception class whose __init__ stands in its own base class -/
section
variable {M : Model} {A : Around} {E : Value → Shared → Prop} {h : Heap} {g : Array GenState} {d : Drawn} {t : Nat} {os : OsState}
variable {nm q : Str} {C N : Addr} {bs bm bmB : List Value} {hdct : Bool} {sn : List Str} {sub : List Value} {ab : Bool} {col : Option Bool} {dd : Option Addr} {k0 k1 k2 k3 k5 : Option Value} {B newId initId : String}
theorem exc_check_new (F : ExcBaseFacts B newId initId bmB) (hcont : (Value.ref C :: bm).contains (.type B) = true) {rest : List Value} {Q : Unit → Shared → Prop} (hC : h.get? C = some (excClassObj nm q C N bs bm hdct sn sub ab col dd k0 k1 k2 k3 k5 newId))
    (hq : Q () ⟨h, g, d, t, os⟩) : wpAny M A (checkBuiltinCall newId ⟨.ref C :: rest, []⟩) Q E ⟨h, g, d, t, os⟩ := by
  have hstar := F.noStar
  simp only [checkBuiltinCall, F.newKind, F.newSplit, F.newRow]
  repeat (first | refine wpAny_loadPart_at hC ?_ | (refine wpAny_isSubtype_exc hC ?_; rw [hcont]) | refine wpAny_staticBase_exc hC ?_ | refine wpAny_madeBy_exc hC ?_ | simp only [bne_self_eq_false, Bool.false_eq_true, if_false] | wp_step)
  repeat (first | refine wpAny_loadPart_at hC ?_ | (refine wpAny_isSubtype_exc hC ?_; rw [hcont]) | refine wpAny_staticBase_exc hC ?_ | refine wpAny_madeBy_exc hC ?_ | simp only [bne_self_eq_false, Bool.false_eq_true, if_false] | wp_step)
  exact hq
end
section
variable {prog : Program} {w : World} {A : Around} {R : Result → Shared → Prop} {E : Value → Shared → Prop} {h : Heap} {g : Array GenState} {d : Drawn} {t : Nat} {os : OsState}
variable {nm q : Str} {C N : Addr} {bs bm bmB : List Value} {hdct : Bool} {sn : List Str} {sub : List Value} {ab : Bool} {col : Option Bool} {dd : Option Addr} {k0 k1 k2 k3 k5 : Option Value} {B newId initId : String}
theorem exc_new (F : ExcBaseFacts B newId initId bmB) (hcB : (Value.ref C :: bm).contains (.type B) = true) (hcA : (Value.ref C :: bm).contains (.type "AttributeError") = false) (hcN : (Value.ref C :: bm).contains (.type "NameError") = false)
    {rest : List Value} (hC : h.get? C = some (excClassObj nm q C N bs bm hdct sn sub ab col dd k0 k1 k2 k3 k5 newId))
    (hq : R (.ok (.ret (.ref (h.objs.size + 1)))) ⟨(h.push { cls := .type "tuple", data := .seq rest.toArray }).push
      { cls := .ref C, data := .fields #[.ref h.objs.size, .none, .none, .none, .bool false, .none] }, g, d, t, os⟩) (hrest : rest.length ≤ sizeLine) :
    codeAny (model prog w) A (.builtin newId ⟨.ref C :: rest, []⟩) R ⟨h, g, d, t, os⟩ := by
  have hends := F.ends
  refine codeAny_builtinAt F.entry ?_
  unfold Builtin.«BaseException.__new__»
  refine PySem.wpAt_bind ?_
  show PySem.wpAt _ _ _ (stack >>= _) _ _ _
  refine PySem.wpAt_bind (PySem.wpAt_stack fun p below => PySem.wpAt_of_wpAny ?_)
  wp_walk
  refine PySem.wpAt_of_wpAny ?_
  rw [F.owner]
  repeat (first | with_reducible refine wpAny_madeHere_exc F.canon hC ?_ | with_reducible refine wpAny_loadPart_at hC ?_ | (with_reducible refine wpAny_isSubtype_exc hC ?_; first | rw [hcB] | rw [hcA] | rw [hcN]) | wp_step)
  show R _ _
  rw [Heap.size_push]
  exact hq

theorem exc_call {fI : Addr} {oI : Obj} (F : ExcBaseFacts B newId initId bmB)
    (hcB : (Value.ref C :: bm).contains (.type B) = true) (hcA : (Value.ref C :: bm).contains (.type "AttributeError") = false) (hcN : (Value.ref C :: bm).contains (.type "NameError") = false)
    {rest : List Value} {Q : Value → Shared → Prop} (hC : h.get? C = some (excClassObj nm q C N bs bm hdct sn sub ab col dd k0 k1 k2 k3 k5 newId))
    (hlook : ∀ h', Ext h h' → Looks (model prog w) h' (typeLookup (.ref C) "__init__") (some (.ref fI))) (hfI : h.get? fI = some oI) (hfc : oI.cls = .type "function") (hrest : rest.length ≤ sizeLine)
    (hq : ∀ h' e, Heap.MadeExcOf h h' e (.ref C) rest →
      wpAny (model prog w) (A.under (.builtin "type.__call__" ⟨.ref C :: rest, []⟩)) (call (.ref fI) (.ref e :: rest)) (fun r s' => r = .none ∧ Q (.ref e) s') E ⟨h', g, d, t, os⟩) :
    wpAny (model prog w) A (call (.ref C) rest) Q E ⟨h, g, d, t, os⟩ := by
  have f1 := tc_lookup
  have f2 := tc_bind (.ref C)
  have hT : (⟨h, g, d, t, os⟩ : Shared).TypeIs (.ref C) "type" := ⟨_, hC, rfl⟩
  refine wpAny_call (codeAny_of_tree ?_)
  show wpAny _ _ (callAny (.ref C) _) _ _ _
  repeat (any_goals (first | assumption | with_reducible refine wpAny_loadPart_at hC ?_ | wp_step))
  refine ⟨rfl, ?_⟩
  refine codeAny_call_builtin_at (Code.quiet_builtin _ (by decide +kernel)) entry_typeCall (wpAny_check_type_call_sub hC ?_)
  repeat (first | with_reducible refine wpAny_loadPart_at hC ?_ | with_reducible refine wpAny_madeBy_exc hC ?_ | wp_step)
  refine codeAny_call_builtin_code (Code.quiet_builtin _ F.quiet) (exc_check_new F hcB hC ?_)
  refine exc_new F hcB hcA hcN hC ?_ hrest
  show wpAny _ _ _ _ _ _
  have up : ∀ b o, h.get? b = some o → ((h.push { cls := .type "tuple", data := .seq rest.toArray }).push { cls := .ref C, data := .fields #[.ref h.objs.size, .none, .none, .none, .bool false, .none] }).get? b = some o :=
    fun b o e => Heap.get?_push_of_some _ (Heap.get?_push_of_some _ e)
  have hC₁ := up _ _ hC
  have hfI₁ := up _ _ hfI
  have hget : ((h.push { cls := .type "tuple", data := .seq rest.toArray }).push
      { cls := .ref C, data := .fields #[.ref h.objs.size, .none, .none, .none, .bool false, .none] }).get? (h.objs.size + 1) = some
      { cls := .ref C, data := .fields #[.ref h.objs.size, .none, .none, .none, .bool false, .none] } := by heap_get
  have hcC : (Value.ref C :: bm).contains (.ref C) = true := by simp
  unfold isInstance
  repeat (first | with_reducible refine wpAny_loadPart_at hget ?_ | (with_reducible refine wpAny_isSubtype_exc hC₁ ?_; rw [hcC]) | wp_step)
  refine wpAny_isSubtype_exc hC₁ ?_
  rw [hcC]
  repeat (first | with_reducible refine wpAny_loadPart_at hget ?_ | wp_step)
  show wpAny _ _ (typeLookup (.ref C) _) _ _ _
  refine (hlook _ up).at ?_
  refine wpAny_holding (wpAny_bind ?_)
  unfold bindSpecial
  refine wpAny_bind (wpAny_typeOf (T := "function") ⟨_, hfI₁, hfc⟩ ?_)
  rw [if_pos (by decide)]
  refine wpAny_pure (wpAny_bind (wpAny_mono (hq _ (h.objs.size + 1) ⟨up, Heap.get?_none_of_le (Nat.le_succ _), h.objs.size, hget, Heap.get?_none_of_le (Nat.le_refl _), ?_⟩) (fun r s' hr => ?_) fun _ _ x => x))
  · exact Heap.get?_push_of_some _ (Heap.get?_push_at rfl rfl)
  · obtain ⟨rfl, hQ⟩ := hr
    wp_walk
    exact hQ
end


section
variable {prog : Program} {w : World} {A : Around} {E : Value → Shared → Prop} {h : Heap} {g : Array GenState} {d : Drawn} {t : Nat} {os : OsState}
theorem refuse_exc (self : Value) : refuseLoop self "__setattr__" [.ref 64, .ref 39, .type "Exception", .type "BaseException", .type "object"] = pure () := by
  rw [refuseLoop_ref, refuseLoop_ref]
  exact F.store_Exception.passes self
open Builtin Builtin.ObjectAttr in
/-- an attribute stored on a NameFault -/
theorem exc_set {e : Addr} {oe : Obj} {name : Str} {v : Value} {mA : Str → Option Value} {ns : List Str} {Q : Unit → Shared → Prop} (X : (hd.heap_39 w.params).In h) (he : h.get? e = some oe) (hc : oe.cls = .ref 64) (hnc : ∀ c, oe.data ≠ .cls c)
    (hdict : (oe.dict = none ∧ ∀ n, mA n = none) ∨ ∃ dx, oe.dict = some dx ∧ dx ≠ e ∧ h.Ns1 dx mA) (ht : findIn (hd.heap_39 w.params) (.ref 64) name = some none)
    (hq : ∀ h' tk' oe' dx, h'.get? e = some oe' → oe'.cls = oe.cls → oe'.data = oe.data → oe'.slots = oe.slots → oe'.dict = some dx → dx ≠ e → h'.Ns1 dx (fun y => if y = name then some v else mA y) → (oe.dict = some dx ∨ (oe.dict = none ∧ dx = h.objs.size)) →
      (∀ b o, b ≠ e → b ≠ dx → h.get? b = some o → h'.get? b = some o) → Q () ⟨h', g, d, tk', os⟩) (hw : Within mA ns) (hsz : ns.length ≤ 100) :
    wpAny (model prog w) A (setAttr (.ref e) name v) Q E ⟨h, g, d, t, os⟩ := by
  have hs : findIn (hd.heap_39 w.params) (.ref 64) (Str.ofString "__setattr__") = some (some (.builtin "object.__setattr__")) := by k_dflt k_is
  have hm : mroIn (hd.heap_39 w.params) 64 (.type "object") = some true := by k_dflt k_is
  obtain ⟨cd, hcl, hmro, hhd⟩ : ∃ cd, clsIn (hd.heap_39 w.params) 64 = some cd ∧ cd.mro = [.ref 64, .ref 39, .type "Exception", .type "BaseException", .type "object"] ∧ cd.hasDict = true := ⟨_, by k_dflt k_is, rfl, rfl⟩
  obtain ⟨o64, ho64, hd64⟩ : ∃ o, h.get? 64 = some o ∧ o.data = .cls cd := by
    unfold clsIn at hcl
    split at hcl
    · rename_i ho; cases hcl; exact ⟨_, X _ _ ho, rfl⟩
    · cases hcl
  have Lt : Looks (model prog w) h (typeOf (.ref e)) (.ref 64) := hc ▸ (Looks.ld he).andThen .now
  have SF := F.store_Exception
  have sub : Looks (model prog w) h (isInstance (.ref e) (.type "object")) true := Lt.andThen (looks_mroIn X hm)
  have hmr : Looks (model prog w) h (mroOf (.ref 64)) cd.mro := (looks_clsIn X hcl).andThen .now
  refine wpAny_bind (wpAny_mkText (wpAny_bind (wpAny_bind (wpAny_bind (Lt _ _ _ _ (fun _ _ e => e) (looks_findIn X hs _ _ _ _ (fun _ _ e => e) (wpAny_holding ?_)))))))
  rw [SF.slot.bind]
  refine wpAny_bind (wpAny_pure (wpAny_bind (wpAny_call ?_)))
  refine codeAny_call_builtin SF.slot.plain SF.entry (@check_slot (model prog w) _ _ _ "object.__setattr__" "object" "__setattr__" (.ref e) [.str name t, v] [] _ SF.kind SF.split sub (SF.args (.ref e) (.str name t) v) ?_)
  show wpAny _ _ (Builtin.«object.__setattr__» ⟨[.ref e, .str name t, v], []⟩) _ _ ⟨h, g, d, t + 1, os⟩
  rw [osa_eq, refuse_eq]
  refine wpAny_bind (wpAny_bind (Lt.here (wpAny_bind (hmr.here ?_))))
  rw [hmro, refuse_exc]
  refine wpAny_pure (wpAny_bind (Lt.here (wpAny_bind ((looks_findIn X ht).here (wpAny_bind (wpAny_pure ?_))))))
  dsimp only
  unfold storeInOwnDict
  repeat (first | (with_reducible refine wpAny_loadPart_at he ?_; rw [hc]) | wp_step)
  rw [hd64]
  refine wpAny_pure ?_
  rw [hhd, if_neg (by decide)]
  rcases hdict with ⟨hdn, hmA⟩ | ⟨dx, hdx, hne, hns⟩
  · rw [hdn]
    dsimp only
    rw [if_neg (by simp [typeHasDict])]
    split
    · rename_i c hcd
      exact absurd hcd (hnc c)
    · have hx₁ : (h.push { cls := .type "dict", data := .dict #[] }).get? e = some oe := Heap.get?_push_of_some _ he
      have hxs : e ≠ h.objs.size := Nat.ne_of_lt (Heap.lt_size he)
      refine wpAny_bind (wpAny_alloc' ?_)
      refine wpAny_bind (wpAny_update' hx₁ ?_)
      refine wpAny_pure ?_
      have hgd : ((h.push { cls := .type "dict", data := .dict #[] }).update e fun o => { cls := o.cls, dict := some h.objs.size, data := o.data, slots := o.slots }).get? h.objs.size
          = some { cls := .type "dict", data := .dict #[] } :=
        (Heap.get?_update_ne _ _ _ _ hxs.symm).trans (Heap.get?_push_at rfl rfl)
      have hnd : ((h.push { cls := .type "dict", data := .dict #[] }).update e fun o => { cls := o.cls, dict := some h.objs.size, data := o.data, slots := o.slots }).Ns h.objs.size (fun _ => none) :=
        ⟨_, #[], _, hgd, rfl, fun e he => absurd he (by simp), fun _ => rfl⟩
      show wpAny _ _ (storeInDict h.objs.size (.str name t) name v) _ _ _
      unfold storeInDict newKeyGuard
      refine wpAny_bind (wpAny_pure (wpAny_bind (wpAny_nsSet1 (Heap.Ns1.of_empty hnd) fun h' hn' hs' => ?_)))
      obtain ⟨oD, esD, epD, hoD, hdD, hcD⟩ := hn'.count (Within.cons name v Within.nil)
      refine wpAny_bind (wpAny_lookBehind hoD (by rw [hdD]; exact pastItsLine_dict (Nat.le_trans hcD (by rw [List.length_cons, List.length_nil, sizeLine_eq]; omega))) ?_)
      have hx' : h'.get? e = some { cls := oe.cls, dict := some h.objs.size, data := oe.data, slots := oe.slots } := by
        refine (hs'.2 e hxs).trans (Heap.get?_update_self _ hx₁ ?_)
        have hfr := (Heap.get?_some_iff.mp he).2
        obtain ⟨oc, od, odt, osl⟩ := oe
        cases odt <;> first | rfl | exact hfr
      refine wpAny_pure (wpAny_pure (wpAny_pure ?_))
      refine hq h' _ _ h.objs.size hx' rfl rfl rfl rfl hxs.symm ?_ (.inr ⟨hdn, rfl⟩) fun b o hb1 hb2 hb => ?_
      · obtain ⟨o', es, ep, e1, e2, e3, eu, e4⟩ := hn'
        exact ⟨o', es, ep, e1, e2, e3, eu, fun y => by rw [e4 y]; by_cases hy : y = name <;> simp [hy, hmA]⟩
      · exact (hs'.2 b hb2).trans ((Heap.get?_update_ne _ _ _ _ hb1).trans (Heap.get?_push_of_some _ hb))
  · rw [hdx]
    refine wpAny_pure ?_
    show wpAny _ _ (storeInDict dx (.str name t) name v) _ _ _
    unfold storeInDict newKeyGuard
    refine wpAny_bind (wpAny_pure (wpAny_bind (wpAny_nsSet1 hns fun h' hn' hs' => ?_)))
    obtain ⟨oD, esD, epD, hoD, hdD, hcD⟩ := hn'.count (Within.cons name v hw)
    refine wpAny_bind (wpAny_lookBehind hoD (by rw [hdD]; exact pastItsLine_dict (Nat.le_trans hcD (by rw [List.length_cons, sizeLine_eq]; omega))) ?_)
    refine wpAny_pure (wpAny_pure (wpAny_pure ?_))
    exact hq h' _ oe dx ((hs'.2 e hne.symm).trans he) rfl rfl rfl hdx hne hn' (.inl hdx) fun b o _ hb2 hb => (hs'.2 b hb2).trans hb
end


section
variable {prog : Program} {w : World} {A : Around} {E : Value → Shared → Prop} {h : Heap} {g : Array GenState} {d : Drawn} {t : Nat} {os : OsState}
theorem exc_base_init {e tu : Addr} {v : Value} {dd : Option Addr} {sl : Array (Option Value)} {Q : Value → Shared → Prop} (X : (hd.heap_39 w.params).In h) (he : h.get? e = some { cls := .ref 64, dict := dd, data := .fields #[.ref tu, .none, .none, .none, .bool false, .none], slots := sl })
    (hq : ∀ h' tu', h'.get? e = some { cls := .ref 64, dict := dd, data := .fields #[.ref tu', .none, .none, .none, .bool false, .none], slots := sl } → h.get? tu' = none → h'.get? tu' = some { cls := .type "tuple", data := .seq #[v] } → (∀ b o, b ≠ e → h.get? b = some o → h'.get? b = some o) → Q .none ⟨h', g, d, t, os⟩) :
    wpAny (model prog w) A (call (.builtin "Exception.__init__") [.ref e, v]) Q E ⟨h, g, d, t, os⟩ := by
  have F := PySem.F.excBase_Exception
  have hm : mroIn (hd.heap_39 w.params) 64 (.type "Exception") = some true := by k_dflt k_is
  have Lt : Looks (model prog w) h (typeOf (.ref e)) (.ref 64) := (Looks.ld he).andThen .now
  have sub : Looks (model prog w) h (isInstance (.ref e) (.type "Exception")) true := Lt.andThen (looks_mroIn X hm)
  refine wpAny_call (codeAny_call_builtin F.init.plain F.initEntry ?_)
  simp only [checkBuiltinCall, F.initKind, F.initSplit, F.initRow]
  refine wpAny_bind (sub.here ?_)
  simp only [Bool.not_true, Bool.false_eq_true, if_false]
  have hshort := F.noStar
  obtain ⟨cd, hcl⟩ : ∃ cd, clsIn (hd.heap_39 w.params) 64 = some cd := ⟨_, by k_dflt k_is⟩
  obtain ⟨c6, d6, s6, ho64⟩ : ∃ c d sl, h.get? 64 = some ⟨c, d, .cls cd, sl⟩ := by
    unfold clsIn at hcl
    split at hcl
    · rename_i ho; cases hcl; exact ⟨_, _, _, X _ _ ho⟩
    · cases hcl
  repeat (first | (with_reducible refine wpAny_loadPart_at ho64 ?_) | wp_step)
  · have hne : e ≠ h.objs.size := Nat.ne_of_lt (Heap.lt_size he)
    refine hq _ h.objs.size ?_ (Heap.get?_none_of_le (Nat.le_refl _)) ?_ fun b o hb ho => ?_
    · rw [Heap.get?_update_self _ (Heap.get?_push_of_some _ he) rfl]
      rfl
    · rw [Heap.get?_update_other _ _ hne]
      exact Heap.get?_push_at rfl rfl
    · rw [Heap.get?_update_other _ _ (Ne.symm hb)]
      exact Heap.get?_push_of_some _ ho

/-- a new NameFault, its place stored, its fields as they stand -/
structure Fault (g h : Heap) (e : Addr) (i : Int) (vs : Array Value) : Prop where
  it : ∃ dx tu what mA t, h.get? e = some { cls := .ref 64, dict := some dx, data := .fields vs } ∧ vs[0]? = some (.ref tu) ∧ vs.size = 6 ∧ h.get? tu = some { cls := .type "tuple", data := .seq #[what] } ∧ h.Ns1 dx mA ∧ mA (Str.ofString "at") = some (.int i t) ∧
    g.get? e = none ∧ g.get? dx = none ∧ g.get? tu = none ∧ e ≠ dx ∧ e ≠ tu ∧ dx ≠ tu
end
theorem Fr.but1 {h₀ h h' : Heap} {L e : Addr} {m : Str → Option Value} (F : Fr h₀ L h m) (k : ∀ b o, b ≠ e → h.get? b = some o → h'.get? b = some o) (hL : L ≠ e) (he : h₀.get? e = none) : Fr h₀ L h' m :=
  ⟨F.ns.at' fun o q => k L o hL q, fun b o q => k b o (fun z => by rw [z, he] at q; cases q) (F.keep b o q), F.above⟩
theorem Fr.but2 {h₀ h h' : Heap} {L e dx : Addr} {m : Str → Option Value} (F : Fr h₀ L h m) (k : ∀ b o, b ≠ e → b ≠ dx → h.get? b = some o → h'.get? b = some o) (hL : L ≠ e) (hL2 : L ≠ dx) (he : h₀.get? e = none) (hd : h₀.get? dx = none) : Fr h₀ L h' m :=
  ⟨F.ns.at' fun o q => k L o hL hL2 q, fun b o q => k b o (fun z => by rw [z, he] at q; cases q) (fun z => by rw [z, hd] at q; cases q) (F.keep b o q), F.above⟩
section
variable {prog : Program} {w : World} {dp un : Nat} {fr : Option (List Env)} {gd : Option (List Code)} {s : Shared} {mean : ExcName → Option Value} {mg mb : Str → Option Value} {g : Heap}
theorem init_spec {e tu : Addr} {x : Str} {i : Int} {tx ti : Tok} {A : Around} {Q E : Value → Shared → Prop} (X : (hd.heap_39 w.params).In g) (T : TopZ mean mg mb g) (hdp : A.depth + 2 < recursionLimit) (hun : A.units + 40 < cLine) (hh : A.handled = none)
    (hg : g = hideAll s.heap [e, tu]) (he : s.heap.get? e = some { cls := .ref 64, data := .fields #[.ref tu, .none, .none, .none, .bool false, .none] }) (ht : s.heap.get? tu = some { cls := .type "tuple", data := .seq #[.str x tx, .int i ti] })
    (hQ : ∀ h' tk' tu', Ext g h' → Fault g h' e i #[.ref tu', .none, .none, .none, .bool false, .none] → Q .none { s with heap := h', toks := tk' }) :
    wpAny (model prog w) A (call (.ref 29) [.ref e, .str x tx, .int i ti]) Q E s := by
  have up : Ext g s.heap := fun b o q => of_hideAll _ (hg ▸ q)
  have hge : g.get? e = none := hg ▸ hideAll_none _ (.head _)
  refine wpAny_call (enterR (binds := [(Str.ofString "self", Value.ref e), (Str.ofString "what", Value.str x tx), (Str.ofString "at", Value.int i ti)]) (X.keeps up) (T.keeps up) (by k_dflt k_is) (by k_dflt k_is) (by omega) (by k_dflt (exact binds_K (X.keeps up) rfl (by k_is) rfl rfl rfl)) (locs rfl) (fun L' h' F' N' => ?_) (by decide))
  have he' : h'.get? e = some _ := F'.keep _ _ he
  replace F' : Fr g L' h' _ := ⟨F'.ns, fun b o q => F'.keep b o (up b o q), by rw [hg]; exact Nat.le_trans (Nat.le_of_eq (hideAll_size _ _)) F'.above⟩
  replace N' : News g L' h' [] := News.nil
  walk_at "mine steps"
  refine method_type F' X rfl (by decide +kernel) (by k_dflt k_is) (by rfl) ?_
  walk_at "mine steps"
  refine exc_base_init (X.keeps F'.keep) he' fun h₁ tu₁ he₁ hn₁ ht₁ hk₁ => ?_
  have hLe : L' ≠ e := fun q => by
    obtain ⟨o, _, _, ho, hdt, _⟩ := F'.ns
    rw [q, he'] at ho
    cases ho; cases hdt
  have kold := F'.keep
  have hte : tu₁ ≠ e := fun q => by rw [q, he'] at hn₁; cases hn₁
  replace F' : Fr g L' h₁ _ := Fr.but1 F' (fun b o hb q => hk₁ b o hb q) hLe hge
  replace N' : News g L' h₁ [] := News.nil
  have hgt : g.get? tu₁ = none := by
    cases q : g.get? tu₁ with
    | none => rfl
    | some o => rw [kold _ o q] at hn₁; cases hn₁
  walk_at "mine steps"
  refine exc_set (X.keeps F'.keep) he₁ rfl (fun _ q => by cases q) (.inl ⟨rfl, fun _ => rfl⟩) (by k_dflt k_is) (fun h₂ tk₂ oe₂ dx he₂ hc₂ hd₂ hs₂ hdx₂ hne₂ hns₂ hor hk₂ => ?_) Within.nil (by decide)
  have hdxs : dx = h₁.objs.size := by
    rcases hor with q | ⟨_, q⟩
    · cases q
    · exact q
  have hgd : g.get? dx = none := by
    cases q : g.get? dx with
    | none => rfl
    | some o => exact absurd (Heap.lt_size (F'.keep _ o q)) (by rw [hdxs]; exact Nat.lt_irrefl _)
  have hLd : L' ≠ dx := by rw [hdxs]; exact Nat.ne_of_lt F'.ns.lt
  have hdt : dx ≠ tu₁ := by rw [hdxs]; exact Nat.ne_of_gt (Heap.lt_size ht₁)
  have ht₂ := hk₂ tu₁ _ hte (Ne.symm hdt) ht₁
  obtain ⟨c2, dd2, dat2, sl2⟩ := oe₂
  dsimp only at hc₂ hd₂ hs₂ hdx₂
  subst hc₂ hd₂ hs₂ hdx₂
  replace F' : Fr g L' h₂ _ := Fr.but2 F' hk₂ hLe hLd hge hgd
  replace N' : News g L' h₂ [] := News.nil
  walk_at "mine steps"
  refine exc_set (X.keeps F'.keep) he₂ rfl (fun _ q => by cases q) (.inr ⟨dx, rfl, hne₂, hns₂⟩) (by k_dflt k_is) (fun h₃ tk₃ oe₃ dx₃ he₃ hc₃ hd₃ hs₃ hdx₃ hne₃ hns₃ hor₃ hk₃ => ?_) (Within.cons _ _ Within.nil) (by decide)
  obtain rfl : dx₃ = dx := by
    rcases hor₃ with q | ⟨q, _⟩
    · exact (Option.some.inj q).symm
    · cases q
  obtain ⟨c3, dd3, dat3, sl3⟩ := oe₃
  dsimp only at hc₃ hd₃ hs₃ hdx₃
  subst hc₃ hd₃ hs₃ hdx₃
  replace F' : Fr g L' h₃ _ := Fr.but2 F' hk₃ hLe hLd hge hgd
  replace N' : News g L' h₃ [] := News.nil
  walk_at "mine steps"
  exact hQ _ _ tu₁ F'.keep ⟨dx₃, tu₁, _, _, _, he₃, rfl, rfl, hk₃ tu₁ _ hte (Ne.symm hdt) ht₂, hns₃, rfl, hge, hgd, hgt, Ne.symm hne₃, Ne.symm hte, hdt⟩
end


section
variable {prog : Program} {w : World} {s : Shared} {mean : ExcName → Option Value} {mg mb : Str → Option Value}
theorem fault_call {x : Str} {i : Int} {tx ti : Tok} {A : Around} {Q E : Value → Shared → Prop} (X : (hd.heap_39 w.params).In s.heap) (T : TopZ mean mg mb s.heap) (hdp : A.depth + 3 < recursionLimit) (hun : A.units + 60 < cLine) (hh : A.handled = none)
    (hQ : ∀ h' tk' e vs, Ext s.heap h' → Fault s.heap h' e i vs → vs[1]? = some .none → Q (.ref e) { s with heap := h', toks := tk' }) :
    wpAny (model prog w) A (call (.ref 64) [.str x tx, .int i ti]) Q E s := by
  obtain ⟨h, g, d, t, os⟩ := s
  have hC := X 64 (excClassObj _ _ 64 _ _ _ _ _ _ _ _ _ _ _ _ _ _ _) (by k_dflt k_is)
  have hf := X 29 _ (by k_dflt k_is)
  refine exc_call PySem.F.excBase_Exception ?_ ?_ ?_ hC (fun h' k => looks_findIn (X.keeps k) (by k_dflt k_is)) hf ?_ ?_ ?_
  · rfl
  · rfl
  · rfl
  · rfl
  · rw [sizeLine_eq]; simp
  · intro h₁ e hm
    obtain ⟨tu, he, hnt, ht⟩ := hm.there
    have hne := hm.new
    have kg : Ext h (hideAll h₁ [e, tu]) := fun b o q => hideAll_get _ (hm.keeps b o q) fun hb => by
      rcases List.mem_cons.mp hb with rfl | hb
      · rw [hne] at q; cases q
      · rw [List.mem_singleton.mp hb, hnt] at q; cases q
    have nog : ∀ b, (hideAll h₁ [e, tu]).get? b = none → h.get? b = none := fun b q => by
      cases z : h.get? b with
      | none => rfl
      | some o => rw [kg b o z] at q; cases q
    refine init_spec (s := ⟨h₁, g, d, t, os⟩) (g := hideAll h₁ [e, tu]) (X.keeps kg) (T.keeps kg) ?_ ?_ ?_ rfl he ht fun h' tk' tu' k F => ⟨rfl, ?_⟩
    · have hw : (Code.builtin "type.__call__" { pos := [Value.ref 64, Value.str x tx, Value.int i ti] }).weight ≤ 1 := by first | exact Nat.le_refl _ | exact Nat.zero_le _ | (show 0 ≤ 1; decide)
      show A.depth + _ + 2 < _
      omega
    · have hw : (Code.builtin "type.__call__" { pos := [Value.ref 64, Value.str x tx, Value.int i ti] }).cUnits ≤ 4 := by first | (show 4 ≤ 4; decide) | (show 1 ≤ 4; decide)
      show A.units + _ + 40 < _
      omega
    · exact hh
    · obtain ⟨dx, tu2, what, mA, t2, a1, a2, a3, a4, a5, a6, a7, a8, a9, a10, a11, a12⟩ := F.it
      exact hQ h' tk' e _ (fun b o q => k b o (kg b o q)) ⟨dx, tu2, what, mA, t2, a1, a2, a3, a4, a5, a6, nog _ a7, nog _ a8, nog _ a9, a10, a11, a12⟩ rfl
end


theorem idx_sign : ∀ v : Fin 64, signs.idxOf (signs.getD v.val 0) = v.val := by decide +kernel
theorem mem_sign : ∀ v : Fin 64, signs.getD v.val 0 ∈ signs := by decide +kernel
def val6 (ks : List Int) (i : Nat) : Int := (tot ks * 2 ^ (6 * (ks.length + 1) - 8 * ks.length) / 2 ^ (6 * (ks.length - i))) % 64
theorem val6_in (ks : List Int) (i : Nat) : 0 ≤ val6 ks i ∧ val6 ks i < 64 := by unfold val6; omega
theorem gcode_mem (ks : List Int) (i : Nat) : gcode signs ks i ∈ signs := by
  have h := val6_in ks i
  exact mem_sign ⟨(val6 ks i).toNat, by omega⟩
theorem gcode_idx (ks : List Int) (i : Nat) : (signs.idxOf (gcode signs ks i) : Int) = val6 ks i := by
  have h := val6_in ks i
  have := idx_sign ⟨(val6 ks i).toNat, by omega⟩
  show (signs.idxOf (signs.getD (val6 ks i).toNat 0) : Int) = _
  rw [this]; dsimp only; omega
theorem nums_enc (c : List Int) : nums signs (encChunk signs c) = (List.range (c.length + 1)).map (val6 c) := by
  unfold nums encChunk
  rw [List.map_map]
  exact List.map_congr_left fun i _ => gcode_idx c i
theorem nums_app (sg a b : List Int) : nums sg (a ++ b) = nums sg a ++ nums sg b := by unfold nums; rw [List.map_append]
theorem nums_len (sg a : List Int) : (nums sg a).length = a.length := by unfold nums; rw [List.length_map]
theorem enc_len (sg c : List Int) : (encChunk sg c).length = c.length + 1 := by unfold encChunk; simp
theorem sub11 {i k : Nat} (h : i < k) : k - 1 - i + 1 = k + 1 - 1 - i := by
  rw [Nat.add_sub_cancel, Nat.sub_right_comm, Nat.sub_add_cancel (Nat.sub_pos_of_lt h)]
theorem div_step {n c : Nat} (h : 1 ≤ n) : (n + c) / (c + 1) = (n - (c + 1) + c) / (c + 1) + 1 := by
  by_cases h3 : n ≤ c + 1
  · rw [Nat.sub_eq_zero_of_le h3, Nat.zero_add, Nat.div_eq_of_lt (Nat.lt_succ_self c)]
    obtain ⟨m, rfl⟩ : ∃ m, n = m + 1 := ⟨n - 1, (Nat.sub_add_cancel h).symm⟩
    rw [Nat.add_assoc, Nat.add_comm 1 c, Nat.add_div_right _ (Nat.succ_pos c), Nat.div_eq_of_lt (Nat.lt_of_succ_le h3)]
  · have h3 := Nat.le_of_lt (Nat.lt_of_not_le h3)
    rw [← Nat.add_div_right _ (Nat.succ_pos c), Nat.add_right_comm, Nat.sub_add_cancel h3]
theorem le43 {x n : Nat} (h : 3 < n) (h' : 3 * x ≤ 4 * (n - 3) + 6) : 3 * (4 + x) ≤ 4 * n + 6 := by omega
theorem dig_back (b : Int) (hb : 0 < b) : ∀ (k : Nat) (T : Int), 0 ≤ T → T < b ^ k → ((List.range k).map fun i => T / b ^ (k - 1 - i) % b).foldl (fun A d => b * A + d) 0 = T := by
  intro k
  induction k with
  | zero => intro T h h'; rw [Int.pow_zero] at h'; exact Int.le_antisymm h (Int.lt_add_one_iff.mp h')
  | succ k ih =>
    intro T h h'
    have e : ((List.range k).map fun i => T / b ^ (k + 1 - 1 - i) % b) = (List.range k).map fun i => T / b / b ^ (k - 1 - i) % b := by
      refine List.map_congr_left fun i hi => ?_
      have := List.mem_range.mp hi
      rw [Int.ediv_ediv_of_nonneg (Int.le_of_lt hb), ← Int.pow_succ', sub11 this]
    rw [List.range_succ, List.map_append, List.foldl_append, e, ih (T / b) (Int.ediv_nonneg h (Int.le_of_lt hb)) (Int.ediv_lt_of_lt_mul hb (Int.pow_succ .. ▸ h'))]
    show b * (T / b) + T / b ^ (k + 1 - 1 - k) % b = T
    rw [Nat.add_sub_cancel, Nat.sub_self, Int.pow_zero, Int.ediv_one, Int.mul_ediv_add_emod]
theorem back_dig (b : Int) (hb : 0 < b) : ∀ (r : List Int), (∀ k ∈ r, 0 ≤ k ∧ k < b) → (List.range r.length).map (fun i => r.reverse.foldl (fun A d => b * A + d) 0 / b ^ (r.length - 1 - i) % b) = r.reverse := by
  intro r
  induction r with
  | nil => exact fun _ => rfl
  | cons k r ih =>
    intro h
    have hk := h k (.head _)
    have e : ∀ T : Int, (b * T + k) / b = T := fun T => by
      rw [Int.add_comm, Int.add_mul_ediv_left _ _ (Int.ne_of_gt hb), Int.ediv_eq_zero_of_lt hk.1 hk.2, Int.zero_add]
    rw [List.reverse_cons, List.foldl_append, List.length_cons, List.range_succ, List.map_append]
    refine congr (congrArg _ ?_) ?_
    · refine Eq.trans (List.map_congr_left fun i hi => ?_) (ih fun k h' => h k (.tail _ h'))
      have := List.mem_range.mp hi
      rw [← sub11 this, Int.pow_succ', ← Int.ediv_ediv_of_nonneg (Int.le_of_lt hb)]
      exact congrArg (fun x => x / b ^ (r.length - 1 - i) % b) (e _)
    · show [(b * _ + k) / b ^ (r.length + 1 - 1 - r.length) % b] = [k]
      rw [Nat.add_sub_cancel, Nat.sub_self, Int.pow_zero, Int.ediv_one, Int.add_comm, Int.add_mul_emod_self_left, Int.emod_eq_of_lt hk.1 hk.2]
theorem p2pos (n : Nat) : (0 : Int) < 2 ^ n := Int.pow_pos (by decide)
theorem enc_tot {c : List Int} (hk : ∀ k ∈ c, 0 ≤ k ∧ k < 256) (h3 : c.length ≤ 3) : tot6 (nums signs (encChunk signs c)) = tot c * 2 ^ (6 * (c.length + 1) - 8 * c.length) := by
  have hb := tot_bound hk
  rw [nums_enc]
  refine Eq.trans (congrArg (List.foldl _ 0) (List.map_congr_left fun i hi => ?_)) (dig_back 64 (by decide) (c.length + 1) _ (Int.mul_nonneg hb.1 (Int.le_of_lt (p2pos _))) ?_)
  · show tot c * _ / 2 ^ (6 * (c.length - i)) % 64 = _
    rw [Int.pow_mul]; rfl
  · have h := Int.mul_lt_mul_of_pos_right hb.2 (p2pos (6 * (c.length + 1) - 8 * c.length))
    rw [show (256 : Int) ^ c.length = 2 ^ (8 * c.length) from (Int.pow_mul (a := 2) (n := 8)).symm, ← Int.pow_add, show 8 * c.length + (6 * (c.length + 1) - 8 * c.length) = 6 * (c.length + 1) by omega, Int.pow_mul] at h
    exact h
theorem grp_back {c : List Int} (hk : ∀ k ∈ c, 0 ≤ k ∧ k < 256) (h3 : c.length ≤ 3) : octs (nums signs (encChunk signs c)) = c ∧ tot6 (nums signs (encChunk signs c)) % 2 ^ (6 * (nums signs (encChunk signs c)).length - 8 * ((nums signs (encChunk signs c)).length - 1)) = 0 := by
  have hl : (nums signs (encChunk signs c)).length = c.length + 1 := by rw [nums_len, enc_len]
  have ht := enc_tot hk h3
  refine ⟨?_, by rw [ht, hl]; exact Int.mul_emod_left ..⟩
  have hr := back_dig 256 (by decide) c.reverse fun k h => hk k (List.mem_reverse.mp h)
  rw [List.reverse_reverse, List.length_reverse] at hr
  unfold octs
  rw [hl]
  refine Eq.trans (List.map_congr_left fun i _ => ?_) hr
  unfold goct
  rw [hl, ht, Int.pow_mul (n := 8)]
  show tot c * _ / 2 ^ (6 * (c.length + 1) - 8 * c.length) / 256 ^ (c.length + 1 - 2 - i) % 256 = _
  rw [Int.mul_ediv_cancel _ (Int.ne_of_gt (p2pos _))]; rfl
theorem chunk_succ (ks : List Int) (i : Nat) : chunk ks (i + 1) = chunk (ks.drop 3) i := by
  unfold chunk
  rw [List.drop_drop, show 3 + 3 * i = 3 * (i + 1) by omega]
theorem encTo_cons (sg ks : List Int) (n : Nat) : encTo sg ks (n + 1) = encChunk sg (ks.take 3) ++ encTo sg (ks.drop 3) n := by
  unfold encTo
  rw [List.range_succ_eq_map, List.flatMap_cons, List.flatMap_map]
  congr 1
  exact congrArg (fun f => List.flatMap f (List.range n)) (funext fun i => by rw [chunk_succ])
theorem encoded_cons (sg : List Int) {ks : List Int} (h : 1 ≤ ks.length) : encoded sg ks = encChunk sg (ks.take 3) ++ encoded sg (ks.drop 3) := by
  unfold encoded
  rw [show (ks.length + 2) / 3 = ((ks.drop 3).length + 2) / 3 + 1 by rw [List.length_drop]; exact div_step h]
  exact encTo_cons ..
theorem chunk4_succ (ks : List Int) (i : Nat) : chunk4 ks (i + 1) = chunk4 (ks.drop 4) i := by
  unfold chunk4
  rw [List.drop_drop, show 4 + 4 * i = 4 * (i + 1) by omega]
theorem decTo_cons (ns : List Int) (n : Nat) : decTo ns (n + 1) = octs (ns.take 4) ++ decTo (ns.drop 4) n := by
  unfold decTo
  rw [List.range_succ_eq_map, List.map_cons, List.map_map, List.flatten_cons]
  congr 1
  exact congrArg (fun f => (List.map f (List.range n)).flatten) (funext fun i => by simp only [Function.comp, Nat.succ_eq_add_one, chunk4_succ])
theorem decoded_cons {ns : List Int} (h : 1 ≤ ns.length) : decoded ns = octs (ns.take 4) ++ decoded (ns.drop 4) := by
  unfold decoded
  rw [show (ns.length + 3) / 4 = ((ns.drop 4).length + 3) / 4 + 1 by rw [List.length_drop]; exact div_step h]
  exact decTo_cons ..
theorem spare0_cons {ns : List Int} (h : 1 ≤ ns.length) (h0 : tot6 (ns.take 4) % 2 ^ (6 * (ns.take 4).length - 8 * ((ns.take 4).length - 1)) = 0) (hs : spare0 (ns.drop 4)) : spare0 ns := by
  intro i hi
  cases i with
  | zero => exact h0
  | succ i =>
    rw [chunk4_succ]
    exact hs i (by rw [List.length_drop]; exact Nat.lt_of_succ_lt_succ (Nat.lt_of_lt_of_eq hi (div_step h)))
structure CodeFacts (ks : List Int) : Prop where
  hm : ∀ k ∈ encoded signs ks, k ∈ signs
  h1 : (encoded signs ks).length % 4 ≠ 1
  hsp : spare0 (nums signs (encoded signs ks))
  hdec : decoded (nums signs (encoded signs ks)) = ks
  pos : 1 ≤ ks.length → 1 ≤ (encoded signs ks).length
  le : 3 * (encoded signs ks).length ≤ 4 * ks.length + 6
theorem code_facts : ∀ (n : Nat) (ks : List Int), ks.length = n → (∀ k ∈ ks, 0 ≤ k ∧ k < 256) → CodeFacts ks := by
  intro n
  induction n using Nat.strongRecOn with
  | ind n ih =>
    intro ks hn hk
    by_cases h0 : ks.length = 0
    · have := List.length_eq_zero_iff.mp h0
      subst this
      exact ⟨fun k h => by simp [encoded, encTo] at h, by decide, fun i h => by simp [encoded, encTo, nums] at h, rfl, fun h => by simp at h, by decide⟩
    · have hp := Nat.pos_of_ne_zero h0
      obtain ⟨hm, h1, hsp, hdec, hpos, hle⟩ := ih (ks.drop 3).length (by rw [List.length_drop, ← hn]; exact Nat.sub_lt hp (by decide)) (ks.drop 3) rfl (fun k h => hk k (List.mem_of_mem_drop h))
      have hg := grp_back (c := ks.take 3) (fun k h => hk k (List.mem_of_mem_take h)) (by rw [List.length_take]; exact Nat.min_le_left ..)
      have hel := enc_len signs (ks.take 3)
      have hnl := nums_len signs (encChunk signs (ks.take 3))
      rw [List.length_take] at hel
      rw [List.length_drop] at hle
      have he := encoded_cons signs (ks := ks) hp
      have hz : ks.length ≤ 3 → encoded signs (ks.drop 3) = [] := fun h => by
        rw [List.drop_eq_nil_of_le h]; rfl
      have hl := congrArg List.length he
      rw [List.length_append, hel] at hl
      have h4l : (nums signs (encChunk signs (ks.take 3))).length ≤ 4 := by rw [hnl, hel]; exact Nat.succ_le_succ (Nat.min_le_left ..)
      have h4 : (nums signs (encoded signs ks)).take 4 = nums signs (encChunk signs (ks.take 3)) ∧ (nums signs (encoded signs ks)).drop 4 = nums signs (encoded signs (ks.drop 3)) := by
        rw [he, nums_app]
        by_cases h3 : ks.length ≤ 3
        · rw [hz h3]
          refine ⟨?_, ?_⟩
          · rw [show nums signs [] = [] from rfl, List.append_nil, List.take_of_length_le h4l]
          · rw [show nums signs [] = [] from rfl, List.append_nil, List.drop_eq_nil_of_le h4l]
        · have e4 : (nums signs (encChunk signs (ks.take 3))).length = 4 := by rw [hnl, hel, Nat.min_eq_left (Nat.le_of_lt (Nat.lt_of_not_le h3))]
          exact ⟨by rw [← e4, List.take_left], by rw [← e4, List.drop_left]⟩
      have hp1 : 1 ≤ (encoded signs ks).length := by rw [hl]; exact Nat.le_trans (Nat.le_add_left 1 _) (Nat.le_add_right ..)
      have hn1 : 1 ≤ (nums signs (encoded signs ks)).length := by rw [nums_len]; exact hp1
      refine ⟨?_, ?_, ?_, ?_, fun _ => hp1, ?_⟩
      · rw [he]
        intro k hk'
        rcases List.mem_append.mp hk' with h | h
        · unfold encChunk at h
          obtain ⟨i, _, rfl⟩ := List.mem_map.mp h
          exact gcode_mem ..
        · exact hm k h
      · rw [hl]
        by_cases h3 : ks.length ≤ 3
        · rw [hz h3, List.length_nil, Nat.min_eq_right h3]
          rcases c123 hp h3 with e | e | e <;> rw [e] <;> decide
        · rw [Nat.min_eq_left (Nat.le_of_lt (Nat.lt_of_not_le h3))]
          exact fun e => h1 ((Nat.add_mod_left 4 _).symm.trans e)
      · exact spare0_cons hn1 (by rw [h4.1]; exact hg.2) (by rw [h4.2]; exact hsp)
      · rw [decoded_cons hn1, h4.1, h4.2, hdec, hg.1, List.take_append_drop]
      · rw [hl]
        by_cases h3 : ks.length ≤ 3
        · rw [hz h3, List.length_nil, Nat.min_eq_right h3]
          rcases c123 hp h3 with e | e | e <;> rw [e] <;> decide
        · rw [Nat.min_eq_left (Nat.le_of_lt (Nat.lt_of_not_le h3))]
          exact le43 (Nat.lt_of_not_le h3) hle
theorem enc16_in {c : Nat} (h : c ≤ 1114111) : ∀ u ∈ enc16 c, 0 ≤ u ∧ u < 65536 := by
  unfold enc16
  split
  · intro u hu
    simp only [List.mem_cons, List.not_mem_nil, or_false] at hu
    rcases hu with rfl | rfl
    · exact highb h (Int.ofNat_lt.mpr (by assumption))
    · exact lowb _
  · intro u hu
    simp only [List.mem_cons, List.not_mem_nil, or_false] at hu
    subst hu
    exact ⟨Int.natCast_nonneg _, Int.ofNat_lt.mpr (Nat.lt_succ_of_le (Nat.le_of_not_lt (by assumption)))⟩
theorem octets2_in {cs : List Nat} (h : ∀ c ∈ cs, c ≤ 1114111) : ∀ k ∈ octets2 (units cs), 0 ≤ k ∧ k < 256 := by
  intro k hk
  unfold octets2 at hk
  obtain ⟨u, hu, hk⟩ := List.mem_flatMap.mp hk
  unfold units at hu
  obtain ⟨c, hc, hu⟩ := List.mem_flatMap.mp hu
  have := enc16_in (h c hc) u hu
  simp only [List.mem_cons, List.not_mem_nil, or_false] at hk
  rcases hk with rfl | rfl
  · exact div8 this
  · exact ⟨Int.emod_nonneg _ (by decide), Int.emod_lt_of_pos _ (by decide)⟩
theorem enc16_len (c : Nat) : 1 ≤ (enc16 c).length ∧ (enc16 c).length ≤ 2 := by
  unfold enc16
  split <;> simp
theorem units_len1 (cs : List Nat) : cs.length ≤ (units cs).length := by
  induction cs with
  | nil => simp [units]
  | cons c r ih =>
    have e : units (c :: r) = enc16 c ++ units r := rfl
    have := enc16_len c
    rw [e, List.length_append, List.length_cons]; omega
theorem run_facts (run : List Nat) (hr : run ≠ []) (hs : ∀ c ∈ run, Shifted c) : RunFacts run := by
  obtain ⟨hm, h1, hsp, hdec, hpos, hle⟩ := code_facts _ _ rfl (octets2_in fun c hc => (hs c hc).1)
  have := octets2_length (units run)
  have := units_len1 run
  have : 1 ≤ run.length := by cases run with
    | nil => exact absurd rfl hr
    | cons _ _ => simp
  exact ⟨hm, h1, hsp, hdec, hpos (by omega)⟩


abbrev baO (ks : List Int) : Obj := { cls := .type "bytearray", data := .bytearray (byteArr ks) }
namespace BA
open Builtin
theorem slot_append : Slot "bytearray" "append" "bytearray.append" :=
  .of (owner := "bytearray") (n := "append") (by rw [typeLookup_type, builtinLookup_eq_fast]; kernel_rfl) (by decide +kernel) (by decide +kernel) (by decide +kernel)
    (by first | exact .inl (by decide +kernel) | exact .inr (by decide +kernel)) (by rw [isSubtype_type]; kernel_rfl)
theorem slot_extend : Slot "bytearray" "extend" "bytearray.extend" :=
  .of (owner := "bytearray") (n := "extend") (by rw [typeLookup_type, builtinLookup_eq_fast]; kernel_rfl) (by decide +kernel) (by decide +kernel) (by decide +kernel)
    (by first | exact .inl (by decide +kernel) | exact .inr (by decide +kernel)) (by rw [isSubtype_type]; kernel_rfl)
theorem entry_append : entryFor table "bytearray.append" = some Builtin.«bytearray.append» := by first | exact entryFor_of_fast (by kernel_rfl) | exact entryFor_of_tree (by kernel_rfl)
theorem entry_extend : entryFor table "bytearray.extend" = some Builtin.«bytearray.extend» := by first | exact entryFor_of_fast (by kernel_rfl) | exact entryFor_of_tree (by kernel_rfl)
theorem args_append (a b : Value) : argsOk "bytearray.append" ⟨[a, b], []⟩ := by unfold argsOk; kernel_rfl
theorem args_extend (a b : Value) : argsOk "bytearray.extend" ⟨[a, b], []⟩ := by unfold argsOk; kernel_rfl
theorem type_append : typeOf (.builtin "bytearray.append") = pure (.type "method_descriptor") := by kernel_rfl
theorem type_extend : typeOf (.builtin "bytearray.extend") = pure (.type "method_descriptor") := by kernel_rfl
theorem plainAttrs : PlainAttrs "bytearray" :=
  ⟨⟨"bytearray.__getattribute__", by rw [typeLookup_type, builtinLookup_eq_fast]; kernel_rfl, by decide +kernel⟩, by rw [typeLookup_type, builtinLookup_eq_fast]; kernel_rfl⟩
end BA
section
variable {prog : Program} {w : World} {A : Around} {E : Value → Shared → Prop} {s : Shared} {h₀ : Heap} {L : Addr} {m : Str → Option Value}
theorem codeC_builtin {id : String} {args : Args} {b : Builtin} {R : Result → Shared → Prop} (hb : entryFor table id = some b)
    (h : wpC (model prog w) (A.under (.builtin id args)) (b args)
      (fun fin s' => match fin with | .done f => R (.ok f) s' | .again c' => c'.quiet = true ∧ holder c' = false ∧ codeC (model prog w) A c' R s') (fun e s' => R (.error e) s') s) :
    codeC (model prog w) A (.builtin id args) R s := by
  refine codeC_of_tree ?_
  show wpC _ _ (match entryFor table id with | some b => b args | none => unsupported ((withoutEnding? id "#data").getD id)) _ _ s
  rw [hb]; exact h
theorem callC_builtin {id : String} {pos : List Value} {b : Builtin} {Q : Value → Shared → Prop} (hq : plainId id = true) (hk : Builtin.Bytes.decodersThatHold.contains id = false) (hb : entryFor table id = some b)
    (hc : ∀ Q' E', Q' () s → wpAny (model prog w) A.in1 (checkBuiltinCall id ⟨pos, []⟩) Q' E' s)
    (h : wpC (model prog w) A.in1 (b ⟨pos, []⟩) (fun fin s' => ∃ v, fin = .done (.ret v) ∧ Q v s') E s) : wpC (model prog w) A (call (.builtin id) pos) Q E s := by
  refine wpC_call (codeC_of_tree ?_)
  show wpC _ A.in1 (do checkBuiltinCall id ⟨pos, []⟩; again (.builtin id ⟨pos, []⟩)) _ _ s
  have hh : holder (.builtin id ⟨pos, []⟩) = false := by
    unfold holder
    cases pos <;> first | rfl | exact hk
  refine wpC_then (hc _ _ (wpC_pure ⟨plainId_quiet hq _, hh, codeC_builtin hb ?_⟩))
  rw [Around.under_plainId hq _]
  refine wpC_mono h (fun fin s' hx => ?_) fun _ _ x => x
  obtain ⟨v, rfl, hv⟩ := hx
  exact hv
theorem byteArr_snoc (ks : List Int) (k : Int) : (byteArr ks).push k.toNat.toUInt8 = byteArr (ks ++ [k]) := by simp [byteArr]
theorem byteArr_app (ks ms : List Int) : byteArr ks ++ byteArr ms = byteArr (ks ++ ms) := by simp [byteArr]
theorem resize_ok {D : Addr} {ks : List Int} {Q : Unit → Shared → Prop} (hD : s.heap.get? D = some (baO ks)) (hg : A.guards = some []) (h : Q () s) : wpC (model prog w) A (Builtin.Bytes.checkResize (.ref D)) Q E s := by
  unfold Builtin.Bytes.checkResize
  refine wpC_bind (wpC_bind (wpC_exported hg ?_))
  show wpC _ _ (do let x ← Builtin.Bytes.exportsOf (.ref D); pure (decide (x > 0))) _ _ _
  unfold Builtin.Bytes.exportsOf
  refine wpC_bind (wpC_any (wpAny_bind (wpAny_load hD ?_)))
  refine wpAny_pure (wpC_pure ?_)
  rw [if_neg (by simp)]
  exact wpC_pure h
theorem write_ok {D : Addr} {ks ms : List Int} {f : Array UInt8 → Array UInt8} {own : List (Addr × Obj)} {Q : Unit → Shared → Prop} (F : Fr h₀ L s.heap m) (N : News h₀ L s.heap ([(D, baO ks)] ++ own)) (hoff : ∀ p ∈ own, p.1 ≠ D)
    (hf : f (byteArr ks) = byteArr ms) (hsz : ms.length ≤ 16777216) (h : ∀ h', Fr h₀ L h' m → News h₀ L h' ([(D, baO ms)] ++ own) → Q () { s with heap := h' }) : wpAny (model prog w) A (Builtin.Bytes.write (.ref D) f) Q E s := by
  have hD := N.get (.head _)
  have hm := N _ (List.mem_append_left own (List.Mem.head []))
  show wpAny _ _ (updateBytearray D f) _ _ _
  unfold updateBytearray
  refine wpAny_bind (wpAny_load hD ?_)
  show wpAny _ _ (update D (Obj.mapBytearray f) >>= fun _ => lookBehind D) _ _ _
  refine wpAny_bind (wpAny_update hD ?_)
  have hS : (s.heap.update D (Obj.mapBytearray f)).get? D = some (baO ms) := by
    rw [Heap.get?_update_self (Obj.mapBytearray f) hD rfl]
    show some ({ cls := .type "bytearray", data := .bytearray (f (byteArr ks)) } : Obj) = _
    rw [hf]
  refine wpAny_lookBehind hS ?_ (h _ (F.change (Heap.SameBut.update ..) hm.2.1 hm.2.2) (N.setIn (own := []) (rest := own) (fun _ h => nomatch h) hoff (Heap.SameBut.update ..) hS))
  show (if (byteArr ms).size > sizeLine then some "bytearray:memory" else none) = none
  rw [if_neg]
  rw [byteArr_size, sizeLine_eq]; omega
theorem append_ba {D : Addr} {ks : List Int} {k : Int} {t : Tok} {own : List (Addr × Obj)} {Q : Value → Shared → Prop} (F : Fr h₀ L s.heap m) (N : News h₀ L s.heap ([(D, baO ks)] ++ own)) (hoff : ∀ p ∈ own, p.1 ≠ D)
    (hg : A.guards = some []) (h0 : 0 ≤ k) (h1 : k < 256) (hsz : ks.length < 16777216)
    (h : ∀ h', Fr h₀ L h' m → News h₀ L h' ([(D, baO (ks ++ [k]))] ++ own) → Q .none { s with heap := h' }) :
    wpC (model prog w) A (call (.builtin "bytearray.append") [.ref D, .int k t]) Q E s := by
  have hD := N.get (.head _)
  refine callC_builtin BA.slot_append.plain (by decide +kernel) BA.entry_append (fun Q' E' q => BA.slot_append.check _ _ _ _ _ _ _ _ ⟨_, hD, rfl⟩ (BA.args_append _ _) q) ?_
  unfold Builtin.«bytearray.append»
  refine wpC_then (wpAny_of_eq (a := (Value.ref D, Value.int k t)) (by rfl) ?_)
  dsimp only
  refine wpC_bind ?_
  unfold Builtin.Bytes.byteValue
  refine wpC_then (wpAny_of_eq (rfl : asIndex (.int k t) = pure k) ?_)
  rw [if_neg (by simp only [Bool.or_eq_true, decide_eq_true_eq, not_or]; omega)]
  refine wpC_pure ?_
  refine wpC_bind (resize_ok hD hg ?_)
  refine wpC_then (write_ok F N hoff (ms := ks ++ [k]) (byteArr_snoc ks k) (by rw [List.length_append, List.length_singleton]; omega) fun h' F' N' => ?_)
  exact wpC_pure ⟨.none, rfl, h h' F' N'⟩
theorem extend_ba {D : Addr} {ks ms : List Int} {b : Array UInt8} {t : Tok} {own : List (Addr × Obj)} {Q : Value → Shared → Prop} (F : Fr h₀ L s.heap m) (N : News h₀ L s.heap ([(D, baO ks)] ++ own)) (hoff : ∀ p ∈ own, p.1 ≠ D)
    (hg : A.guards = some []) (hb : b = byteArr ms) (hsz : ks.length + ms.length ≤ 16777216)
    (h : ∀ h', Fr h₀ L h' m → News h₀ L h' ([(D, baO (ks ++ ms))] ++ own) → Q .none { s with heap := h' }) :
    wpC (model prog w) A (call (.builtin "bytearray.extend") [.ref D, .bytes b t]) Q E s := by
  have hD := N.get (.head _)
  subst hb
  refine callC_builtin BA.slot_extend.plain (by decide +kernel) BA.entry_extend (fun Q' E' q => BA.slot_extend.check _ _ _ _ _ _ _ _ ⟨_, hD, rfl⟩ (BA.args_extend _ _) q) ?_
  unfold Builtin.«bytearray.extend»
  refine wpC_then (wpAny_of_eq (a := (Value.ref D, Value.bytes (byteArr ms) t)) (by rfl) ?_)
  dsimp only
  refine wpC_then (wpAny_of_eq (KBy.special_eq KBy.look_buffer) ?_)
  rw [if_pos (by rfl)]
  refine wpC_bind (wpC_rule ?_)
  refine wpC_bind ?_
  unfold Builtin.Bytes.payload Builtin.Bytes.payload?
  refine wpC_bind (wpC_any (wpAny_bind (wpAny_load hD (wpAny_pure ?_))))
  refine wpC_pure ?_
  refine wpC_then (BJ.take_any ?_)
  dsimp only
  rw [if_pos (by rfl)]
  refine wpC_mono (Q := fun fin s' => ∃ v, fin = .done (.ret v) ∧ Q v s') ?_ (fun _ _ x => x) fun _ _ x => x
  show wpC _ _ (if (!(byteArr ms).isEmpty) = true then Builtin.Bytes.checkResize (.ref D) >>= fun _ => Builtin.Bytes.write (.ref D) (· ++ byteArr ms) >>= fun _ => ret .none else Builtin.Bytes.write (.ref D) (· ++ byteArr ms) >>= fun _ => ret .none) _ _ _
  have key : wpC (model prog w) A.in1 (Builtin.Bytes.write (.ref D) (· ++ byteArr ms) >>= fun _ => ret .none) (fun fin s' => ∃ v, fin = .done (.ret v) ∧ Q v s') E s :=
    wpC_then (write_ok F N hoff (ms := ks ++ ms) (byteArr_app ks ms) (by rw [List.length_append]; omega) fun h' F' N' => wpC_pure ⟨.none, rfl, h h' F' N'⟩)
  by_cases he : (!(byteArr ms).isEmpty) = true
  · rw [if_pos he]
    exact wpC_bind (resize_ok hD hg key)
  · rw [if_neg he]
    exact key
end


namespace BA
open Builtin
theorem mro : mroOf (.type "bytearray") = pure [.type "bytearray", .type "object"] := by rw [mroOf_type]; kernel_rfl
theorem lookup_new : typeLookup (.type "bytearray") "__new__" = pure (some (.builtin "bytearray.__new__")) := by rw [typeLookup_type, builtinLookup_eq_fast]; kernel_rfl
theorem slot_init : Slot "bytearray" "__init__" "bytearray.__init__" :=
  .of (owner := "bytearray") (n := "__init__") (by rw [typeLookup_type, builtinLookup_eq_fast]; kernel_rfl) (by decide +kernel) (by decide +kernel) (by decide +kernel)
    (by first | exact .inl (by decide +kernel) | exact .inr (by decide +kernel)) (by rw [isSubtype_type]; kernel_rfl)
theorem called : TypeCalled "bytearray" "bytearray.__new__" "bytearray.__init__" :=
  ⟨by decide +kernel, by decide +kernel, ⟨_, _, mro⟩, madeBy_type mro lookup_new (by decide +kernel), by decide +kernel, by rw [isSubtype_type]; kernel_rfl, slot_init⟩
theorem typeCall : checkTypeCall "bytearray" ⟨[], []⟩ = pure () := by kernel_rfl
theorem newCall : checkBuiltinCall "bytearray.__new__" ⟨[.type "bytearray"], []⟩ = pure () := by kernel_rfl
theorem entry_new : entryFor table "bytearray.__new__" = some Builtin.«list.__new__» := by
  exact entryFor_alias (id' := "list.__new__") (by kernel_rfl) (by first | rfl | decide +kernel | (unfold String.cutAt; rfl) | (unfold String.splitOn; simp +decide [String.splitOnAux])) (by decide +kernel) (by kernel_rfl)
theorem entry_init : entryFor table "bytearray.__init__" = some Builtin.«bytearray.__init__» := by first | exact entryFor_of_fast (by kernel_rfl) | exact entryFor_of_tree (by kernel_rfl)
theorem plain_new : plainId "bytearray.__new__" = true := by decide +kernel
theorem sub_self : isSubtype (.type "bytearray") (.type "bytearray") = pure true := by rw [isSubtype_type]; kernel_rfl
theorem args_init (o : Value) : argsOk "bytearray.__init__" ⟨[o], []⟩ := by unfold argsOk; kernel_rfl
theorem bind_init : Builtin.Bytes.bindOptional "bytearray.__init__" "bytearray" ["source", "encoding", "errors"] [] [] = pure [none, none, none] := by kernel_rfl
set_option maxRecDepth 1000000 in
set_option maxHeartbeats 4000000 in
theorem owner_new : ("bytearray.__new__".splitOn ".__new__").headD "" = "bytearray" := by simp +decide [String.splitOn, String.splitOnAux]
theorem look_release : typeLookup (.type "bytearray") "__release_buffer__" = pure (some (.builtin "bytearray.__release_buffer__")) := by rw [typeLookup_type, builtinLookup_eq_fast]; kernel_rfl
theorem look_buffer : typeLookup (.type "bytearray") "__buffer__" = pure (some (.builtin "bytearray.__buffer__")) := by rw [typeLookup_type, builtinLookup_eq_fast]; kernel_rfl
theorem look_index : typeLookup (.type "bytearray") "__index__" = pure none := by rw [typeLookup_type, builtinLookup_eq_fast]; kernel_rfl
theorem look_bytes : typeLookup (.type "bytearray") "__bytes__" = pure none := by rw [typeLookup_type, builtinLookup_eq_fast]; kernel_rfl
theorem nodict : typeHasDict (.type "bytearray") = false := by kernel_rfl
end BA
section
variable {prog : Program} {w : World} {A : Around} {E : Value → Shared → Prop} {s : Shared} {h₀ : Heap} {L : Addr} {m : Str → Option Value}
theorem code_ba_new {Q₁ : Value → Shared → Prop}
    (h : Q₁ (.ref s.heap.objs.size) { s with heap := s.heap.push (baO []) }) :
    codeAny (model prog w) A (.call (.builtin "bytearray.__new__") ⟨[.type "bytearray"], []⟩) (wants Q₁ E) s := by
  refine codeAny_of_tree ?_
  show wpAny _ A.in1 (do checkBuiltinCall "bytearray.__new__" ⟨[.type "bytearray"], []⟩; again (.builtin "bytearray.__new__" ⟨[.type "bytearray"], []⟩)) _ _ s
  refine wpAny_bind (wpAny_of_eq BA.newCall (wpAny_pure ⟨plainId_quiet BA.plain_new _, codeAny_builtin_stack BA.entry_new rfl fun p st => ?_⟩))
  rw [Around.under_plainId BA.plain_new _]
  have hsub := BA.sub_self
  have hown := BA.owner_new
  have hnd := BA.nodict
  obtain ⟨hp, g, d, tk, os⟩ := s
  simp only [hown]
  wp_walk
  exact h
theorem own_release_ba {a : Addr} {Q : Bool → Shared → Prop} (hT : s.TypeIs (.ref a) "bytearray") (h : Q true s) : wpAny (model prog w) A (Builtin.Bytes.slotIsOwn (.ref a) "__release_buffer__") Q E s := by
  unfold Builtin.Bytes.slotIsOwn
  refine wpAny_bind (wpAny_specialOf hT BA.look_release ?_)
  dsimp only
  rw [if_neg (by decide +kernel)]
  have e : ("bytearray.__release_buffer__".dropRight ("__release_buffer__".length + 1)) = "bytearray" := by decide +kernel
  rw [e]
  exact wpAny_isInstance hT BA.sub_self h
theorem own_buffer_ba {a : Addr} {Q : Bool → Shared → Prop} (hT : s.TypeIs (.ref a) "bytearray") (h : Q true s) : wpAny (model prog w) A (Builtin.Bytes.slotIsOwn (.ref a) "__buffer__") Q E s := by
  unfold Builtin.Bytes.slotIsOwn
  refine wpAny_bind (wpAny_specialOf hT BA.look_buffer ?_)
  dsimp only
  rw [if_neg (by decide +kernel)]
  have e : ("bytearray.__buffer__".dropRight ("__buffer__".length + 1)) = "bytearray" := by decide +kernel
  rw [e]
  exact wpAny_isInstance hT BA.sub_self h
theorem new_ba {news : List (Addr × Obj)} {Q : Value → Shared → Prop} (F : Fr h₀ L s.heap m) (N : News h₀ L s.heap news) (hg : A.guards = some [])
    (h : ∀ D h', Fr h₀ L h' m → News h₀ L h' ((D, baO []) :: news) → (∀ p ∈ news, p.1 ≠ D) → Q (.ref D) { s with heap := h' }) :
    wpC (model prog w) A (call (.type "bytearray") []) Q E s := by
  refine wpC_call (codeC_of_tree ?_)
  show wpC _ A.in1 (callAny (.type "bytearray") _) _ _ _
  refine wpC_pure ⟨Code.quiet_builtin _ (by decide +kernel), by decide +kernel, codeC_builtin PySem.F.entry_type_call ?_⟩
  rw [Around.under_plain (weight_type_call_type "bytearray" [] []) rfl]
  unfold Builtin.«type.__call__»
  dsimp only
  rw [if_neg (by decide)]
  rw [BA.called.canCreate]
  rw [if_neg (by decide)]
  refine wpC_then (wpAny_of_eq BA.typeCall ?_)
  refine wpC_then (wpAny_of_eq BA.mro ?_)
  rw [if_neg (by decide)]
  refine wpC_then (wpAny_of_eq BA.called.made ?_)
  dsimp only
  refine wpC_bind (wpC_pure ?_)
  refine wpC_bind (wpC_holding (wpC_any (wpAny_call (codeAny_mono (code_ba_new (E := E) (Q₁ := fun v s' => v = .ref s.heap.objs.size ∧ s' = { s with heap := s.heap.push (baO []) }) ⟨rfl, rfl⟩) fun r s' hr => ?_))))
  rcases r with e | fl
  · exact hr
  rcases fl with _ | _ | _ | v
  all_goals first | exact hr.elim | skip
  obtain ⟨rfl, rfl⟩ := hr
  dsimp only
  have N' := N.push F (baO [])
  have hD : (s.heap.push (baO [])).get? s.heap.objs.size = some (baO []) := N'.get (.head _)
  have hT : ({ s with heap := s.heap.push (baO []) } : Shared).TypeIs (.ref s.heap.objs.size) "bytearray" := ⟨_, hD, rfl⟩
  refine wpC_then (wpAny_isInstance hT BA.sub_self ?_)
  rw [if_neg (by decide)]
  refine wpC_bind (wpC_holding ?_)
  unfold callSpecial?
  refine wpC_then (wpAny_specialOf hT BA.slot_init.lookup ?_)
  dsimp only
  refine wpC_holding ?_
  refine wpC_then (wpAny_of_eq (BA.slot_init.bind _) ?_)
  dsimp only
  refine wpC_bind (callC_builtin BA.slot_init.plain (by decide +kernel) BA.entry_init (fun Q' E' q => BA.slot_init.check _ _ _ _ _ _ _ _ hT (BA.args_init _) q) ?_)
  unfold Builtin.«bytearray.__init__»
  dsimp only [List.cons_append, List.nil_append]
  refine wpC_bind ?_
  unfold Builtin.Bytes.ownRelease
  refine wpC_then (own_release_ba hT ?_)
  refine wpC_pure ?_
  rw [if_neg (by decide)]
  refine wpC_then (wpAny_of_eq BA.bind_init ?_)
  dsimp only
  refine wpC_then (wpAny_of_eq (a := ()) rfl ?_)
  refine wpC_then (wpAny_of_eq (a := ()) rfl ?_)
  refine wpC_bind (wpC_bind (wpC_exported hg ?_))
  show wpC _ _ (do let x ← Builtin.Bytes.exportsOf (.ref s.heap.objs.size); pure (decide (x > 0))) _ _ _
  unfold Builtin.Bytes.exportsOf
  refine wpC_bind (wpC_any (wpAny_bind (wpAny_load hD ?_)))
  refine wpAny_pure (wpC_pure ?_)
  rw [if_neg (by simp)]
  refine wpC_then (write_ok (m := m) (own := news) (ms := []) (F.push _) N' N.apart rfl (Nat.zero_le _) fun h' F' N'' => ?_)
  dsimp only
  refine wpC_then (wpAny_of_eq (a := ()) rfl ?_)
  refine wpC_pure ⟨.none, rfl, wpC_pure ?_⟩
  dsimp only
  rw [if_neg (by decide)]
  exact wpC_pure (h _ _ F' N'' N.apart)
theorem code_bytes_ba {D : Addr} {ks : List Int} {Q : Value → Shared → Prop} (hD : s.heap.get? D = some (baO ks)) (hz : ks.length ≤ sizeLine)
    (hQ : ∀ t k, Q (.bytes (byteArr ks) t) { s with toks := k }) :
    codeAny (model prog w) A (.call (.builtin "bytes.__new__") ⟨[.type "bytes", .ref D], []⟩) (wants Q E) s := by
  refine codeAny_of_tree ?_
  show wpAny _ A.in1 (do checkBuiltinCall "bytes.__new__" ⟨[.type "bytes", .ref D], []⟩; again (.builtin "bytes.__new__" ⟨[.type "bytes", .ref D], []⟩)) _ _ s
  refine wpAny_bind (wpAny_of_eq (F.bm_newCall _) (wpAny_pure ⟨plainId_quiet F.bm_plain _, codeAny_builtin F.bm_entry ?_⟩))
  rw [Around.under_plainId F.bm_plain _]
  have hT : s.TypeIs (.ref D) "bytearray" := ⟨_, hD, rfl⟩
  unfold Builtin.«bytes.__new__»
  refine wpAny_bind (wpAny_of_eq (a := true) rfl ?_)
  refine bm_if_false rfl ?_
  refine wpAny_bind (wpAny_of_eq F.bm_sub ?_)
  refine bm_if_false rfl ?_
  refine wpAny_bind (wpAny_of_eq (F.bm_bind _) ?_)
  refine wpAny_bind (wpAny_of_eq (a := ()) rfl ?_)
  refine wpAny_bind (wpAny_of_eq (a := ()) rfl ?_)
  refine bm_if_false rfl ?_
  refine wpAny_bind (wpAny_specialOf hT BA.look_bytes ?_)
  refine wpAny_bind (wpAny_bind ?_)
  show wpAny _ _ (load D >>= _) _ _ _
  refine wpAny_bind (wpAny_load hD ?_)
  refine wpAny_pure (wpAny_pure ?_)
  refine bm_if_false rfl ?_
  refine wpAny_bind (wpAny_specialOf hT BA.look_index ?_)
  refine bm_if_true rfl ?_
  first
    | show wpAny _ _ (Builtin.Bytes.buffer? "bytes.__new__" (.ref D) true >>= _) _ _ _
    | (refine wpAny_bind ?_; show wpAny _ _ (Builtin.Bytes.buffer? "bytes.__new__" (.ref D) true >>= _) _ _ _)
  refine wpAny_bind ?_
  unfold Builtin.Bytes.buffer?
  refine wpAny_bind (wpAny_specialOf hT BA.look_buffer ?_)
  dsimp only
  refine wpAny_bind (own_buffer_ba hT ?_)
  refine bm_if_false rfl ?_
  refine wpAny_bind (wpAny_specialOf hT BA.look_buffer ?_)
  show wpAny _ _ (Builtin.Bytes.ownRelease (.ref D) >>= _) _ _ _
  refine wpAny_bind ?_
  unfold Builtin.Bytes.ownRelease
  refine wpAny_bind (own_release_ba hT ?_)
  refine wpAny_pure ?_
  refine bm_if_false rfl ?_
  refine wpAny_bind ?_
  unfold Builtin.Bytes.payload Builtin.Bytes.payload?
  refine wpAny_bind (wpAny_bind (wpAny_load hD ?_))
  refine wpAny_pure (wpAny_pure (wpAny_pure ?_))
  refine wpAny_bind (wpAny_rule ?_)
  refine wpAny_bind (wpAny_mkBytes ?_ (by rw [byteArr_size]; exact hz))
  show wpAny _ _ (if (Value.type "bytes" == Value.type "bytes") = true then _ else _) _ _ _
  refine bm_if_true (by decide) ?_
  first
    | exact wpAny_pure (hQ _ _)
    | exact wpAny_bind (wpAny_pure (wpAny_pure (hQ _ _)))
theorem call_bytes_ba {D : Addr} {ks : List Int} {Q : Value → Shared → Prop} (hD : s.heap.get? D = some (baO ks)) (hz : ks.length ≤ 16777216)
    (hQ : ∀ t k, Q (.bytes (byteArr ks) t) { s with toks := k }) : wpAny (model prog w) A (call (.type "bytes") [.ref D]) Q E s := by
  refine callType_codes (Q₁ := fun obj s₁ => s₁.TypeIs obj "bytes" ∧ Q obj s₁) F.bm_called (F.bm_typeCall _) F.entry_object_init
    (code_bytes_ba hD (by rw [sizeLine_eq]; exact hz) fun t k => ⟨PySem.W.typeIs_bytes _ _ _, hQ t k⟩) fun obj s₁ h₁ => ?_
  exact ⟨h₁.1, F.args_object_init_2 obj _, object_init_meets F.bm_called.init.lookup F.bm_called.made (by decide) prog w A.in1 _ s₁ ⟨h₁.1, rfl, h₁.2⟩⟩
end


section
variable {M : Model} {A : Around} {E : Value → Shared → Prop} {s : Shared} {env : Env}
theorem splicedC_nil {Q : List Value → Shared → Prop} (h : Q [] s) : wpC M A (spliced []) Q E s := wpC_pure h
theorem splicedC_cons {x : Sem Value} {rest : List (Bool × Sem Value)} {Q : List Value → Shared → Prop}
    (h : wpC M A x (fun v s₁ => wpC M A (spliced rest) (fun vs s₂ => Q (v :: vs) s₂) E s₁) E s) : wpC M A (spliced ((false, x) :: rest)) Q E s := by
  rw [spliced]
  refine wpC_bind (wpC_mono h (fun v s₁ h₁ => ?_) fun _ _ x => x)
  simp only [Bool.false_eq_true, if_false]
  exact wpC_bind (wpC_pure (wpC_bind (wpC_holding (wpC_mono h₁ (fun vs s₂ h₂ => wpC_pure h₂) fun _ _ x => x))))
theorem splicedC_1 {x : Sem Value} {Q : List Value → Shared → Prop} (h : wpC M A x (fun v s₁ => Q [v] s₁) E s) : wpC M A (spliced [(false, x)]) Q E s :=
  splicedC_cons (wpC_mono h (fun _ _ h₁ => splicedC_nil h₁) fun _ _ x => x)
theorem evalArgsC_plain {f : Value} {x : Sem Value} {rest : List (Bool × Sem Value)} {Q : Args → Shared → Prop}
    (h : wpC M A (spliced ((false, x) :: rest)) (fun vs s' => Q ⟨vs, []⟩ s') E s) : wpC M A (evalArgs f true ((false, x) :: rest) []) Q E s := by
  unfold evalArgs
  show wpC M A (spliced ((false, x) :: rest) >>= _) Q E s
  refine wpC_bind (wpC_mono h (fun vs s' h' => ?_) fun _ _ x => x)
  refine wpC_holding ?_
  exact wpC_bind (wpC_pure (wpC_bind (wpC_pure (wpC_pure h'))))
theorem evalArgsC_nil {f : Value} {Q : Args → Shared → Prop} (h : Q ⟨[], []⟩ s) : wpC M A (evalArgs f true [] []) Q E s := wpC_any (evalArgs_nil3 h)
theorem callWithC_builtin {pos : Pos} {id : String} {first : List Value} {args : List (Bool × Sem Value)} {Q : Value → Shared → Prop} (hplain : args.any (·.1) = false)
    (h : wpC M A (evalArgs (.builtin id) true args []) (fun a s₁ => wpC M A (call (.builtin id) (first ++ a.pos) a.kw) Q E s₁) E s) :
    wpC M A (callWith pos (.builtin id) first args []) Q E s := by
  unfold callWith
  refine wpC_bind (wpC_holding (wpC_mono h (fun a s₁ h₁ => wpC_bind (wpC_standAt ?_)) fun _ _ x => x))
  simp only [hplain, List.any_nil, Bool.or_false]
  refine wpC_bind (wpC_pure ?_)
  exact wpC_bind (wpC_mono h₁ (fun r s₂ hr => wpC_bind (wpC_holding (wpC_point (wpC_pure hr)))) fun _ _ x => x)
theorem callWithC_type {pos : Pos} {T : String} {first : List Value} {args : List (Bool × Sem Value)} {Q : Value → Shared → Prop} (hplain : args.any (·.1) = false)
    (h : wpC M A (evalArgs (.type T) true args []) (fun a s₁ => wpC M A (call (.type T) (first ++ a.pos) a.kw) Q E s₁) E s) :
    wpC M A (callWith pos (.type T) first args []) Q E s := by
  unfold callWith
  refine wpC_bind (wpC_holding (wpC_mono h (fun a s₁ h₁ => wpC_bind (wpC_standAt ?_)) fun _ _ x => x))
  simp only [hplain, List.any_nil, Bool.or_false]
  refine wpC_bind (wpC_pure ?_)
  exact wpC_bind (wpC_mono h₁ (fun r s₂ hr => wpC_bind (wpC_holding (wpC_point (wpC_pure hr)))) fun _ _ x => x)
theorem callWithC_function {pos : Pos} {a : Addr} {o : Obj} {fd : FuncData} {first : List Value} {args : List (Bool × Sem Value)} {Q : Value → Shared → Prop}
    (h : wpC M A (evalArgs (.ref a) true args []) (fun x s₁ => (s₁.heap.get? a = some o ∧ o.data = .func fd) ∧ wpC M A (call (.ref a) (first ++ x.pos) x.kw) Q E s₁) E s) :
    wpC M A (callWith pos (.ref a) first args []) Q E s := by
  unfold callWith
  refine wpC_bind (wpC_holding (wpC_mono h (fun x s₁ h₁ => wpC_bind (wpC_standAt ?_)) fun _ _ x => x))
  have tail : ∀ {t : Sem Value}, wpC M A t Q E s₁ → wpC M A (t >>= fun r => holding [r] point >>= fun _ => pure r) Q E s₁ :=
    fun ht => wpC_bind (wpC_mono ht (fun r s₂ hr => wpC_bind (wpC_holding (wpC_point (wpC_pure hr)))) fun _ _ x => x)
  cases hs : (args.any (·.1) || ([] : List (Option Str × Sem Value)).any (·.1.isNone)) <;>
    refine wpC_bind (m := keeperOf (.ref a)) ?_ <;> unfold keeperOf <;>
    refine wpC_any (wpAny_bind (wpAny_load h₁.1.1 ?_)) <;> rw [h₁.1.2] <;> refine wpAny_pure ?_
  · dsimp only
    split <;> first
      | exact tail h₁.2
      | exact tail (by unfold callMarked; exact wpC_keep h₁.2)
  · first
      | exact tail (by unfold callMarked; exact wpC_keep h₁.2)
      | exact tail h₁.2
theorem CallC_Name {x : Str} {p pos : Pos} {args : List Expr} {trees : List (Bool × Sem Value)} {Q : Value → Shared → Prop} (ht : backTo pos (starEach args env) = trees)
    (h : wpAny M A (eval (.Name x p) env) (fun f s₁ => wpC M A (callWith pos f [] trees []) Q E s₁) E s) :
    wpC M A (eval (.Call (.Name x p) args [] pos) env) Q E s := by
  subst ht
  exact wpC_then h
end
section
variable {prog : Program} {w : World} {A : Around} {E : Value → Shared → Prop} {s : Shared} {env : Env}
theorem CallC_method {o e : Expr} {name : Str} {apos pos : Pos} {id : String} {Q : Value → Shared → Prop}
    (hbase : attributeBase o name env (eval o env) = eval o env)
    (htrees : backTo pos (starEach [e] env) = [(false, eval e env)])
    (hline : (apos.endLine == pos.line) = true)
    (slot : Slot "bytearray" name id) (hty : typeOf (.builtin id) = pure (.type "method_descriptor"))
    (h : wpAny (model prog w) A (eval o env) (fun ov s₁ => ∃ D ks, ov = .ref D ∧ s₁.heap.get? D = some (baO ks) ∧
      wpC (model prog w) A (eval e env) (fun y s₂ => wpC (model prog w) A (call (.builtin id) [.ref D, y]) Q E s₂) E s₁) E s) :
    wpC (model prog w) A (eval (.Call (.Attribute o name apos) [e] [] pos) env) Q E s := by
  rw [arm_eval_Call, hbase]
  refine wpC_then (wpAny_mono h (fun ov s₁ h₁ => ?_) fun _ _ e => e)
  obtain ⟨D, ks, rfl, hD, hcall⟩ := h₁
  refine wpC_bind (wpC_standAt ?_)
  have fin : wpC (model prog w) A (callWith pos (.builtin id) [.ref D] (backTo pos (starEach [e] env)) []) Q E s₁ := by
    rw [htrees]
    exact callWithC_builtin rfl (evalArgsC_plain (splicedC_1 hcall))
  have hform : methodCallForm (([e] : List Expr).length + ([] : List Keyword).length) (backTo pos (starEach [e] env)) (backToKw pos (keywordEach [] env)) = true := by rw [htrees]; rfl
  have hpos : methodCallPos true o env apos pos = pure pos := by unfold methodCallPos; simp [hline]
  unfold methodCall
  rw [hform]
  refine wpC_bind (wpC_holding (wpC_any (getMethod_builtin (T := "bytearray") ⟨_, hD, rfl⟩ BA.plainAttrs slot hty (fun a q => ⟨_, by cases q; exact hD, rfl⟩) ?_)))
  exact wpC_bind (wpC_any (wpAny_of_eq hpos fin))
end


section
variable {prog : Program} {w : World} {A : Around} {s : Shared} {R : Result → Shared → Prop}
theorem codeC_func {body : List Stmt} {env : Env}
    (h : wpC (model prog w) (A.deeper env) (execs body env) (fun f s' => R (.ok (.ret (match f with | .ret v => v | _ => .none))) s')
      (fun e s' => wpAny (model prog w) (A.deeper env) (leaving env e) (fun _ s'' => R (.error e) s'') (fun e' s'' => R (.error e') s'') s') s) :
    codeC (model prog w) A (.func body env) R s := by
  refine codeC_of_tree ?_
  show wpC _ (A.deeper env) (do point; match ← (execs body env).onRaise (leaving env) with | .ret v => ret v | _ => ret .none) _ _ s
  have key : wpC (model prog w) (A.deeper env) ((execs body env).onRaise (leaving env)) (fun f s' => R (.ok (.ret (match f with | .ret v => v | _ => .none))) s') (fun e s' => R (.error e) s') s := fun Γ p hΓ hC => by
    rw [Sem.wp_onRaise]
    exact Sem.wp_mono _ Γ _ (fun _ _ _ h' => h') (fun e p' s' h' => h' Γ p' hΓ) p s (h Γ p hΓ hC)
  refine wpC_bind (wpC_point (wpC_bind (wpC_mono key (fun f s' h' => ?_) fun _ _ h' => h')))
  cases f <;> exact wpC_pure h'
theorem codeC_call_function {a : Addr} {args : Args} {o : Obj} {fd : FuncData} {body : List Stmt} (hroom : A.depth < recursionLimit)
    (ho : s.heap.get? a = some o)
    (hd' : o.data = .func fd) (hco : fd.scope.isCoroutine = false) (hgen : fd.scope.isGenerator = false) (hbody : fd.body = .stmts body) (hcd : s.heap.CodeRec fd.code fd.qualname)
    (h : wpAny (model prog w) A.in1 (bindArgs fd args) (fun binds s₁ =>
      wpAny (model prog w) A.in1 (newFunctionEnv fd.scope fd.globals fd.closure binds (fd.qualname ++ ".<locals>.") (some a) fd.code none fd.builtins)
        (fun env s₂ => s₂.heap.NoLimit ∧ codeC (model prog w) A (.func body env) R s₂) (fun e s' => R (.error e) s') s₁) (fun e s' => R (.error e) s') s) :
    codeC (model prog w) A (.call (.ref a) args) R s := by
  refine codeC_of_tree ?_
  show wpC _ A.in1 (callAny (.ref a) args) _ _ s
  simp only [callAny]
  refine wpC_any (wpAny_bind (wpAny_load ho ?_))
  obtain ⟨c, oc, vs, tq, hc, hoc, hdc, hq⟩ := hcd
  simp only [hd', callFunction, hco, hgen, hbody, hc]
  rw [hc] at h
  refine wpAny_bind (m := field (.ref c) 1) (wpAny_field hoc hdc hq (wpAny_bind (wpAny_pure ?_)))
  exact wpAny_bind (wpAny_mono h (fun binds s₁ h₁ => wpAny_bind (wpAny_mono h₁ (fun env s₂ h₂ => wpAny_bind (wpAny_enterFrame h₂.1 hroom
    (wpAny_pure (And.intro rfl (And.intro rfl h₂.2))))) fun _ _ h' => h')) fun _ _ h' => h')
theorem codeC_call_def {a : Addr} {o : Obj} {fd : FuncData} {body : List Stmt} {args : Args} {binds : List (Str × Value)}
    (hroom : A.depth < recursionLimit) (ho : s.heap.get? a = some o) (hdata : o.data = .func fd) (hlim : s.heap.NoLimit) (hcd : s.heap.CodeRec fd.code fd.qualname)
    (hbody : fd.body = .stmts body) (hbind : BindsTo s fd args binds)
    (hcell : ∀ x ∈ fd.scope.names, x.2 ≠ .cell) (hloc : ∀ x ∈ binds, fd.scope.names.lookup x.1 = some .local)
    (h : ∀ h₀, h₀.Ns s.heap.objs.size (fun x => binds.reverse.lookup x) → (∀ b o, s.heap.get? b = some o → h₀.get? b = some o) →
      wpC (model prog w) (A.deeper (callEnv fd s.heap.objs.size a)) (execs body (callEnv fd s.heap.objs.size a)) (fun f s' => R (.ok (.ret (match f with | .ret v => v | _ => .none))) s')
        (fun e s' => wpAny (model prog w) (A.deeper (callEnv fd s.heap.objs.size a)) (leaving (callEnv fd s.heap.objs.size a) e) (fun _ s'' => R (.error e) s'') (fun e' s'' => R (.error e') s'') s')
        { s with heap := h₀, toks := s.toks + binds.length })
    (hco : fd.scope.isCoroutine = false := by rfl) (hgen : fd.scope.isGenerator = false := by rfl) (hk : fd.scope.kind = .function := by rfl) :
    codeC (model prog w) A (.call (.ref a) args) R s := by
  refine codeC_call_function hroom ho hdata hco hgen hbody hcd (hbind _ _ _ _ ?_)
  refine wpAny_newFunctionEnv hcell hloc (fun h₀ hns₀ hsb₀ => ⟨hlim.fresh _ hsb₀, codeC_func (h h₀ hns₀ fun b o e => ?_)⟩) hk
  exact hsb₀.extBut b o (Nat.ne_of_lt (Heap.lt_size e)) (Heap.get?_push_of_some _ e)
end
section
variable {prog : Program} {w : World} {A : Around} {s : Shared} {K : Frag} {p : Program} {loose : List Str} {mean : ExcName → Option Value} {mg mb : Str → Option Value}
  {R : Result → Shared → Prop} {name qual : Str} {params : Arguments} {body : List Stmt} {scope : Scope} {dV kV doc pm cdv ct oc : Value} {an od : Option Addr} {osl : Array (Option Value)} {f : Addr} {args : Args} {binds : List (Str × Value)}
/-- the way into a function, over the closed contexts -/
theorem enterW (X : K.In s.heap) (T : Top p loose mean mg mb s.heap)
    (ho : K.lookup f = some ⟨oc, od, .func (fnOf name qual params body scope dV kV doc pm an cdv ct), osl⟩) (hcd : codeIn K cdv qual = true) (hroom : A.depth < recursionLimit)
    (hbind : BindsTo s (fnOf name qual params body scope dV kV doc pm an cdv ct) args binds) (hloc : ∀ y ∈ binds, scope.names.lookup y.1 = some .local)
    (h : ∀ L' h₁, Fr s.heap L' h₁ (fun y => binds.reverse.lookup y) → News s.heap L' h₁ [] →
      wpC (model prog w) (A.deeper (envOf qual scope L' f cdv)) (execs body (envOf qual scope L' f cdv))
        (fun fl s' => R (.ok (.ret (match fl with | .ret v => v | _ => .none))) s')
        (fun e s' => wpAny (model prog w) (A.deeper (envOf qual scope L' f cdv)) (leaving (envOf qual scope L' f cdv) e) (fun _ s'' => R (.error e) s'') (fun e' s'' => R (.error e') s'') s')
        { s with heap := h₁, toks := s.toks + binds.length })
    (hcell : ∀ x ∈ scope.names, x.2 ≠ .cell) (hco : scope.isCoroutine = false := by rfl) (hgen : scope.isGenerator = false := by rfl) (hk : scope.kind = .function := by rfl) :
    codeC (model prog w) A (.call (.ref f) args) R s := by
  refine codeC_call_def (fd := fnOf name qual params body scope dV kV doc pm an cdv ct) (body := body) (binds := binds) hroom (X _ _ ho) rfl T.nolimit (codeRec_of X hcd) rfl hbind hcell hloc (fun h₁ hns hk₁ => ?_) hco hgen hk
  exact h s.heap.objs.size h₁ ⟨hns, hk₁, Nat.le_refl _⟩ News.nil
end


/-- what a frame's note does to an error: the object stays but for its fields, its entry is landed -/
structure Noted1 (base : Heap) (l : List Env) (e : Addr) (oe : Obj) (h h' : Heap) : Prop where
  stays : base.StaysIn h'
  frames : h'.FunFrames base l
  exc : ∃ vs T oT ts, h'.get? e = some { oe with data := .fields vs } ∧ vs[1]? = some (.ref T) ∧ base.get? T = none ∧ T ≠ e ∧ h'.get? T = some oT ∧ oT.data = .fields ts ∧ ts[3]? = some .none
  slots : h.UpToSlots h'
theorem mapFields_eq {o : Obj} {vs : Array Value} (hd : o.data = .fields vs) (f : Array Value → Array Value) : Obj.mapFields f o = { o with data := .fields (f vs) } := by
  obtain ⟨c, d, dat, sl⟩ := o
  dsimp only at hd
  subst hd
  rfl
section
variable {M : Model} {A : Around} {E : Value → Shared → Prop} {s : Shared}
theorem note_new {base : Heap} {env : Env} {outer : List Env} {L e : Addr} {oe : Obj} {vs : Array Value} {head : Value} {hadNext : Bool} {Q : Unit → Shared → Prop}
    (hfr : A.frames = some (env :: outer)) (hl : s.heap.FunFrames base (env :: outer)) (hf : env.frame = some L)
    (he : s.heap.get? e = some oe) (hkb : base.StaysIn s.heap) (hen : base.get? e = none) (hd : oe.data = .fields vs) (hsz : 1 < vs.size)
    (h : ∀ h', Noted1 base (env :: outer) e oe s.heap h' → Q () { s with heap := h' }) :
    wpAny M A (do let a ← frameOf env; let pl ← entryPlaceOf L hadNext; let b ← EntryCells.newEntry head a .none (rawInt L) .none pl; setField (.ref e) 1 b) (fun _ s' => wpAny M A (setFlight (.ref e) none) Q E s') E s := by
  have away : ∀ b o, s.heap.get? b = some o → (∀ vs, o.data ≠ .fields vs) → b ≠ e := fun b o hb hn q => by
    subst q; rw [he] at hb; cases hb; exact hn vs hd
  have hnf : e ∉ (env :: outer).filterMap (·.frame) := fun hm => by
    obtain ⟨_, o, ho, hn⟩ := hl.mem hm
    exact away e o ho hn rfl
  refine wpAny_bind (wpAny_frameOf_fun hfr hl hf fun h₁ S => wpAny_bind (wpAny_entryPlaceOf fun pl hpl => ?_))
  unfold EntryCells.newEntry newFields
  refine wpAny_bind (wpAny_newObj_type ?_ (hpl.sizeOk5 _ _ _ _ _))
  generalize hob : ({ cls := .type "traceback", dict := none, data := .fields ([head, .ref L, .none, rawInt L, .none] ++ (if pl.isEmpty then List.replicate 6 Value.none else pl)).toArray } : Obj) = ob
  have hobd : ob.data = .fields ([head, .ref L, .none, rawInt L, .none] ++ (if pl.isEmpty then List.replicate 6 Value.none else pl)).toArray := by subst hob; rfl
  have hobf : ob.isFreed = false := Obj.isFreed_of_fields hobd
  have e1 : h₁.get? e = some oe := (S.2.1 e hnf).trans he
  have b1 : base.StaysIn h₁ := fun b o q => (S.2.1 b fun hm => by rw [(hl.mem hm).1] at q; cases q).trans (hkb b o q)
  have hTe : h₁.objs.size ≠ e := Nat.ne_of_gt (Heap.lt_size e1)
  have e2 : (h₁.push ob).get? e = some oe := Heap.get?_push_of_some _ e1
  refine wpAny_setField e2 hd hsz ?_
  generalize hh2 : (h₁.push ob).update e (Obj.mapFields (·.setIfInBounds 1 (Value.ref h₁.objs.size))) = h₂
  have k2 : ∀ b o, b ≠ e → h₁.get? b = some o → h₂.get? b = some o := fun b o hb q => by
    subst hh2
    rw [Heap.get?_update_other _ _ (Ne.symm hb)]
    exact Heap.get?_push_of_some _ q
  have e3 : h₂.get? e = some { oe with data := .fields (vs.setIfInBounds 1 (Value.ref h₁.objs.size)) } := by
    subst hh2
    rw [Heap.get?_update_self _ e2 (Obj.isFreed_of_fields (Obj.data_mapFields hd _)), mapFields_eq hd]
  have t3 : h₂.get? h₁.objs.size = some ob := by
    subst hh2
    rw [Heap.get?_update_other _ _ (Ne.symm hTe)]
    exact Heap.get?_push_size h₁ hobf
  unfold setFlight
  refine wpAny_bind (wpAny_field e3 rfl (x := .ref h₁.objs.size) (by simp [hsz]) ?_)
  rw [if_pos (show (Value.ref h₁.objs.size != Value.none) = true from by simp)]
  refine wpAny_setField t3 hobd (by simp only [List.size_toArray, List.length_append, List.length_cons, List.length_nil] <;> omega) (h _ ?_)
  generalize hh3 : h₂.update h₁.objs.size (Obj.mapFields (·.setIfInBounds 3 ((none : Option Addr).elim Value.none fun f => rawInt f))) = h₃
  have k3 : ∀ b o, b ≠ h₁.objs.size → h₂.get? b = some o → h₃.get? b = some o := fun b o hb q => by
    subst hh3
    rw [Heap.get?_update_other _ _ (Ne.symm hb)]; exact q
  have k13 : ∀ b o, b ≠ e → h₁.get? b = some o → h₃.get? b = some o := fun b o hb q => k3 b o (Nat.ne_of_lt (Heap.lt_size q)) (k2 b o hb q)
  have sl : s.heap.UpToSlots h₃ := fun b o hb hn => by
    obtain ⟨sl, hs⟩ := S.2.2 b o hb
    exact ⟨sl, k13 b _ (away b o hb hn) hs⟩
  have t4 : h₃.get? h₁.objs.size = some (Obj.mapFields (·.setIfInBounds 3 ((none : Option Addr).elim Value.none fun f => rawInt f)) ob) := by
    subst hh3
    exact Heap.get?_update_self _ t3 (Obj.isFreed_of_fields (Obj.data_mapFields hobd _))
  refine ⟨fun b o q => k13 b o (fun z => by rw [z, hen] at q; cases q) (b1 b o q), hl.of_keeps fun b o hb hn => ?_, ⟨_, h₁.objs.size, _, _, k3 e _ (Ne.symm hTe) e3, by simp [hsz], b1.fresh, hTe, t4, Obj.data_mapFields hobd _, ?_⟩, sl⟩
  · obtain ⟨sl, hs⟩ := sl b o hb hn
    exact ⟨_, hs, rfl⟩
  · first | (simp; done) | (rcases hpl with rfl | ⟨_, _, _, _, _, _, _, rfl⟩ <;> simp)
end


/-- a NameFault on its way, its place i; base stands, the frames l are alive -/
def framesOf (l : List Env) : List Addr := l.filterMap (·.frame)
structure Fly (base : Heap) (l : List Env) (e dx : Addr) (i : Int) (h : Heap) : Prop where
  stays : base.StaysIn h
  fresh : base.get? e = none
  frames : h.FunFrames base l
  exc : ∃ oe vs T oT ts, h.get? e = some oe ∧ oe.cls = .ref 64 ∧ oe.dict = some dx ∧ oe.data = .fields vs ∧ vs[1]? = some (.ref T) ∧ base.get? T = none ∧ T ≠ e ∧ h.get? T = some oT ∧ oT.data = .fields ts ∧ ts[3]? = some .none
  freshd : base.get? dx = none
  place : ∃ mA t, h.Ns dx mA ∧ mA (Str.ofString "at") = some (.int i t)
  apart : dx ∉ framesOf l
theorem Fly.base {base B h : Heap} {l : List Env} {e dx : Addr} {i : Int} (k : base.StaysIn B) (x : Fly B l e dx i h) : Fly base l e dx i h := by
  obtain ⟨f1, f2, f3, ⟨oe, vs, T, oT, ts, a1, a2, a3, a4, a5, a6, a7⟩, f5, f6, f7⟩ := x
  exact ⟨fun b o q => f1 b o (k b o q), fresh_of_stays k f2, funFrames_base k f3, ⟨oe, vs, T, oT, ts, a1, a2, a3, a4, a5, fresh_of_stays k a6, a7⟩, fresh_of_stays k f5, f6, f7⟩
theorem funFrames_hidden {base h : Heap} {l : List Env} (x : h.FunFrames base l) : h.FunFrames (hideAll h (framesOf l)) l :=
  funFrames_hide x fun env he a ha => List.mem_filterMap.mpr ⟨env, he, ha⟩
section
variable {M : Model} {A : Around} {E : Value → Shared → Prop} {s : Shared}
theorem fly_next {base : Heap} {env : Env} {outer : List Env} {L e dx : Addr} {i : Int} {Q : Unit → Shared → Prop}
    (hfr : A.frames = some (env :: outer)) (hf : env.frame = some L) (x : Fly base (env :: outer) e dx i s.heap)
    (hQ : ∀ h', Fly base (env :: outer) e dx i h' → s.heap.UpToSlots h' → Q () { s with heap := h' }) :
    wpAny M A (noteFrame (.ref e) env) (fun _ s' => wpAny M A (setFlight (.ref e) none) Q E s') E s := by
  obtain ⟨f1, f2, f3, ⟨oe, vs, T, oT, ts, a1, a2, a3, a4, a5, a6, a7, a8, a9, a10⟩, f5, ⟨mA, t, f6, f7⟩, f8⟩ := x
  unfold noteFrame
  simp only [hf]
  refine wpAny_bind (wpAny_field a1 a4 a5 ?_)
  rw [if_pos (show (Value.ref T != Value.none) = true from by simp)]
  refine wpAny_bind (wpAny_field a8 a9 a10 ?_)
  rw [if_neg (show ¬ ((Value.none == rawInt L) = true) from by simp [rawInt])]
  refine wpAny_bind (wpAny_setField a8 a9 (Array.getElem?_eq_some_iff.mp a10).1 ?_)
  generalize hh : s.heap.update T (Obj.mapFields (·.setIfInBounds 3 Value.none)) = h₁
  have k : ∀ b o, b ≠ T → s.heap.get? b = some o → h₁.get? b = some o := fun b o hb q => by
    subst hh; rw [Heap.get?_update_other _ _ (Ne.symm hb)]; exact q
  have kn : ∀ b o, s.heap.get? b = some o → (∀ vs, o.data ≠ .fields vs) → h₁.get? b = some o := fun b o hb hn => k b o (fun z => by
    subst z; rw [a8] at hb; cases hb; exact hn ts a9) hb
  refine note_new (s := { s with heap := h₁ }) hfr (f3.of_keeps fun b o hb hn => ⟨o, kn b o hb hn, rfl⟩) hf (k e _ (Ne.symm a7) a1) (fun b o q => k b o (fun z => by rw [z, a6] at q; cases q) (f1 b o q)) f2 a4 (Array.getElem?_eq_some_iff.mp a5).1 fun h' N => ?_
  obtain ⟨n1, n2, ⟨vs', T', oT', ts', b1, b2, b3, b4, b5⟩, n4⟩ := N
  have up : s.heap.UpToSlots h' := fun b o hb hn => n4 b o (kn b o hb hn) hn
  exact hQ h' ⟨n1, f2, n2, ⟨_, vs', T', oT', ts', b1, a2, a3, rfl, b2, b3, b4, b5⟩, f5, ⟨mA, t, up.ns f6, f7⟩, f8⟩ up
theorem fly_leaves {base : Heap} {env : Env} {outer : List Env} {L e dx : Addr} {i : Int} {Q : Unit → Shared → Prop}
    (hfr : A.frames = some (env :: outer)) (hf : env.frame = some L) (x : Fly base (env :: outer) e dx i s.heap)
    (hQ : ∀ h', Fly base outer e dx i h' → s.heap.UpToSlots h' → Q () { s with heap := h' }) : wpAny M A (leaving env (.ref e)) Q E s := by
  unfold leaving
  refine wpAny_bind (fly_next hfr hf x fun h' y up => hQ h' ?_ up)
  obtain ⟨f1, f2, ⟨_, _, f3⟩, f4, f5, f6, f7⟩ := y
  refine ⟨f1, f2, f3, f4, f5, f6, fun hm => f7 ?_⟩
  unfold framesOf
  rw [List.filterMap_cons_some hf]
  exact List.mem_cons_of_mem _ hm
/-- a new fault leaves the frame that raised it -/
theorem fault_leaves {g gc : Heap} {L a e : Addr} {m : Str → Option Value} {name : Str} {scope : Scope} {cd : Value} {outer : List Env} {i : Int} {vs : Array Value} {Q : Unit → Shared → Prop}
    (hfr : A.frames = some outer) (fl : g.FunFrames (hideAll g (framesOf outer)) outer) (F : Fr g L gc m) (k : Ext gc s.heap) (D : Fault gc s.heap e i vs) (h1 : vs[1]? = some .none)
    (hQ : ∀ h' dx, Fly (hideAll g (framesOf outer)) outer e dx i h' → g.UpToSlots h' → Q () { s with heap := h' }) (hk : scope.kind = .function := by rfl) :
    wpAny M (A.deeper (envOf name scope L a cd)) (leaving (envOf name scope L a cd) (.ref e)) Q E s := by
  obtain ⟨dx, tu, what, mA, t, d1, d2, d3, d4, d5, d6, d7, d8, d9, d10, d11, d12⟩ := D.it
  have hgL : g.get? L = none := by
    cases q : g.get? L with
    | none => rfl
    | some o => exact absurd (Nat.lt_of_lt_of_le (Heap.lt_size q) F.above) (Nat.lt_irrefl _)
  have st : (hideAll g (framesOf outer)).StaysIn gc := fun b o q => F.keep b o (of_hideAll _ q)
  have nog : ∀ b, g.get? b = none → (hideAll g (framesOf outer)).get? b = none := fun b q => by
    cases z : (hideAll g (framesOf outer)).get? b with
    | none => rfl
    | some o => rw [of_hideAll _ z] at q; cases q
  have noc : ∀ b, gc.get? b = none → (hideAll g (framesOf outer)).get? b = none := fun b q => fresh_of_stays st q
  have fl' : s.heap.FunFrames (hideAll g (framesOf outer)) (envOf name scope L a cd :: outer) :=
    .cons (by show scope.kind ≠ .module; rw [hk]; decide) rfl (F.ns.at' fun o q => k L o q) (nog L hgL) (fl.of_keeps fun b o q _ => ⟨o, k b o (F.keep b o q), rfl⟩)
  have st' : (hideAll g (framesOf outer)).StaysIn s.heap := fun b o q => k b o (st b o q)
  unfold leaving noteFrame
  have hf : (envOf name scope L a cd).frame = some L := rfl
  simp only [hf]
  refine wpAny_bind (wpAny_bind (wpAny_field d1 rfl h1 ?_))
  rw [if_neg (by decide)]
  refine note_new (Around.frames_deeper hfr) fl' hf d1 st' (noc e d7) rfl (by omega) fun h' N => ?_
  obtain ⟨n1, ⟨_, _, n2⟩, ⟨vs', T', oT', ts', b1, b2, b3, b4, b5⟩, n4⟩ := N
  exact hQ h' dx ⟨n1, noc e d7, n2, ⟨_, vs', T', oT', ts', b1, rfl, rfl, rfl, b2, b3, b4, b5⟩, noc dx d8, ⟨mA, t, n4.ns d5.ns, d6⟩, fun hm => by
      obtain ⟨_, o, ho, _⟩ := fl.mem hm
      rw [F.keep _ _ ho] at d8; cases d8⟩
    (((Heap.UpToSlots.of_keeps F.keep).trans (Heap.UpToSlots.of_keeps k)).trans n4)
/-- a flying error leaves a frame between -/
theorem fly_out {g gc : Heap} {L a e dx : Addr} {m : Str → Option Value} {name : Str} {scope : Scope} {cd : Value} {outer : List Env} {i : Int} {Q : Unit → Shared → Prop}
    (hfr : A.frames = some outer) (F : Fr g L gc m) (x : Fly (hideAll gc (framesOf (envOf name scope L a cd :: outer))) (envOf name scope L a cd :: outer) e dx i s.heap) (u : gc.UpToSlots s.heap)
    (hQ : ∀ h', Fly (hideAll g (framesOf outer)) outer e dx i h' → g.UpToSlots h' → Q () { s with heap := h' }) :
    wpAny M (A.deeper (envOf name scope L a cd)) (leaving (envOf name scope L a cd) (.ref e)) Q E s := by
  refine fly_leaves (Around.frames_deeper hfr) rfl x fun h' y up => hQ h' (y.base fun b o q => ?_) (((Heap.UpToSlots.of_keeps F.keep).trans u).trans up)
  have q' := of_hideAll _ q
  refine hideAll_get _ (F.keep b o q') fun hm => ?_
  rcases List.mem_cons.mp (show b ∈ L :: framesOf outer from hm) with rfl | hm
  · exact absurd (Nat.lt_of_lt_of_le (Heap.lt_size q') F.above) (Nat.lt_irrefl _)
  · rw [hideAll_none _ hm] at q; cases q
theorem frames_inner {g gc : Heap} {L a : Addr} {m : Str → Option Value} {name : Str} {scope : Scope} {cd : Value} {outer : List Env} {base : Heap} (fl : g.FunFrames base outer) (F : Fr g L gc m) (hk : scope.kind = .function := by rfl) :
    gc.FunFrames (hideAll gc (framesOf (envOf name scope L a cd :: outer))) (envOf name scope L a cd :: outer) := by
  have hgL : (hideAll g (framesOf outer)).get? L = none := by
    cases z : (hideAll g (framesOf outer)).get? L with
    | none => rfl
    | some o => exact absurd (Nat.lt_of_lt_of_le (Heap.lt_size (of_hideAll _ z)) F.above) (Nat.lt_irrefl _)
  exact funFrames_hidden (base := hideAll g (framesOf outer)) (.cons (by show scope.kind ≠ .module; rw [hk]; decide) rfl F.ns hgL ((funFrames_hidden fl).of_keeps fun b o q _ => ⟨o, F.keep b o q, rfl⟩))
end


section
variable {σ : Type} {prog : Program} {w : World} {A : Around} {E : Value → Shared → Prop} {s : Shared} {h₀ : Heap} {L a : Addr} {name : Str} {scope : Scope} {cd : Value} {x : Str} {px : Pos} {body : List Stmt} {Q : Flow → Shared → Prop}
/-- a loop over one iterator, over the closed contexts: what forC asks of it -/
def LoopC (prog : Program) (w : World) (A : Around) (env : Env) (x : Str) (px : Pos) (body : List Stmt) (Q : Flow → Shared → Prop) (E : Value → Shared → Prop) (it : Value) (s : Shared) : Prop :=
  ∃ (J : Nat → Shared → Prop) (k : Nat), J k s ∧ ∀ k s', J k s' → wpAny (model prog w) A (pyNext it) (fun r s₁ => match r with
    | none => Q .next s₁
    | some v => wpAny (model prog w) A (assign (.Name x px) env v) (fun _ s₂ => wpC (model prog w) A (execs body env) (fun f s₃ => match f with
      | .next | .cont => ∃ m, m < k ∧ J m s₃
      | .brk => Q .next s₃
      | .ret v => Q (.ret v) s₃) E s₂) E s₁) E s'
theorem loopC {I : Addr} {n : Nat} {P : Nat → Value → Prop} {St : Nat → Heap → Prop} (fm : σ → Str → Option Value) (fn : σ → List (Addr × Obj)) (R : Nat → σ → Prop) (σ₀ : σ)
    (W : Walks prog w A I [I] [I] n P St) (hget : ∀ i h, St i h → ∃ o, h.get? I = some o) (hLI : L ≠ I) (hI : h₀.get? I = none) (hfp : ∀ q ∈ fn σ₀, q.1 ≠ I) (hst : St 0 s.heap) (F : Fr h₀ L s.heap (fm σ₀)) (N : News h₀ L s.heap (fn σ₀)) (h0 : R 0 σ₀)
    (adr : ∀ σ', (fn σ').map (·.1) = (fn σ₀).map (·.1))
    (turn : ∀ i v σ' h tk own, i < n → P i v → R i σ' → OwnOff own ((fn σ').map (·.1)) → Fr h₀ L h (fun y => if y = x then some v else fm σ' y) → News h₀ L h (fn σ' ++ own) →
      wpC (model prog w) A (execs body (envOf name scope L a cd)) (TurnS h₀ L x fm fn (R (i + 1)) own { s with heap := h, toks := tk } Q) E { s with heap := h, toks := tk })
    (done : ∀ σ' vx h tk, R n σ' → Fr h₀ L h (fun y => if y = x then vx else fm σ' y) → News h₀ L h (fn σ') → Q .next { s with heap := h, toks := tk })
    (hk : scope.kind = .function := by rfl) (hl : (envOf name scope L a cd).kindOf x = some .local := by rfl) :
    LoopC prog w A (envOf name scope L a cd) x px body Q E (.ref I) s := by
  refine ⟨fun k s' => ∃ i σ' vx h tk, k = n - i ∧ i ≤ n ∧ s' = { s with heap := h, toks := tk } ∧ St i h ∧ R i σ' ∧ Fr h₀ L h (fun y => if y = x then vx else fm σ' y) ∧ News h₀ L h (fn σ'), n,
    ⟨0, σ₀, fm σ₀ x, s.heap, s.toks, rfl, Nat.zero_le _, rfl, hst, h0, Fr.as F (frD fun _ _ => rfl), N⟩, ?_⟩
  rintro k s' ⟨i, σ', vx, h, tk, rfl, hin, rfl, st, hR, F₁, N₁⟩
  have offI : ∀ σ', ∀ q ∈ fn σ', q.1 ≠ I := fun σ' q hq => by
    have : q.1 ∈ (fn σ').map (·.1) := List.mem_map.mpr ⟨q, hq, rfl⟩
    rw [adr σ'] at this
    obtain ⟨q', hq', e⟩ := List.mem_map.mp this
    rw [← e]; exact hfp q' hq'
  have fr : ∀ {h' : Heap} {m : Str → Option Value}, (∀ b o, b ∉ [I] → h.get? b = some o → h'.get? b = some o) → Fr h₀ L h m → Fr h₀ L h' m := fun k F => Fr.but1 F (fun b o hb q => k b o (fun z => hb (List.mem_singleton.mp z)) q) hLI hI
  have nw : ∀ {h' : Heap}, (∀ b o, b ∉ [I] → h.get? b = some o → h'.get? b = some o) → News h₀ L h' (fn σ') := fun k q hq => ⟨k _ _ (fun z => offI σ' q hq (List.mem_singleton.mp z)) (N₁ q hq).1, (N₁ q hq).2⟩
  by_cases hi : i < n
  · refine W.item i _ _ _ hi st fun v h' tk' hP st' hk' => ?_
    obtain ⟨oI, hoI⟩ := hget _ _ st'
    have NI : News h₀ L h' (fn σ' ++ [(I, oI)]) := fun q hq => by
      rcases List.mem_append.mp hq with hq | hq
      · exact nw hk' q hq
      · obtain rfl := List.mem_singleton.mp hq
        exact ⟨hoI, Ne.symm hLI, hI⟩
    refine wpAny_assign_Name (stN (fr hk' F₁) NI (fun h₂ F₂ N₂ => ?_) hk hl)
    have F₃ := Fr.as F₂ (show (fun y => if y = x then some v else if y = x then vx else fm σ' y) = fun y => if y = x then some v else fm σ' y from by funext y; split <;> rfl)
    have off : OwnOff [(I, oI)] ((fn σ').map (·.1)) := by
      intro p hp b hb e
      obtain rfl := List.mem_singleton.mp hp
      obtain ⟨q, hq, rfl⟩ := List.mem_map.mp hb
      exact offI σ' q hq e.symm
    have fin : ∀ s₃, TurnNext h₀ L x fm fn (R (i + 1)) [(I, oI)] { s with heap := h₂, toks := tk' + 1 } s₃ → ∃ m, m < n - i ∧ ∃ i σ' vx h tk, m = n - i ∧ i ≤ n ∧ s₃ = { s with heap := h, toks := tk } ∧ St i h ∧ R i σ' ∧ Fr h₀ L h (fun y => if y = x then vx else fm σ' y) ∧ News h₀ L h (fn σ') := by
      rintro s₃ ⟨h₃, tk₃, m', σ₂, rfl, F₄, N₄, hm, hR₂⟩
      refine ⟨n - (i + 1), by omega, i + 1, σ₂, m' x, h₃, tk₃, rfl, hi, rfl, W.frame _ _ _ st' fun b hb o hbo => ?_, hR₂, Fr.as F₄ (frD hm), fun q hq => N₄ q (List.mem_append_left _ hq)⟩
      obtain rfl := List.mem_singleton.mp hb
      rw [hoI] at hbo; cases hbo
      exact N₄.get (List.mem_append_right _ (.head _))
    refine wpC_mono (turn i v σ' h₂ (tk' + 1) [(I, oI)] hi hP hR off F₃ N₂) (fun f s₃ hf => ?_) fun _ _ e => e
    cases f with
    | ret v => exact hf
    | brk => exact hf
    | next => exact fin s₃ hf
    | cont => exact fin s₃ hf
  · obtain rfl : i = n := by omega
    exact W.done _ _ _ st fun h' tk' hk' => done σ' vx h' tk' hR (fr hk' F₁) (nw hk')
end

section
variable {σ : Type} {prog : Program} {w : World} {A : Around} {E : Value → Shared → Prop} {s : Shared} {h₀ : Heap} {L a : Addr} {name : Str} {scope : Scope} {cd : Value} {x : Str} {px : Pos} {body : List Stmt} {Q : Flow → Shared → Prop}
theorem iter_rangeC {r : Addr} {a₀ b₀ c₀ : Int} {t₀ u₀ v₀ : Tok} {n : Nat} (fm : σ → Str → Option Value) (fn : σ → List (Addr × Obj)) (R : Nat → σ → Prop) (σ₀ : σ)
    (hh : A.handled = none) (hr : IsRange s.heap r a₀ b₀ c₀ t₀ u₀ v₀) (hsmall : Builtin.Range.small a₀ b₀ c₀ = true) (hn : Builtin.Range.rangeSize a₀ b₀ c₀ = (n : Int)) (F : Fr h₀ L s.heap (fm σ₀)) (N : News h₀ L s.heap (fn σ₀)) (h0 : R 0 σ₀)
    (adr : ∀ σ', (fn σ').map (·.1) = (fn σ₀).map (·.1))
    (turn : ∀ i t σ' h tk own, i < n → R i σ' → OwnOff own ((fn σ').map (·.1)) → Fr h₀ L h (fun y => if y = x then some (.int (a₀ + i * c₀) t) else fm σ' y) → News h₀ L h (fn σ' ++ own) →
      wpC (model prog w) A (execs body (envOf name scope L a cd)) (TurnS h₀ L x fm fn (R (i + 1)) own { s with heap := h, toks := tk } Q) E { s with heap := h, toks := tk })
    (done : ∀ σ' vx h tk, R n σ' → Fr h₀ L h (fun y => if y = x then vx else fm σ' y) → News h₀ L h (fn σ') → Q .next { s with heap := h, toks := tk })
    (hk : scope.kind = .function := by rfl) (hl : (envOf name scope L a cd).kindOf x = some .local := by rfl) :
    wpAny (model prog w) A (pyIter (.ref r)) (fun it s₂ => LoopC prog w A (envOf name scope L a cd) x px body Q E it s₂) E s := by
  refine wpAny_pyIter_range hr hsmall ?_
  refine loopC fm fn R σ₀ (Walks.range hh s.heap.objs.size a₀ c₀ n) (fun i h st => ⟨_, st⟩) ?_ ?_ ?_ (by show IsRangeIter _ _ _ _ _; rw [hn]; simpa using Heap.get?_push_size _ rfl) (F.push _) (fun p hp => ⟨Heap.get?_push_of_some _ (N p hp).1, (N p hp).2⟩) h0 adr ?_ ?_ hk hl
  · exact Nat.ne_of_lt F.ns.lt
  · exact next_is_new F
  · exact fun p hp => Nat.ne_of_lt (Heap.lt_size (N p hp).1)
  · rintro i v σ' h tk own hi ⟨t, rfl⟩ hR hoff F₁ N₁
    exact turn i t σ' h tk own hi hR hoff F₁ N₁
  · exact done
theorem forLoopC {iter : Expr} {pos : Pos} (hE : PassesOwn (model prog w) A (envOf name scope L a cd) E)
    (h : wpAny (model prog w) A (eval iter (envOf name scope L a cd)) (fun xv s₁ => wpAny (model prog w) A (pyIter xv) (fun it s₂ => LoopC prog w A (envOf name scope L a cd) x px body Q E it s₂) E s₁) E s)
    (hs : ∀ x, foldedSetIterable iter (envOf name scope L a cd) x = pure x := by intro _; rfl) :
    wpC (model prog w) A (exec (.For (.Name x px) iter body [] pos) (envOf name scope L a cd)) Q E s :=
  forC hE h hs
end


section
variable {M : Model} {A : Around} {E : Value → Shared → Prop} {env : Env}
variable {nm q : Str} {C N : Addr} {bs bm : List Value} {hdct : Bool} {sn : List Str} {sub : List Value} {ab : Bool} {col : Option Bool} {dd : Option Addr} {k0 k1 k2 k3 k5 : Option Value} {newId : String}
theorem raise_made {s : Shared} {x : Sem Value} {Q : Flow → Shared → Prop} (hcB : (Value.ref C :: bm).contains (.type "BaseException") = true) (hh : A.handled = none)
    (h : wpAny M A x (fun v s₁ => ∃ e dx vs, v = .ref e ∧ s₁.heap.get? C = some (excClassObj nm q C N bs bm hdct sn sub ab col dd k0 k1 k2 k3 k5 newId) ∧
      s₁.heap.get? e = some { cls := .ref C, dict := some dx, data := .fields vs } ∧ vs[1]? = some .none ∧ E (.ref e) s₁) E s) :
    wpAny M A (raiseStmt env (some x) none) Q E s := by
  unfold raiseStmt
  refine wpAny_bind (wpAny_mono h (fun v s₁ h₁ => ?_) fun _ _ x => x)
  obtain ⟨e, dx, vs, rfl, hC, he, hv, hE⟩ := h₁
  obtain ⟨hp, g, d, tk, os⟩ := s₁
  repeat (first | with_reducible refine wpAny_loadPart_at he ?_ | with_reducible refine wpAny_loadPart_at hC ?_ | (with_reducible refine wpAny_isSubtype_exc hC ?_; rw [hcB]) | wp_step)
  rw [hv]
  refine wpAny_pure ?_
  repeat wp_step
  exact wpAny_raiseNew_none hh hE
theorem exec_raise {s : Shared} {x : Expr} {pos : Pos} {Q : Flow → Shared → Prop} (hcB : (Value.ref C :: bm).contains (.type "BaseException") = true) (hh : A.handled = none)
    (h : wpAny M A (eval x env) (fun v s₁ => ∃ e dx vs, v = .ref e ∧ s₁.heap.get? C = some (excClassObj nm q C N bs bm hdct sn sub ab col dd k0 k1 k2 k3 k5 newId) ∧
      s₁.heap.get? e = some { cls := .ref C, dict := some dx, data := .fields vs } ∧ vs[1]? = some .none ∧ E (.ref e) s₁) E s) :
    wpAny M A (exec (.Raise (some x) none pos) env) Q E s := by
  rw [arm_exec_Raise]
  first
    | exact wpAny_bind (wpAny_standAt (raise_made hcB hh (wpAny_bind (wpAny_mono h (fun v s₃ h₃ => wpAny_bind (wpAny_standAt (wpAny_pure h₃))) fun _ _ x => x))))
    | (simp only [evalOpt, Option.map]; exact wpAny_bind (wpAny_standAt (raise_made hcB hh (wpAny_bind (wpAny_mono h (fun v s₃ h₃ => wpAny_bind (wpAny_standAt (wpAny_pure h₃))) fun _ _ x => x)))))
    | exact wpAny_bind (wpAny_standAt (raise_made hcB hh h))
theorem exec_raise_at {s : Shared} {x : Expr} {pos : Pos} {Q : Flow → Shared → Prop} (hC : s.heap.get? C = some (excClassObj nm q C N bs bm hdct sn sub ab col dd k0 k1 k2 k3 k5 newId)) (hcB : (Value.ref C :: bm).contains (.type "BaseException") = true) (hh : A.handled = none)
    (h : wpAny M A (eval x env) (fun v s₁ => ∃ e dx vs, v = .ref e ∧ Ext s.heap s₁.heap ∧
      s₁.heap.get? e = some { cls := .ref C, dict := some dx, data := .fields vs } ∧ vs[1]? = some .none ∧ E (.ref e) s₁) E s) :
    wpAny M A (exec (.Raise (some x) none pos) env) Q E s :=
  exec_raise hcB hh (wpAny_mono h (fun v s₁ ⟨e, dx, vs, hv, k, he, h1, hE⟩ => ⟨e, dx, vs, hv, k _ _ hC, he, h1, hE⟩) fun _ _ x => x)
end
section
variable {prog : Program} {w : World} {A : Around} {E : Value → Shared → Prop} {s : Shared} {env : Env} {mean : ExcName → Option Value} {mg mb : Str → Option Value}
theorem raise_nf {x : Expr} {pos : Pos} {Q : Flow → Shared → Prop} (X : (hd.heap_39 w.params).In s.heap) (hh : A.handled = none)
    (h : wpAny (model prog w) A (eval x env) (fun v s₁ => ∃ e dx vs, v = .ref e ∧ Ext s.heap s₁.heap ∧
      s₁.heap.get? e = some { cls := .ref 64, dict := some dx, data := .fields vs } ∧ vs[1]? = some .none ∧ E (.ref e) s₁) E s) :
    wpAny (model prog w) A (exec (.Raise (some x) none pos) env) Q E s := by
  have hC := X 64 (excClassObj _ _ 64 _ _ _ _ _ _ _ _ _ _ _ _ _ _ _) (by k_dflt k_is)
  exact exec_raise_at hC rfl hh h
end
/-- an error that left a call -/
def Gone (s : Shared) (outer : List Env) (W : Int → Prop) (e : Value) (s' : Shared) : Prop :=
  ∃ a dx i h' tk', e = .ref a ∧ s' = { s with heap := h', toks := tk' } ∧ W i ∧ Fly (hideAll s.heap (framesOf outer)) outer a dx i h' ∧ s.heap.UpToSlots h'
/-- the place is one of W -/
def Site (W : Int → Prop) (i : Int) : Prop := W i
theorem Site.of {W : Int → Prop} {i : Int} (h : W i) : Site W i := h
/-- a NameFault that is made here leaves this frame -/
theorem made_leaves {prog : Program} {w : World} {A : Around} {h₁ h₂ : Heap} {s : Shared} {L a e : Addr} {m : Str → Option Value} {name : Str} {scope : Scope} {cd : Value} {outer : List Env} {i : Int} {vs : Array Value} {W : Int → Prop} {tk : Nat}
    (hfr : A.frames = some outer) (fl : s.heap.FunFrames (hideAll s.heap (framesOf outer)) outer) (F : Fr s.heap L h₁ m) (k : Ext h₁ h₂) (D : Fault h₁ h₂ e i vs) (h1 : vs[1]? = some .none) (hW : Site W i) (hk : scope.kind = .function := by rfl) :
    ∃ e' dx vs, Value.ref e = .ref e' ∧ Ext h₁ h₂ ∧ h₂.get? e' = some { cls := .ref 64, dict := some dx, data := .fields vs } ∧ vs[1]? = some .none ∧
      wpAny (model prog w) (A.deeper (envOf name scope L a cd)) (leaving (envOf name scope L a cd) (.ref e')) (fun _ s'' => Gone s outer W (.ref e') s'') (fun _ _ => False) { s with heap := h₂, toks := tk } := by
  obtain ⟨dx, tu, what, mA, t, d1, d2, d3, d4, d5, d6, d7, d8, d9, d10, d11, d12⟩ := D.it
  exact ⟨e, dx, vs, rfl, k, d1, h1, fault_leaves hfr fl F k D h1 (fun h' dx' y up => ⟨e, dx', i, h', tk, rfl, rfl, hW, y, up⟩) hk⟩


theorem lookIn_of_ns {h : Heap} {dx : Addr} {m : Str → Option Value} {n : Str} {v : Value} (N : h.Ns dx m) (e : m n = some v) : ∃ od, h.get? dx = some od ∧ lookIn n od = some (some v) := by
  obtain ⟨o, es, ep, ho, hd, hk, hf⟩ := N
  refine ⟨o, ho, ?_⟩
  have hv := (hf n).trans e
  unfold lookIn
  rw [hd]
  dsimp only
  unfold nsFind findBy at hv
  rw [← Array.find?_toList] at hv
  cases q : es.toList.find? (·.key.isStr n) with
  | none => rw [q] at hv; cases hv
  | some x => rw [q] at hv; cases hv; rfl
section
variable {prog : Program} {w : World} {A : Around} {E : Value → Shared → Prop} {h : Heap} {g : Array GenState} {d : Drawn} {t : Nat} {os : OsState}
/-- the place of a caught fault is read -/
theorem fault_get {e dx : Addr} {oe : Obj} {vs : Array Value} {mA : Str → Option Value} {i : Int} {ti : Tok} {expr : Bool} {Q : Value → Shared → Prop} (X : (hd.heap_39 w.params).In h) (he : h.get? e = some oe) (hc : oe.cls = .ref 64) (hdt : oe.data = .fields vs) (hdd : oe.dict = some dx) (hn : h.Ns dx mA) (hm : mA (Str.ofString "at") = some (.int i ti))
    (hq : Q (.int i ti) ⟨h, g, d, t + 1, os⟩) : wpAny (model prog w) A (getAttr (.ref e) (Str.ofString "at") expr) Q E ⟨h, g, d, t, os⟩ := by
  obtain ⟨od, hod, hl⟩ := lookIn_of_ns hn hm
  have I : InstAt h e oe 64 (some od) := ⟨he, hc, by unfold notCls; rw [hdt], by rw [hdd]; exact hod⟩
  have hga : findIn (hd.heap_39 w.params) (.ref 64) "__getattribute__" = some (some (.builtin "BaseException.__getattribute__")) := by k_dflt k_is
  have hgn : findIn (hd.heap_39 w.params) (.ref 64) "__getattr__" = some none := by k_dflt k_is
  have hat : findIn (hd.heap_39 w.params) (.ref 64) (Str.ofString "at") = some none := by k_dflt k_is
  have hmr : mroIn (hd.heap_39 w.params) 64 (.type "BaseException") = some true := by k_dflt k_is
  have hhd : hasDictIn (hd.heap_39 w.params) 64 = true := by k_dflt k_is
  have F := PySem.F.attr_Exception
  have Lt : Looks (model prog w) h (typeOf (.ref e)) (.ref 64) := I.type
  have L1 := looks_findIn (M := model prog w) X hga
  have L2 := looks_findIn (M := model prog w) X hgn
  have L3 := looks_find (M := model prog w) X I (findObj_own hhd hat rfl hl)
  have sub : Looks (model prog w) h (isInstance (.ref e) (.type "BaseException")) true := Lt.andThen (looks_mroIn X hmr)
  unfold getAttr
  refine wpAny_bind (wpAny_mkText ?_)
  unfold getAttrBy
  refine wpAny_holding (wpAny_bind (Lt.here (wpAny_bind (L1.here ?_))))
  dsimp only
  rw [if_neg (by decide +kernel)]
  unfold getAttrByItsOwn hookBefore
  refine wpAny_bind ?_
  rw [if_pos (by rfl)]
  refine L2.here ?_
  refine wpAny_bind (wpAny_attempt (wpAny_holding ?_))
  unfold callGetattribute
  rw [if_neg (by cases expr <;> decide)]
  unfold boundAndCalled
  refine wpAny_bind (wpAny_of_eq (F.ga.bind _) ?_)
  dsimp only
  have hk : builtinKind "BaseException.__getattribute__" = some .slot := by decide +kernel
  have hsplit : splitId "BaseException.__getattribute__" = some ("BaseException", "__getattribute__") := by decide +kernel
  refine wpAny_call (codeAny_call_builtin F.ga.plain PySem.F.entry_bexc_ga (@check_slot (model prog w) _ _ _ "BaseException.__getattribute__" "BaseException" "__getattribute__" (.ref e) [.str (Str.ofString "at") t] [] _ hk hsplit sub (PySem.F.args_bexc_ga (.ref e) (.str (Str.ofString "at") t)) ?_))
  unfold Builtin.«object.__getattribute__»
  refine wpAny_bind (wpAny_of_eq (a := (Value.ref e, [Value.str (Str.ofString "at") t])) (by rfl) ?_)
  dsimp only
  refine wpAny_bind (wpAny_of_eq (a := Str.ofString "at") (by rfl) ?_)
  refine wpAny_bind (Lt.here (wpAny_bind (L3.here ?_)))
  dsimp only
  refine wpAny_pure ?_
  show wpAny _ _ (handedOut (Value.int i ti)) _ _ _
  exact wpAny_pure hq
end


/-- the part of a heap that stands below a place -/
def cutAt (h : Heap) (L : Nat) : Heap := ⟨h.objs.extract 0 L, h.life⟩
theorem cutAt_get {h : Heap} {L b : Nat} (hb : b < L) : (cutAt h L).get? b = h.get? b := by
  unfold cutAt Heap.get?
  dsimp only
  rw [show (h.objs.extract 0 L)[b]? = h.objs[b]? by rw [Array.getElem?_extract]; simp; omega]
theorem of_cutAt {h : Heap} {L b : Nat} {o : Obj} (e : (cutAt h L).get? b = some o) : h.get? b = some o := by
  by_cases hb : b < L
  · rwa [cutAt_get hb] at e
  · unfold cutAt Heap.get? at e
    rw [show (h.objs.extract 0 L)[b]? = none by simp; omega] at e
    cases e
theorem cutAt_size (h : Heap) (L : Nat) : (cutAt h L).objs.size ≤ L := by
  unfold cutAt
  simp; omega
theorem Fr.cut {g h : Heap} {L : Addr} {m : Str → Option Value} (F : Fr g L h m) : Fr (cutAt h L) L h m := ⟨F.ns, fun _ _ e => of_cutAt e, cutAt_size h L⟩
/-- the heap after a call that may have caught an error: all stands but the frames' slots -/
def Kept (outer : List Env) (h h' : Heap) : Prop := (hideAll h (framesOf outer)).StaysIn h' ∧ h.UpToSlots h'
theorem Kept.of_ext {outer : List Env} {h h' : Heap} (k : Ext h h') : Kept outer h h' := ⟨fun b o e => k b o (of_hideAll _ e), Heap.UpToSlots.of_keeps k⟩
/-- after a flight: what stood below the frame stands in the heap that is cut there -/
theorem cut_stays {g hc h : Heap} {L : Addr} {m : Str → Option Value} {env : Env} {outer : List Env} (F : Fr g L hc m) (hf : env.frame = some L) (st : (hideAll hc (framesOf (env :: outer))).StaysIn h) : (hideAll g (framesOf outer)).StaysIn (cutAt h L) := fun b o q => by
  have q' := of_hideAll _ q
  have hlt : b < L := Nat.lt_of_lt_of_le (Heap.lt_size q') F.above
  rw [cutAt_get hlt]
  refine st b o (hideAll_get _ (F.keep b o q') fun hm => ?_)
  unfold framesOf at hm
  rw [List.filterMap_cons_some hf] at hm
  rcases List.mem_cons.mp hm with rfl | hm
  · exact absurd hlt (Nat.lt_irrefl _)
  · rw [show hideAll g (framesOf outer) = hideAll g (outer.filterMap (·.frame)) from rfl, hideAll_none _ hm] at q; cases q
theorem cut_kept {g hc h h' : Heap} {L : Addr} {m m' : Str → Option Value} {env : Env} {outer : List Env} (F : Fr g L hc m) (hf : env.frame = some L) (st : (hideAll hc (framesOf (env :: outer))).StaysIn h) (up : hc.UpToSlots h) (F' : Fr (cutAt h L) L h' m') : Kept outer g h' := by
  refine ⟨fun b o q => F'.keep b o (cut_stays F hf st b o q), fun b o q hn => ?_⟩
  obtain ⟨sl, e⟩ := up b o (F.keep b o q) hn
  refine ⟨sl, F'.keep b _ ?_⟩
  rw [cutAt_get (Nat.lt_of_lt_of_le (Heap.lt_size q) F.above)]
  exact e
section
variable {M : Model} {A : Around} {E : Value → Shared → Prop} {s : Shared}
/-- the flight's mark, set once more -/
theorem fly_flight {base : Heap} {l : List Env} {e dx : Addr} {i : Int} {Q : Unit → Shared → Prop} (x : Fly base l e dx i s.heap)
    (hQ : ∀ h', Fly base l e dx i h' → s.heap.UpToSlots h' → Q () { s with heap := h' }) : wpAny M A (setFlight (.ref e) none) Q E s := by
  obtain ⟨f1, f2, f3, ⟨oe, vs, T, oT, ts, a1, a2, a3, a4, a5, a6, a7, a8, a9, a10⟩, f5, ⟨mA, t, f6, f7⟩, f8⟩ := x
  unfold setFlight
  refine wpAny_bind (wpAny_field a1 a4 a5 ?_)
  rw [if_pos (show (Value.ref T != Value.none) = true from by simp)]
  refine wpAny_setField a8 a9 (Array.getElem?_eq_some_iff.mp a10).1 (hQ _ ?_ ?_)
  all_goals
    generalize hh : s.heap.update T (Obj.mapFields (·.setIfInBounds 3 ((none : Option Addr).elim Value.none fun f => rawInt f))) = h₁
    have k : ∀ b o, b ≠ T → s.heap.get? b = some o → h₁.get? b = some o := fun b o hb q => by
      subst hh; rw [Heap.get?_update_other _ _ (Ne.symm hb)]; exact q
    have kn : ∀ b o, s.heap.get? b = some o → (∀ vs, o.data ≠ .fields vs) → h₁.get? b = some o := fun b o hb hn => k b o (fun z => by
      subst z; rw [a8] at hb; cases hb; exact hn ts a9) hb
    have up : s.heap.UpToSlots h₁ := fun b o hb hn => ⟨o.slots, kn b o hb hn⟩
  · have eT : h₁.get? T = some { oT with data := .fields (ts.setIfInBounds 3 ((none : Option Addr).elim Value.none fun f => rawInt f)) } := by
      subst hh
      rw [Heap.get?_update_self _ a8 (Obj.isFreed_of_fields (Obj.data_mapFields a9 _)), mapFields_eq a9]
    refine ⟨fun b o q => k b o (fun z => by rw [z, a6] at q; cases q) (f1 b o q), f2, f3.of_keeps fun b o hb hn => ⟨o, kn b o hb hn, rfl⟩, ⟨oe, vs, T, _, _, k e oe (Ne.symm a7) a1, a2, a3, a4, a5, a6, a7, eT, rfl, ?_⟩, f5, ⟨mA, t, up.ns f6, f7⟩, f8⟩
    have := (Array.getElem?_eq_some_iff.mp a10).1
    simp [this]
  · exact up
/-- a flying error leaves a frame between, whatever its cells -/
theorem fly_outX {g gc : Heap} {L e dx : Addr} {m : Str → Option Value} {env : Env} {outer : List Env} {i : Int} {Q : Unit → Shared → Prop}
    (hfr : A.frames = some outer) (hf : env.frame = some L) (F : Fr g L gc m) (x : Fly (hideAll gc (framesOf (env :: outer))) (env :: outer) e dx i s.heap) (u : gc.UpToSlots s.heap)
    (hQ : ∀ h', Fly (hideAll g (framesOf outer)) outer e dx i h' → g.UpToSlots h' → Q () { s with heap := h' }) :
    wpAny M (A.deeper env) (leaving env (.ref e)) Q E s := by
  refine fly_leaves (Around.frames_deeper hfr) hf x fun h' y up => hQ h' (y.base fun b o q => ?_) (((Heap.UpToSlots.of_keeps F.keep).trans u).trans up)
  have q' := of_hideAll _ q
  refine hideAll_get _ (F.keep b o q') fun hm => ?_
  unfold framesOf at hm
  rw [List.filterMap_cons_some hf] at hm
  rcases List.mem_cons.mp hm with rfl | hm
  · exact absurd (Nat.lt_of_lt_of_le (Heap.lt_size q') F.above) (Nat.lt_irrefl _)
  · rw [show hideAll g (framesOf outer) = hideAll g (outer.filterMap (·.frame)) from rfl, hideAll_none _ hm] at q; cases q
end
section
variable {prog : Program} {w : World} {A : Around} {E : Value → Shared → Prop} {s : Shared} {env : Env}
/-- the clause that takes a NameFault -/
theorem handle_nf {e : Addr} {t : Expr} {n : Str} {b₀ : Stmt} {suite : List Stmt} {pos : Pos} {rest : List ExceptHandler} {Q : Flow → Shared → Prop}
    (h : wpAny (model prog w) (A.mark (some (.ref e))) (eval t env) (fun c s₁ => c = .ref 64 ∧ (hd.heap_39 w.params).In s₁.heap ∧ ∃ ob, s₁.heap.get? e = some ob ∧ ob.cls = .ref 64 ∧
      wpAny (model prog w) (A.mark (some (.ref e))) (setFlight (.ref e) none) (fun _ s₂ =>
          wpAny (model prog w) (A.mark (some (.ref e))) (storeName env n (.ref e)) (fun _ s₃ =>
            wpAny (model prog w) (A.mark (some (.ref e))) (execs (b₀ :: suite) env)
              (fun f s₄ => wpAny (model prog w) A (do bindName env n .none; unbindBehindTheSuite env n pos) (fun _ s₅ => Q f s₅) E s₄)
              (fun _ _ => False) s₃) (fun _ _ => False) s₂) (fun _ _ => False) s₁) (fun _ _ => False) s) :
    wpAny (model prog w) A (handleBy (.ref e) env (.ExceptHandler (some t) (some n) (b₀ :: suite) pos :: rest)) Q E s := by
  refine wpAny_handleBy_cons (codeAny_handlers_test (wpAny_mono h (fun c s₁ h₁ => ?_) fun _ _ x => x.elim)) (by intro q; cases q)
  obtain ⟨rfl, X, ob, he, hc, hk⟩ := h₁
  have hC := X 64 (excClassObj _ _ 64 _ _ _ _ _ _ _ _ _ _ _ _ _ _ _) (by k_dflt k_is)
  obtain ⟨hp, g, d, tk, os⟩ := s₁
  refine wpAny_excMatches_sub_self hC he hc rfl ?_
  refine codeAny_handlers_suite_as (wpAny_mono hk (fun _ s₂ h₂ => wpAny_mono h₂ (fun _ s₃ h₃ => wpAny_mono h₃ (fun f s₄ h₄ => ?_) fun _ _ x => x.elim) fun _ _ x => x.elim) fun _ _ x => x.elim)
  exact h₄
end


section
variable {prog : Program} {w : World} {A : Around} {E : Value → Shared → Prop} {s : Shared} {env : Env}
theorem wpC_Try {body : List Stmt} {h₀ : ExceptHandler} {hs : List ExceptHandler} {pos : Pos} {Q : Flow → Shared → Prop}
    (h : wpC (model prog w) A (execs body env) Q (fun e s₁ => wpAny (model prog w) A (noteFrame e env) (fun _ s₂ => wpAny (model prog w) A (setFlight e none) (fun _ s₃ => wpAny (model prog w) A (handleBy e env (h₀ :: hs)) Q E s₃) E s₂) E s₁) s) :
    wpC (model prog w) A (exec (.Try body (h₀ :: hs) [] [] pos) env) Q E s := by
  rw [arm_exec_Try]
  refine wpC_bind (wpC_standAt ?_)
  unfold tryStmt
  simp only [List.isEmpty_nil, if_true, List.isEmpty_cons, Bool.false_and, Bool.false_eq_true, if_false]
  refine wpC_bind (wpC_attempt (wpC_mono h (fun f s₁ h₁ => ?_) fun e s₁ h₁ => ?_))
  · cases f
    · exact wpC_execs_nil h₁
    all_goals exact wpC_pure h₁
  · exact wpC_any (wpAny_bind (wpAny_mono h₁ (fun _ _ h₂ => wpAny_bind h₂) fun _ _ x => x))
end
section
variable {prog : Program} {w : World} {A : Around} {R : Result → Shared → Prop} {s : Shared}
theorem codeC_expr {e : Expr} {env : Env}
    (h : wpC (model prog w) (A.deeper env) (eval e env) (fun v s' => R (.ok (.ret v)) s')
      (fun e' s' => wpAny (model prog w) (A.deeper env) (leaving env e') (fun _ s'' => R (.error e') s'') (fun e'' s'' => R (.error e'') s'') s') s) :
    codeC (model prog w) A (.expr e env) R s := by
  refine codeC_of_tree ?_
  show wpC _ (A.deeper env) (do point; ret (← (eval e env).onRaise (leaving env))) _ _ s
  have key : wpC (model prog w) (A.deeper env) ((eval e env).onRaise (leaving env)) (fun v s' => R (.ok (.ret v)) s') (fun e s' => R (.error e) s') s := fun Γ p hΓ hC => by
    rw [Sem.wp_onRaise]
    exact Sem.wp_mono _ Γ _ (fun _ _ _ h' => h') (fun e p' s' h' => h' Γ p' hΓ) p s (h Γ p hΓ hC)
  exact wpC_bind (wpC_point (wpC_bind (wpC_mono key (fun v s' h' => wpC_pure h') fun _ _ h' => h')))
theorem codeC_callE {a : Addr} {args : Args} {o : Obj} {fd : FuncData} {body : Expr} (hroom : A.depth < recursionLimit)
    (ho : s.heap.get? a = some o)
    (hd' : o.data = .func fd) (hco : fd.scope.isCoroutine = false) (hgen : fd.scope.isGenerator = false) (hbody : fd.body = .expr body) (hcd : s.heap.CodeRec fd.code fd.qualname)
    (h : wpAny (model prog w) A.in1 (bindArgs fd args) (fun binds s₁ =>
      wpAny (model prog w) A.in1 (newFunctionEnv fd.scope fd.globals fd.closure binds (fd.qualname ++ ".<locals>.") (some a) fd.code none fd.builtins)
        (fun env s₂ => s₂.heap.NoLimit ∧ codeC (model prog w) A (.expr body env) R s₂) (fun e s' => R (.error e) s') s₁) (fun e s' => R (.error e) s') s) :
    codeC (model prog w) A (.call (.ref a) args) R s := by
  refine codeC_of_tree ?_
  show wpC _ A.in1 (callAny (.ref a) args) _ _ s
  simp only [callAny]
  refine wpC_any (wpAny_bind (wpAny_load ho ?_))
  obtain ⟨c, oc, vs, tq, hc, hoc, hdc, hq⟩ := hcd
  simp only [hd', callFunction, hco, hgen, hbody, hc]
  rw [hc] at h
  refine wpAny_bind (m := field (.ref c) 1) (wpAny_field hoc hdc hq (wpAny_bind (wpAny_pure ?_)))
  exact wpAny_bind (wpAny_mono h (fun binds s₁ h₁ => wpAny_bind (wpAny_mono h₁ (fun env s₂ h₂ => wpAny_bind (wpAny_enterFrame h₂.1 hroom
    (wpAny_pure (And.intro rfl (And.intro rfl h₂.2))))) fun _ _ h' => h')) fun _ _ h' => h')
end
/-- a call over the closed contexts: it comes back with R of its value, all that stood standing; or a NameFault with a place in W leaves it -/
def Ends (prog : Program) (w : World) (dp un : Nat) (outer : List Env) (gd : Option (List Code)) (f : Value) (args : List Value) (s : Shared) (R : Value → Heap → Prop) (W : Int → Prop) : Prop :=
  ∀ Q E, (∀ r h' tk', Ext s.heap h' → R r h' → Q r { s with heap := h', toks := tk' }) →
    (∀ e dx i h' tk', W i → Fly (hideAll s.heap (framesOf outer)) outer e dx i h' → s.heap.UpToSlots h' → E (.ref e) { s with heap := h', toks := tk' }) → wpC (model prog w) (Ar dp un (some outer) gd) (call f args) Q E s
/-- a call over the closed contexts that comes back, the frames' slots apart -/
def Answers (prog : Program) (w : World) (dp un : Nat) (outer : List Env) (gd : Option (List Code)) (f : Value) (args : List Value) (s : Shared) (R : Value → Heap → Prop) : Prop :=
  ∀ Q E, (∀ r h' tk', Kept outer s.heap h' → R r h' → Q r { s with heap := h', toks := tk' }) → wpC (model prog w) (Ar dp un (some outer) gd) (call f args) Q E s
def BackK (outer : List Env) (s : Shared) (R : Value → Heap → Prop) (fl : Flow) (s' : Shared) : Prop :=
  ∃ h' tk', s' = { s with heap := h', toks := tk' } ∧ Kept outer s.heap h' ∧ R (match fl with | .ret v => v | _ => .none) h'
section
variable {prog : Program} {w : World} {dp un : Nat} {outer : List Env} {gd : Option (List Code)} {s : Shared} {K : Frag} {p : Program} {loose : List Str} {mean : ExcName → Option Value} {mg mb : Str → Option Value}
  {R : Value → Heap → Prop} {W : Int → Prop} {name qual : Str} {params : Arguments} {body : List Stmt} {scope : Scope} {dV kV doc pm cdv ct oc : Value} {an od : Option Addr} {osl : Array (Option Value)} {f : Addr} {args : List Value} {binds : List (Str × Value)}
theorem Ends.enter (X : K.In s.heap) (T : Top p loose mean mg mb s.heap)
    (ho : K.lookup f = some ⟨oc, od, .func (fnOf name qual params body scope dV kV doc pm an cdv ct), osl⟩) (hcd : codeIn K cdv qual = true) (hroom : dp < recursionLimit)
    (hbind : BindsTo s (fnOf name qual params body scope dV kV doc pm an cdv ct) ⟨args, []⟩ binds) (hloc : ∀ y ∈ binds, scope.names.lookup y.1 = some .local)
    (h : ∀ L' h₁, Fr s.heap L' h₁ (fun y => binds.reverse.lookup y) → News s.heap L' h₁ [] →
      wpC (model prog w) ((Ar dp un (some outer) gd).deeper (envOf qual scope L' f cdv)) (execs body (envOf qual scope L' f cdv)) (Back s R)
        (fun e s' => wpAny (model prog w) ((Ar dp un (some outer) gd).deeper (envOf qual scope L' f cdv)) (leaving (envOf qual scope L' f cdv) e) (fun _ s'' => Gone s outer W e s'') (fun _ _ => False) s') { s with heap := h₁, toks := s.toks + binds.length })
    (hcell : ∀ x ∈ scope.names, x.2 ≠ .cell) (hco : scope.isCoroutine = false := by rfl) (hgen : scope.isGenerator = false := by rfl) (hk : scope.kind = .function := by rfl) :
    Ends prog w dp un outer gd (.ref f) args s R W := by
  intro Q E ret flew
  refine wpC_call (enterW X T ho hcd hroom hbind hloc (fun L' h₁ F N => ?_) hcell hco hgen hk)
  refine wpC_mono (h L' h₁ F N) (fun fl s' hb => ?_) fun e s' he => wpAny_mono he (fun _ s'' hg => ?_) fun _ _ x => x.elim
  · obtain ⟨h', tk', rfl, hk', hr⟩ := hb
    exact ret _ _ _ hk' hr
  · obtain ⟨a, dx, i, h', tk', rfl, rfl, hW, hF, hU⟩ := hg
    exact flew a dx i h' tk' hW hF hU
theorem Answers.enter (X : K.In s.heap) (T : Top p loose mean mg mb s.heap)
    (ho : K.lookup f = some ⟨oc, od, .func (fnOf name qual params body scope dV kV doc pm an cdv ct), osl⟩) (hcd : codeIn K cdv qual = true) (hroom : dp < recursionLimit)
    (hbind : BindsTo s (fnOf name qual params body scope dV kV doc pm an cdv ct) ⟨args, []⟩ binds) (hloc : ∀ y ∈ binds, scope.names.lookup y.1 = some .local)
    (h : ∀ L' h₁, Fr s.heap L' h₁ (fun y => binds.reverse.lookup y) → News s.heap L' h₁ [] →
      wpC (model prog w) ((Ar dp un (some outer) gd).deeper (envOf qual scope L' f cdv)) (execs body (envOf qual scope L' f cdv)) (BackK outer s R) (fun _ _ => False) { s with heap := h₁, toks := s.toks + binds.length })
    (hcell : ∀ x ∈ scope.names, x.2 ≠ .cell) (hco : scope.isCoroutine = false := by rfl) (hgen : scope.isGenerator = false := by rfl) (hk : scope.kind = .function := by rfl) :
    Answers prog w dp un outer gd (.ref f) args s R := by
  intro Q E ret
  refine wpC_call (enterW X T ho hcd hroom hbind hloc (fun L' h₁ F N => ?_) hcell hco hgen hk)
  refine wpC_mono (h L' h₁ F N) (fun fl s' hb => ?_) fun e s' he => he.elim
  obtain ⟨h', tk', rfl, hk', hr⟩ := hb
  exact ret _ _ _ hk' hr
/-- a lambda without parameters that stands in the heap -/
theorem Ends.lambda {ex : Expr} {cl : List (Str × Addr)} {c' : Addr} {o : Obj} (T : Top p loose mean mg mb s.heap)
    (ho : s.heap.get? f = some o) (hd : o.data = .func (kla_fn name qual params ex scope cl pm (.ref c') ct)) (hcd : s.heap.CodeRec (.ref c') qual) (hroom : dp < recursionLimit)
    (hbind : bindArgs (kla_fn name qual params ex scope cl pm (.ref c') ct) ⟨[], []⟩ = pure [])
    (h : ∀ L' h₁, Fr s.heap L' h₁ (fun _ => none) →
      wpC (model prog w) ((Ar dp un (some outer) gd).deeper (envX qual scope L' f (.ref c') cl)) (eval ex (envX qual scope L' f (.ref c') cl)) (fun v s' => ∃ h' tk', s' = { s with heap := h', toks := tk' } ∧ Ext s.heap h' ∧ R v h')
        (fun e s' => wpAny (model prog w) ((Ar dp un (some outer) gd).deeper (envX qual scope L' f (.ref c') cl)) (leaving (envX qual scope L' f (.ref c') cl) e) (fun _ s'' => Gone s outer W e s'') (fun _ _ => False) s') { s with heap := h₁ })
    (hcell : ∀ x ∈ scope.names, x.2 ≠ .cell) (hco : scope.isCoroutine = false := by rfl) (hgen : scope.isGenerator = false := by rfl) (hk : scope.kind = .function := by rfl) :
    Ends prog w dp un outer gd (.ref f) [] s R W := by
  intro Q E ret flew
  refine wpC_call (codeC_callE hroom ho hd hco hgen rfl hcd ?_)
  rw [hbind]
  refine wpAny_pure (wpAny_newFunctionEnv hcell (fun _ hy => nomatch hy) (fun h₁ hns hsb => ⟨T.nolimit.fresh _ hsb, ?_⟩) hk)
  have hk₁ : ∀ b o, s.heap.get? b = some o → h₁.get? b = some o := fun b o e => hsb.extBut b o (Nat.ne_of_lt (Heap.lt_size e)) (Heap.get?_push_of_some _ e)
  refine codeC_expr (wpC_mono (h s.heap.objs.size h₁ ⟨hns, hk₁, Nat.le_refl _⟩) (fun v s' hb => ?_) fun e s' he => wpAny_mono he (fun _ s'' hg => ?_) fun _ _ x => x.elim)
  · obtain ⟨h', tk', rfl, hk', hr⟩ := hb
    exact ret _ _ _ hk' hr
  · obtain ⟨a, dx, i, h', tk', rfl, rfl, hW, hF, hU⟩ := hg
    exact flew a dx i h' tk' hW hF hU
end


theorem bitAnd_m10 {x : Int} (hx : 0 ≤ x) : Builtin.bitAnd x 1023 = x % 1024 := by
  rw [bitAnd_pp hx (by decide)]
  have h : x.toNat &&& (1023 : Int).toNat = x.toNat % 1024 := Nat.and_two_pow_sub_one_eq_mod x.toNat 10
  rw [h, Int.natCast_emod, Int.toNat_of_nonneg hx]; rfl
theorem le400 {u n m b : Nat} (hu : u ≤ 2 * min m (n - b)) (h : n ≤ 100) : 2 * u ≤ 400 :=
  Nat.mul_le_mul_left 2 (Nat.le_trans hu (Nat.mul_le_mul_left 2 (Nat.le_trans (Nat.min_le_right ..) (Nat.le_trans (Nat.sub_le ..) h))))
local macro_rules | `(tactic| walk_at "mine b8") => `(tactic| ((try simp only [bitAnd_m8, show (2 : Int) ^ (10 : Int).toNat = 1024 from rfl, show (2 : Int) ^ (8 : Int).toNat = 256 from rfl, Int.fdiv_eq_ediv_of_nonneg _ (show (0 : Int) ≤ 1024 by decide), Int.fdiv_eq_ediv_of_nonneg _ (show (0 : Int) ≤ 256 by decide)]); (try rw [bitAnd_m10 (by omega)]); first | exact Int.emod_nonneg _ (by decide) | exact Int.emod_lt_of_pos _ (by decide) | exact (div8 (by first | exact lowb _ | exact highb (by assumption) (by assumption))).1 | exact (div8 (by first | exact lowb _ | exact highb (by assumption) (by assumption))).2 | omega))
local macro_rules | `(tactic| walk_at "mine put") => `(tactic| (refine wpC_execs_cons (wpC_Expr (CallC_method rfl rfl rfl BA.slot_append BA.type_append ?_)); walk_at "mine step"; refine ⟨_, _, rfl, News.get (by assumption) (.head _), wpC_any ?_⟩; walk_at "mine steps"; refine append_ba (by assumption) (by assumption) ?_ rfl ?_ ?_ ?_ (fun h' F' N' => ?_)))
section
variable {prog : Program} {w : World} {dp un : Nat} {outer : List Env} {s : Shared} {mean : ExcName → Option Value} {mg mb : Str → Option Value}
theorem utf16_spec {cs : List Nat} {b e : Nat} {t tb te : Tok} (X : (hd.heap_39 w.params).In s.heap) (T : TopZ mean mg mb s.heap) (hdp : dp + 5 < recursionLimit) (hun : un + 80 < cLine)
    (fl : s.heap.FunFrames (hideAll s.heap (framesOf outer)) outer) (hz : cs.length ≤ 100) (hbe : b ≤ e) (hel : e ≤ cs.length) (hc : ∀ c ∈ cs, c ≤ 1114111) :
    Ends prog w dp un outer (some []) (.ref 123) [.str (Tx cs) t, .int b tb, .int e te] s
      (fun r _ => (∀ i, b ≤ i → i < e → ¬ (55296 ≤ cs.getD i 0 ∧ cs.getD i 0 ≤ 57343)) ∧ ∃ b' t', r = .bytes b' t' ∧ b' = byteArr (octets2 (units ((cs.drop b).take (e - b)))))
      (fun i => ∃ k : Nat, i = (k : Int) ∧ b ≤ k ∧ k < e ∧ (55296 ≤ cs.getD k 0 ∧ cs.getD k 0 ≤ 57343) ∧ ∀ j, b ≤ j → j < k → ¬ (55296 ≤ cs.getD j 0 ∧ cs.getD j 0 ≤ 57343)) := by
  refine Ends.enter (binds := [(Str.ofString "text", Value.str (Tx cs) t), (Str.ofString "begin", Value.int b tb), (Str.ofString "end", Value.int e te)]) X T (by k_dflt k_is) (by k_dflt k_is) (by omega) (BindsTo.of_eq rfl) (locs rfl) (fun L' h' F' N' => ?_) (by decide)
  refine wpC_execs_cons (wpC_Assign_Name (CallC_Name rfl ?_))
  walk_at "mine steps"
  refine callWithC_type rfl (evalArgsC_nil ?_)
  refine new_ba (by assumption) (by assumption) rfl fun D h' F' N' hD => ?_
  walk_at "mine steps"
  refine wpC_execs_cons (forLoopC PassesOwn.leaving ?_)
  walk_at "mine steps"
  refine' iter_rangeC (n := e - b) (fmU [Str.ofString "code", Str.ofString "high"] fun (_ : List Int) y => if y = Str.ofString "out" then some (Value.ref D) else List.lookup y [(Str.ofString "text", Value.str (Tx cs) t), (Str.ofString "begin", Value.int (b : Int) tb), (Str.ofString "end", Value.int (e : Int) te)].reverse) (fun σ => [(D, baO σ.1)])
    (fun i σ => (fun (ρ : List Int) => ρ = octets2 (units ((cs.drop b).take i)) ∧ ∀ j, b ≤ j → j < b + i → ¬ (55296 ≤ cs.getD j 0 ∧ cs.getD j 0 ≤ 57343)) σ.1) ([], ?m₀) rfl ?hr ?sm ?sz ?F ?N ?j ?adr ?turn ?done
  case hr => assumption
  case F => refine Fr.startU ?_; assumption
  case N => assumption
  case sz => exact size_be hbe
  case sm => exact small_step (n := e - b) (by omega) (by omega) (by omega) (size_be hbe) (by omega)
  case j => exact ⟨by simp [units, octets2], fun j h1 h2 => by omega⟩
  case adr => exact fun _ => rfl
  case turn =>
    rintro i ti ⟨ρ, u⟩ h tk own hi hR hoff F' N'
    obtain ⟨hR, hno⟩ := hR
    dsimp only [fmU] at hR hno hoff F' N' ⊢
    have hoff' : ∀ p ∈ own, p.1 ≠ D := fun p hp => hoff p hp D (.head _)
    have hul := units_len ((cs.drop b).take i)
    have hρ : ρ.length ≤ 400 := by
      rw [hR, octets2_length]
      rw [List.length_take, List.length_drop] at hul
      exact le400 hul hz
    have hbi : b + i < cs.length := Nat.lt_of_lt_of_le (Nat.add_comm .. ▸ Nat.add_lt_of_lt_sub hi) hel
    have hcc : cs.getD ((b : Int) + (i : Int) * 1).toNat 0 = cs.getD (b + i) 0 := by rw [bn1]
    have hstep : octets2 (units ((cs.drop b).take (i + 1))) = octets2 (units ((cs.drop b).take i)) ++ octets2 (enc16 (cs.getD (b + i) 0)) := by
      rw [List.take_succ_eq_append_getElem (by rw [List.length_drop]; exact Nat.lt_of_lt_of_le hi (Nat.sub_le_sub_right hel b))]
      simp only [units, octets2, List.flatMap_append, List.flatMap_cons, List.flatMap_nil, List.append_nil, List.getElem_drop]
      rw [List.getD_eq_getElem?_getD, List.getElem?_eq_getElem hbi, Option.getD_some]
    have hcb : cs.getD (b + i) 0 ≤ 1114111 := by
      rw [List.getD_eq_getElem?_getD, List.getElem?_eq_getElem hbi]
      exact hc _ (List.getElem_mem _)
    have hcb' : cs.getD ((b : Int) + (i : Int) * 1).toNat 0 ≤ 1114111 := hcc ▸ hcb
    refine wpC_execs_any ?_
    walk_at "mine steps"
    refine wpC_execs_cons (wpC_If (wpC_any ?_))
    walk_at "mine steps"
    · refine wpC_execs_any (raise_nf (by k_in) rfl ?_)
      walk_at "mine steps"
      refine fault_call (by k_in) (by walk_at "mine top") (by walk_at "mine room") (by walk_at "mine room") rfl fun h' tk' e₁ vs k D h1 => ?_
      refine made_leaves rfl fl (by assumption) k D h1 ?_
      refine Site.of ⟨b + i, by omega, by omega, by omega, ?_, fun j h1 h2 => hno j h1 h2⟩
      omega
    · refine wpC_execs_nil ?_
      dsimp only
      refine wpC_execs_cons (wpC_If (wpC_any ?_))
      walk_at "mine steps"
      · refine wpC_execs_any ?_
        walk_at "mine steps"
        refine wpC_execs_cons (wpC_Expr (CallC_method rfl rfl rfl BA.slot_append BA.type_append ?_))
        walk_at "mine step"
        refine ⟨_, _, rfl, News.get (by assumption) (.head _), wpC_any ?_⟩
        walk_at "mine steps"
        refine append_ba (by assumption) (by assumption) hoff' rfl ?_ ?_ (by omega) (fun h' F' N' => ?_)
        · walk_at "mine b8"
        · walk_at "mine b8"
        dsimp only
        walk_at "mine put"
        · exact hoff'
        · walk_at "mine b8"
        · walk_at "mine b8"
        · walk_at "mine size"
        dsimp only
        refine wpC_execs_any ?_
        walk_at "mine steps"
        refine wpC_execs_nil ?_
        dsimp only
        walk_at "mine put"
        · exact hoff'
        · walk_at "mine b8"
        · walk_at "mine b8"
        · walk_at "mine size"
        dsimp only
        walk_at "mine put"
        · exact hoff'
        · walk_at "mine b8"
        · walk_at "mine b8"
        · walk_at "mine size"
        dsimp only
        refine wpC_execs_nil ?_
        show TurnNext _ _ _ _ _ _ _ _ _
        refine' TurnNext.ofP _ ?F ?N ?hm ?r
        case F => assumption
        case N => assumption
        case hm => walk_at "mine frU"
        case r =>
          dsimp only
          refine ⟨?_, fun j h1 h2 => ?_⟩
          · rw [hstep, ← hR]
            simp only [List.append_assoc, List.cons_append, List.nil_append]
            refine congrArg (ρ ++ ·) ?_
            rw [show octets2 (enc16 (cs.getD (b + i) 0)) = _ from enc_big (by omega)]
            simp only [List.cons_append, List.nil_append, List.cons.injEq, and_true, bitAnd_m8, show (2 : Int) ^ (10 : Int).toNat = 1024 from rfl, show (2 : Int) ^ (8 : Int).toNat = 256 from rfl, Int.fdiv_eq_ediv_of_nonneg _ (show (0 : Int) ≤ 262144 by decide), Int.fdiv_eq_ediv_of_nonneg _ (show (0 : Int) ≤ 1024 by decide), Int.fdiv_eq_ediv_of_nonneg _ (show (0 : Int) ≤ 256 by decide), Int.fmod_eq_emod_of_nonneg _ (show (0 : Int) ≤ 1024 by decide), Int.fmod_eq_emod_of_nonneg _ (show (0 : Int) ≤ 256 by decide)]
            try rw [bitAnd_m10 (by omega)]
            rw [hcc, mod_sub (show (65536 : Int) = 1024 * 64 from rfl), div_add (show (55296 : Int) = 256 * 216 from rfl) (by decide), mod_add (show (55296 : Int) = 256 * 216 from rfl), Int.ediv_ediv_of_nonneg (by decide)]
            exact ⟨rfl, rfl, rfl, rfl⟩
          · by_cases hj : j = b + i
            · subst hj; omega
            · exact hno j h1 (Nat.lt_of_le_of_ne (Nat.le_of_lt_succ h2) hj)
      · refine wpC_execs_nil ?_
        dsimp only
        walk_at "mine put"
        · exact hoff'
        · walk_at "mine b8"
        · walk_at "mine b8"
        · walk_at "mine size"
        dsimp only
        walk_at "mine put"
        · exact hoff'
        · walk_at "mine b8"
        · walk_at "mine b8"
        · walk_at "mine size"
        dsimp only
        refine wpC_execs_nil ?_
        show TurnNext _ _ _ _ _ _ _ _ _
        refine' TurnNext.ofP _ ?F ?N ?hm ?r
        case F => assumption
        case N => assumption
        case hm => walk_at "mine frU"
        case r =>
          dsimp only
          refine ⟨?_, fun j h1 h2 => ?_⟩
          · rw [hstep, ← hR]
            simp only [List.append_assoc, List.cons_append, List.nil_append]
            refine congrArg (ρ ++ ·) ?_
            rw [show octets2 (enc16 (cs.getD (b + i) 0)) = _ from enc_small (by omega)]
            simp only [List.cons_append, List.nil_append, List.cons.injEq, and_true, bitAnd_m8, show (2 : Int) ^ (10 : Int).toNat = 1024 from rfl, show (2 : Int) ^ (8 : Int).toNat = 256 from rfl, Int.fdiv_eq_ediv_of_nonneg _ (show (0 : Int) ≤ 262144 by decide), Int.fdiv_eq_ediv_of_nonneg _ (show (0 : Int) ≤ 1024 by decide), Int.fdiv_eq_ediv_of_nonneg _ (show (0 : Int) ≤ 256 by decide), Int.fmod_eq_emod_of_nonneg _ (show (0 : Int) ≤ 1024 by decide), Int.fmod_eq_emod_of_nonneg _ (show (0 : Int) ≤ 256 by decide)]
            try rw [bitAnd_m10 (by omega)]
            rw [hcc]
            exact ⟨rfl, rfl⟩
          · by_cases hj : j = b + i
            · subst hj; omega
            · exact hno j h1 (by omega)
  case done =>
    rintro ⟨ρ, u⟩ vx h tk hR F' N'
    obtain ⟨hR, hno⟩ := hR
    dsimp only [fmU] at hR hno F' N' ⊢
    refine wpC_execs_any ?_
    walk_at "mine steps"
    have hul := units_len ((cs.drop b).take (e - b))
    rw [List.length_take, List.length_drop] at hul
    refine call_bytes_ba (News.get (by assumption) (.head _)) (by rw [hR, octets2_length]; exact Nat.le_trans (le400 hul hz) (by decide)) fun t' k => ?_
    walk_at "mine steps"
    refine Back.of (by assumption) ⟨fun j h1 h2 => hno j h1 (Nat.lt_of_lt_of_eq h2 (Nat.add_sub_cancel' hbe).symm), _, _, rfl, by rw [hR]⟩
end


local macro_rules | `(tactic| walk_at "exec Raise some none") => `(tactic| ((with_reducible show wpAny _ _ (exec (Stmt.Raise _ _ _) _) _ _ _); refine raise_nf (by k_in) rfl ?_))
local macro_rules | `(tactic| walk_at "call ref") => `(tactic| ((with_reducible show wpAny _ _ (call (Value.ref 64) _) _ _ _); refine fault_call (by k_in) (by walk_at "mine top") (by walk_at "mine room") (by walk_at "mine room") rfl (fun h' tk' e₁ vs k D h1 => ?_); refine made_leaves rfl (by assumption) (by assumption) k D h1 ?_))
/-- a half of a pair -/
abbrev Half (c : Nat) : Prop := 55296 ≤ c ∧ c ≤ 57343
theorem menu_ne {c k : Nat} (h : c = 97 ∨ c = 98 ∨ (55295 ≤ c ∧ c ≤ 1114111)) (hk : k < 97) : c ≠ k := fun e => by
  subst e
  rcases h with h | h | ⟨h, _⟩
  · exact absurd hk (Nat.not_lt.mpr (Nat.le_of_eq h.symm))
  · exact absurd hk (Nat.not_lt.mpr (Nat.le_trans (by decide) (Nat.le_of_eq h.symm)))
  · exact absurd (Nat.le_trans h (Nat.le_of_lt hk)) (by decide)
theorem half_of {c : Nat} (h : c = 97 ∨ c = 98 ∨ (55295 ≤ c ∧ c ≤ 1114111)) (h2 : (c : Int) < 32 ∨ (127 ≤ (c : Int) ∧ (c : Int) ≤ 159) ∨ (c : Int) = 8232 ∨ (c : Int) = 8233 ∨ (55296 ≤ (c : Int) ∧ (c : Int) ≤ 57343)) : Half c := by
  rcases h with rfl | rfl | ⟨h, _⟩
  · exact absurd h2 (by decide)
  · exact absurd h2 (by decide)
  · have h : (55295 : Int) ≤ c := Int.ofNat_le.mpr h
    rcases h2 with h2 | h2 | h2 | h2 | h2
    · exact absurd h2 (Int.not_lt.mpr (Int.le_trans (by decide) h))
    · exact absurd h2.2 (Int.not_le.mpr (Int.lt_of_lt_of_le (by decide) h))
    · exact absurd h2 (Int.ne_of_gt (Int.lt_of_lt_of_le (by decide) h))
    · exact absurd h2 (Int.ne_of_gt (Int.lt_of_lt_of_le (by decide) h))
    · exact ⟨Int.ofNat_le.mp h2.1, Int.ofNat_le.mp h2.2⟩
theorem tx_ne {c : Nat} (h : c ≠ 47) : (Tx [c] == Str.ofString "/") = false := by
  rw [show Str.ofString "/" = Tx [47] from by decide +kernel]
  rw [beq_eq_false_iff_ne]
  intro q
  have := Tx.inj q
  simp at this
  exact h this
theorem tx_notin {c : Nat} (h : c ≠ 37) (h2 : c ≠ 42) : (Builtin.Str.occurrences (Str.ofString "%*") (Tx [c]) 0 (Str.ofString "%*").length 1).isEmpty = true := by
  rw [show Str.ofString "%*" = Tx [37, 42] from by decide +kernel]
  have a0 : Builtin.Str.subAt (Tx [37, 42]) (Tx [c]) 0 = false := by
    simp [Builtin.Str.subAt, Tx, Str.length, Ne.symm h]
  have a1 : Builtin.Str.subAt (Tx [37, 42]) (Tx [c]) 1 = false := by
    simp [Builtin.Str.subAt, Tx, Str.length, Ne.symm h2]
  rw [Tx.length]
  unfold Builtin.Str.occurrences
  have hl : (Tx [c]).length = 1 := Tx.length _
  simp [Std.Legacy.Range.forIn_eq_forIn_range', List.range', Std.Legacy.Range.size, hl, a0, a1]
section
variable {prog : Program} {w : World} {dp un : Nat} {outer : List Env} {gd : Option (List Code)} {s : Shared} {mean : ExcName → Option Value} {mg mb : Str → Option Value}
theorem check_spec {cs : List Nat} {t : Tok} (X : (hd.heap_39 w.params).In s.heap) (T : TopZ mean mg mb s.heap) (hdp : dp + 5 < recursionLimit) (hun : un + 80 < cLine)
    (fl : s.heap.FunFrames (hideAll s.heap (framesOf outer)) outer) (hz : cs.length ≤ 100) (h0 : 1 ≤ cs.length) (hc : ∀ c ∈ cs, c = 97 ∨ c = 98 ∨ (55295 ≤ c ∧ c ≤ 1114111)) :
    Ends prog w dp un outer gd (.ref 179) [.str (Tx cs) t] s
      (fun r _ => (∀ i, i < cs.length → ¬ Half (cs.getD i 0)) ∧ ∃ t', r = .str (Tx cs) t')
      (fun i => ∃ k : Nat, i = (k : Int) ∧ k < cs.length ∧ Half (cs.getD k 0) ∧ ∀ j, j < k → ¬ Half (cs.getD j 0)) := by
  refine Ends.enter (binds := [(Str.ofString "text", Value.str (Tx cs) t)]) X T (by k_dflt k_is) (by k_dflt k_is) (by omega) (BindsTo.of_eq rfl) (locs rfl) (fun L' h' F' N' => ?_) (by decide)
  refine wpC_execs_any ?_
  walk_at "mine steps"
  refine wpC_execs_cons (forLoopC PassesOwn.leaving ?_)
  walk_at "mine steps"
  refine' iter_rangeC (n := cs.length) (fmU [Str.ofString "sign"] fun (_ : Unit) => ?g) (fun σ => [])
    (fun i σ => ∀ j, j < i → ¬ Half (cs.getD j 0)) ((), ?m₀) rfl ?hr ?sm ?sz ?F ?N ?j ?adr ?turn ?done
  case hr => assumption
  case F => refine Fr.startU ?_; assumption
  case N => assumption
  case sz => exact size_one _
  case sm => exact small0 (Nat.le_trans hz (by decide)) (by decide) (size_one _) (Nat.le_trans hz (by decide))
  case j => exact fun j h1 => absurd h1 (Nat.not_lt_zero j)
  case adr => exact fun _ => rfl
  case turn =>
    rintro i ti ⟨ρ, u⟩ h tk own hi hno hoff F' N'
    dsimp only [fmU] at hno hoff F' N' ⊢
    have hcc : cs.getD ((0 : Int) + (i : Int) * 1).toNat 0 = cs.getD i 0 := by rw [Int.zero_add, Int.mul_one]; rfl
    have hcb := hc (cs.getD i 0) (by rw [List.getD_eq_getElem?_getD, List.getElem?_eq_getElem hi]; exact List.getElem_mem _)
    have hcb' := hcb
    rw [← hcc] at hcb'
    have hdl : (Tx [cs.getD ((0 : Int) + (i : Int) * 1).toNat 0] == Str.ofString "/") = false := tx_ne (menu_ne hcb' (by decide))
    have hwl : (Builtin.Str.occurrences (Str.ofString "%*") (Tx [cs.getD ((0 : Int) + (i : Int) * 1).toNat 0]) 0 (Str.ofString "%*").length 1).isEmpty = true := tx_notin (menu_ne hcb' (by decide)) (menu_ne hcb' (by decide))
    refine wpC_any ?_
    walk_at "mine steps"
    any_goals (first | (rename (Tx _ == Str.ofString "/") = true => q; rw [hdl] at q; cases q; done) | (rename List.isEmpty _ = false => q; rw [hwl] at q; cases q; done) | skip)
    · have hh := half_of hcb' (by assumption)
      rw [hcc] at hh
      exact Site.of ⟨i, by rw [Int.zero_add, Int.mul_one], hi, hh, fun j h1 => hno j h1⟩
    · show TurnNext _ _ _ _ _ _ _ _ _
      refine' TurnNext.ofP () ?F ?N ?hm ?r
      case F => assumption
      case N => assumption
      case hm => walk_at "mine frU"
      case r =>
        intro j h1
        by_cases hj : j = i
        · subst hj; omega
        · exact hno j (Nat.lt_of_le_of_ne (Nat.le_of_lt_succ h1) hj)
  case done =>
    rintro ⟨ρ, u⟩ vx h tk hno F' N'
    dsimp only [fmU] at hno F' N' ⊢
    refine wpC_any ?_
    walk_at "mine steps"
    · exfalso; omega
    · exact Back.of F' ⟨hno, _, rfl⟩
end


theorem frames_innerX {g gc : Heap} {L : Addr} {m : Str → Option Value} {env : Env} {outer : List Env} {base : Heap} (fl : g.FunFrames base outer) (F : Fr g L gc m) (hf : env.frame = some L) (hk : env.scope.kind = .function) :
    gc.FunFrames (hideAll gc (framesOf (env :: outer))) (env :: outer) := by
  have hgL : (hideAll g (framesOf outer)).get? L = none := by
    cases z : (hideAll g (framesOf outer)).get? L with
    | none => rfl
    | some o => exact absurd (Nat.lt_of_lt_of_le (Heap.lt_size (of_hideAll _ z)) F.above) (Nat.lt_irrefl _)
  exact funFrames_hidden (base := hideAll g (framesOf outer)) (.cons (by rw [hk]; decide) hf F.ns hgL ((funFrames_hidden fl).of_keeps fun b o q _ => ⟨o, F.keep b o q, rfl⟩))
section
variable {prog : Program} {w : World} {dp un : Nat} {outer : List Env} {gd : Option (List Code)} {s : Shared} {R : Value → Heap → Prop} {W : Int → Prop} {f : Value} {args : List Value} {h₀ : Heap} {L : Addr} {m : Str → Option Value} {news : List (Addr × Obj)} {Q E : Value → Shared → Prop}
theorem Ends.use (C : Ends prog w dp un outer gd f args s R W) (F : Fr h₀ L s.heap m) (N : News h₀ L s.heap news)
    (h : ∀ r h' tk', R r h' → Fr h₀ L h' m → News h₀ L h' news → Q r { s with heap := h', toks := tk' })
    (he : ∀ e dx i h' tk', W i → Fly (hideAll s.heap (framesOf outer)) outer e dx i h' → s.heap.UpToSlots h' → E (.ref e) { s with heap := h', toks := tk' }) : wpC (model prog w) (Ar dp un (some outer) gd) (call f args) Q E s :=
  C Q E (fun r h' tk' k hr => h r h' tk' hr (F.keeps k) (N.grown k)) he
theorem Ret.useC {fr : Option (List Env)} (C : Ret prog w dp un fr gd f args s R) (F : Fr h₀ L s.heap m) (N : News h₀ L s.heap news)
    (h : ∀ r h' tk', R r h' → Fr h₀ L h' m → News h₀ L h' news → Q r { s with heap := h', toks := tk' }) : wpC (model prog w) (Ar dp un fr gd) (call f args) Q E s :=
  wpC_any (Ret.use C F N h)
theorem flew_leaves {A : Around} {hc h' : Heap} {env : Env} {e dx : Addr} {i : Int} {W' : Int → Prop} {tk : Nat} (hfr : A.frames = some outer) (F : Fr s.heap L hc m) (y : Fly (hideAll hc (framesOf (env :: outer))) (env :: outer) e dx i h') (u : hc.UpToSlots h') (hW : Site W' i) (hf : env.frame = some L := by rfl) :
    wpAny (model prog w) (A.deeper env) (leaving env (.ref e)) (fun _ s'' => Gone s outer W' (.ref e) s'') (fun _ _ => False) { s with heap := h', toks := tk } :=
  fly_outX hfr hf F y u fun h'' y' up => ⟨e, dx, i, h'', tk, rfl, rfl, hW, y', up⟩
end
section
variable {σ : Type} {prog : Program} {w : World} {A : Around} {s : Shared} {env : Env} {h₀ : Heap} {L : Addr} {body : List Stmt} {Q : Flow → Shared → Prop} {test : Expr} {pos : Pos}
theorem whileSC {E : Value → Shared → Prop} (hE : PassesOwn (model prog w) A env E) (fm : σ → Str → Option Value) (fn : σ → List (Addr × Obj)) (R : σ → Prop) (μ : σ → Nat) (σ₀ : σ) (F : Fr h₀ L s.heap (fm σ₀)) (N : News h₀ L s.heap (fn σ₀)) (h0 : R σ₀)
    (turn : ∀ σ' h tk, R σ' → Fr h₀ L h (fm σ') → News h₀ L h (fn σ') →
      wpC (model prog w) A (isTrue test env (eval test env)) (fun b s₂ => if b then wpC (model prog w) A (execs body env) (WTurn h₀ L fm fn R μ (μ σ') { s with heap := h, toks := tk } Q) E s₂ else Q .next s₂) E { s with heap := h, toks := tk }) :
    wpC (model prog w) A (exec (.While test body [] pos) env) Q E s := by
  refine whileC hE (fun n s' => ∃ h tk σ', s' = { s with heap := h, toks := tk } ∧ Fr h₀ L h (fm σ') ∧ News h₀ L h (fn σ') ∧ R σ' ∧ n = μ σ') (μ σ₀) ⟨s.heap, s.toks, σ₀, rfl, F, N, h0, rfl⟩ fun n s' hI => ?_
  obtain ⟨h, tk, σ', rfl, F', N', hR, rfl⟩ := hI
  refine wpC_mono (turn σ' h tk hR F' N') (fun b s₂ hb => ?_) fun _ _ x => x
  cases b with
  | false => exact hb
  | true =>
    simp only [if_true] at hb ⊢
    refine wpC_mono hb (fun f s₃ h₃ => ?_) fun _ _ x => x
    have fin : WNext h₀ L fm fn R μ (μ σ') { s with heap := h, toks := tk } s₃ → ∃ m, m < μ σ' ∧ ∃ h tk σ', s₃ = { s with heap := h, toks := tk } ∧ Fr h₀ L h (fm σ') ∧ News h₀ L h (fn σ') ∧ R σ' ∧ m = μ σ' := by
      rintro ⟨h', tk', σ₂, e, F₂, N₂, hR₂, hk⟩
      exact ⟨μ σ₂, hk, h', tk', σ₂, e, F₂, N₂, hR₂, rfl⟩
    cases f with
    | ret v => exact h₃
    | brk => exact h₃
    | next => exact fin h₃
    | cont => exact fin h₃
end
theorem byteArr_bInts (b : Array UInt8) : byteArr (KBw.bInts b) = b := by
  unfold byteArr KBw.bInts
  apply Array.toList_inj.mp
  simp only [List.map_map, List.toList_toArray]
  conv => rhs; rw [← List.map_id b.toList]
  refine List.map_congr_left fun c _ => ?_
  simp
/-- a function stands there -/
def FnHere (a : Addr) (h : Heap) : Prop := ∃ o fd, h.get? a = some o ∧ o.data = .func fd
theorem FnHere.of_K {K : Frag} {h : Heap} {a : Addr} {oc : Value} {od : Option Addr} {fd : FuncData} {osl : Array (Option Value)} (X : K.In h) (e : K.lookup a = some ⟨oc, od, .func fd, osl⟩) : FnHere a h := ⟨_, fd, X _ _ e, rfl⟩
def CallAt (M : Model) (A : Around) (a : Addr) (args : Args) (Q E : Value → Shared → Prop) (s : Shared) : Prop := FnHere a s.heap ∧ wpC M A (call (.ref a) args.pos args.kw) Q E s
section
variable {M : Model} {A : Around} {E : Value → Shared → Prop} {s : Shared}
theorem callWithC_fn {pos : Pos} {a : Addr} {args : List (Bool × Sem Value)} {Q : Value → Shared → Prop}
    (h : wpC M A (evalArgs (.ref a) true args []) (fun x s₁ => CallAt M A a x Q E s₁) E s) :
    wpC M A (callWith pos (.ref a) [] args []) Q E s := by
  unfold callWith
  refine wpC_bind (wpC_holding (wpC_mono h (fun x s₁ h₁ => wpC_bind (wpC_standAt ?_)) fun _ _ x => x))
  obtain ⟨⟨o, fd, ho, hfd⟩, h₁⟩ := h₁
  have tail : ∀ {t : Sem Value}, wpC M A t Q E s₁ → wpC M A (t >>= fun r => holding [r] point >>= fun _ => pure r) Q E s₁ :=
    fun ht => wpC_bind (wpC_mono ht (fun r s₂ hr => wpC_bind (wpC_holding (wpC_point (wpC_pure hr)))) fun _ _ x => x)
  cases hs : (args.any (·.1) || ([] : List (Option Str × Sem Value)).any (·.1.isNone)) <;>
    refine wpC_bind (m := keeperOf (.ref a)) ?_ <;> unfold keeperOf <;>
    refine wpC_any (wpAny_bind (wpAny_load ho ?_)) <;> rw [hfd] <;> refine wpAny_pure ?_
  · dsimp only
    split <;> first
      | exact tail h₁
      | exact tail (by unfold callMarked; exact wpC_keep h₁)
  · first
      | exact tail (by unfold callMarked; exact wpC_keep h₁)
      | exact tail h₁
end


local macro_rules | `(tactic| walk_at "mine put") => `(tactic| (refine wpC_execs_cons (wpC_Expr (CallC_method rfl rfl rfl BA.slot_append BA.type_append ?_)); walk_at "mine step"; refine ⟨_, _, rfl, News.get (by assumption) (.head _), wpC_any ?_⟩; walk_at "mine steps"; refine append_ba (own := []) (by assumption) (by assumption) (fun _ hp => nomatch hp) rfl ?_ ?_ ?_ (fun h' F' N' => ?_); (try simp only [List.append_nil] at N')))
local macro_rules | `(tactic| walk_at "mine frW") => `(tactic| (refine fmU_hw fun z h2 => ?_; have h3 := h2; simp only [List.contains_cons, List.contains_nil, Bool.or_false, Bool.or_eq_false_iff, beq_eq_false_iff_ne, ne_eq] at h3; by_cases q1 : z = Str.ofString "at"; (subst q1; rfl); by_cases q2 : z = Str.ofString "out"; (subst q2; rfl); dsimp only; simp only [if_neg q1, if_neg q2, if_neg h3.1, if_neg h3.2, h2, Bool.false_eq_true, if_false]))
theorem run_split {cs : List Nat} {a : Nat} (ha : a ≤ cs.length) : cs.drop a = (cs.drop a).take (runEnd cs a - a) ++ cs.drop (runEnd cs a) ∧ (∀ c ∈ (cs.drop a).take (runEnd cs a - a), ¬ (32 ≤ c ∧ c ≤ 126)) ∧
    (cs.drop (runEnd cs a) = [] ∨ ∃ c r, cs.drop (runEnd cs a) = c :: r ∧ 32 ≤ c ∧ c ≤ 126) ∧ a ≤ runEnd cs a ∧ runEnd cs a ≤ cs.length := by
  have e1 : runEnd cs a - a = ((cs.drop a).takeWhile fun c => !decide (32 ≤ c ∧ c ≤ 126)).length := by unfold runEnd; omega
  have e2 : cs.drop (runEnd cs a) = (cs.drop a).dropWhile fun c => !decide (32 ≤ c ∧ c ≤ 126) := by
    unfold runEnd
    rw [← List.drop_drop]
    conv => lhs; rw [← List.takeWhile_append_dropWhile (p := fun c => !decide (32 ≤ c ∧ c ≤ 126)) (l := cs.drop a)]
    rw [List.takeWhile_append_dropWhile]
    conv => lhs; arg 2; rw [← List.takeWhile_append_dropWhile (p := fun c => !decide (32 ≤ c ∧ c ≤ 126)) (l := cs.drop a)]
    rw [List.drop_left]
  have e3 : (cs.drop a).take (runEnd cs a - a) = (cs.drop a).takeWhile fun c => !decide (32 ≤ c ∧ c ≤ 126) := by
    rw [e1]
    conv => lhs; arg 2; rw [← List.takeWhile_append_dropWhile (p := fun c => !decide (32 ≤ c ∧ c ≤ 126)) (l := cs.drop a)]
    rw [List.take_left]
  refine ⟨by rw [e3, e2, List.takeWhile_append_dropWhile], ?_, ?_, by unfold runEnd; omega, ?_⟩
  · rw [e3]
    intro c hc
    have := List.all_eq_true.mp (List.all_takeWhile (p := fun c => !decide (32 ≤ c ∧ c ≤ 126)) (l := cs.drop a)) c hc
    simp only [decide_eq_true_eq, Bool.not_eq_true', decide_eq_false_iff_not] at this
    exact this
  · rw [e2]
    cases q : (cs.drop a).dropWhile fun c => !decide (32 ≤ c ∧ c ≤ 126) with
    | nil => exact .inl rfl
    | cons c r =>
      refine .inr ⟨c, r, rfl, ?_⟩
      have := List.head?_dropWhile_not (fun c => !decide (32 ≤ c ∧ c ≤ 126)) (cs.drop a)
      rw [q] at this
      simpa using this
  · unfold runEnd
    have := (List.takeWhile_prefix (fun c => !decide (32 ≤ c ∧ c ≤ 126)) (l := cs.drop a)).length_le
    rw [List.length_drop] at this
    omega
theorem enc_amp {cs : List Nat} {ρ : List Int} {a c : Nat} (hdr : cs.drop a = c :: cs.drop (a + 1)) (hc : (c : Int) = 38) (henc : ∀ ks', Enc7 (cs.drop a) ks' → Enc7 cs (ρ ++ ks')) : ∀ ks', Enc7 (cs.drop (a + 1)) ks' → Enc7 cs ((ρ ++ [(c : Int)] ++ [45]) ++ ks') := fun ks' h => by
  obtain rfl : c = 38 := by omega
  have := henc _ (hdr ▸ Enc7.amp h)
  simpa using this
theorem enc_plain {cs : List Nat} {ρ : List Int} {a c : Nat} (hdr : cs.drop a = c :: cs.drop (a + 1)) (h1 : 32 ≤ (c : Int) ∧ (c : Int) ≤ 126) (hc : (c : Int) ≠ 38) (henc : ∀ ks', Enc7 (cs.drop a) ks' → Enc7 cs (ρ ++ ks')) : ∀ ks', Enc7 (cs.drop (a + 1)) ks' → Enc7 cs ((ρ ++ [(c : Int)]) ++ ks') := fun ks' h => by
  have := henc _ (hdr ▸ Enc7.plain (c := c) (by omega) (by omega) (by omega) h)
  simpa using this
theorem run_end_lt {cs : List Nat} {a : Nat} (ha : a < cs.length) (hnp : ¬ (32 ≤ cs.getD a 0 ∧ cs.getD a 0 ≤ 126)) : a < runEnd cs a := by
  rw [runEnd_step ha hnp]
  exact (run_split (Nat.succ_le_of_lt ha)).2.2.2.1
theorem enc_shift {cs : List Nat} {ρ : List Int} {a : Nat} (ha : a < cs.length) (hnp : ¬ (32 ≤ cs.getD a 0 ∧ cs.getD a 0 ≤ 126)) (hno : ∀ i, a ≤ i → i < runEnd cs a → ¬ Half (cs.getD i 0)) (hc : ∀ c ∈ cs, c ≤ 1114111) (hz : cs.length ≤ 50)
    (hIn : ∀ k ∈ ρ, 0 ≤ k ∧ k < 256) (hlen : ρ.length ≤ 10 * a) (henc : ∀ ks', Enc7 (cs.drop a) ks' → Enc7 cs (ρ ++ ks')) :
    (∀ k ∈ ρ ++ [38] ++ encoded signs (octets2 (units ((cs.drop a).take (runEnd cs a - a)))) ++ [45], 0 ≤ k ∧ k < 256) ∧ (ρ ++ [38] ++ encoded signs (octets2 (units ((cs.drop a).take (runEnd cs a - a)))) ++ [45]).length ≤ 10 * runEnd cs a ∧
    ∀ ks', Enc7 (cs.drop (runEnd cs a)) ks' → Enc7 cs ((ρ ++ [38] ++ encoded signs (octets2 (units ((cs.drop a).take (runEnd cs a - a)))) ++ [45]) ++ ks') := by
  obtain ⟨h1, h2, h3, h4, h5⟩ := run_split (Nat.le_of_lt ha)
  have hlt := run_end_lt ha hnp
  have hrl : ((cs.drop a).take (runEnd cs a - a)).length = runEnd cs a - a := by rw [List.length_take, List.length_drop]; exact Nat.min_eq_left (Nat.sub_le_sub_right h5 a)
  generalize hrun : (cs.drop a).take (runEnd cs a - a) = run at h1 h2 hrl ⊢
  have hs : ∀ c ∈ run, Shifted c := fun c hcr => by
    have hm : c ∈ cs.drop a := by rw [h1]; exact List.mem_append_left _ hcr
    refine ⟨hc c (List.mem_of_mem_drop hm), h2 c hcr, ?_⟩
    obtain ⟨j, hj, e⟩ := List.getElem_of_mem hcr
    have := hno (a + j) (by omega) (by omega)
    subst hrun
    rw [List.getElem_take, List.getElem_drop] at e
    rw [List.getD_eq_getElem?_getD, List.getElem?_eq_getElem (by omega), Option.getD_some, e] at this
    exact this
  have F := code_facts _ _ rfl (octets2_in fun c hcr => (hs c hcr).1)
  have hle := F.le
  have ho := octets2_length (units run)
  have hu := units_len run
  refine ⟨fun k hk => ?_, ?_, fun ks' h => ?_⟩
  · simp only [List.mem_append, List.mem_singleton] at hk
    rcases hk with ((hk | rfl) | hk) | rfl
    · exact hIn k hk
    · decide
    · exact (show ∀ k ∈ signs, 0 ≤ k ∧ k < 256 by decide) k (F.hm k hk)
    · decide
  · simp only [List.length_append, List.length_singleton]
    omega
  · have hne : run ≠ [] := fun q => absurd (hrl.symm.trans (congrArg List.length q)) (Nat.ne_of_gt (Nat.sub_pos_of_lt hlt))
    have := henc _ (h1 ▸ Enc7.shift hne (by omega) hs h3 h)
    simpa using this
section
variable {prog : Program} {w : World} {dp un : Nat} {outer : List Env} {s : Shared} {mean : ExcName → Option Value} {mg mb : Str → Option Value}
theorem utf7_spec {cs : List Nat} {t : Tok} (X : (hd.heap_39 w.params).In s.heap) (T : TopZ mean mg mb s.heap) (hdp : dp + 8 < recursionLimit) (hun : un + 160 < cLine)
    (fl : s.heap.FunFrames (hideAll s.heap (framesOf outer)) outer) (hz : cs.length ≤ 50) (hc : ∀ c ∈ cs, c ≤ 1114111) :
    Ends prog w dp un outer (some []) (.ref 137) [.str (Tx cs) t] s
      (fun r _ => (∀ i, i < cs.length → ¬ Half (cs.getD i 0)) ∧ ∃ b' t' ks, r = .bytes b' t' ∧ KBw.bInts b' = ks ∧ Enc7 cs ks ∧ ks.length ≤ 10 * cs.length)
      (fun i => ∃ k : Nat, i = (k : Int) ∧ k < cs.length ∧ Half (cs.getD k 0) ∧ ∀ j, j < k → ¬ Half (cs.getD j 0)) := by
  refine Ends.enter (binds := [(Str.ofString "text", Value.str (Tx cs) t)]) X T (by k_dflt k_is) (by k_dflt k_is) (by omega) (BindsTo.of_eq rfl) (locs rfl) (fun L' h' F' N' => ?_) (by decide)
  refine wpC_execs_cons (wpC_Assign_Name (CallC_Name rfl ?_))
  walk_at "mine steps"
  refine callWithC_type rfl (evalArgsC_nil ?_)
  refine new_ba (by assumption) (by assumption) rfl fun D h' F' N' hD => ?_
  walk_at "mine steps"
  refine wpC_execs_any ?_
  walk_at "mine steps"
  refine wpC_execs_cons ?_
  refine' whileSC (L := L') PassesOwn.leaving (fmU [Str.ofString "code", Str.ofString "end"] fun (ρ : List Int × (Nat × Tok)) y => if y = Str.ofString "at" then some (.int (ρ.2.1 : Int) ρ.2.2) else if y = Str.ofString "out" then some (.ref D) else List.lookup y [(Str.ofString "text", Value.str (Tx cs) t)].reverse) (fun σ => [(D, baO σ.1.1)])
    (fun σ => (fun (ρ : List Int × (Nat × Tok)) => ρ.2.1 ≤ cs.length ∧ (∀ j, j < ρ.2.1 → ¬ Half (cs.getD j 0)) ∧ (∀ k ∈ ρ.1, 0 ≤ k ∧ k < 256) ∧ ρ.1.length ≤ 10 * ρ.2.1 ∧ ∀ ks', Enc7 (cs.drop ρ.2.1) ks' → Enc7 cs (ρ.1 ++ ks')) σ.1) (fun σ => cs.length - σ.1.2.1) (([], (0, ?ta)), ?m₀) ?F ?N ?j ?turn
  case N => assumption
  case F => refine Fr.startU ?_; assumption
  case j => exact ⟨Nat.zero_le _, fun j h => by dsimp only at h; omega, fun n hn => by simp at hn, Nat.zero_le _, fun ks' h => h⟩
  rintro ⟨⟨ρ, ⟨a, ta⟩⟩, u⟩ h tk ⟨ha, hno, hIn, hlen, henc⟩ F' N'
  replace F' := Fr.eta F'
  dsimp only [fmU] at ha hno hIn hlen henc F' N' ⊢
  refine wpC_any ?_
  walk_at "mine steps"
  · have hal : a < cs.length := by omega
    have hcc : cs.getD ((a : Int)).toNat 0 = cs.getD a 0 := rfl
    have hcm : cs.getD a 0 ∈ cs := by rw [List.getD_eq_getElem?_getD, List.getElem?_eq_getElem hal]; exact List.getElem_mem _
    have hcb := hc _ hcm
    have hdr : cs.drop a = cs.getD a 0 :: cs.drop (a + 1) := by rw [List.drop_eq_getElem_cons hal, List.getD_eq_getElem?_getD, List.getElem?_eq_getElem hal]; rfl
    refine wpC_execs_any ?_
    walk_at "mine steps"
    refine wpC_execs_cons (wpC_If (wpC_any ?_))
    walk_at "mine steps"
    · walk_at "mine put"
      · omega
      · omega
      · omega
      dsimp only
      refine wpC_execs_cons (wpC_If (wpC_any ?_))
      walk_at "mine steps"
      · walk_at "mine put"
        · omega
        · omega
        · walk_at "mine size"
        dsimp only
        refine wpC_execs_nil ?_
        dsimp only
        refine wpC_any ?_
        walk_at "mine steps"
        dsimp only
        refine wpC_execs_nil ?_
        show WNext _ _ _ _ _ _ _ _ _
        refine' WNext.ofP (_, (a + 1, _)) ?F ?N ?hm ?r ?hk
        case F => assumption
        case N => assumption
        case hm => walk_at "mine frW"
        case hk => exact Nat.sub_lt_sub_left hal (Nat.lt_succ_self a)
        case r =>
          refine ⟨hal, fun j hj => ?_, ?_, ?_, enc_amp hdr (by omega) henc⟩
          · dsimp only at hj
            by_cases q : j = a
            · subst q; omega
            · exact hno j (Nat.lt_of_le_of_ne (Nat.le_of_lt_succ hj) q)
          · dsimp only
            intro k hk
            simp only [List.mem_append, List.mem_singleton] at hk
            rcases hk with (hk | rfl) | rfl
            · exact hIn k hk
            · omega
            · omega
          · dsimp only; simp only [List.length_append, List.length_singleton]; omega
      · refine wpC_execs_nil ?_
        dsimp only
        refine wpC_any ?_
        walk_at "mine steps"
        dsimp only
        refine wpC_execs_nil ?_
        show WNext _ _ _ _ _ _ _ _ _
        refine' WNext.ofP (_, (a + 1, _)) ?F ?N ?hm ?r ?hk
        case F => assumption
        case N => assumption
        case hm => walk_at "mine frW"
        case hk => exact Nat.sub_lt_sub_left hal (Nat.lt_succ_self a)
        case r =>
          refine ⟨hal, fun j hj => ?_, ?_, ?_, enc_plain hdr (by omega) (by omega) henc⟩
          · dsimp only at hj
            by_cases q : j = a
            · subst q; omega
            · exact hno j (Nat.lt_of_le_of_ne (Nat.le_of_lt_succ hj) q)
          · dsimp only
            intro k hk
            simp only [List.mem_append, List.mem_singleton] at hk
            rcases hk with hk | rfl
            · exact hIn k hk
            · omega
          · dsimp only; simp only [List.length_append, List.length_singleton]; omega
    · refine wpC_execs_any ?_
      walk_at "mine steps"
      walk_at "mine put"
      · omega
      · omega
      · omega
      dsimp only
      refine wpC_execs_cons (wpC_Expr (CallC_method rfl rfl rfl BA.slot_extend BA.type_extend ?_))
      walk_at "mine step"
      refine ⟨_, _, rfl, News.get (by assumption) (.head _), ?_⟩
      refine CallC_Name (trees := [(false, eval _ _), (false, eval _ _)]) rfl ?_
      walk_at "mine step"
      refine callWithC_fn (evalArgsC_plain (splicedC_cons ?_))
      refine CallC_Name (trees := [(false, eval _ _), (false, eval _ _), (false, eval _ _)]) rfl ?_
      walk_at "mine step"
      refine callWithC_fn (evalArgsC_plain (splicedC_cons (wpC_any ?_)))
      walk_at "mine steps"
      refine splicedC_cons (wpC_any ?_)
      walk_at "mine steps"
      refine splicedC_cons (wpC_any ?_)
      walk_at "mine steps"
      refine splicedC_nil ?_
      refine ⟨FnHere.of_K (K := hd.heap_39 w.params) (by k_in) (by k_dflt k_is), ?_⟩
      dsimp only
      refine Ends.use (utf16_spec (by k_in) (by walk_at "mine top") (by walk_at "mine room") (by walk_at "mine room") (frames_innerX fl (by assumption) rfl rfl) (by omega) (run_split ha).2.2.2.1 (run_split ha).2.2.2.2 hc) (by assumption) (by assumption) (fun r h' tk' hr F' N' => ?_) (fun e dx i h' tk' hW y u => ?_)
      · obtain ⟨hnh, b', t', rfl, rfl⟩ := hr
        have hnp : ¬ (32 ≤ cs.getD a 0 ∧ cs.getD a 0 ≤ 126) := by omega
        have hsp := run_split ha
        obtain ⟨eIn, eLen, eEnc⟩ := enc_shift hal hnp hnh hc hz hIn hlen henc
        have hlt := run_end_lt hal hnp
        have hul := units_len ((cs.drop a).take (runEnd cs a - a))
        have hol := octets2_length (units ((cs.drop a).take (runEnd cs a - a)))
        rw [List.length_take, List.length_drop] at hul
        have hln : (ρ ++ [38] ++ encoded signs (octets2 (units ((cs.drop a).take (runEnd cs a - a)))) ++ [45]).length ≤ 500 := Nat.le_trans eLen (Nat.mul_le_mul_left 10 (Nat.le_trans hsp.2.2.2.2 hz))
        simp only [List.length_append, List.length_singleton] at hln
        refine splicedC_cons (wpC_any ?_)
        walk_at "mine steps"
        refine splicedC_nil ?_
        refine ⟨FnHere.of_K (K := hd.heap_39 w.params) (by k_in) (by k_dflt k_is), ?_⟩
        dsimp only
        refine Ret.useC (part_encoded_spec (ks := octets2 (units ((cs.drop a).take (runEnd cs a - a)))) (sg := signs) (by k_in) (by walk_at "mine top") (by walk_at "mine room") (by walk_at "mine room") (KBa.ints_make (octets2_in fun c hcr => hc c (List.mem_of_mem_drop (List.mem_of_mem_take hcr)))) (by decide +kernel) (by rw [hol]; exact Nat.le_trans (Nat.mul_le_mul_left 2 (Nat.le_trans hul (Nat.mul_le_mul_left 2 (Nat.le_trans (Nat.min_le_right ..) (Nat.le_trans (Nat.sub_le ..) hz))))) (by decide)) (by decide)) (by assumption) (by assumption) (fun r h' tk' hr F' N' => ?_)
        obtain ⟨b2, t2, rfl, hb2⟩ := hr
        refine extend_ba (own := []) (ms := encoded signs (octets2 (units ((cs.drop a).take (runEnd cs a - a))))) (by assumption) (by assumption) (fun _ hp => nomatch hp) rfl (by rw [← hb2]; exact (byteArr_bInts b2).symm) (by simp only [List.length_append, List.length_singleton]; omega) (fun h' F' N' => ?_)
        dsimp only
        walk_at "mine put"
        · omega
        · omega
        · simp only [List.length_append, List.length_singleton]; omega
        dsimp only
        refine wpC_any ?_
        walk_at "mine steps"
        dsimp only
        refine wpC_execs_nil ?_
        show WNext _ _ _ _ _ _ _ _ _
        refine' WNext.ofP (_, (runEnd cs a, _)) ?F ?N ?hm ?r ?hk
        case F => assumption
        case N => assumption
        case hm => walk_at "mine frW"
        case hk => exact Nat.sub_lt_sub_left hal hlt
        case r =>
          refine ⟨hsp.2.2.2.2, fun j hj => ?_, eIn, eLen, eEnc⟩
          by_cases q : j < a
          · exact hno j q
          · exact hnh j (Nat.le_of_not_lt q) hj
      · obtain ⟨k, rfl, k1, k2, k3, k4⟩ := hW
        refine flew_leaves rfl (by assumption) y u (Site.of ⟨k, rfl, by have := (run_split ha).2.2.2.2; exact Nat.lt_of_lt_of_le k2 this, k3, fun j hj => ?_⟩)
        by_cases q : j < a
        · exact hno j q
        · exact k4 j (Nat.le_of_not_lt q) hj
  · refine wpC_any ?_
    walk_at "mine steps"
    refine call_bytes_ba (News.get (by assumption) (.head _)) (by omega) fun t' k => ?_
    walk_at "mine steps"
    obtain rfl : a = cs.length := by omega
    refine Back.of (by assumption) ⟨hno, _, _, ρ, rfl, KBa.ints_make hIn, ?_, hlen⟩
    have := henc [] (by rw [List.drop_length]; exact .nil)
    rwa [List.append_nil] at this
end


theorem notref_case {r : Value} {P : Prop} (h : ∀ a, r ≠ .ref a) (p : P) : (match (generalizing := false) r with | .ref _ => False | _ => P) := by
  cases r <;> first | exact p | exact (h _ rfl).elim
theorem Fr.recut {g hc h : Heap} {L : Addr} {m : Str → Option Value} (F : Fr g L hc m) (up : hc.UpToSlots h) : Fr (cutAt h L) L h m := ⟨up.ns F.ns, fun _ _ e => of_cutAt e, cutAt_size h L⟩
theorem Fr.sameCut {h h' : Heap} {L : Addr} {m : Str → Option Value} (hn : h'.Ns L m) (_hs : Heap.SameBut L h h') : Fr (cutAt h' L) L h' m := ⟨hn, fun _ _ e => of_cutAt e, cutAt_size h' L⟩
theorem cut_same {B h h' : Heap} {L : Addr} (st : B.StaysIn (cutAt h L)) (hs : Heap.SameBut L h h') : B.StaysIn (cutAt h' L) := fun b o q => by
  have e := st b o q
  by_cases hb : b < L
  · rw [cutAt_get hb] at e ⊢
    rw [hs.2 b (Nat.ne_of_lt hb)]; exact e
  · exfalso
    exact hb (Nat.lt_of_lt_of_le (Heap.lt_size e) (cutAt_size h L))
theorem kept_same {g hc h h' : Heap} {L : Addr} {m : Str → Option Value} {env : Env} {outer : List Env} (F : Fr g L hc m) (hf : env.frame = some L) (st : (hideAll hc (framesOf (env :: outer))).StaysIn h) (up : hc.UpToSlots h) (hs : Heap.SameBut L h h') : Kept outer g h' := by
  refine ⟨fun b o q => of_cutAt (cut_same (cut_stays F hf st) hs b o q), fun b o q hn => ?_⟩
  obtain ⟨sl, e⟩ := up b o (F.keep b o q) hn
  refine ⟨sl, ?_⟩
  rw [hs.2 b (Nat.ne_of_lt (Nat.lt_of_lt_of_le (Heap.lt_size q) F.above))]
  exact e
section
variable {prog : Program} {w : World} {dp un : Nat} {outer : List Env} {s : Shared} {mean : ExcName → Option Value} {mg mb : Str → Option Value}
theorem law_fault_spec {f : Addr} {R : Value → Heap → Prop} {W : Int → Prop} (X : (hd.heap_39 w.params).In s.heap) (T : TopZ mean mg mb s.heap) (X₀ : (hd.heap_39 w.params).In (hideAll s.heap (framesOf outer))) (T₀ : TopZ mean mg mb (hideAll s.heap (framesOf outer)))
    (hdp : dp + 14 < recursionLimit) (hun : un + 240 < cLine) (fl : s.heap.FunFrames (hideAll s.heap (framesOf outer)) outer) (hf : FnHere f s.heap) (hR : ∀ r h, R r h → ∀ a, r ≠ .ref a)
    (C : ∀ l h tk dp' un', dp' ≤ dp + 2 → un' ≤ un + 20 → Ext s.heap h → h.FunFrames (hideAll h (framesOf l)) l → Ends prog w dp' un' l (some []) (.ref f) [] { s with heap := h, toks := tk } R W) :
    Answers prog w dp un outer (some []) (.ref 200) [.ref f] s (fun r _ => ∃ i t, r = .int i t ∧ (W i ∨ (i = -1 ∧ ∃ r h, R r h))) := by
  refine Answers.enter (binds := [(Str.ofString "call", Value.ref f)]) X T (by k_dflt k_is) (by k_dflt k_is) (by omega) (BindsTo.of_eq rfl) (locs rfl) (fun L' h' F' N' => ?_) (by decide)
  refine wpC_execs_cons (wpC_Try ?_)
  refine wpC_execs_cons (wpC_Expr (CallC_Name (trees := []) rfl ?_))
  walk_at "mine step"
  refine callWithC_fn (evalArgsC_nil ?_)
  have hf' : FnHere f h' := by
    obtain ⟨o, fd, ho, hfd⟩ := hf
    exact ⟨o, fd, F'.keep _ _ ho, hfd⟩
  refine ⟨hf', ?_⟩
  dsimp only
  refine Ends.use (C _ h' _ _ _ (by walk_at "mine room") (by walk_at "mine room") F'.keep (frames_innerX fl F' rfl rfl)) F' N' (fun r h'' tk' hr F' N' => ?_) (fun e dx i h'' tk' hW y u => ?_)
  · refine notref_case (hR r h'' hr) ?_
    refine wpC_execs_nil ?_
    dsimp only
    refine wpC_any ?_
    walk_at "mine steps"
    exact ⟨_, _, rfl, Kept.of_ext F'.keep, -1, _, rfl, .inr ⟨rfl, r, h'', hr⟩⟩
  · refine fly_next (outer := outer) rfl rfl y fun h₁ y₁ up₁ => ?_
    have st₁ := cut_stays F' rfl y₁.stays
    have Fc₁ := Fr.recut F' (u.trans up₁)
    have Xc₁ := X₀.keeps st₁
    have Tc₁ := T₀.keeps st₁
    have Nc₁ : News (cutAt h₁ L') L' h₁ [] := News.nil
    refine handle_nf ?_
    clear X T
    walk_at "mine step"
    refine ⟨rfl, Xc₁.keeps Fc₁.keep, ?_⟩
    obtain ⟨oe, vs, Ta, oT, ts, a1, a2, a3, a4, a5, a6, a7, a8, a9, a10⟩ := y₁.exc
    refine ⟨oe, a1, a2, ?_⟩
    refine fly_flight y₁ fun h₂ y₂ up₂ => ?_
    have st₂ := cut_stays F' rfl y₂.stays
    have Fc₂ := Fr.recut F' ((u.trans up₁).trans up₂)
    refine wpAny_storeName_local (by rfl) Fc₂.ns (fun h₃ hn₃ hs₃ => ?_) (by rfl)
    obtain ⟨oe, vs, Ta, oT, ts, a1, a2, a3, a4, a5, a6, a7, a8, a9, a10⟩ := y₂.exc
    obtain ⟨mA, t, p1, p2⟩ := y₂.place
    have hne : e ≠ L' := fun q => by
      obtain ⟨o, es, ep, ho, hd, _⟩ := Fc₂.ns
      rw [← q, a1] at ho; cases ho
      rw [a4] at hd; cases hd
    have hdx : dx ≠ L' := fun q => y₂.apart (by rw [q]; exact List.mem_cons_self ..)
    have Fc₃ : Fr (cutAt h₃ L') L' h₃ _ := Fr.sameCut hn₃ hs₃
    have Xc₃ := X₀.keeps (cut_same st₂ hs₃)
    have Tc₃ := T₀.keeps (cut_same st₂ hs₃)
    have Nc₃ : News (cutAt h₃ L') L' h₃ [] := News.nil
    have b1 : h₃.get? e = some oe := (hs₃.2 e hne).trans a1
    have b2 := p1.sameBut hs₃ hdx
    have fin : ∀ {h₄}, Heap.SameBut L' h₃ h₄ → Kept outer s.heap h₄ := fun hs => kept_same F' (env := envOf _ _ L' 200 (Value.ref 199)) rfl y₂.stays ((u.trans up₁).trans up₂) (hs₃.trans hs)
    clear Fc₁ Xc₁ Tc₁ Nc₁ Fc₂ F' N'
    walk_at "mine steps"
    refine fault_get (by k_in) b1 a2 a4 a3 b2 p2 ?_
    walk_at "mine steps"
    refine wpAny_nameGoes (by rfl) Fc₃.ns (by rfl) fun h₄ m₄ hn₄ hs₄ => ?_
    exact ⟨_, _, rfl, fin hs₄, i, _, rfl, .inl hW⟩
end


section
variable {prog : Program} {w : World} {A : Around} {s : Shared} {K : Frag} {p : Program} {loose : List Str} {mean : ExcName → Option Value} {mg mb : Str → Option Value}
  {R : Result → Shared → Prop} {name qual : Str} {params : Arguments} {body : List Stmt} {scope : Scope} {dV kV doc pm cdv ct oc : Value} {an od : Option Addr} {osl : Array (Option Value)} {f : Addr} {args : Args} {binds : List (Str × Value)}
/-- the way into a function with cells, over the closed contexts -/
theorem enterWC (X : K.In s.heap) (T : Top p loose mean mg mb s.heap)
    (ho : K.lookup f = some ⟨oc, od, .func (fnOf name qual params body scope dV kV doc pm an cdv ct), osl⟩) (hcd : codeIn K cdv qual = true) (hroom : A.depth < recursionLimit)
    (hbind : BindsTo s (fnOf name qual params body scope dV kV doc pm an cdv ct) args binds)
    (hkind : (binds.all fun y => scope.names.lookup y.1 == some .local || scope.names.lookup y.1 == some .cell) = true)
    (hnd : ((cellsFrom 0 scope.names []).map (·.1)).Nodup)
    (h : ∀ L' h₁ tk cells, Fr s.heap L' h₁ (bindL (envOfC qual scope L' f cdv).kindOf binds fun _ => none) → News s.heap L' h₁ cells →
      CellsAre (bindC (envOfC qual scope L' f cdv).kindOf binds fun _ => none) (cellsFrom (L' + 1) scope.names []) cells →
      wpC (model prog w) (A.deeper (envOfC qual scope L' f cdv)) (execs body (envOfC qual scope L' f cdv))
        (fun fl s' => R (.ok (.ret (match fl with | .ret v => v | _ => .none))) s')
        (fun e s' => wpAny (model prog w) (A.deeper (envOfC qual scope L' f cdv)) (leaving (envOfC qual scope L' f cdv) e) (fun _ s'' => R (.error e) s'') (fun e' s'' => R (.error e') s'') s')
        { s with heap := h₁, toks := tk })
    (hco : scope.isCoroutine = false := by rfl) (hgen : scope.isGenerator = false := by rfl) (hk : scope.kind = .function := by rfl) :
    codeC (model prog w) A (.call (.ref f) args) R s := by
  refine codeC_call_function hroom (X _ _ ho) rfl hco hgen rfl (codeRec_of X hcd) (hbind _ _ _ _ ?_)
  refine wpAny_newFunctionEnv_cells hk (kindsX hkind _) fun env' he s' x => ?_
  subst he
  refine ⟨T.nolimit.keeps x.toInCall.keep, codeC_func ?_⟩
  obtain ⟨h₁, tk, rfl, _⟩ := x.done
  have hk₁ := x.toInCall.keep
  obtain ⟨cells, NC, Y⟩ := Cl.news (h₀ := s.heap) (Nat.le_refl _) fun n c hm => ⟨x.cell n c (lookup_of_mem_nodup (cellsFrom_names scope.names 0 (s.heap.objs.size + 1) [] [] rfl ▸ hnd) hm), x.above n c hm⟩
  exact h s.heap.objs.size h₁ tk cells ⟨x.toInCall.ns, hk₁, Nat.le_refl _⟩ NC Y
end
section
variable {M : Model} {A : Around} {E : Value → Shared → Prop} {s : Shared} {env : Env}
theorem isTrueC_cmp1 {l r : Expr} {op : CmpOp} {pos : Pos} {whole : Sem Value} {Q : Bool → Shared → Prop} (hm : markedBehindIn op r (eval r env) = eval r env)
    (h : wpC M A (eval l env) (fun a s₁ => wpAny M A (testChain pos a [op] [eval r env]) Q E s₁) E s) : wpC M A (isTrue (.Compare l [op] [r] pos) env whole) Q E s := by
  rw [arm_isTrue_Compare]
  refine wpC_bind (wpC_mono h (fun a s₁ h₁ => wpC_any ?_) fun _ _ x => x)
  show wpAny M A (testChain pos a [op] [markedBehindIn op r (eval r env)]) Q E s₁
  rw [hm]; exact h₁
theorem evalC_cmp1 {l r : Expr} {op : CmpOp} {pos : Pos} {Q : Value → Shared → Prop} (hm : markedBehindIn op r (eval r env) = eval r env)
    (h : wpC M A (eval l env) (fun a s₁ => wpAny M A (eval r env) (fun b s₂ => wpAny M A (compareOp op a b) Q E s₂) E s₁) E s) : wpC M A (eval (.Compare l [op] [r] pos) env) Q E s := by
  rw [arm_eval_Compare]
  refine wpC_bind (wpC_mono h (fun a s₁ h₁ => ?_) fun _ _ x => x)
  show wpC M A (compareChain pos a [op] [markedBehindIn op r (eval r env)]) Q E s₁
  rw [hm]
  unfold compareChain
  exact wpC_bind (wpC_holding (wpC_mono (wpC_any h₁) (fun b s₂ h₂ => wpC_bind (wpC_standAt (wpC_operate (wpC_any h₂)))) fun _ _ x => x))
end
section
variable {σ : Type} {prog : Program} {w : World} {A : Around} {E : Value → Shared → Prop} {s : Shared} {h₀ : Heap} {L a : Addr} {name : Str} {scope : Scope} {cd : Value} {cl : List (Str × Addr)} {x : Str} {px : Pos} {body : List Stmt} {Q : Flow → Shared → Prop}
/-- a loop over one iterator, over the closed contexts: what forC asks of it -/
def LoopX (prog : Program) (w : World) (A : Around) (env : Env) (x : Str) (px : Pos) (body : List Stmt) (Q : Flow → Shared → Prop) (E : Value → Shared → Prop) (it : Value) (s : Shared) : Prop :=
  ∃ (J : Nat → Shared → Prop) (k : Nat), J k s ∧ ∀ k s', J k s' → wpAny (model prog w) A (pyNext it) (fun r s₁ => match r with
    | none => Q .next s₁
    | some v => wpAny (model prog w) A (assign (.Name x px) env v) (fun _ s₂ => wpC (model prog w) A (execs body env) (fun f s₃ => match f with
      | .next | .cont => ∃ m, m < k ∧ J m s₃
      | .brk => Q .next s₃
      | .ret v => Q (.ret v) s₃) E s₂) E s₁) E s'
theorem loopX {I : Addr} {n : Nat} {P : Nat → Value → Prop} {St : Nat → Heap → Prop} (fm : σ → Str → Option Value) (fn : σ → List (Addr × Obj)) (R : Nat → σ → Prop) (σ₀ : σ)
    (W : Walks prog w A I [I] [I] n P St) (hget : ∀ i h, St i h → ∃ o, h.get? I = some o) (hLI : L ≠ I) (hI : h₀.get? I = none) (hfp : ∀ q ∈ fn σ₀, q.1 ≠ I) (hst : St 0 s.heap) (F : Fr h₀ L s.heap (fm σ₀)) (N : News h₀ L s.heap (fn σ₀)) (h0 : R 0 σ₀)
    (adr : ∀ σ', (fn σ').map (·.1) = (fn σ₀).map (·.1))
    (turn : ∀ i v σ' h tk own, i < n → P i v → R i σ' → OwnOff own ((fn σ').map (·.1)) → Fr h₀ L h (fun y => if y = x then some v else fm σ' y) → News h₀ L h (fn σ' ++ own) →
      wpC (model prog w) A (execs body (envX name scope L a cd cl)) (TurnS h₀ L x fm fn (R (i + 1)) own { s with heap := h, toks := tk } Q) E { s with heap := h, toks := tk })
    (done : ∀ σ' vx h tk, R n σ' → Fr h₀ L h (fun y => if y = x then vx else fm σ' y) → News h₀ L h (fn σ') → Q .next { s with heap := h, toks := tk })
    (hk : scope.kind = .function := by rfl) (hl : (envX name scope L a cd cl).kindOf x = some .local := by rfl) :
    LoopX prog w A (envX name scope L a cd cl) x px body Q E (.ref I) s := by
  refine ⟨fun k s' => ∃ i σ' vx h tk, k = n - i ∧ i ≤ n ∧ s' = { s with heap := h, toks := tk } ∧ St i h ∧ R i σ' ∧ Fr h₀ L h (fun y => if y = x then vx else fm σ' y) ∧ News h₀ L h (fn σ'), n,
    ⟨0, σ₀, fm σ₀ x, s.heap, s.toks, rfl, Nat.zero_le _, rfl, hst, h0, Fr.as F (frD fun _ _ => rfl), N⟩, ?_⟩
  rintro k s' ⟨i, σ', vx, h, tk, rfl, hin, rfl, st, hR, F₁, N₁⟩
  have offI : ∀ σ', ∀ q ∈ fn σ', q.1 ≠ I := fun σ' q hq => by
    have : q.1 ∈ (fn σ').map (·.1) := List.mem_map.mpr ⟨q, hq, rfl⟩
    rw [adr σ'] at this
    obtain ⟨q', hq', e⟩ := List.mem_map.mp this
    rw [← e]; exact hfp q' hq'
  have fr : ∀ {h' : Heap} {m : Str → Option Value}, (∀ b o, b ∉ [I] → h.get? b = some o → h'.get? b = some o) → Fr h₀ L h m → Fr h₀ L h' m := fun k F => Fr.but1 F (fun b o hb q => k b o (fun z => hb (List.mem_singleton.mp z)) q) hLI hI
  have nw : ∀ {h' : Heap}, (∀ b o, b ∉ [I] → h.get? b = some o → h'.get? b = some o) → News h₀ L h' (fn σ') := fun k q hq => ⟨k _ _ (fun z => offI σ' q hq (List.mem_singleton.mp z)) (N₁ q hq).1, (N₁ q hq).2⟩
  by_cases hi : i < n
  · refine W.item i _ _ _ hi st fun v h' tk' hP st' hk' => ?_
    obtain ⟨oI, hoI⟩ := hget _ _ st'
    have NI : News h₀ L h' (fn σ' ++ [(I, oI)]) := fun q hq => by
      rcases List.mem_append.mp hq with hq | hq
      · exact nw hk' q hq
      · obtain rfl := List.mem_singleton.mp hq
        exact ⟨hoI, Ne.symm hLI, hI⟩
    refine wpAny_assign_Name (storeX_L (fr hk' F₁) NI (fun h₂ F₂ N₂ => ?_) hk hl)
    have F₃ := Fr.as F₂ (show (fun y => if y = x then some v else if y = x then vx else fm σ' y) = fun y => if y = x then some v else fm σ' y from by funext y; split <;> rfl)
    have off : OwnOff [(I, oI)] ((fn σ').map (·.1)) := by
      intro p hp b hb e
      obtain rfl := List.mem_singleton.mp hp
      obtain ⟨q, hq, rfl⟩ := List.mem_map.mp hb
      exact offI σ' q hq e.symm
    have fin : ∀ s₃, TurnNext h₀ L x fm fn (R (i + 1)) [(I, oI)] { s with heap := h₂, toks := tk' + 1 } s₃ → ∃ m, m < n - i ∧ ∃ i σ' vx h tk, m = n - i ∧ i ≤ n ∧ s₃ = { s with heap := h, toks := tk } ∧ St i h ∧ R i σ' ∧ Fr h₀ L h (fun y => if y = x then vx else fm σ' y) ∧ News h₀ L h (fn σ') := by
      rintro s₃ ⟨h₃, tk₃, m', σ₂, rfl, F₄, N₄, hm, hR₂⟩
      refine ⟨n - (i + 1), by omega, i + 1, σ₂, m' x, h₃, tk₃, rfl, hi, rfl, W.frame _ _ _ st' fun b hb o hbo => ?_, hR₂, Fr.as F₄ (frD hm), fun q hq => N₄ q (List.mem_append_left _ hq)⟩
      obtain rfl := List.mem_singleton.mp hb
      rw [hoI] at hbo; cases hbo
      exact N₄.get (List.mem_append_right _ (.head _))
    refine wpC_mono (turn i v σ' h₂ (tk' + 1) [(I, oI)] hi hP hR off F₃ N₂) (fun f s₃ hf => ?_) fun _ _ e => e
    cases f with
    | ret v => exact hf
    | brk => exact hf
    | next => exact fin s₃ hf
    | cont => exact fin s₃ hf
  · obtain rfl : i = n := by omega
    exact W.done _ _ _ st fun h' tk' hk' => done σ' vx h' tk' hR (fr hk' F₁) (nw hk')
end

section
variable {σ : Type} {prog : Program} {w : World} {A : Around} {E : Value → Shared → Prop} {s : Shared} {h₀ : Heap} {L a : Addr} {name : Str} {scope : Scope} {cd : Value} {cl : List (Str × Addr)} {x : Str} {px : Pos} {body : List Stmt} {Q : Flow → Shared → Prop}
theorem iter_rangeX {r : Addr} {a₀ b₀ c₀ : Int} {t₀ u₀ v₀ : Tok} {n : Nat} (fm : σ → Str → Option Value) (fn : σ → List (Addr × Obj)) (R : Nat → σ → Prop) (σ₀ : σ)
    (hh : A.handled = none) (hr : IsRange s.heap r a₀ b₀ c₀ t₀ u₀ v₀) (hsmall : Builtin.Range.small a₀ b₀ c₀ = true) (hn : Builtin.Range.rangeSize a₀ b₀ c₀ = (n : Int)) (F : Fr h₀ L s.heap (fm σ₀)) (N : News h₀ L s.heap (fn σ₀)) (h0 : R 0 σ₀)
    (adr : ∀ σ', (fn σ').map (·.1) = (fn σ₀).map (·.1))
    (turn : ∀ i t σ' h tk own, i < n → R i σ' → OwnOff own ((fn σ').map (·.1)) → Fr h₀ L h (fun y => if y = x then some (.int (a₀ + i * c₀) t) else fm σ' y) → News h₀ L h (fn σ' ++ own) →
      wpC (model prog w) A (execs body (envX name scope L a cd cl)) (TurnS h₀ L x fm fn (R (i + 1)) own { s with heap := h, toks := tk } Q) E { s with heap := h, toks := tk })
    (done : ∀ σ' vx h tk, R n σ' → Fr h₀ L h (fun y => if y = x then vx else fm σ' y) → News h₀ L h (fn σ') → Q .next { s with heap := h, toks := tk })
    (hk : scope.kind = .function := by rfl) (hl : (envX name scope L a cd cl).kindOf x = some .local := by rfl) :
    wpAny (model prog w) A (pyIter (.ref r)) (fun it s₂ => LoopX prog w A (envX name scope L a cd cl) x px body Q E it s₂) E s := by
  refine wpAny_pyIter_range hr hsmall ?_
  refine loopX fm fn R σ₀ (Walks.range hh s.heap.objs.size a₀ c₀ n) (fun i h st => ⟨_, st⟩) ?_ ?_ ?_ (by show IsRangeIter _ _ _ _ _; rw [hn]; simpa using Heap.get?_push_size _ rfl) (F.push _) (fun p hp => ⟨Heap.get?_push_of_some _ (N p hp).1, (N p hp).2⟩) h0 adr ?_ ?_ hk hl
  · exact Nat.ne_of_lt F.ns.lt
  · exact next_is_new F
  · exact fun p hp => Nat.ne_of_lt (Heap.lt_size (N p hp).1)
  · rintro i v σ' h tk own hi ⟨t, rfl⟩ hR hoff F₁ N₁
    exact turn i t σ' h tk own hi hR hoff F₁ N₁
  · exact done
theorem forLoopX {iter : Expr} {pos : Pos} (hE : PassesOwn (model prog w) A (envX name scope L a cd cl) E)
    (h : wpAny (model prog w) A (eval iter (envX name scope L a cd cl)) (fun xv s₁ => wpAny (model prog w) A (pyIter xv) (fun it s₂ => LoopX prog w A (envX name scope L a cd cl) x px body Q E it s₂) E s₁) E s)
    (hs : ∀ x, foldedSetIterable iter (envX name scope L a cd cl) x = pure x := by intro _; rfl) :
    wpC (model prog w) A (exec (.For (.Name x px) iter body [] pos) (envX name scope L a cd cl)) Q E s :=
  forC hE h hs
end


theorem fold_filter {P : Int → Prop} [DecidablePred P] {Q : Int → Prop} [DecidablePred Q] (L acc : List Int) : List.foldl (fun l' k' => if P k' then l' ++ [k'] else if Q k' then l' else l') acc L = acc ++ L.filter fun k => decide (P k) := by
  induction L generalizing acc with
  | nil => simp
  | cons a r ih =>
    rw [List.foldl_cons, ih]
    by_cases h : P a
    · simp [h]
    · simp [h]
theorem filter_range (p : Int → Bool) (n s : Nat) : ((rangeKs (s : Int) n).filter p = [] ∧ ∀ i, s ≤ i → i < s + n → p i = false) ∨ ∃ k : Nat, ∃ r, (rangeKs (s : Int) n).filter p = (k : Int) :: r ∧ s ≤ k ∧ k < s + n ∧ p k = true ∧ ∀ j, s ≤ j → j < k → p j = false := by
  induction n generalizing s with
  | zero => exact .inl ⟨rfl, fun i h1 h2 => by omega⟩
  | succ n ih =>
    have e : rangeKs (s : Int) (n + 1) = (s : Int) :: rangeKs ((s + 1 : Nat) : Int) n := by
      unfold rangeKs
      rw [List.range_succ_eq_map]
      simp only [List.map_cons, List.map_map]
      refine List.cons_eq_cons.mpr ⟨by simp, List.map_congr_left fun i _ => ?_⟩
      show (s : Int) + ((i.succ : Nat) : Int) = ((s + 1 : Nat) : Int) + i
      omega
    rw [e]
    cases hp : p s with
    | true =>
      refine .inr ⟨s, _, by rw [List.filter_cons_of_pos hp], by omega, by omega, hp, fun j h1 h2 => by omega⟩
    | false =>
      rw [List.filter_cons_of_neg (by simp [hp])]
      rcases ih (s + 1) with ⟨h1, h2⟩ | ⟨k, r, h1, h2, h3, h4, h5⟩
      · refine .inl ⟨h1, fun i a b => ?_⟩
        by_cases q : i = s
        · subst q; exact hp
        · exact h2 i (by omega) (by omega)
      · refine .inr ⟨k, r, h1, by omega, by omega, h4, fun j a b => ?_⟩
        by_cases q : j = s
        · subst q; exact hp
        · exact h5 j (by omega) b
theorem getD_cast (cs : List Nat) (i : Nat) : (cs.map fun c : Nat => (c : Int)).getD i 0 = (cs.getD i 0 : Nat) := by
  rw [List.getD_eq_getElem?_getD, List.getElem?_map, List.getD_eq_getElem?_getD]
  cases cs[i]? <;> rfl
/-- no half among the signs, or the first one -/
def NoHalf (cs : List Nat) : Prop := ∀ i, i < cs.length → ¬ Half (cs.getD i 0)
def FirstHalf (cs : List Nat) (k : Nat) : Prop := k < cs.length ∧ Half (cs.getD k 0) ∧ ∀ j, j < k → ¬ Half (cs.getD j 0)
theorem FirstHalf.eq {cs : List Nat} {j k : Nat} (a : FirstHalf cs j) (b : FirstHalf cs k) : j = k := by
  rcases Nat.lt_trichotomy j k with h | h | h
  · exact absurd a.2.1 (b.2.2 j h)
  · exact h
  · exact absurd b.2.1 (a.2.2 k h)
theorem FirstHalf.not {cs : List Nat} {k : Nat} (a : FirstHalf cs k) : ¬ NoHalf cs := fun h => h k a.1 a.2.1
theorem halves_facts (cs : List Nat) (n : Nat) (hn : n = cs.length) :
    ((List.foldl (fun l' k' => if 55296 ≤ (cs.map fun c : Nat => (c : Int)).getD k'.toNat 0 ∧ (cs.map fun c : Nat => (c : Int)).getD k'.toNat 0 ≤ 57343 then l' ++ [k'] else if 55296 ≤ (cs.map fun c : Nat => (c : Int)).getD k'.toNat 0 ∧ ¬ (cs.map fun c : Nat => (c : Int)).getD k'.toNat 0 ≤ 57343 then l' else l') ([] : List Int) (rangeKs 0 n)) = [] ∧ NoHalf cs) ∨
    ∃ k : Nat, ∃ r, (List.foldl (fun l' k' => if 55296 ≤ (cs.map fun c : Nat => (c : Int)).getD k'.toNat 0 ∧ (cs.map fun c : Nat => (c : Int)).getD k'.toNat 0 ≤ 57343 then l' ++ [k'] else if 55296 ≤ (cs.map fun c : Nat => (c : Int)).getD k'.toNat 0 ∧ ¬ (cs.map fun c : Nat => (c : Int)).getD k'.toNat 0 ≤ 57343 then l' else l') ([] : List Int) (rangeKs 0 n)) = (k : Int) :: r ∧ FirstHalf cs k := by
  subst hn
  rw [fold_filter (P := fun k' => 55296 ≤ (cs.map fun c : Nat => (c : Int)).getD k'.toNat 0 ∧ (cs.map fun c : Nat => (c : Int)).getD k'.toNat 0 ≤ 57343), List.nil_append]
  have hp : ∀ i : Nat, (decide (55296 ≤ (cs.map fun c : Nat => (c : Int)).getD ((i : Int)).toNat 0 ∧ (cs.map fun c : Nat => (c : Int)).getD ((i : Int)).toNat 0 ≤ 57343) = true) ↔ Half (cs.getD i 0) := fun i => by
    rw [decide_eq_true_eq, Int.toNat_natCast, getD_cast]
    unfold Half
    omega
  rcases filter_range (fun k' => decide (55296 ≤ (cs.map fun c : Nat => (c : Int)).getD k'.toNat 0 ∧ (cs.map fun c : Nat => (c : Int)).getD k'.toNat 0 ≤ 57343)) cs.length 0 with ⟨h1, h2⟩ | ⟨k, r, h1, h2, h3, h4, h5⟩
  · refine .inl ⟨h1, fun i hi hh => ?_⟩
    have := h2 i (Nat.zero_le _) (by omega)
    rw [(hp i).mpr hh] at this; cases this
  · refine .inr ⟨k, r, h1, by omega, (hp k).mp h4, fun j hj hh => ?_⟩
    have := h5 j (Nat.zero_le _) hj
    rw [(hp j).mpr hh] at this; cases this


theorem with_lookup {K : Frag} {a : Addr} {o o' : Obj} {P : Prop} (h : K.lookup a = some o) (h' : K.lookup a = some o') (k : o = o' → P) : P := k (Option.some.inj (h.symm.trans h'))
/-- the end of the law -/
def LawEnd (s : Shared) (g : Heap) (fl : Flow) (s' : Shared) : Prop := ∃ h' tk', s' = { s with heap := h', toks := tk' } ∧ fl = .ret (.bool true) ∧ Ext g h' ∧ GrownAll [(204, 202)] h'
theorem LawEnd.of {s : Shared} {g h' : Heap} {tk' L : Nat} {m : Str → Option Value} {news : List (Addr × Obj)} {ps : Array Value} (F : Fr g L h' m) (N : News g L h' news) (hm : (202, tabObj ps) ∈ news) : LawEnd s g (.ret (.bool true)) { s with heap := h', toks := tk' } :=
  ⟨h', tk', rfl, rfl, F.keep, GrownAt.of N hm, trivial⟩
theorem hide_ext {g h : Heap} {L : Addr} {m : Str → Option Value} {env : Env} (F : Fr g L h m) (hf : env.frame = some L) : Ext g (hideAll h (framesOf [env])) := fun b o e => by
  refine hideAll_get _ (F.keep b o e) fun hm => ?_
  unfold framesOf at hm
  rw [List.filterMap_cons_some hf] at hm
  rcases List.mem_cons.mp hm with rfl | hm
  · exact absurd (Nat.lt_of_lt_of_le (Heap.lt_size e) F.above) (Nat.lt_irrefl _)
  · cases hm
theorem Kept.fr {g h h' : Heap} {L : Addr} {m : Str → Option Value} {env : Env} (k : Kept [env] h h') (F : Fr g L h m) (hf : env.frame = some L) : Fr g L h' m := ⟨k.2.ns F.ns, fun b o e => k.1 b o (hide_ext F hf b o e), F.above⟩
theorem Kept.news {g h h' : Heap} {L : Addr} {news : List (Addr × Obj)} {env : Env} (k : Kept [env] h h') (N : News g L h news) (hf : env.frame = some L) : News g L h' news := fun p hp => by
  obtain ⟨h1, h2, h3⟩ := N p hp
  refine ⟨k.1 _ _ (hideAll_get _ h1 fun hm => ?_), h2, h3⟩
  unfold framesOf at hm
  rw [List.filterMap_cons_some hf] at hm
  rcases List.mem_cons.mp hm with e | hm
  · exact h2 e
  · cases hm
section
variable {prog : Program} {w : World} {dp un : Nat} {gd : Option (List Code)} {s : Shared} {R : Value → Heap → Prop} {f : Value} {args : List Value} {g : Heap} {L : Addr} {m : Str → Option Value} {news : List (Addr × Obj)} {Q E : Value → Shared → Prop} {env : Env}
theorem Answers.useK (C : Answers prog w dp un [env] gd f args s R) (F : Fr g L s.heap m) (N : News g L s.heap news)
    (h : ∀ r h' tk', R r h' → Fr g L h' m → News g L h' news → Q r { s with heap := h', toks := tk' }) (hf : env.frame = some L := by rfl) : wpC (model prog w) (Ar dp un (some [env]) gd) (call f args) Q E s :=
  C Q E fun r h' tk' k hr => h r h' tk' hr (k.fr F hf) (k.news N hf)
end
section
variable {M : Model} {A : Around} {E : Value → Shared → Prop} {s : Shared} {L a : Addr} {cn : Str} {cs : Scope} {ccd : Value} {cl : List (Str × Addr)} {x : Str} {pos : Pos} {v : Value} {Q : Value → Shared → Prop} {c : Addr} {o : Obj}
theorem nameX_at (hc : cl.lookup x = some c) (ho : s.heap.get? c = some o) (hd : o.data = .cell (some v)) (h : Q v s)
    (hk : cs.kind = .function := by rfl) (hx : (envX cn cs L a ccd cl).kindOf x = some .free := by rfl) (hb : (x == ("__debug__" : Str)) = false := by decide) (hn : (x == ("__classdict__" : Str)) = false := by decide) :
    wpAny M A (eval (.Name x pos) (envX cn cs L a ccd cl)) Q E s := wpAny_Name (wpAny_loadName_free hk hx hc ⟨o, ho, hd⟩ h hn) hb
end


theorem tx_take {cs : List Nat} {e : Nat} (he : e ≤ cs.length) : Txt.slice (Tx cs) none (some (e : Int)) = Tx (cs.take e) := by
  have h := eq_of_beq (slice_closes_toL (x := Tx cs) (j := (e : Int)) (by omega) (by rw [Tx.length]; omega))
  rw [h]
  have e1 : (Tx cs).cps.toList = cs := rfl
  rw [e1]
  simp [Tx]
section
variable {prog : Program} {w : World} {A : Around} {E : Value → Shared → Prop} {s : Shared} {h₀ : Heap} {L : Addr} {m : Str → Option Value} {news : List (Addr × Obj)}
theorem slice_tx {value slice : Expr} {cs : List Nat} {e : Nat} {t te : Tok} {Q : Value → Shared → Prop} (F : Fr h₀ L s.heap m) (N : News h₀ L s.heap news) (he : e ≤ cs.length) (hz : cs.length ≤ 16777216)
    (h : ∀ h' t' k, Fr h₀ L h' m → News h₀ L h' news → Q (.str (Tx (cs.take e)) t') { s with heap := h', toks := k })
    (hs : subscripted slice false (.str (Tx cs) t) (.ref s.heap.objs.size) = operate [.ref s.heap.objs.size, .str (Tx cs) t] (getItem (.str (Tx cs) t) (.ref s.heap.objs.size)) := by with_unfolding_all rfl)
    (ht : ∀ r, letTemporaryGo value (.str (Tx cs) t) r = pure () := by intro _; with_unfolding_all rfl) :
    wpAny (model prog w) A (subscriptTail value slice (.str (Tx cs) t) (.ref s.heap.objs.size)) Q E { s with heap := s.heap.push { cls := .type "slice", data := .fields #[.none, .int (e : Int) te, .none] } } :=
  slice_strN_ns F N (fun h' t' k F' N' => by rw [tx_take he]; exact h h' t' k F' N') hs ht (by rw [Tx.length, sizeLine_eq]; exact hz)
end
/-- after the statement that finds the end -/
def EndAt (g : Heap) (L l D D2 : Addr) (vc : List Value) (ot oc : Obj) (ps : Array Value) (cs : List Nat) (p : Int) (tp : Tok) (s : Shared) (f : Flow) (s₂ : Shared) : Prop :=
  f = .next ∧ ∃ h' tk', ∃ e : Nat, ∃ te, s₂ = { s with heap := h', toks := tk' } ∧ Fr g L h' (fun z => if z = Str.ofString "end" then some (.int (e : Int) te) else if z = Str.ofString "place" then some (.int p tp) else if z = Str.ofString "halves" then some (.ref D2) else if z = Str.ofString "script" then some (.ref l) else none) ∧
    News g L h' [(D, LCg.lst vc), (L + 1 + 1, ot), (L + 1, oc), (202, tabObj ps)] ∧ e ≤ cs.length ∧ ∀ i, i < e → ¬ Half (cs.getD i 0)
theorem EndAt.of {g : Heap} {L l D D2 : Addr} {vc : List Value} {ot oc : Obj} {ps : Array Value} {cs : List Nat} {p : Int} {tp : Tok} {s : Shared} {h' : Heap} {tk' : Nat} {e : Nat} {te : Tok} (F : Fr g L h' (fun z => if z = Str.ofString "end" then some (.int (e : Int) te) else if z = Str.ofString "place" then some (.int p tp) else if z = Str.ofString "halves" then some (.ref D2) else if z = Str.ofString "script" then some (.ref l) else none))
    (N : News g L h' [(D, LCg.lst vc), (L + 1 + 1, ot), (L + 1, oc), (202, tabObj ps)]) (h1 : e ≤ cs.length) (h2 : ∀ i, i < e → ¬ Half (cs.getD i 0)) : EndAt g L l D D2 vc ot oc ps cs p tp s .next { s with heap := h', toks := tk' } := ⟨rfl, h', tk', e, te, rfl, F, N, h1, h2⟩
section
variable {prog : Program} {w : World} {dp un : Nat} {s : Shared} {mean : ExcName → Option Value} {mg mb : Str → Option Value}
  {name qual : Str} {params : Arguments} {body : List Stmt} {scope : Scope} {dV kV doc pm cdv ct oc : Value} {an od : Option Addr} {osl : Array (Option Value)}
theorem law_tail {g : Heap} {L l D D2 : Addr} {vc : List Value} {ot oco : Obj} {ps : Array Value} {cs : List Nat} {p : Int} {tp t : Tok} (ho : (hd.heap_39 w.params).lookup 205 = some ⟨oc, od, .func (fnOf name qual params body scope dV kV doc pm an cdv ct), osl⟩)
    (X : (hd.heap_39 w.params).In g) (T : TopZ mean mg mb g) (hdp : dp + 24 < recursionLimit) (hun : un + 400 < cLine)
    (F : Fr g L s.heap (fun z => if z = Str.ofString "place" then some (.int p tp) else if z = Str.ofString "halves" then some (.ref D2) else if z = Str.ofString "script" then some (.ref l) else none))
    (N : News g L s.heap [(D, LCg.lst vc), (L + 1 + 1, ot), (L + 1, oco), (202, tabObj ps)]) (hlt : 202 < L) (hD : 202 ≠ D) (dt : ot.data = .cell (some (.str (Tx cs) t))) (dc : oco.data = .cell (some (.ref D)))
    (hI : IntsAre vc (cs.map fun c : Nat => (c : Int))) (hcl : cs.length ≤ 12) (hcm : ∀ c ∈ cs, c = 97 ∨ c = 98 ∨ (55295 ≤ c ∧ c ≤ 1114111)) (hp : (p = -1 ∧ NoHalf cs) ∨ ∃ k : Nat, p = (k : Int) ∧ FirstHalf cs k) :
    wpC (model prog w) ((Ar dp un (some []) (some [])).deeper (envOfC qual scope L 205 cdv)) (execs (body.drop 7) (envOfC qual scope L 205 cdv)) (LawEnd s g) (fun _ _ => False) s := by
  refine with_lookup ho (by k_dflt k_is) (fun h => ?_)
  cases h
  clear ho
  have hlt := ltN hlt
  have hD := neN hD
  simp only [List.drop_succ_cons, List.drop_zero]
  refine wpC_execs_cons (wpC_any (wpAny_mono (Q := EndAt g L l D D2 vc ot oco ps cs p tp s) ?_ (fun f s₂ h₂ => ?_) (fun _ _ x => x)))
  · rcases hp with ⟨rfl, hno⟩ | ⟨k, rfl, hk⟩
    · walk_at "mine steps"
      exact EndAt.of (by assumption) (by assumption) (Nat.le_refl _) hno
    · walk_at "mine steps"
      · exact EndAt.of (by assumption) (by assumption) (Nat.le_of_lt hk.1) hk.2.2
      · exfalso; omega
  · obtain ⟨rfl, h4, tk4, e, te, rfl, F4, N4, he, hne⟩ := h₂
    clear F N hp
    dsimp only
    refine wpC_execs_cons (forLoopX PassesOwn.never ?_)
    walk_at "mine steps"
    refine' iter_rangeX (n := e + 1) (fun (_ : Unit) => ?m₀) (fun _ => [(D, LCg.lst vc), (L + 1 + 1, ot), (L + 1, oco), (202, tabObj ps)]) (fun _ _ => True) () rfl ?hr ?sm ?sz ?F ?N trivial ?adr ?turn ?done
    case hr => assumption
    case F => assumption
    case N => assumption
    case sz => unfold Builtin.Range.rangeSize; rw [if_pos (by decide)]; split <;> omega
    case sm => exact small_step (n := e + 1) (by omega) (by omega) (by omega) (by unfold Builtin.Range.rangeSize; rw [if_pos (by decide)]; split <;> omega) (by omega)
    case adr => exact fun _ => rfl
    case turn =>
      rintro i ti _ h tk own hi _ hoff F' N'
      have e0 : (0 : Int) + (i : Int) * 1 = (i : Int) := by omega
      simp only [e0] at F'
      refine wpC_execs_cons (wpC_If (isTrueC_cmp1 rfl (CallC_Name (trees := [(false, eval _ _), (false, eval _ _), (false, eval _ _)]) rfl ?_)))
      walk_at "mine step"
      refine callWithC_fn (evalArgsC_plain (splicedC_cons (wpC_any ?_)))
      walk_at "mine steps"
      refine splicedC_cons (wpC_any ?_)
      walk_at "mine steps"
      refine splicedC_cons (wpC_any ?_)
      walk_at "mine steps"
      refine splicedC_nil ?_
      refine ⟨FnHere.of_K (K := hd.heap_39 w.params) (by k_in) (by k_dflt k_is), ?_⟩
      dsimp only
      refine Ends.use (utf16_spec (b := i) (e := e) (by k_in) (by walk_at "mine top") (by walk_at "mine room") (by walk_at "mine room") (frames_innerX (g := g) (base := g) (outer := []) trivial F' rfl rfl) (by omega) (by omega) he (fun c hc => by have := hcm c hc; omega)) F' N' (fun r h2 tk2 hr F2 N2 => ?_) (fun e' dx k h2 tk2 hW y u => ?_)
      · obtain ⟨_, b', t', rfl, rfl⟩ := hr
        walk_at "mine steps"
        rename_i F3 N3 l3 hI3 hC3 hL3
        have hsl : List.take (min ((e : Int)).toNat (cs.map fun c : Nat => (c : Int)).length - ((i : Int)).toNat) (List.drop ((i : Int)).toNat (cs.map fun c : Nat => (c : Int))) = ((cs.drop i).take (e - i)).map fun c : Nat => (c : Int) := by
          rw [List.length_map, Int.toNat_natCast, Int.toNat_natCast, Nat.min_eq_left he, ← List.map_drop, ← List.map_take]
        rw [hsl] at hI3
        refine Ret.use (law_units_spec (cs := (cs.drop i).take (e - i)) (by k_in) (by walk_at "mine top") (by walk_at "mine room") (by walk_at "mine room") (News.isList N3 (.head _)) hI3 (fun c hc => by have := hcm c (List.mem_of_mem_drop (List.mem_of_mem_take hc)); omega) (by rw [List.length_take, List.length_drop]; omega)) F3 N3 (fun r h5 tk5 hr F5 N5 => ?_)
        obtain ⟨b5, t5, rfl, hb5⟩ := hr
        obtain rfl : b5 = byteArr (octets2 (units ((cs.drop i).take (e - i)))) := by rw [← hb5]; exact (byteArr_bInts b5).symm
        walk_at "mine steps"
        · rename (_ != _) = true => q
          simp at q
        · refine wpC_execs_nil ?_
          dsimp only
          refine wpC_execs_nil ?_
          show TurnNext _ _ _ _ _ _ _ _ _
          exact TurnNext.of () F5 (fun p hp => N5 p (List.mem_cons_of_mem _ hp)) (fun z hz => by simp only [if_neg hz]) trivial
      · obtain ⟨k, _, k1, k2, k3, _⟩ := hW
        exact (hne k k2 k3).elim
    case done =>
      rintro _ vx h tk _ F' N'
      refine wpC_execs_cons (wpC_Return (evalC_cmp1 rfl (CallC_Name (trees := [(false, eval _ _)]) rfl ?_)))
      walk_at "mine step"
      refine callWithC_fn (evalArgsC_plain (splicedC_cons ?_))
      refine CallC_Name (trees := [(false, eval _ _)]) rfl ?_
      walk_at "mine step"
      refine callWithC_fn (evalArgsC_plain (splicedC_cons (wpC_any ?_)))
      walk_at "mine steps"
      refine slice_tx (s := ⟨_, _, _, _, _⟩) F' N' he (by omega) (fun h2 t2 k2 F2 N2 => ?_)
      walk_at "mine steps"
      refine splicedC_nil ?_
      refine ⟨FnHere.of_K (K := hd.heap_39 w.params) (by k_in) (by k_dflt k_is), ?_⟩
      dsimp only
      have htl : (cs.take e).length = e := by rw [List.length_take]; omega
      refine Ends.use (utf7_spec (cs := cs.take e) (by k_in) (by walk_at "mine top") (by walk_at "mine room") (by walk_at "mine room") (frames_innerX (g := g) (base := g) (outer := []) trivial F2 rfl rfl) (by omega) (fun c hc => by have := hcm c (List.mem_of_mem_take hc); omega)) F2 N2 (fun r h5 tk5 hr F5 N5 => ?_) (fun e' dx k h5 tk5 hW y u => ?_)
      · obtain ⟨_, b', t', ks, rfl, hb, hE, hkl⟩ := hr
        refine splicedC_nil ?_
        refine ⟨FnHere.of_K (K := hd.heap_39 w.params) (by k_in) (by k_dflt k_is), ?_⟩
        dsimp only
        refine Ret.useC (utf7_text_spec (cs := cs.take e) (by k_in) (by walk_at "mine top") (by walk_at "mine room") (by walk_at "mine room") hb (by omega) (by omega) hE (fun run h1 h2 => run_facts run h1 h2)) F5 N5 (fun r h6 tk6 hr F6 N6 => ?_)
        obtain ⟨t6, rfl⟩ := hr
        walk_at "mine steps"
        refine slice_tx (s := ⟨_, _, _, _, _⟩) F6 N6 he (by omega) (fun h7 t7 k7 F7 N7 => ?_)
        walk_at "mine steps"
        rw [show decide (cs.take e = cs.take e) = true from decide_eq_true rfl]
        exact LawEnd.of F7 N7 (.tail _ (.tail _ (.tail _ (.head _))))
      · obtain ⟨k, _, k1, k2, _⟩ := hW
        refine (hne k (by omega) ?_).elim
        rw [List.getD_eq_getElem?_getD, List.getElem?_take, if_pos (by omega), ← List.getD_eq_getElem?_getD] at k2
        exact k2
end


section
variable {prog : Program} {w : World} {dp un : Nat} {s : Shared} {mean : ExcName → Option Value} {mg mb : Str → Option Value}
  {name qual : Str} {params : Arguments} {body : List Stmt} {scope : Scope} {dV kV doc pm cdv ct oc : Value} {an od : Option Addr} {osl : Array (Option Value)}
theorem law_if3 {g : Heap} {L l D D2 : Addr} {vc : List Value} {ot oco : Obj} {cs : List Nat} {p : Int} {tp t : Tok} {c1 c2 : Addr} (ho : (hd.heap_39 w.params).lookup 205 = some ⟨oc, od, .func (fnOf name qual params body scope dV kV doc pm an cdv ct), osl⟩)
    (X : (hd.heap_39 w.params).In g) (T : TopZ mean mg mb g) (C : CodeHd g 204 202) (hdp : dp + 24 < recursionLimit) (hun : un + 400 < cLine)
    (F : Fr g L s.heap (fun z => if z = Str.ofString "place" then some (.int p tp) else if z = Str.ofString "halves" then some (.ref D2) else if z = Str.ofString "script" then some (.ref l) else none))
    (N : News g L s.heap [(D, LCg.lst vc), (L + 1 + 1, ot), (L + 1, oco), (202, tabObj #[rawInt 199, rawInt 18, .ref c1, rawInt 201, rawInt 18, .ref c2])]) (hlt : 202 < L) (hD : 202 ≠ D) (dt : ot.data = .cell (some (.str (Tx cs) t))) (dc : oco.data = .cell (some (.ref D)))
    (hI : IntsAre vc (cs.map fun c : Nat => (c : Int))) (hcl : cs.length ≤ 12) (hcm : ∀ c ∈ cs, c = 97 ∨ c = 98 ∨ (55295 ≤ c ∧ c ≤ 1114111)) (hp : (p = -1 ∧ NoHalf cs) ∨ ∃ k : Nat, p = (k : Int) ∧ FirstHalf cs k) :
    wpC (model prog w) ((Ar dp un (some []) (some [])).deeper (envOfC qual scope L 205 cdv)) (execs (body.drop 6) (envOfC qual scope L 205 cdv)) (LawEnd s g) (fun _ _ => False) s := by
  refine with_lookup ho (by k_dflt k_is) (fun h => ?_)
  cases h
  clear ho
  have hlt := ltN hlt
  have hD := neN hD
  simp only [List.drop_succ_cons, List.drop_zero]
  refine wpC_execs_cons (wpC_If (isTrueC_cmp1 rfl (CallC_Name (trees := [(false, eval _ _)]) rfl ?_)))
  walk_at "mine step"
  refine callWithC_fn (evalArgsC_plain (splicedC_cons (wpC_any ?_)))
  refine kla_eval (by exact rfl) ?_
  refine' kla_nest F N T C rfl ?U ?t ?n ?cl ?_
  case U => k_updF
  case t => kn_triples
  case n => simp [codeAmong, rawInt]
  case cl => exact rfl
  intro f' c' oc' vs' t' ct' h' tk' F' N' d1' d2' l1 l2
  refine splicedC_nil ?_
  refine ⟨FnHere.of_K (K := hd.heap_39 w.params) (by k_in) (by k_dflt k_is), ?_⟩
  refine Answers.useK (law_fault_spec (R := fun r _ => NoHalf cs ∧ ∃ b' t', r = .bytes b' t') (W := fun i => ∃ k : Nat, i = (k : Int) ∧ FirstHalf cs k) (X.keeps F'.keep) (T.keeps F'.keep) (X.keeps (hide_ext F' rfl)) (T.keeps (hide_ext F' rfl)) (by walk_at "mine room") (by walk_at "mine room") (frames_innerX (g := g) (base := g) (outer := []) trivial F' rfl rfl) ⟨_, _, (N' _ (.head _)).1, rfl⟩ (fun r _ hr a q => ?_) (fun l h tk dp' un' hd' hu' hk hfl => ?_)) F' N' (fun r h'' tk'' hr F'' N'' => ?_)
  · obtain ⟨_, _, _, e⟩ := hr
    rw [e] at q; cases q
  · have hk' : Ext h' h := hk
    have hd'' : dp' ≤ dp + 1 + 2 := hd'
    have hu'' : un' ≤ un + 3 + 20 := hu'
    clear hd' hu'
    have Xh := (X.keeps F'.keep).keeps hk'
    have Th := (T.keeps F'.keep).keeps hk'
    have hot := hk' _ _ (N' (L + 1 + 1, ot) (.tail _ (.tail _ (.tail _ (.head _))))).1
    refine Ends.lambda Th (hk' _ _ (N' _ (.head _)).1) rfl ⟨c', oc', vs', _, rfl, hk' _ _ (N' _ (.tail _ (.head _))).1, d1', d2'⟩ (by omega) rfl (fun L2 h₁ F3 => ?_) (by decide)
    have N3 : News h L2 h₁ [] := News.nil
    clear F F' N N' X T
    refine CallC_Name (trees := [(false, eval _ _), (false, eval _ _), (false, eval _ _)]) rfl ?_
    walk_at "mine step"
    refine callWithC_fn (evalArgsC_plain (splicedC_cons (wpC_any ?_)))
    refine nameX_at (c := L + 1 + 1) rfl (F3.keep _ _ hot) dt ?_
    refine splicedC_cons (wpC_any ?_)
    walk_at "mine step"
    refine splicedC_cons ?_
    refine CallC_Name (trees := [(false, eval _ _)]) rfl ?_
    walk_at "mine step"
    refine callWithC_builtin rfl (evalArgsC_plain (splicedC_cons (wpC_any ?_)))
    refine nameX_at (c := L + 1 + 1) rfl (F3.keep _ _ hot) dt ?_
    refine splicedC_nil ?_
    refine wpC_any (len_tx (by omega) fun t9 k9 => ?_)
    refine splicedC_nil ?_
    refine ⟨FnHere.of_K (K := hd.heap_39 w.params) (by k_in) (by k_dflt k_is), ?_⟩
    dsimp only
    refine Ends.use (utf16_spec (b := 0) (e := cs.length) (by k_in) (by walk_at "mine top") (by walk_at "mine room") (by walk_at "mine room") (frames_innerX hfl F3 rfl rfl) (by omega) (by omega) (by omega) (fun c hc => by have := hcm c hc; omega)) F3 N3 (fun r h2 tk2 hr F4 N4 => ?_) (fun e dx i h2 tk2 hW y u => ?_)
    · obtain ⟨hno, b', t', rfl, _⟩ := hr
      exact ⟨_, _, rfl, F4.keep, fun i hi => hno i (Nat.zero_le _) hi, _, _, rfl⟩
    · obtain ⟨k, rfl, _, k2, k3, k4⟩ := hW
      exact flew_leaves rfl F3 y u (Site.of ⟨k, rfl, k2, k3, fun j hj => k4 j (Nat.zero_le _) hj⟩)
  · obtain ⟨i, ti, rfl, hi⟩ := hr
    have e : i = p := by
      rcases hi with ⟨k, rfl, hk⟩ | ⟨rfl, _, _, hno, _⟩
      · rcases hp with ⟨_, hno⟩ | ⟨j, rfl, hj⟩
        · exact absurd hno hk.not
        · rw [hk.eq hj]
      · rcases hp with ⟨rfl, _⟩ | ⟨j, rfl, hj⟩
        · rfl
        · exact absurd hno hj.not
    subst e
    walk_at "mine steps"
    · exact absurd rfl ‹i ≠ i›
    · refine wpC_execs_nil ?_
      dsimp only
      have key := law_tail (prog := prog) (s := ⟨h'', s.gens, s.drawn, tk'', s.os⟩) (by k_dflt k_is) X T hdp hun F'' (fun q hq => N'' q (List.mem_cons_of_mem _ (List.mem_cons_of_mem _ hq))) hlt hD dt dc hI hcl hcm hp
      exact key
end


theorem FirstHalf.cons {cs : List Nat} {k : Nat} (h : FirstHalf (97 :: cs) k) : ∃ j, k = j + 1 ∧ FirstHalf cs j := by
  obtain ⟨h1, h2, h3⟩ := h
  cases k with
  | zero => exact absurd h2 (by simp [Half])
  | succ j => exact ⟨j, rfl, by simpa using h1, by simpa using h2, fun i hi => by simpa using h3 (i + 1) (by omega)⟩
theorem NoHalf.cons {cs : List Nat} (h : NoHalf (97 :: cs)) : NoHalf cs := fun i hi => by simpa using h (i + 1) (by simpa using hi)
section
variable {prog : Program} {w : World} {dp un : Nat} {s : Shared} {mean : ExcName → Option Value} {mg mb : Str → Option Value}
  {name qual : Str} {params : Arguments} {body : List Stmt} {scope : Scope} {dV kV doc pm cdv ct oc : Value} {an od : Option Addr} {osl : Array (Option Value)}
theorem law_if2 {g : Heap} {L l D D2 : Addr} {vc : List Value} {ot oco : Obj} {cs : List Nat} {p : Int} {tp t : Tok} {c1 : Addr} (ho : (hd.heap_39 w.params).lookup 205 = some ⟨oc, od, .func (fnOf name qual params body scope dV kV doc pm an cdv ct), osl⟩)
    (X : (hd.heap_39 w.params).In g) (T : TopZ mean mg mb g) (C : CodeHd g 204 202) (hdp : dp + 24 < recursionLimit) (hun : un + 400 < cLine)
    (F : Fr g L s.heap (fun z => if z = Str.ofString "place" then some (.int p tp) else if z = Str.ofString "halves" then some (.ref D2) else if z = Str.ofString "script" then some (.ref l) else none))
    (N : News g L s.heap [(D, LCg.lst vc), (L + 1 + 1, ot), (L + 1, oco), (202, tabObj #[rawInt 199, rawInt 18, .ref c1])]) (hlt : 202 < L) (hD : 202 ≠ D) (dt : ot.data = .cell (some (.str (Tx cs) t))) (dc : oco.data = .cell (some (.ref D)))
    (hI : IntsAre vc (cs.map fun c : Nat => (c : Int))) (hcl : cs.length ≤ 12) (hcm : ∀ c ∈ cs, c = 97 ∨ c = 98 ∨ (55295 ≤ c ∧ c ≤ 1114111)) (hp : (p = -1 ∧ NoHalf cs) ∨ ∃ k : Nat, p = (k : Int) ∧ FirstHalf cs k) :
    wpC (model prog w) ((Ar dp un (some []) (some [])).deeper (envOfC qual scope L 205 cdv)) (execs (body.drop 5) (envOfC qual scope L 205 cdv)) (LawEnd s g) (fun _ _ => False) s := by
  refine with_lookup ho (by k_dflt k_is) (fun h => ?_)
  cases h
  clear ho
  have hlt := ltN hlt
  have hD := neN hD
  simp only [List.drop_succ_cons, List.drop_zero]
  refine wpC_execs_cons (wpC_If (isTrueC_cmp1 rfl (CallC_Name (trees := [(false, eval _ _)]) rfl ?_)))
  walk_at "mine step"
  refine callWithC_fn (evalArgsC_plain (splicedC_cons (wpC_any ?_)))
  refine kla_eval (by exact rfl) ?_
  refine' kla_nest F N T C rfl ?U ?t ?n ?cl ?_
  case U => k_updF
  case t => kn_triples
  case n => simp [codeAmong, rawInt]
  case cl => exact rfl
  intro f' c' oc' vs' t' ct' h' tk' F' N' d1' d2' l1 l2
  refine splicedC_nil ?_
  refine ⟨FnHere.of_K (K := hd.heap_39 w.params) (by k_in) (by k_dflt k_is), ?_⟩
  refine Answers.useK (law_fault_spec (R := fun r _ => NoHalf (97 :: cs) ∧ ∃ b' t', r = .str b' t') (W := fun i => ∃ k : Nat, i = (k : Int) ∧ FirstHalf (97 :: cs) k) (X.keeps F'.keep) (T.keeps F'.keep) (X.keeps (hide_ext F' rfl)) (T.keeps (hide_ext F' rfl)) (by walk_at "mine room") (by walk_at "mine room") (frames_innerX (g := g) (base := g) (outer := []) trivial F' rfl rfl) ⟨_, _, (N' _ (.head _)).1, rfl⟩ (fun r _ hr a q => ?_) (fun l h tk dp' un' hd' hu' hk hfl => ?_)) F' N' (fun r h'' tk'' hr F'' N'' => ?_)
  · obtain ⟨_, _, _, e⟩ := hr
    rw [e] at q; cases q
  · have hk' : Ext h' h := hk
    have hd'' : dp' ≤ dp + 1 + 2 := hd'
    have hu'' : un' ≤ un + 3 + 20 := hu'
    clear hd' hu'
    have Xh := (X.keeps F'.keep).keeps hk'
    have Th := (T.keeps F'.keep).keeps hk'
    have hot := hk' _ _ (N' (L + 1 + 1, ot) (.tail _ (.tail _ (.tail _ (.head _))))).1
    refine Ends.lambda Th (hk' _ _ (N' _ (.head _)).1) rfl ⟨c', oc', vs', _, rfl, hk' _ _ (N' _ (.tail _ (.head _))).1, d1', d2'⟩ (by omega) rfl (fun L2 h₁ F3 => ?_) (by decide)
    have N3 : News h L2 h₁ [] := News.nil
    clear F F' N N' X T
    refine CallC_Name (trees := [(false, eval _ _)]) rfl ?_
    walk_at "mine step"
    refine callWithC_fn (evalArgsC_plain (splicedC_cons (wpC_any ?_)))
    walk_at "mine step"
    walk_at "mine step"
    refine nameX_at (c := L + 1 + 1) rfl (F3.keep _ _ hot) dt ?_
    rw [show Str.ofString "a" = Tx [97] from by decide +kernel]
    walk_at "mine steps"
    refine splicedC_nil ?_
    refine ⟨FnHere.of_K (K := hd.heap_39 w.params) (by k_in) (by k_dflt k_is), ?_⟩
    dsimp only
    have hcs : ∀ c ∈ 97 :: cs, c = 97 ∨ c = 98 ∨ (55295 ≤ c ∧ c ≤ 1114111) := fun c hc => by
      rcases List.mem_cons.mp hc with rfl | hc
      · exact .inl rfl
      · exact hcm c hc
    refine Ends.use (check_spec (cs := 97 :: cs) (by k_in) (by walk_at "mine top") (by walk_at "mine room") (by walk_at "mine room") (frames_innerX hfl F3 rfl rfl) (by rw [List.length_cons]; omega) (by rw [List.length_cons]; omega) hcs) F3 N3 (fun r h2 tk2 hr F4 N4 => ?_) (fun e dx i h2 tk2 hW y u => ?_)
    · obtain ⟨hno, t', rfl⟩ := hr
      exact ⟨_, _, rfl, F4.keep, hno, _, _, rfl⟩
    · exact flew_leaves rfl F3 y u (Site.of hW)
  · obtain ⟨i, ti, rfl, hi⟩ := hr
    rcases hi with ⟨k, rfl, hk⟩ | ⟨rfl, _, _, hno, _⟩
    · obtain ⟨j, rfl, hj⟩ := hk.cons
      rcases hp with ⟨_, hno⟩ | ⟨j', rfl, hj'⟩
      · exact absurd hno hj.not
      · obtain rfl := hj.eq hj'
        walk_at "mine steps"
        · exfalso; omega
        · refine wpC_execs_nil ?_
          dsimp only
          have key := fun tk9 => law_if3 (prog := prog) (s := ⟨h'', s.gens, s.drawn, tk9, s.os⟩) (by k_dflt k_is) X T C hdp hun F'' (fun q hq => N'' q (List.mem_cons_of_mem _ (List.mem_cons_of_mem _ hq))) hlt hD dt dc hI hcl hcm (.inr ⟨j, rfl, hj⟩)
          exact key _
        · exfalso; omega
    · rcases hp with ⟨rfl, hno'⟩ | ⟨j, rfl, hj⟩
      · walk_at "mine steps"
        refine wpC_execs_nil ?_
        dsimp only
        have key := fun tk9 => law_if3 (prog := prog) (s := ⟨h'', s.gens, s.drawn, tk9, s.os⟩) (by k_dflt k_is) X T C hdp hun F'' (fun q hq => N'' q (List.mem_cons_of_mem _ (List.mem_cons_of_mem _ hq))) hlt hD dt dc hI hcl hcm (.inl ⟨rfl, hno'⟩)
        exact key _
      · exact absurd hno.cons hj.not
end


section
variable {prog : Program} {w : World} {dp un : Nat} {s : Shared} {mean : ExcName → Option Value} {mg mb : Str → Option Value}
  {name qual : Str} {params : Arguments} {body : List Stmt} {scope : Scope} {dV kV doc pm cdv ct oc : Value} {an od : Option Addr} {osl : Array (Option Value)}
theorem law_if1 {g : Heap} {L l D D2 : Addr} {vc : List Value} {ot oco : Obj} {cs : List Nat} {p : Int} {tp t : Tok} (ho : (hd.heap_39 w.params).lookup 205 = some ⟨oc, od, .func (fnOf name qual params body scope dV kV doc pm an cdv ct), osl⟩)
    (X : (hd.heap_39 w.params).In g) (T : TopZ mean mg mb g) (C : CodeHd g 204 202) (hdp : dp + 24 < recursionLimit) (hun : un + 400 < cLine)
    (F : Fr g L s.heap (fun z => if z = Str.ofString "place" then some (.int p tp) else if z = Str.ofString "halves" then some (.ref D2) else if z = Str.ofString "script" then some (.ref l) else none))
    (N : News g L s.heap [(D, LCg.lst vc), (L + 1 + 1, ot), (L + 1, oco), (202, tabObj #[])]) (hlt : 202 < L) (hD : 202 ≠ D) (dt : ot.data = .cell (some (.str (Tx cs) t))) (dc : oco.data = .cell (some (.ref D)))
    (hI : IntsAre vc (cs.map fun c : Nat => (c : Int))) (hcl : cs.length ≤ 12) (hcm : ∀ c ∈ cs, c = 97 ∨ c = 98 ∨ (55295 ≤ c ∧ c ≤ 1114111)) (hp : (p = -1 ∧ NoHalf cs) ∨ ∃ k : Nat, p = (k : Int) ∧ FirstHalf cs k) :
    wpC (model prog w) ((Ar dp un (some []) (some [])).deeper (envOfC qual scope L 205 cdv)) (execs (body.drop 4) (envOfC qual scope L 205 cdv)) (LawEnd s g) (fun _ _ => False) s := by
  refine with_lookup ho (by k_dflt k_is) (fun h => ?_)
  cases h
  clear ho
  have hlt := ltN hlt
  have hD := neN hD
  simp only [List.drop_succ_cons, List.drop_zero]
  refine wpC_execs_cons (wpC_If (isTrueC_cmp1 rfl (CallC_Name (trees := [(false, eval _ _)]) rfl ?_)))
  walk_at "mine step"
  refine callWithC_fn (evalArgsC_plain (splicedC_cons (wpC_any ?_)))
  refine kla_eval (by exact rfl) ?_
  refine' kla_nest F N T C rfl ?U ?t ?n ?cl ?_
  case U => k_updF
  case t => kn_triples
  case n => simp [codeAmong]
  case cl => exact rfl
  intro f' c' oc' vs' t' ct' h' tk' F' N' d1' d2' l1 l2
  refine splicedC_nil ?_
  refine ⟨FnHere.of_K (K := hd.heap_39 w.params) (by k_in) (by k_dflt k_is), ?_⟩
  refine Answers.useK (law_fault_spec (R := fun r _ => NoHalf cs ∧ ∃ b' t', r = .bytes b' t') (W := fun i => ∃ k : Nat, i = (k : Int) ∧ FirstHalf cs k) (X.keeps F'.keep) (T.keeps F'.keep) (X.keeps (hide_ext F' rfl)) (T.keeps (hide_ext F' rfl)) (by walk_at "mine room") (by walk_at "mine room") (frames_innerX (g := g) (base := g) (outer := []) trivial F' rfl rfl) ⟨_, _, (N' _ (.head _)).1, rfl⟩ (fun r _ hr a q => ?_) (fun l h tk dp' un' hd' hu' hk hfl => ?_)) F' N' (fun r h'' tk'' hr F'' N'' => ?_)
  · obtain ⟨_, _, _, e⟩ := hr
    rw [e] at q; cases q
  · have hk' : Ext h' h := hk
    have hd'' : dp' ≤ dp + 1 + 2 := hd'
    have hu'' : un' ≤ un + 3 + 20 := hu'
    clear hd' hu'
    have Xh := (X.keeps F'.keep).keeps hk'
    have Th := (T.keeps F'.keep).keeps hk'
    have hot := hk' _ _ (N' (L + 1 + 1, ot) (.tail _ (.tail _ (.tail _ (.head _))))).1
    refine Ends.lambda Th (hk' _ _ (N' _ (.head _)).1) rfl ⟨c', oc', vs', _, rfl, hk' _ _ (N' _ (.tail _ (.head _))).1, d1', d2'⟩ (by omega) rfl (fun L2 h₁ F3 => ?_) (by decide)
    have N3 : News h L2 h₁ [] := News.nil
    clear F F' N N' X T
    refine CallC_Name (trees := [(false, eval _ _)]) rfl ?_
    walk_at "mine step"
    refine callWithC_fn (evalArgsC_plain (splicedC_cons (wpC_any ?_)))
    refine nameX_at (c := L + 1 + 1) rfl (F3.keep _ _ hot) dt ?_
    refine splicedC_nil ?_
    refine ⟨FnHere.of_K (K := hd.heap_39 w.params) (by k_in) (by k_dflt k_is), ?_⟩
    refine Ends.use (utf7_spec (by k_in) (by walk_at "mine top") (by walk_at "mine room") (by walk_at "mine room") (frames_innerX hfl F3 rfl rfl) (by omega) (fun c hc => by have := hcm c hc; omega)) F3 N3 (fun r h2 tk2 hr F4 N4 => ?_) (fun e dx i h2 tk2 hW y u => ?_)
    · obtain ⟨hno, b', t', ks, rfl, _⟩ := hr
      exact ⟨_, _, rfl, F4.keep, hno, _, _, rfl⟩
    · exact flew_leaves rfl F3 y u (Site.of hW)
  · obtain ⟨i, ti, rfl, hi⟩ := hr
    have e : i = p := by
      rcases hi with ⟨k, rfl, hk⟩ | ⟨rfl, _, _, hno, _⟩
      · rcases hp with ⟨_, hno⟩ | ⟨j, rfl, hj⟩
        · exact absurd hno hk.not
        · rw [hk.eq hj]
      · rcases hp with ⟨rfl, _⟩ | ⟨j, rfl, hj⟩
        · rfl
        · exact absurd hno hj.not
    subst e
    walk_at "mine steps"
    · exact absurd rfl ‹i ≠ i›
    · refine wpC_execs_nil ?_
      dsimp only
      have key := fun tk9 => law_if2 (prog := prog) (s := ⟨h'', s.gens, s.drawn, tk9, s.os⟩) (by k_dflt k_is) X T C hdp hun F'' (fun q hq => N'' q (List.mem_cons_of_mem _ (List.mem_cons_of_mem _ hq))) hlt hD dt dc hI hcl hcm hp
      exact key _
end


/-- the law's menu of codes -/
def menu (k : Int) : Nat := ([97, 55295, 55296, 56319, 56320, 57343, 57344, 1114111, 98, 65533] : List Nat).getD (k.fmod 10).toNat 0
theorem menu_eq (k : Int) : ([97, 55295, 55296, 56319, 56320, 57343, 57344, 1114111, 98, 65533] : List Int).getD (k.fmod 10).toNat 0 = (menu k : Int) := by
  unfold menu
  rw [show ([97, 55295, 55296, 56319, 56320, 57343, 57344, 1114111, 98, 65533] : List Int) = ([97, 55295, 55296, 56319, 56320, 57343, 57344, 1114111, 98, 65533] : List Nat).map (fun c : Nat => (c : Int)) from rfl, List.getD_eq_getElem?_getD, List.getElem?_map, List.getD_eq_getElem?_getD]
  cases ([97, 55295, 55296, 56319, 56320, 57343, 57344, 1114111, 98, 65533] : List Nat)[(k.fmod 10).toNat]? <;> rfl
theorem menu_fin : ∀ j : Fin 10, (fun c : Nat => c = 97 ∨ c = 98 ∨ (55295 ≤ c ∧ c ≤ 1114111)) (([97, 55295, 55296, 56319, 56320, 57343, 57344, 1114111, 98, 65533] : List Nat).getD j.val 0) := by decide
theorem menu_in (k : Int) : menu k = 97 ∨ menu k = 98 ∨ (55295 ≤ menu k ∧ menu k ≤ 1114111) :=
  menu_fin ⟨(k.fmod 10).toNat, (Int.toNat_lt (Int.fmod_nonneg_of_pos k (by decide))).mpr (Int.fmod_lt_of_pos k (by decide))⟩
/-- after the third statement of the law -/
def PlaceAt (g : Heap) (L l D : Addr) (ys : List Value) (ot oc : Obj) (cs : List Nat) (s : Shared) (f : Flow) (s₂ : Shared) : Prop :=
  f = .next ∧ ∃ h' tk' p tp D2, s₂ = { s with heap := h', toks := tk' } ∧ Fr g L h' (fun z => if z = Str.ofString "place" then some (.int p tp) else if z = Str.ofString "halves" then some (.ref D2) else if z = Str.ofString "script" then some (.ref l) else none) ∧
    News g L h' [(D, LCg.lst ys), (L + 1 + 1, ot), (L + 1, oc), (202, tabObj #[])] ∧ ((p = -1 ∧ NoHalf cs) ∨ ∃ k : Nat, p = (k : Int) ∧ FirstHalf cs k)
theorem PlaceAt.of {g : Heap} {L l D : Addr} {ys : List Value} {ot oc : Obj} {cs : List Nat} {s : Shared} {h' : Heap} {tk' : Nat} {p : Int} {tp : Tok} {D2 : Addr} {m : Str → Option Value} (F : Fr g L h' m) (hm : m = fun z => if z = Str.ofString "place" then some (.int p tp) else if z = Str.ofString "halves" then some (.ref D2) else if z = Str.ofString "script" then some (.ref l) else none)
    {news : List (Addr × Obj)} (N : News g L h' news) (hs : ∀ q ∈ [(D, LCg.lst ys), (L + 1 + 1, ot), (L + 1, oc), (202, tabObj #[])], q ∈ news) (h : (p = -1 ∧ NoHalf cs) ∨ ∃ k : Nat, p = (k : Int) ∧ FirstHalf cs k) : PlaceAt g L l D ys ot oc cs s .next { s with heap := h', toks := tk' } :=
  ⟨rfl, h', tk', p, tp, D2, rfl, hm ▸ F, fun q hq => N q (hs q hq), h⟩
theorem strs_of : ∀ (cs : List Nat) (ys : List Value), ys.length = cs.length → (∀ (i : Nat) y, ys[i]? = some y → ∃ t : Tok, y = Value.str (Tx [cs.getD i 0]) t) → StrsAre ys ((cs.map fun c => [c]).map Tx)
  | [], [], _, _ => .nil
  | [], _ :: _, h, _ => by cases h
  | _ :: _, [], h, _ => by cases h
  | c :: cs, y :: ys, h, hY => by
    obtain ⟨t, rfl⟩ := hY 0 y rfl
    exact .cons _ _ (strs_of cs ys (by simpa using h) fun i z hz => hY (i + 1) z (by simpa using hz))
theorem flat_single (cs : List Nat) : (cs.map fun c => [c]).flatten = cs := by
  induction cs with
  | nil => rfl
  | cons c r ih => rw [List.map_cons, List.flatten_cons, ih]; rfl
section
variable {prog : Program} {w : World} {dp un : Nat} {s : Shared} {mean : ExcName → Option Value} {mg mb : Str → Option Value}
local macro_rules | `(tactic| k_ne) => `(tactic| first | assumption | exact (by assumption : (_ ∧ _ ∧ _) ∧ _).1.1 | exact (by assumption : (_ ∧ _ ∧ _) ∧ _).1.2.1 | exact (by assumption : (_ ∧ _ ∧ _) ∧ _).1.2.2 | exact (by assumption : _ ∧ (_ ∧ _ ∧ _) ∧ _).2.1.1 | exact (by assumption : _ ∧ (_ ∧ _ ∧ _) ∧ _).2.1.2.1 | exact (by assumption : _ ∧ (_ ∧ _ ∧ _) ∧ _).2.1.2.2 | exact (by assumption : _ ∧ _ ∧ (_ ∧ _ ∧ _) ∧ _).2.2.1.1 | exact (by assumption : _ ∧ _ ∧ (_ ∧ _ ∧ _) ∧ _).2.2.1.2.1 | exact (by assumption : _ ∧ _ ∧ (_ ∧ _ ∧ _) ∧ _).2.2.1.2.2 | exact (by assumption : _ ∧ _ ∧ _ ∧ (_ ∧ _ ∧ _)).2.2.2.1 | exact (by assumption : _ ∧ _ ∧ _ ∧ (_ ∧ _ ∧ _)).2.2.2.2.1 | exact (by assumption : _ ∧ _ ∧ _ ∧ (_ ∧ _ ∧ _)).2.2.2.2.2 | exact (by assumption : _ ∧ _ ∧ (_ ∧ _ ∧ _)).2.2.1 | exact (by assumption : _ ∧ _ ∧ (_ ∧ _ ∧ _)).2.2.2.1 | exact (by assumption : _ ∧ _ ∧ (_ ∧ _ ∧ _)).2.2.2.2)
theorem law_walk {l : Addr} {vs : List Value} {ns : List Int} (X : (hd.heap_39 w.params).In s.heap) (hdp : dp + 24 < recursionLimit) (hun : un + 400 < cLine) (hT : TabsAt [(204, 202)] s.heap) (T : TopZ mean mg mb (ghostOf s.heap [(204, 202)])) (hl : s.heap.IsList l vs.toArray) (hi : IntsAre vs ns) (hz : ns.length ≤ 63) :
    wpC (model prog w) (Ar dp un (some []) (some [])) (call (.ref 205) [.ref l]) (fun r s' => ∃ h' tk', s' = { s with heap := h', toks := tk' } ∧ r = .bool true ∧ Ext (ghostOf s.heap [(204, 202)]) h' ∧ GrownAll [(204, 202)] h') (fun _ _ => False) s := by
  have T₀ : TopZ mean mg mb s.heap := T.keeps fun b o e => of_hideAll _ e
  refine wpC_call (enterWC (K := hd.heap_39 w.params) (binds := [(Str.ofString "script", Value.ref l)]) X T₀ (by k_dflt k_is) (by k_dflt k_is) (by walk_at "mine room") (BindsTo.of_eq rfl) (by exact rfl) (by decide +kernel) (fun L' h' tk cells F' N' Y' => ?_))
  k_cells Y'
  rename_i ot oc0 dt dc0
  have C' : CodeHd (ghostOf s.heap [(204, 202)]) 204 202 := (ghost_code hT).1
  have hlt : 202 < L' := ghost_lt hT F' (202, tabObj #[]) (.head _)
  have X' := ghost_K hT X (by kernel_rfl)
  have N' := ghost_news hT F' N'
  have F' := ghost_fr hT F'
  have hl' := ghost_list hT hl
  have F' := Fr.as F' (m' := fun y => if y = Str.ofString "script" then some (.ref l) else none) rfl
  clear X T₀ hl
  simp only [tabNews, List.map_cons, List.map_nil, List.nil_append, List.cons_append] at N'
  refine wpC_execs_any ?_
  walk_at "mine steps"
  walk1
  walk_at "mine steps"
  rename_i hI1 hL1 D1 h1 tk1 F1 N1 o1 h2 oc F2 N2 dc
  rename List Value => vc
  have hI : IntsAre vc ((((ns.take 12).map menu).map fun c : Nat => (c : Int))) := by
    rw [List.map_map]
    have e : (ns.take 12).map (fun k' => ([97, 55295, 55296, 56319, 56320, 57343, 57344, 1114111, 98, 65533] : List Int).getD (k'.fmod 10).toNat 0) = (ns.take 12).map ((fun c : Nat => (c : Int)) ∘ menu) := List.map_congr_left fun k _ => menu_eq k
    rw [← e]; exact hI1
  have hcl : ((ns.take 12).map menu).length ≤ 12 := by rw [List.length_map, List.length_take]; omega
  have hcm : ∀ c ∈ (ns.take 12).map menu, c = 97 ∨ c = 98 ∨ (55295 ≤ c ∧ c ≤ 1114111) := fun c hc => by
    obtain ⟨k, _, rfl⟩ := List.mem_map.mp hc
    exact menu_in k
  generalize (ns.take 12).map menu = cs at hI hcl hcm
  have hD1 : 202 ≠ D1 := o1.2.2.2
  have N : News (ghostOf s.heap [(204, 202)]) L' h2 [(D1, LCg.lst vc), (L' + 1 + 1, ot), (L' + 1, oc), (202, tabObj #[])] := fun p hp => N2 p (by
    simp only [List.mem_cons, List.not_mem_nil, or_false, List.cons_append, List.nil_append] at hp ⊢
    rcases hp with rfl | rfl | rfl | rfl <;> simp)
  have ot_none : ot.data = .cell none := dt
  rename_i D0 ws0 h0 F0 N0 hI0 hC0 hL0 l0 hk0 hk1 g0
  clear hI1 hL1 F1 N1 o1 N2 hI0 hC0 hL0 l0 hk0 hk1 dt dc0 N0 F0 hl' hi hz
  refine wpC_execs_any ?_
  walk_at "mine steps"
  k_steps
  rename_i hH _ _ D2 h3 tk3 F3 N3 o3
  refine wpC_execs_cons (wpC_any (wpAny_mono (Q := PlaceAt (ghostOf s.heap [(204, 202)]) L' l D1 vc ot oc cs s) ?_ (fun f s₂ h₂ => ?_) (fun _ _ x => x)))
  · rcases halves_facts cs (((cs.map fun c : Nat => (c : Int)).length : Int) - 0).toNat (by rw [List.length_map]; omega) with ⟨e, hno⟩ | ⟨k, r, e, hk⟩
    · rw [e] at hH
      walk_at "mine steps"
      refine PlaceAt.of (by assumption) (by walk_at "frm") (by assumption) (fun q hq => ?_) (.inl ⟨rfl, hno⟩)
      exact List.mem_cons_of_mem _ (List.mem_cons_of_mem _ hq)
    · rw [e] at hH
      walk_at "mine steps"
      · rename decide _ = true => q
        simp at q
      · refine PlaceAt.of (by assumption) (by walk_at "frm") (by assumption) (fun q hq => ?_) (.inr ⟨k, rfl, hk⟩)
        exact List.mem_cons_of_mem _ (List.mem_cons_of_mem _ hq)
  · clear F' N' hH F3 N3 o3

    obtain ⟨rfl, h4, tk4, p, tp, D2', rfl, F4, N4, hp⟩ := h₂
    dsimp only
    refine wpC_execs_any ?_
    walk_at "mine steps"
    refine' LCg.ListComp_U ?F ?c ?d ?k ?n ?x ?_ ?s
    case F => assumption
    case c => rfl
    case d => decide
    case k => rfl
    case n => decide
    case x => rfl
    case s => exact fun _ => rfl
    walk_at "mine step"
    have hvl : vc.length = cs.length := by rw [hI.length, List.length_map]
    refine LCg.CompSrc.ledger rfl F4 N4 (.head _) (by rw [sizeLine_eq, List.size_toArray]; omega) fun g => ?_
    refine compRest_all (Y := fun i v => ∃ t, v = .str (Tx [cs.getD i 0]) t) (.inr ⟨_, .head _, rfl, _, rfl⟩) ?_ ?_
    · intro i ys v I oI C oC D m₂ h tk E' hi hP hC hx F' N' off' ne'
      rw [List.size_toArray] at hi
      have hil : i < cs.length := by omega
      obtain ⟨tv, hv⟩ := hI.get i ((cs.getD i 0 : Nat) : Int) (by rw [List.getElem?_map, List.getElem?_eq_getElem hil, List.getD_eq_getElem?_getD, List.getElem?_eq_getElem hil]; rfl)
      have hP' : vc[i]? = some v := by simpa using hP
      rw [hP'] at hv
      obtain rfl := Option.some.inj hv
      have hcb := hcm (cs.getD i 0) (by rw [List.getD_eq_getElem?_getD, List.getElem?_eq_getElem hil]; exact List.getElem_mem _)
      walk_at "mine steps"
      exact EltEnd.of ⟨_, rfl⟩ (fun _ _ e => e)
    · intro ys hl hY
      rw [List.size_toArray] at hl
      intro D h tk F' N' _
      walk_at "mine steps"
      refine join_my (N'.get (.head _)) (strs_of cs ys (by omega) hY) (by rw [flat_single, List.length_map]; omega) fun t' k => ?_
      rw [flat_single]
      walk_at "mine steps"
      rename_i h9 o9 F9 N9 d9
      have key := fun tk9 => law_if1 (prog := prog) (s := ⟨h9, s.gens, s.drawn, tk9, s.os⟩) (t := t') (by k_dflt k_is) X' T C' hdp hun F9 (fun q hq => N9 q (by
        simp only [List.mem_cons, List.not_mem_nil, or_false] at hq
        rcases hq with rfl | rfl | rfl | rfl
        · exact .tail _ (.head _)
        · exact .tail _ (.tail _ (.head _))
        · exact .tail _ (.tail _ (.tail _ (.head _)))
        · exact .tail _ (.tail _ (.tail _ (.tail _ (.head _)))))) hlt hD1 d9 dc hI hcl hcm hp
      refine wpC_mono (key _) (fun fl s' hE => ?_) (fun _ _ x => x.elim)
      obtain ⟨h', tk', rfl, rfl, hx, hg⟩ := hE
      exact ⟨h', tk', rfl, rfl, hx, hg⟩
end


theorem goodG_true {cw : ClaimW} {cl : Str → Option Addr} {mean : ExcName → Option Value} {args : List WData} {s₁ : Shared} {h' : Heap} {tk' : Nat} {tabs : List (Addr × Addr)} (hT : TabsAt tabs s₁.heap) (hx : Ext (ghostOf s₁.heap tabs) h') (hg : GrownAll tabs h') (hgens : s₁.gens = #[])
    (hr : ∀ x, cw.raises args x = false) (hp : cw.post args (.bool true) args = true) : GoodWG cw cl mean args s₁ (.ok (.ret (.bool true))) { s₁ with heap := h', toks := tk' } := by
  have keep : ∀ b o, b ∉ tabs.map (·.2) → s₁.heap.get? b = some o → h'.get? b = some o := fun b o hb e => hx b o (ghost_ne e hb)
  have grown : ∀ b o, b ∈ tabs.map (·.2) → s₁.heap.get? b = some o → isCodeTable s₁.heap b ∧ o = tabObj #[] ∧ ∃ ps, h'.get? b = some (tabObj ps) := fun b o hb e => by
    obtain ⟨q, hq, rfl⟩ := List.mem_map.mp hb
    have e2 := (hT q hq).2
    rw [e] at e2
    exact ⟨((hT q hq).1.tab (hT q hq).2).isCodeTable, Option.some.inj e2, hg.get q hq⟩
  refine ⟨.inl ⟨.bool true, .bool true, [], rfl, hr, .bool true, hp, fun _ => ⟨List.nodup_nil, fun a ha => nomatch ha⟩⟩, ⟨fun b o e => ?_, fun b o e => ?_⟩, rfl, .of_eq hgens⟩
  · by_cases hb : b ∈ tabs.map (·.2)
    · obtain ⟨ht, rfl, ps, hP⟩ := grown b o hb e
      exact .inr (.inl ⟨ht, rfl, #[], ps, rfl, by rw [Array.empty_append]; exact hP⟩)
    · exact .inl (keep b o hb e)
  · by_cases hb : b ∈ tabs.map (·.2)
    · obtain ⟨_, _, ps, hP⟩ := grown b o hb e
      exact ⟨_, hP⟩
    · exact ⟨o, keep b o hb e⟩
theorem walk_end : PySem.Challenge.rw_nz0294_01.Holds := by
  refine hd ?_
  k_fill
  intro w s₀ s₁ mg mb G Y fa o pm cd doc dV kV ho hdd hcd hD hmg hg args vals as hpre hlay hrd hwl hlo
  have KX := km_in_of Y
  refine Ground.open G ?_
  intro T B D TE TW
  have hT : TabsAt [(204, 202)] s₁.heap := List.forall_mem_cons.mpr ⟨tab_of (x := PySem.Str.ofString "law") (c := 204) (P := 202) T KX rfl (by kernel_rfl), fun _ h => nomatch h⟩
  have Tz := ghost_top hT T
  have e5 : mg (PySem.Str.ofString "law") = some (.ref 205) := mg_of KX T.g (by kernel_rfl)
  obtain rfl : fa = 205 := by
    have h := hmg.symm.trans e5
    cases h
    rfl
  wrow_args hpre hlay hrd hwl hlo
  refine wpC_mono (law_walk (dp := 1 + claimMargin) (un := 4) KX (by decide) (by decide) hT Tz ‹_› ‹IntsAre _ _› (by omega)) (fun r s' h => ?_) (fun _ _ x => x.elim)
  obtain ⟨h', tk', rfl, rfl, hx, hgr⟩ := h
  exact goodG_true hT hx hgr hg (fun _ => rfl) (by wrow_post)


end Mine
theorem PySem.Challenge.cw_nz0294_01_holds : PySem.Challenge.rw_nz0294_01.Holds :=
  Mine.walk_end

