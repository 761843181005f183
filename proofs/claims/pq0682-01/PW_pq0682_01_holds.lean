import PyProof.Rows.All
import Wide.All
import OpenK.AllK
import Wide.FinOn
import PyProof.ExcBaseAll.Exception
import PyProof.FactsAll.str_3
import PyProof.ExcArgsOwn
import Lean
import PySem.Challenge.RW_pq0682_01
open PySem PySem.W PySem.Calls PySem.Spec PyProof.Rows
set_option Elab.async false
set_option compiler.extract_closed false
set_option linter.all false
set_option maxRecDepth 100000
namespace Mine
/-- the goal kept out of what is taken apart ahead of it: the motives of the cases are a variable then -/
theorem opq {P : Prop} (h : ∀ G : Prop, (P → G) → G) : P := h P id
theorem ei4 {α β γ δ : Type} {P : α → β → γ → δ → Prop} (a0 : α) (a1 : β) (a2 : γ) (a3 : δ) (h : P a0 a1 a2 a3) : ∃ a0 a1 a2 a3, P a0 a1 a2 a3 := ⟨a0, a1, a2, a3, h⟩
theorem ei6 {α β γ δ ε ζ : Type} {P : α → β → γ → δ → ε → ζ → Prop} (a0 : α) (a1 : β) (a2 : γ) (a3 : δ) (a4 : ε) (a5 : ζ) (h : P a0 a1 a2 a3 a4 a5) : ∃ a0 a1 a2 a3 a4 a5, P a0 a1 a2 a3 a4 a5 := ⟨a0, a1, a2, a3, a4, a5, h⟩
theorem ei7 {α β γ δ ε ζ η : Type} {P : α → β → γ → δ → ε → ζ → η → Prop} (a0 : α) (a1 : β) (a2 : γ) (a3 : δ) (a4 : ε) (a5 : ζ) (a6 : η) (h : P a0 a1 a2 a3 a4 a5 a6) : ∃ a0 a1 a2 a3 a4 a5 a6, P a0 a1 a2 a3 a4 a5 a6 := ⟨a0, a1, a2, a3, a4, a5, a6, h⟩
theorem ei8 {α β γ δ ε ζ η θ : Type} {P : α → β → γ → δ → ε → ζ → η → θ → Prop} (a0 : α) (a1 : β) (a2 : γ) (a3 : δ) (a4 : ε) (a5 : ζ) (a6 : η) (a7 : θ) (h : P a0 a1 a2 a3 a4 a5 a6 a7) : ∃ a0 a1 a2 a3 a4 a5 a6 a7, P a0 a1 a2 a3 a4 a5 a6 a7 := ⟨a0, a1, a2, a3, a4, a5, a6, a7, h⟩
theorem ei11 {α β γ δ ε ζ η θ ι κ μ : Type} {P : α → β → γ → δ → ε → ζ → η → θ → ι → κ → μ → Prop} (a0 : α) (a1 : β) (a2 : γ) (a3 : δ) (a4 : ε) (a5 : ζ) (a6 : η) (a7 : θ) (a8 : ι) (a9 : κ) (a10 : μ) (h : P a0 a1 a2 a3 a4 a5 a6 a7 a8 a9 a10) : ∃ a0 a1 a2 a3 a4 a5 a6 a7 a8 a9 a10, P a0 a1 a2 a3 a4 a5 a6 a7 a8 a9 a10 := ⟨a0, a1, a2, a3, a4, a5, a6, a7, a8, a9, a10, h⟩
theorem ei12 {α β γ δ ε ζ η θ ι κ μ ν : Type} {P : α → β → γ → δ → ε → ζ → η → θ → ι → κ → μ → ν → Prop} (a0 : α) (a1 : β) (a2 : γ) (a3 : δ) (a4 : ε) (a5 : ζ) (a6 : η) (a7 : θ) (a8 : ι) (a9 : κ) (a10 : μ) (a11 : ν) (h : P a0 a1 a2 a3 a4 a5 a6 a7 a8 a9 a10 a11) : ∃ a0 a1 a2 a3 a4 a5 a6 a7 a8 a9 a10 a11, P a0 a1 a2 a3 a4 a5 a6 a7 a8 a9 a10 a11 := ⟨a0, a1, a2, a3, a4, a5, a6, a7, a8, a9, a10, a11, h⟩
theorem ei16 {α β γ δ ε ζ η θ ι κ μ ν ξ ο π ρ : Type} {P : α → β → γ → δ → ε → ζ → η → θ → ι → κ → μ → ν → ξ → ο → π → ρ → Prop} (a0 : α) (a1 : β) (a2 : γ) (a3 : δ) (a4 : ε) (a5 : ζ) (a6 : η) (a7 : θ) (a8 : ι) (a9 : κ) (a10 : μ) (a11 : ν) (a12 : ξ) (a13 : ο) (a14 : π) (a15 : ρ) (h : P a0 a1 a2 a3 a4 a5 a6 a7 a8 a9 a10 a11 a12 a13 a14 a15) : ∃ a0 a1 a2 a3 a4 a5 a6 a7 a8 a9 a10 a11 a12 a13 a14 a15, P a0 a1 a2 a3 a4 a5 a6 a7 a8 a9 a10 a11 a12 a13 a14 a15 := ⟨a0, a1, a2, a3, a4, a5, a6, a7, a8, a9, a10, a11, a12, a13, a14, a15, h⟩
theorem cu2 {α β : Type} {P : α × β → Prop} (h : ∀ a0 a1, P (a0, a1)) : ∀ x, P x := fun x => h x.1 x.2
theorem cu4 {α β γ δ : Type} {P : α × β × γ × δ → Prop} (h : ∀ a0 a1 a2 a3, P (a0, a1, a2, a3)) : ∀ x, P x := fun x => h x.1 x.2.1 x.2.2.1 x.2.2.2
theorem cu5 {α β γ δ ε : Type} {P : α × β × γ × δ × ε → Prop} (h : ∀ a0 a1 a2 a3 a4, P (a0, a1, a2, a3, a4)) : ∀ x, P x := fun x => h x.1 x.2.1 x.2.2.1 x.2.2.2.1 x.2.2.2.2
theorem cu6 {α β γ δ ε ζ : Type} {P : α × β × γ × δ × ε × ζ → Prop} (h : ∀ a0 a1 a2 a3 a4 a5, P (a0, a1, a2, a3, a4, a5)) : ∀ x, P x := fun x => h x.1 x.2.1 x.2.2.1 x.2.2.2.1 x.2.2.2.2.1 x.2.2.2.2.2
theorem cu7 {α β γ δ ε ζ η : Type} {P : α × β × γ × δ × ε × ζ × η → Prop} (h : ∀ a0 a1 a2 a3 a4 a5 a6, P (a0, a1, a2, a3, a4, a5, a6)) : ∀ x, P x := fun x => h x.1 x.2.1 x.2.2.1 x.2.2.2.1 x.2.2.2.2.1 x.2.2.2.2.2.1 x.2.2.2.2.2.2
theorem cu8 {α β γ δ ε ζ η θ : Type} {P : α × β × γ × δ × ε × ζ × η × θ → Prop} (h : ∀ a0 a1 a2 a3 a4 a5 a6 a7, P (a0, a1, a2, a3, a4, a5, a6, a7)) : ∀ x, P x := fun x => h x.1 x.2.1 x.2.2.1 x.2.2.2.1 x.2.2.2.2.1 x.2.2.2.2.2.1 x.2.2.2.2.2.2.1 x.2.2.2.2.2.2.2
section
open Sem (wp)
/-- a decoder's own activation: the one kind of code on the stack that the frames' account does not see and that holds a bytearray's memory -/
noncomputable def Dec : Code → Bool
  | .builtin id _ => Builtin.Bytes.decodersThatHold.contains id
  | _ => false
noncomputable def Cl (l : List (Code × Pos)) : Prop := ∀ q ∈ l, Dec q.1 = false
/-- wpAny over the contexts without a decoder's activation -/
noncomputable def wpP {α : Type} (M : Model) (A : Around) (t : Sem α) (Q : α → Shared → Prop) (E : Value → Shared → Prop) (s : Shared) : Prop :=
  ∀ Γ p, Γ.In A → Dec Γ.code = false → Cl Γ.below → wp M Γ t (fun a _ s' => Q a s') (fun e _ s' => E e s') p s
noncomputable def codeP (M : Model) (A : Around) (c : Code) (R : Result → Shared → Prop) (s : Shared) : Prop :=
  ∀ Γ p, Γ.code = c → Γ.Below A → Cl Γ.below → wpCode M Γ R p s
section
variable {α β : Type} {M : Model} {A : Around} {E : Value → Shared → Prop} {s : Shared} {env : Env}
theorem P_lift {t : Sem α} {Q : α → Shared → Prop} (h : wpAny M A t Q E s) : wpP M A t Q E s := fun Γ p hΓ _ _ => h Γ p hΓ
theorem P_liftC {c : Code} {R : Result → Shared → Prop} (h : codeAny M A c R s) : codeP M A c R s := fun Γ p hc hΓ _ => h Γ p hc hΓ
theorem P_mono {t : Sem α} {Q Q' : α → Shared → Prop} {E' : Value → Shared → Prop} (h : wpP M A t Q E s) (hQ : ∀ a s, Q a s → Q' a s) (hE : ∀ e s, E e s → E' e s) : wpP M A t Q' E' s :=
  fun Γ p h1 h2 h3 => Sem.wp_mono M Γ t (fun a _ s => hQ a s) (fun e _ s => hE e s) p s (h Γ p h1 h2 h3)
theorem P_pure {a : α} {Q : α → Shared → Prop} (h : Q a s) : wpP M A (pure a) Q E s := fun _ _ _ _ _ => h
theorem P_bind {m : Sem α} {f : α → Sem β} {Q : β → Shared → Prop} (h : wpP M A m (fun a s' => wpP M A (f a) Q E s') E s) : wpP M A (m >>= f) Q E s := fun Γ p h1 h2 h3 => by
  rw [Sem.wp_bind']
  exact Sem.wp_mono M Γ m (fun a p' s' h' => h' Γ p' h1 h2 h3) (fun _ _ _ h' => h') p s (h Γ p h1 h2 h3)
theorem P_bindA {m : Sem α} {f : α → Sem β} {Q : β → Shared → Prop} (h : wpAny M A m (fun a s' => wpP M A (f a) Q E s') E s) : wpP M A (m >>= f) Q E s := P_bind (P_lift h)
theorem P_onRaise {m : Sem α} {k : Value → Sem Unit} {Q : α → Shared → Prop} (h : wpP M A m Q (fun e s' => wpAny M A (k e) (fun _ s'' => E e s'') E s') s) : wpP M A (m.onRaise k) Q E s := fun Γ p h1 h2 h3 => by
  rw [Sem.wp_onRaise]
  exact Sem.wp_mono M Γ m (fun _ _ _ h' => h') (fun e p' s' h' => h' Γ p' h1) p s (h Γ p h1 h2 h3)
theorem P_attempt {m : Sem α} {Q : Except Value α → Shared → Prop} (h : wpP M A m (fun a => Q (.ok a)) (fun e => Q (.error e)) s) : wpP M A m.attempt Q E s := fun Γ p h1 h2 h3 => by
  rw [Sem.wp_attempt]; exact h Γ p h1 h2 h3
theorem P_holding {vs : List Value} {m : Sem α} {Q : α → Shared → Prop} (h : wpP M A m Q E s) : wpP M A (holding vs m) Q E s := fun Γ p h1 h2 h3 => by
  rw [Sem.wp_holding]; exact h Γ p h1 h2 h3
theorem P_keep {vs : List Value} {m : Sem α} {Q : α → Shared → Prop} (h : wpP M A m Q E s) : wpP M A (m.keep vs) Q E s := fun Γ p h1 h2 h3 => by
  rw [Sem.wp_keep]; exact h Γ p h1 h2 h3
theorem P_standAt {pos : Pos} {Q : Unit → Shared → Prop} (h : Q () s) : wpP M A (standAt pos) Q E s := fun _ _ _ _ _ => h
theorem P_ite {c : Prop} [Decidable c] {a b : Sem α} {Q : α → Shared → Prop} (h : if c then wpP M A a Q E s else wpP M A b Q E s) : wpP M A (if c then a else b) Q E s := by split <;> simp_all
theorem P_run {c : Code} {h : Option Value} {Q : Flow → Shared → Prop} (hc : codeP M (A.mark h) c (fun r s' => match r with | .ok f => Q f s' | .error e => E e s') s) (hnb : h ≠ some byPass := by intro x; cases x) :
    wpP M A (run c h) Q E s := fun Γ p h1 h2 h3 => by
  rw [Sem.wp_run]
  refine hc _ p rfl (h1.enter c h p hnb) fun q hq => ?_
  rcases List.mem_cons.mp hq with rfl | hq
  · exact h2
  · exact h3 q hq
theorem P_runValue {c : Code} {Q : Value → Shared → Prop} (hc : codeP M A c (fun r s' => match r with | .ok (.ret v) => Q v s' | .ok _ => False | .error e => E e s') s) : wpP M A (runValue c) Q E s := fun Γ p h1 h2 h3 => by
  rw [Sem.wp_runValue]
  refine hc _ p rfl (h1.enter c none p (by intro x; cases x)) fun q hq => ?_
  rcases List.mem_cons.mp hq with rfl | hq
  · exact h2
  · exact h3 q hq
theorem P_call {f : Value} {pos : List Value} {kw : List (Str × Value)} {Q : Value → Shared → Prop}
    (hc : codeP M A (.call f ⟨pos, kw⟩) (fun r s' => match r with | .ok (.ret v) => Q v s' | .ok _ => False | .error e => E e s') s) : wpP M A (call f pos kw) Q E s := P_runValue hc
theorem P_of_tree {c : Code} {R : Result → Shared → Prop} (hd : Dec c = false)
    (h : wpP M (A.under c) (M.den c) (fun fin s' => match fin with | .done f => R (.ok f) s' | .again c' => c'.quiet = true ∧ codeP M A c' R s') (fun e s' => R (.error e) s') s) : codeP M A c R s := fun Γ p hc hΓ hcl => by
  rw [wpCode_iff_wp, hc]
  refine Sem.wp_mono M Γ _ (fun fin p' s' h' => ?_) (fun _ _ _ h' => h') p s (h Γ p (hc ▸ hΓ.in) (by rw [hc]; exact hd) hcl)
  cases fin with
  | done f => exact h'
  | again c' => exact ⟨h'.1, h'.2 (Γ.goto c') p' rfl (hΓ.goto c') hcl⟩
theorem P_codeMono {c : Code} {R R' : Result → Shared → Prop} (h : codeP M A c R s) (hR : ∀ r s, R r s → R' r s) : codeP M A c R' s := fun Γ p hc hΓ hcl => wpCode_mono hR (h Γ p hc hΓ hcl)
/-- the stack holds no activation that a test true of guards and decoders alone would find -/
theorem P_stackAny {f : Code × Pos → Bool} {Q : Bool → Shared → Prop} (hg : A.guards = some []) (hf : ∀ c p, c.isGuard = false → Dec c = false → f (c, p) = false) (h : Q false s) :
    wpP M A (do return (← stack).any f) Q E s := fun Γ p h1 h2 h3 => by
  show Q (((Γ.code, p) :: Γ.below).any f) s
  have hgs : guardsOf ((Γ.code, p) :: Γ.below) = [] := by rw [guardsOf_cons]; exact h1.2.2.2.1 [] hg
  have all : ∀ l : List (Code × Pos), guardsOf l = [] → Cl l → l.any f = false := by
    intro l
    induction l with
    | nil => intro _ _; rfl
    | cons q l ih =>
      obtain ⟨c, p'⟩ := q
      intro hgl hcl
      rw [guardsOf_cons] at hgl
      obtain ⟨ha, hb⟩ := List.append_eq_nil_iff.mp hgl
      have hcg : c.isGuard = false := by
        cases z : c.isGuard with
        | false => rfl
        | true => simp [Code.guards, z] at ha
      rw [List.any_cons, hf c p' hcg (hcl _ (.head _)), ih hb fun q hq => hcl q (.tail _ hq)]; rfl
  rw [all _ hgs (fun q hq => by
    rcases List.mem_cons.mp hq with rfl | hq
    · exact h2
    · exact h3 q hq)]
  exact h
end
end
section
open Sem (wp)
section
variable {α β : Type} {M : Model} {A : Around} {E : Value → Shared → Prop} {s : Shared} {env : Env}
theorem P_execs_cons {st : Stmt} {rest : List Stmt} {Q : Flow → Shared → Prop} (h : wpP M A (exec st env) (fun f s' => match f with | .next => wpP M A (execs rest env) Q E s' | f => Q f s') E s) :
    wpP M A (execs (st :: rest) env) Q E s := by
  rw [execs_cons]
  refine P_bind (P_mono h (fun f s' h' => ?_) fun _ _ x => x)
  cases f <;> first | exact h' | exact P_pure h'
/-- a plain statement: its walk is K's, what is behind it is ours -/
theorem P_stmt {st : Stmt} {rest : List Stmt} {Q : Flow → Shared → Prop} (h : wpAny M A (exec st env) (fun f s' => match f with | .next => wpP M A (execs rest env) Q E s' | f => Q f s') E s) :
    wpP M A (execs (st :: rest) env) Q E s := P_execs_cons (P_lift h)
theorem P_Expr {e : Expr} {pos : Pos} {Q : Flow → Shared → Prop} (h : wpP M A (eval e env) (fun v s' => v = .none ∧ Q .next s') E s)
    (hi : interactive env = false := by rfl) (hs : swapsWith e none pos.line env = pure false := by rfl) : wpP M A (exec (.Expr e pos) env) Q E s := by
  rw [exec_Expr env e pos hi hs]
  refine P_bind (P_standAt (P_bind (P_mono h (fun v s' h' => ?_) fun _ _ x => x)))
  obtain ⟨rfl, hq⟩ := h'
  rw [dropValue_plain (fun a => by intro z; cases z)]
  exact P_pure hq
theorem P_Return {e : Expr} {pos : Pos} {Q : Flow → Shared → Prop} (h : wpP M A (eval e env) (fun v => Q (.ret v)) E s) : wpP M A (exec (.Return (some e) pos) env) Q E s := by
  rw [exec_Return_some]
  exact P_bind (P_standAt (P_bind (P_mono h (fun _ _ x => P_pure x) fun _ _ x => x)))
theorem P_Assign_Name {x : Str} {pos' pos : Pos} {value : Expr} {Q : Flow → Shared → Prop} (h : wpP M A (eval value env) (fun v s₁ => wpAny M A (storeName env x v) (fun _ => Q .next) E s₁) E s)
    (hs : swapsWith value (some (.Name x pos')) pos.line env = pure false := by rfl) : wpP M A (exec (.Assign [.Name x pos'] value pos) env) Q E s := by
  rw [exec_Assign_Name env x pos' value pos hs]
  refine P_bind (P_standAt (P_bind (P_mono h (fun v s₁ h₁ => ?_) fun _ _ x => x)))
  exact P_bind (P_standAt (P_bindA (wpAny_bindName (wpAny_mono h₁ (fun _ _ x => P_pure x) fun _ _ x => x))))
theorem P_Assign_Attr {o value : Expr} {attr : Str} {pos' pos : Pos} {Q : Flow → Shared → Prop}
    (h : wpP M A (eval value env) (fun v s₁ => wpAny M A (eval o env) (fun ov s₂ => wpAny M A (setAttr ov attr v) (fun _ => Q .next) E s₂) E s₁) E s)
    (hs : swapsWith value (some (.Attribute o attr pos')) pos.line env = pure false := by rfl) : wpP M A (exec (.Assign [.Attribute o attr pos'] value pos) env) Q E s := fun Γ p h1 h2 h3 => by
  simp only [plainObj_exec_Assign_Attribute o attr pos' value pos hs, assign_Attribute, Sem.wp_bind', Sem.wp_holding, Sem.wp_cmd_standAt, Sem.wp_release, Sem.wp_pure']
  exact Sem.wp_mono M Γ _ (fun v p₁ s₁ k₁ => Sem.wp_mono M Γ _ (fun ov _ s₂ k₂ => k₂ Γ _ h1) (fun _ _ _ x => x) _ _ (k₁ Γ p₁ h1)) (fun _ _ _ x => x) _ _ (h Γ _ h1 h2 h3)
theorem P_If {test : Expr} {body orelse : List Stmt} {pos : Pos} {Q : Flow → Shared → Prop}
    (h : wpP M A (isTrue test env (eval test env)) (fun b s₂ => if b then wpP M A (execs body env) Q E s₂ else wpP M A (execs orelse env) Q E s₂) E s) : wpP M A (exec (.If test body orelse pos) env) Q E s := by
  rw [exec_If]
  refine P_bind (P_standAt (P_bind (P_mono h (fun b s₂ h₂ => ?_) fun _ _ x => x)))
  cases b <;> exact h₂
theorem P_IfA {test : Expr} {body orelse : List Stmt} {pos : Pos} {Q : Flow → Shared → Prop}
    (h : wpAny M A (isTrue test env (eval test env)) (fun b s₂ => if b then wpP M A (execs body env) Q E s₂ else wpP M A (execs orelse env) Q E s₂) E s) : wpP M A (exec (.If test body orelse pos) env) Q E s := P_If (P_lift h)
theorem P_isTrue_Compare1 {l r : Expr} {op : CmpOp} {pos : Pos} {whole : Sem Value} {Q : Bool → Shared → Prop}
    (h : wpP M A (eval l env) (fun a s₁ => wpAny M A (eval r env) (fun b s₂ => wpAny M A (compareOp op a b) (fun c s₃ => wpAny M A (truthy c) Q E s₃) E s₂) E s₁) E s)
    (hm : behindInMarks op r = false := by with_unfolding_all rfl) : wpP M A (isTrue (.Compare l [op] [r] pos) env whole) Q E s := fun Γ p h1 h2 h3 => by
  simp only [isTrue_Compare1, markedBehindIn_of_false hm, Sem.wp_bind', Sem.wp_holding, Sem.wp_cmd_standAt, Sem.wp_operate]
  exact Sem.wp_mono M Γ _ (fun a p₁ s₁ k₁ => Sem.wp_mono M Γ _ (fun b _ s₂ k₂ => Sem.wp_mono M Γ _ (fun c p₃ s₃ k₃ => k₃ Γ p₃ h1)
    (fun _ _ _ x => x) _ _ (k₂ Γ _ h1)) (fun _ _ _ x => x) _ _ (k₁ Γ p₁ h1)) (fun _ _ _ x => x) _ _ (h Γ p h1 h2 h3)
theorem P_runOwn {c : Code} {h : Option Value} {Q : Flow → Shared → Prop} (hc : codeP M (A.mark h) c (fun r s' => match r with | .ok f => Q f s' | .error e => cameBackBy M A env E e s') s) (hnb : h ≠ some byPass := by intro x; cases x) :
    wpP M A (runOwn c env h) Q E s := by
  unfold runOwn
  exact P_onRaise (P_run hc hnb)
theorem P_While {test : Expr} {body orelse : List Stmt} {pos : Pos} {Q : Flow → Shared → Prop}
    (h : codeP M A (.whileLoop test body orelse env) (fun r s' => match r with | .ok f => Q f s' | .error e => cameBackBy M A env E e s') s) : wpP M A (exec (.While test body orelse pos) env) Q E s := by
  rw [exec_While]; exact P_bind (P_standAt (P_runOwn h))
theorem P_noted {m : Sem α} {Q : α → Shared → Prop} (h : wpP M A m Q (notedBy M A env E) s) : wpP M A (m.onRaise fun x => do noteFrame x env; theTreesLotGoes x) Q E s :=
  P_onRaise (P_mono h (fun _ _ q => q) fun _ _ hx => wpAny_bind (wpAny_mono hx (fun _ _ e => wpAny_theTreesLotGoes e) fun _ _ e => e))
theorem P_methodCall {o : Expr} {name : Str} {apos pos : Pos} {args : List Expr} {kws : List Keyword} {pl : Sem Bool} {Q : Value → Shared → Prop}
    (h : wpAny M A (eval o env) (fun ov s₁ => wpAny M A (getMethod ov name pl) (fun fx s₂ => wpP M A (callWith pos fx.1 fx.2 (backTo pos (starEach args env)) (backToKw pos (keywordEach kws env))) Q E s₂) E s₁) E s)
    (he : eval (.Call (.Attribute o name apos) args kws pos) env = (do
      let ov ← eval o env
      standAt apos.atName
      let (f, first) ← holding [ov] (getMethod ov name pl)
      callWith pos f first (backTo pos (starEach args env)) (backToKw pos (keywordEach kws env))) := by rfl) :
    wpP M A (eval (.Call (.Attribute o name apos) args kws pos) env) Q E s := by
  rw [he]
  refine P_bindA (wpAny_mono h (fun ov s₁ h₁ => P_bind (P_standAt (P_bindA (wpAny_holding (wpAny_mono h₁ (fun fx s₂ h₂ => ?_) fun _ _ x => x))))) fun _ _ x => x)
  exact h₂
/-- a call's tail: whatever keeps the callee, the call is the call -/
theorem P_callWith {pos : Pos} {f : Value} {first : List Value} {args : List (Bool × Sem Value)} {P : Heap → Prop} {Q : Value → Shared → Prop} (hplain : args.any (·.1) = false)
    (hk : ∀ h, P h → ∃ k, (k = Keeper.frame ∨ k = Keeper.machine ∨ k = Keeper.boundFrame) ∧ Looks M h (keeperOf f) k)
    (h : wpP M A (evalArgs f true args []) (fun a s₁ => P s₁.heap ∧ wpP M A (call f (first ++ a.pos) a.kw) Q E s₁) E s) : wpP M A (callWith pos f first args []) Q E s := by
  unfold callWith
  refine P_bind (P_holding (P_mono h (fun a s₁ h₁ => P_bind (P_standAt ?_)) fun _ _ x => x))
  obtain ⟨k, hk', L⟩ := hk _ h₁.1
  simp only [hplain, List.any_nil, Bool.or_false]
  have tail : ∀ {t : Sem Value}, wpP M A t Q E s₁ → wpP M A (t >>= fun r => holding [r] point >>= fun _ => pure r) Q E s₁ :=
    fun ht => P_bind (P_mono ht (fun r s₂ hr => P_bindA (wpAny_holding (wpAny_point (P_pure hr)))) fun _ _ x => x)
  have marked (mk : Value) : wpP M A (callMarked mk f (first ++ a.pos) a.kw) Q E s₁ := by unfold callMarked; exact P_keep h₁.2
  refine P_bindA (L.here ?_)
  rcases hk' with rfl | rfl | rfl <;> dsimp only <;> first | exact tail h₁.2 | (split <;> first | exact tail h₁.2 | exact tail (marked _))
theorem P_evalArgs_nil {f : Value} {Q : Args → Shared → Prop} (h : Q ⟨[], []⟩ s) : wpP M A (evalArgs f true [] []) Q E s := P_lift (evalArgs_nil3 h)
theorem P_evalArgs {f : Value} {x : Sem Value} {rest : List (Bool × Sem Value)} {Q : Args → Shared → Prop} (h : wpP M A (spliced ((false, x) :: rest)) (fun vs s' => Q ⟨vs, []⟩ s') E s) :
    wpP M A (evalArgs f true ((false, x) :: rest) []) Q E s := by
  unfold evalArgs
  show wpP M A (spliced ((false, x) :: rest) >>= _) Q E s
  refine P_bind (P_mono h (fun vs s' h' => ?_) fun _ _ x => x)
  exact P_holding (P_bind (P_pure (P_bind (P_pure (P_pure h')))))
theorem P_spliced_nil {Q : List Value → Shared → Prop} (h : Q [] s) : wpP M A (spliced []) Q E s := P_pure h
theorem P_spliced_cons {x : Sem Value} {rest : List (Bool × Sem Value)} {Q : List Value → Shared → Prop}
    (h : wpP M A x (fun v s₁ => wpP M A (spliced rest) (fun vs s₂ => Q (v :: vs) s₂) E s₁) E s) : wpP M A (spliced ((false, x) :: rest)) Q E s := by
  rw [spliced]
  refine P_bind (P_mono h (fun v s₁ h₁ => ?_) fun _ _ x => x)
  simp only [Bool.false_eq_true, if_false]
  exact P_bind (P_pure (P_bind (P_holding (P_mono h₁ (fun vs s₂ h₂ => P_pure h₂) fun _ _ x => x))))
end
section
variable {prog : Program} {w : World} {A : Around} {R : Result → Shared → Prop} {s : Shared}
theorem P_func {body : List Stmt} {env : Env} (h : wpP (model prog w) (A.deeper env) (execs body env) (fun f s' => R (.ok (.ret (match f with | .ret v => v | _ => .none))) s')
      (fun e s' => wpAny (model prog w) (A.deeper env) (leaving env e) (fun _ s'' => R (.error e) s'') (fun e' s'' => R (.error e') s'') s') s) : codeP (model prog w) A (.func body env) R s := by
  refine P_of_tree rfl ?_
  show wpP _ (A.deeper env) (do point; match ← (execs body env).onRaise (leaving env) with | .ret v => ret v | _ => ret .none) _ _ s
  refine P_bindA (wpAny_point (P_bind (P_onRaise (P_mono h (fun f s' h' => ?_) fun _ _ h' => h'))))
  cases f <;> exact P_pure h'
theorem P_call_function {a : Addr} {args : Args} {o : Obj} {fd : FuncData} {body : List Stmt} (hroom : A.depth < recursionLimit) (ho : s.heap.get? a = some o)
    (hd : o.data = .func fd) (hco : fd.scope.isCoroutine = false) (hgen : fd.scope.isGenerator = false) (hbody : fd.body = .stmts body) (hcd : s.heap.CodeRec fd.code fd.qualname)
    (h : wpAny (model prog w) A.in1 (bindArgs fd args) (fun binds s₁ =>
      wpAny (model prog w) A.in1 (newFunctionEnv fd.scope fd.globals fd.closure binds (fd.qualname ++ ".<locals>.") (some a) fd.code none fd.builtins)
        (fun env s₂ => s₂.heap.NoLimit ∧ codeP (model prog w) A (.func body env) R s₂) (fun e s' => R (.error e) s') s₁) (fun e s' => R (.error e) s') s) :
    codeP (model prog w) A (.call (.ref a) args) R s := by
  refine P_of_tree rfl ?_
  show wpP _ A.in1 (callAny (.ref a) args) _ _ s
  simp only [callAny]
  refine P_bindA (wpAny_load ho ?_)
  obtain ⟨c, oc, vs, tq, hc, hoc, hdc, hq⟩ := hcd
  simp only [hd, callFunction, hco, hgen, hbody, hc]
  rw [hc] at h
  refine P_bindA (m := field (.ref c) 1) (wpAny_field hoc hdc hq (P_bind (P_pure ?_)))
  exact P_bindA (wpAny_mono h (fun binds s₁ h₁ => P_bindA (wpAny_mono h₁ (fun env s₂ h₂ => P_bindA (wpAny_enterFrame h₂.1 hroom
    (P_pure (And.intro rfl h₂.2)))) fun _ _ h' => h')) fun _ _ h' => h')
theorem P_call_def {a : Addr} {o : Obj} {fd : FuncData} {body : List Stmt} {args : Args} {binds : List (Str × Value)}
    (hroom : A.depth < recursionLimit) (ho : s.heap.get? a = some o) (hdata : o.data = .func fd) (hlim : s.heap.NoLimit) (hcd : s.heap.CodeRec fd.code fd.qualname)
    (hbody : fd.body = .stmts body) (hbind : BindsTo s fd args binds)
    (hcell : ∀ x ∈ fd.scope.names, x.2 ≠ .cell) (hloc : ∀ x ∈ binds, fd.scope.names.lookup x.1 = some .local)
    (h : ∀ h₀, h₀.Ns s.heap.objs.size (fun x => binds.reverse.lookup x) → (∀ b o, s.heap.get? b = some o → h₀.get? b = some o) →
      wpP (model prog w) (A.deeper (callEnv fd s.heap.objs.size a)) (execs body (callEnv fd s.heap.objs.size a)) (fun f s' => R (.ok (.ret (match f with | .ret v => v | _ => .none))) s')
        (fun e s' => wpAny (model prog w) (A.deeper (callEnv fd s.heap.objs.size a)) (leaving (callEnv fd s.heap.objs.size a) e) (fun _ s'' => R (.error e) s'') (fun e' s'' => R (.error e') s'') s')
        { s with heap := h₀, toks := s.toks + binds.length })
    (hco : fd.scope.isCoroutine = false := by rfl) (hgen : fd.scope.isGenerator = false := by rfl) (hk : fd.scope.kind = .function := by rfl) :
    codeP (model prog w) A (.call (.ref a) args) R s := by
  refine P_call_function hroom ho hdata hco hgen hbody hcd (hbind _ _ _ _ ?_)
  refine wpAny_newFunctionEnv hcell hloc (fun h₀ hns₀ hsb₀ => ⟨hlim.fresh _ hsb₀, P_func (h h₀ hns₀ fun b o e => ?_)⟩) hk
  exact hsb₀.extBut b o (Nat.ne_of_lt (Heap.lt_size e)) (Heap.get?_push_of_some _ e)
/-- one turn of a while -/
theorem P_turn {test : Expr} {body : List Stmt} {env : Env}
    (h : wpP (model prog w) A (isTrue test env (eval test env)) (fun b s₂ => if b then wpP (model prog w) A (execs body env) (fun f s₃ => match f with
        | .next | .cont => codeP (model prog w) A (.whileLoop test body [] env) R s₃
        | .brk => R (.ok .next) s₃
        | .ret v => R (.ok (.ret v)) s₃) (notedBy (model prog w) A env fun x s₃ => R (.error x) s₃) s₂ else R (.ok .next) s₂) (notedBy (model prog w) A env fun x s₂ => R (.error x) s₂) s) :
    codeP (model prog w) A (.whileLoop test body [] env) R s := by
  refine P_of_tree rfl ?_
  show wpP _ A ((whileTurn test body [] env).onRaise (fun x => do noteFrame x env; theTreesLotGoes x)) _ _ s
  refine P_noted ?_
  unfold whileTurn
  refine P_bind (P_mono h (fun b s₂ h₂ => ?_) fun _ _ x => x)
  cases b with
  | true =>
    simp only [if_true] at h₂ ⊢
    refine P_bind (P_mono h₂ (fun f s₃ h₃ => ?_) fun _ _ x => x)
    cases f <;> first | exact P_pure ⟨rfl, h₃⟩ | exact P_pure h₃
  | false =>
    simp only [Bool.false_eq_true, if_false] at h₂ ⊢
    exact P_bindA (wpAny_execs_nil (P_pure h₂))
end
end
section
open Sem (wp)
noncomputable abbrev Γ₀ : PySem.Ctx := ⟨.builtin "claim.caller" {}, none, none, [], none⟩
theorem wp_at_caller {M : Model} {t : Sem Fin} {R : Result → Shared → Prop} {s : Shared}
    (h : wpP M callerA t (fun fin s' => ∃ f, fin = .done f ∧ R (.ok f) s') (fun e s' => R (.error e) s') s) (p : Pos) : wp M Γ₀ t (Sem.finPost M Γ₀ R) (fun e _ s' => R (.error e) s') p s := by
  refine Sem.wp_mono M Γ₀ t (fun fin p' s' h' => ?_) (fun _ _ _ h' => h') p s (h Γ₀ p caller_in (by decide +kernel) (fun q hq => nomatch hq))
  obtain ⟨f, rfl, hf⟩ := h'
  exact hf
/-- the law's call from the caller's own context -/
theorem callFrom_P {c : ClaimW} {tree : List Value → Sem Fin} {w : World} {s : Shared} {free : Addr → Prop} {gens : Prop} {kept : Heap → Prop} (hz : s.asleep) (hgens : s.gens = #[])
    (hspec : ∀ args, c.pre args = true → WData.layableAll args = true → ∀ ord : List DictEntry → List DictEntry, (∀ l, (ord l).Perm l) →
      ∃ vs s₁, layAllW c.records (classAt s.heap) w.params ord args s = some (vs, s₁) ∧
        wpP (model c.prog w) callerA (tree vs) (fun fin s' => ∃ f, fin = .done f ∧ (c.Ends s args vs s₁ (.ok f) s' ∧ s'.os = s.os ∧ AllBare s'.gens ∧ kept s'.heap))
          (fun e s' => c.Ends s args vs s₁ (.error e) s' ∧ s'.os = s.os ∧ AllBare s'.gens ∧ kept s'.heap) s₁) :
    c.CallFrom (fun vs => ⟨tree vs, .builtin "claim.caller" {}, default, []⟩) w free gens kept s := by
  intro args hpre hlay ord hord
  refine @opq _ ?_
  intro Gl hG
  obtain ⟨vs, s₁, hlaid, hcode⟩ := hspec args hpre hlay ord hord
  have rest := layAllW_rest _ _ _ hlaid
  have run := wp_halts_full (M := model c.prog w) (R := fun r s' => c.Ends s args vs s₁ r s' ∧ s'.os = s.os ∧ kept s'.heap) (Shared.asleep_of_life rest.2.2.2 hz)
    (wp_at_caller (R := fun r s' => (c.Ends s args vs s₁ r s' ∧ s'.os = s.os ∧ kept s'.heap) ∧ leftWithCleanup s'.gens = false)
      (P_mono hcode (fun fin s' ⟨f, e, h1, h2, h3, h4⟩ => ⟨f, e, ⟨h1, h2, h4⟩, leftWithCleanup_false_of_bare h3⟩) fun e s' ⟨h1, h2, h3, h4⟩ => ⟨⟨h1, h2, h4⟩, leftWithCleanup_false_of_bare h3⟩) default)
  obtain ⟨k, r, s'', s', hsched, hrun, hfo, hcase, hos, hkp⟩ := run
  obtain ⟨eh, _, _, eo, _⟩ := Shared.forget_eq hfo
  replace hcase := hcase.congr eh
  rw [← eh] at hkp
  rw [← eo] at hos
  have hlife : s'.heap.life = s.heap.life := (runN_life _ _ _ hrun).trans rest.2.2.2
  refine hG ⟨vs, s₁, hlaid, k, _, s', hsched, ?_, (fun _ i x hx => by rw [hgens] at hx; simp at hx), hkp, by rw [hlife], Shared.rest_eq hos⟩
  rcases hcase with ⟨v, rfl, d1, d2, d3, d4, d5⟩ | ⟨e, ob, cls, rfl, d1, d2, d3, d4, d5⟩
  · exact .inl ⟨v, rfl, d1, d2, d3, fun b o y _ => d4 b o y, d5⟩
  · exact .inr ⟨e, ob, cls, rfl, d1, d2, d3, d4, fun b o y _ => d5 b o y⟩
/-- what is to be walked: the law's call, over the contexts without a decoder's activation -/
noncomputable abbrev WalkP (q : Program) (loose : List Str) (XP : (Str → Option Value) → Heap → Prop) (YP : World → Heap → Prop) (r : RowW) (d : DefRec) (kwd : List (Str × Expr)) : Prop :=
  ∀ (w : World) (s₀ s₁ : Shared) (mg mb : Str → Option Value), Ground q loose r.records XP w s₀ mg mb s₁.heap → YP w s₁.heap → ∀ (a : Addr) (o : Obj) (pm cd doc dV kV : Value), s₁.heap.get? a = some o →
    o.data = .func { docDef d.name d.params d.body d.scope pm cd doc with defaults := dV, kwdefaults := kV } → s₁.heap.CodeRec cd d.name → Dflts mg s₁.heap d.params kwd dV kV → mg d.name = some (.ref a) → s₁.gens = #[] →
    ∀ (args : List WData) (vals : List Value) (as : List Addr), r.claim.pre args = true → WData.layableAll args = true → ReadsAllW r.records (classAt s₀.heap) s₁.heap vals args as → WellAll w.params s₁.heap vals args → (∀ a ∈ as, (a == sysModules) = false) →
      wpP (model r.prog w) callerA (PySem.call (.ref a) vals) (fun v s' => GoodWG r.claim (classAt s₀.heap) (ExcName.means s₀.heap) args s₁ (.ok (.ret v)) s')
        (fun e s' => GoodWG r.claim (classAt s₀.heap) (ExcName.means s₀.heap) args s₁ (.error e) s') s₁
theorem PySem.W.holds_open {r : OpenRow} {q : Program} {loose : List Str} {Xt : Shared → Bool} {XP : (Str → Option Value) → Heap → Prop} {α : Type} {Yf : Shared → α} {Ya : World → α} {YP : World → Heap → Prop} {d : DefRec} {kwd : List (Str × Expr)} {N : Nat}
    (_ : True) (hY : ∀ w s, Yf s = Ya w → YP w s.heap) (hYk : ∀ w h h', YP w h → (∀ b o, h.get? b = some o → h'.get? b = some o) → YP w h')
    (hX : ∀ s, Xt s = true → XP (s.heap.nsMap mainGlobals) s.heap) (hXk : ∀ mg h h', XP mg h → (∀ b o, h.get? b = some o → h'.get? b = some o) → XP mg h')
    (hdef : defOf q r.name = some (d, kwd)) (hp : r.prog.theDef r.name = some (d.params, d.body, d.scope)) (hk : kwWritten? d.params.kwonlyargs d.params.kw_defaults = some kwd) (hRf : ∀ s, Xt s = true → RecFacts r.records s.heap) (hwr : (!r.writes || r.records.isEmpty) = true)
    (k1 : r.wellSaid = true) (ok : (chainsOk q && opensWell r.prog && (frees r.toRowW && r.within.isEmpty)) = true) (hb : r.prog.bare) (hw : r.toRowW.promised)
    (walk : LeftO r.prog q loose Xt Yf Ya N ∧ WalkP q loose XP YP r.toRowW d kwd) : r.Holds := by
  obtain ⟨left, walk⟩ := walk
  simp only [Bool.and_eq_true] at ok
  obtain ⟨⟨hch, o1⟩, k5, k6⟩ := ok
  obtain ⟨hsame, hu, ha, hap, hm⟩ := frees_parts k5
  refine ⟨k1, hw, ⟨hb, o1, by show r.makers.map _ = []; rw [hm]; rfl⟩, hw.witness, fun w => ⟨(left.behind hX hch w).1, fun s' hs' => ?_⟩⟩
  refine @opq _ ?_
  intro Gl hG
  obtain ⟨s₀, hf, hg0, s, hT, hz, hgens, hg, G00, y⟩ := (left.behind (XP := fun mg h => XP mg h ∧ RecFacts r.records h) (fun s hs => ⟨hX s hs, hRf s hs⟩) hch w).2 s' hs'
  have G0 : Ground q loose [] XP w s (s.heap.nsMap mainGlobals) (s.heap.nsMap builtinsNs) s.heap := ⟨G00.T, G00.B, G00.D, G00.TE, G00.TD, G00.W, G00.X.1, G00.cls, G00.has, G00.apart, G00.once, G00.K⟩
  have hgens : s.gens = #[] := Array.eq_empty_of_size_eq_zero (beq_iff_eq.mp hgens)
  have G := G00.X.2.ground G0
  refine hG ⟨s₀, hf, hg0, s, hT, fun n hn => ?_, G00.X.2.1, G00.X.2.2.1, ?_⟩
  · obtain rfl : n = r.name := by split at hn <;> simp_all
    exact pinned_of_view hg G0 hdef hp hk
  refine callFrom_P (c := r.claim) hz hgens fun args hpre hlay ord hord => ?_
  refine @opq _ ?_
  intro Gl hG
  obtain ⟨⟨vs, s₁⟩, hlaid⟩ := Option.isSome_iff_exists.mp (layAllW_isSome (P := w.params) (ord := ord) G.has args r.args s (pre_splitW hpre).1)
  have keeps := layAllW_keeps _ _ _ hlaid
  have rest := layAllW_rest _ _ _ hlaid
  obtain ⟨as, hrd, hin, hold⟩ := reads_layAllW hord _ _ _ hlaid hlay s₁.heap (fun _ _ e => e)
  have L : Laid r.records w s s₁ args vs as := ⟨⟨ord, hord, hlaid⟩, hrd, hin, hold, keeps, rest.1.trans hgens, rest.2.2.1⟩
  have G₁ := G.keeps hXk keeps
  obtain ⟨a, o, pm, cd, doc, dV, kV, h1, h2, h3, h4, h5⟩ := G₁.fn hdef
  have h := walk w s s₁ _ _ G₁ (hYk _ _ _ (hY w s y) keeps) a o pm cd doc dV kV h2 h3 h4 h5 (defOf_name hdef ▸ h1) L.gens args vs as hpre hlay L.reads L.well (L.low G.low)
  have hi := ident_freeW hu ha hap
  have hwi : r.claim.within = [] := List.isEmpty_iff.mp k6
  refine hG ⟨vs, s₁, hlaid, ?_⟩
  show wpP _ callerA (nsGet mainNs r.name >>= _) _ _ s₁
  refine P_bindA (wpAny_nsGet G₁.T.g ?_)
  rw [h1]
  refine P_bind (P_mono h (fun v s' g => P_pure ⟨_, rfl, ?_⟩) fun e s' g => ?_)
  · have z := g.laid (c := r.claim) hsame hwi hi L
    exact ⟨z.1, z.2.1, z.2.2, fun q => ⟨namesKept_of hT hg r.keeps keeps g.2.1.old, noTable hwr q⟩⟩
  · have z := g.laid (c := r.claim) hsame hwi hi L
    exact ⟨z.1, z.2.1, z.2.2, fun q => ⟨namesKept_of hT hg r.keeps keeps g.2.1.old, noTable hwr q⟩⟩
end
section
local macro_rules | `(tactic| o_law) => `(tactic| refine holds_law (by kernel_rfl) fun said => ?_)
-- the look at the top is our own (left, below): the head leaves it as a premise
set_option hygiene false in
local macro_rules | `(tactic| o_head ($f $k $a $e $l)) => `(tactic| ((have : True := ?hl); (any_goals (exact trivial)); clear this; o_head (id ($f $k $a $e $l))))
set_option maxRecDepth 100000 in
set_option maxHeartbeats 8000000 in
open_top hd for PySem.Challenge.rw_pq0682_01
end
section
noncomputable abbrev pr : Program := (OpenRow.toRowW (OpenLaw.row PySem.Challenge.rw_pq0682_01)).1
noncomputable abbrev pos0 : Pos := ⟨0, 0, 0, 0⟩
noncomputable def env0 : Env := { scope := pr.main.scope, locals := mainNs, globals := mainNs, cells := [], code := .ref 13, frame := some 14 }
noncomputable abbrev cE : Code := .body (behindTheImports pr) env0
noncomputable def o11 : Obj := { cls := .type "tuple", data := .seq #[] }
noncomputable def o12 : Obj := { cls := .none, data := .fields #[] }
noncomputable def o13 : Obj := { cls := .type "code", data := .fields #[.str (Str.ofString "<module>") 182, .str (Str.ofString "<module>") 183, .str (Str.ofString "/claim/cut.py") 184, .int 1 0, .int 0 0, .int 0 0, .int 0 0, .int 0 0, .ref 11, .bool false, .int 181 0, .ref 12,
  .none, .none, .none, .none, .int 185 0, .int 1 0, .str (Str.ofString "/claim/cut.py") 186] }
noncomputable def o14 : Obj := { cls := .type "frame", slots := #[some (.ref 13), some (.ref 3), some (.ref 3), none, some (.str (Str.ofString "__main__") 164), none, some (.ref 0)] }
noncomputable def heapA (P : Params) : Heap := { objs := ⟨[boot_o_0 P, boot_o_1 P, boot_o_2 P, boot_o_3 P, boot_o_4 P, boot_o_5 P, boot_o_6 P, boot_o_7 P, boot_o_8 P, boot_o_9 P, boot_o_10 P, o11, o12, o13, o14]⟩ }
noncomputable def treeA (P : Params) : BT :=
  .node (boot_o_0 P) (.node (boot_o_1 P) (.node (boot_o_3 P) (.node (boot_o_7 P) .nil .nil) (.node o11 .nil .nil)) (.node (boot_o_5 P) (.node (boot_o_9 P) .nil .nil) (.node o13 .nil .nil)))
    (.node (boot_o_2 P) (.node (boot_o_4 P) (.node (boot_o_8 P) .nil .nil) (.node o12 .nil .nil)) (.node (boot_o_6 P) (.node (boot_o_10 P) .nil .nil) (.node o14 .nil .nil)))
noncomputable abbrev ann0 : Option Value := some (.ref 6)
noncomputable abbrev loose0 : List Str := [Str.ofString "is_blank_values", Str.ofString "RESERVED", Str.ofString "OTHER_TEXTS", Str.ofString "is_blank_lexer"]
/-- what is looked at, at the top's end -/
noncomputable def lookd {α : Type} (Yf : Shared → α) (h : Heap) (s : Shared) :=
  (staticsOk (importedModules pr.main.body) h s.heap && namesBound pr s.heap && gensDone s && laidKept h s.heap,
   openSeen hd.view_1 loose0 (importedModules pr.main.body) (fun s => xlAt hd.view_1 [] s && recOk (RowW.records (OpenRow.toRowW (OpenLaw.row PySem.Challenge.rw_pq0682_01))) s) true s, Yf s)
noncomputable abbrev at0 (w : World) (os : OsState) : SharedT := ⟨treeA w.params, 15, {}, #[], {}, 187, os⟩
theorem preL : ∀ w : World, (fun os => topGo treeTable pr w 11 ann0 12 { heap := boot_heap w.params, drawn := boot_drawn, toks := boot_toks, os := os } (topStub pr)) =
    fun os => some ({ heap := heapA w.params, toks := 187, os := os }, ⟨denote treeTable cE, cE, pos0, [topFrame pos0]⟩) := fun w => by kernel_rfl
theorem blockL : ∀ w : World, (fun os => segRun treeTable pr w 11 ann0 1 1 { heap := heapA w.params, toks := 187, os := os } (blockOf (behindTheImports pr) env0 cE pos0 [topFrame pos0])) =
    fun os => some (Flow.next, (at0 w os).abs, cE, pos0) := fun w => by kernel_rfl
end
section
noncomputable abbrev SegR := (String → Option Builtin) → Program → World → Nat → Option Value → Nat → Nat → SharedT → Thread → Option (Flow × SharedT × Code × Pos)
noncomputable abbrev TopR := (String → Option Builtin) → Program → World → Nat → Option Value → Nat → Shared → Thread → Option Shared
/-- the top's run from behind its frame: the flow and the code it ends with, and the state behind it -/
noncomputable def runF (sr : SegR) (tr : TopR) (tb : String → Option Builtin) (w : World) (os : OsState) : Option ((Flow × Code) × Shared) :=
  (sr tb pr w 11 ann0 1 3400 (at0 w os) (piecesOf (behindTheImports pr) env0 cE pos0 [topFrame pos0])).bind fun x =>
    (tr tb pr w 11 ann0 2 x.2.1.abs ⟨doneF x.1, x.2.2.1, x.2.2.2, [topFrame pos0]⟩).map fun s => ((x.1, x.2.2.1), s)
noncomputable abbrev runN := runF segRunT topRun treeTable
theorem run_tw : runN = runF Fast.tw10110043849684766642 Fast.tw14082659384304107361 Fast.tw14364793385576792824 := by
  unfold runN
  rw [Fast.te10110043849684766642, Fast.te14082659384304107361, Fast.te14364793385576792824]
noncomputable abbrev Xt0 (s : Shared) : Bool := xlAt hd.view_1 [] s && recOk (RowW.records (OpenRow.toRowW (OpenLaw.row PySem.Challenge.rw_pq0682_01))) s
theorem lookAC (w : World) : (fun os => (runN w os).map fun y => ((y.1, staticsOk (importedModules pr.main.body) (boot_heap w.params) y.2.heap && namesBound pr y.2.heap && gensDone y.2 && laidKept (boot_heap w.params) y.2.heap), ((hd.heap_1 w.params).map fun q => y.2.heap.get? q.1, [506].map y.2.heap.get?))) =
    fun _ => some (((Flow.next, cE), true), ((hd.heap_1 w.params).map fun p => some p.2, [506].map fun _ => some (tabObj #[]))) := by
  rw [run_tw]; kernel_rfl
theorem lookB (w : World) : (fun os => (runN w os).map fun y => openSeen hd.view_1 loose0 (importedModules pr.main.body) Xt0 true y.2) = fun _ => some (openGood hd.view_1 loose0) := by
  rw [run_tw, Fast.te4187177175401517315]; kernel_rfl
end
/-- a def with cells, over P -/
theorem P_call_cells {prog : Program} {w : World} {A : Around} {R : Result → Shared → Prop} {s : Shared} {name : Str} {params : Arguments} {body : List Stmt} {scope : Scope}
    {pm cd doc : Value} {a : Addr} {o : Obj} {args : List Value} {binds : List (Str × Value)}
    (hroom : A.depth < recursionLimit) (ho : s.heap.get? a = some o) (hdata : o.data = .func (docDef name params body scope pm cd doc)) (hlim : s.heap.NoLimit) (hcd : s.heap.CodeRec cd name)
    (hbind : bindArgs (docDef name params body scope pm cd doc) ⟨args, []⟩ = pure binds)
    (hkind : ∀ x ∈ binds, scope.names.lookup x.1 = some .local ∨ (scope.names.lookup x.1 = some .cell ∧ ((cellsFrom (s.heap.objs.size + 1) scope.names []).lookup x.1).isSome = true))
    (hnd : ((cellsFrom 0 scope.names []).map (·.1)).Nodup)
    (h : ∀ h₁ tk cells, Fr s.heap s.heap.objs.size h₁ (bindL (envOfC name scope s.heap.objs.size a cd).kindOf binds fun _ => none) → News s.heap s.heap.objs.size h₁ cells →
      CellsAre (bindC (envOfC name scope s.heap.objs.size a cd).kindOf binds fun _ => none) (cellsFrom (s.heap.objs.size + 1) scope.names []) cells →
      wpP (model prog w) (A.deeper (envOfC name scope s.heap.objs.size a cd)) (execs body (envOfC name scope s.heap.objs.size a cd))
        (fun f s' => R (.ok (.ret (match f with | .ret v => v | _ => .none))) s')
        (fun e s' => wpAny (model prog w) (A.deeper (envOfC name scope s.heap.objs.size a cd)) (leaving (envOfC name scope s.heap.objs.size a cd) e)
          (fun _ s'' => R (.error e) s'') (fun e' s'' => R (.error e') s'') s')
        { s with heap := h₁, toks := tk })
    (hco : scope.isCoroutine = false := by rfl) (hgen : scope.isGenerator = false := by rfl) (hk : scope.kind = .function := by rfl) :
    codeP (model prog w) A (.call (.ref a) ⟨args, []⟩) R s := by
  refine P_call_function hroom ho hdata hco hgen rfl hcd ?_
  rw [hbind]
  refine wpAny_pure (wpAny_newFunctionEnv_cells hk hkind fun env' he s' x => ?_)
  subst he
  refine ⟨hlim.keeps x.toInCall.keep, P_func ?_⟩
  obtain ⟨h₁, tk, rfl, _⟩ := x.done
  have hk₁ := x.toInCall.keep
  obtain ⟨cells, NC, Y⟩ := Cl.news (h₀ := s.heap) (Nat.le_refl _) fun n c hm => ⟨x.cell n c (lookup_of_mem_nodup (cellsFrom_names scope.names 0 (s.heap.objs.size + 1) [] [] rfl ▸ hnd) hm), x.above n c hm⟩
  exact h h₁ tk cells ⟨x.toInCall.ns, hk₁, Nat.le_refl _⟩ NC Y
theorem enter_P {M : Model} {A : Around} {s : Shared} {f : Value} {pos : List Value} {kw : List (Str × Value)} {c : ClaimW} {cl : Str → Option Addr} {mean : ExcName → Option Value} {args : List WData} {s₁ : Shared}
    (h : codeP M A (.call f ⟨pos, kw⟩) (GoodWG c cl mean args s₁) s) : wpP M A (PySem.call f pos kw) (fun v s' => GoodWG c cl mean args s₁ (.ok (.ret v)) s') (fun e s' => GoodWG c cl mean args s₁ (.error e) s') s :=
  P_call (P_codeMono h fun res s' g => by rcases g.1 with ⟨v, _, _, rfl, _⟩ | ⟨e, _, _, rfl, _⟩ <;> exact g)
/-- the law's end: True, all that stood stands, the table of the law's code may have grown -/
noncomputable def Good1 (s₁ : Shared) (g : Heap) (r : Result) (s' : Shared) : Prop :=
  ∃ h' tk ps, s' = { s₁ with heap := h', toks := tk } ∧ r = .ok (.ret (.bool true)) ∧ (∀ b o, g.get? b = some o → h'.get? b = some o) ∧ h'.get? 506 = some (tabObj ps)
theorem good_end {s₁ : Shared} {cl : Str → Option Addr} {mean : ExcName → Option Value} {args : List WData} {r : Result} {s' : Shared} (hT : TabsAt [(508, 506)] s₁.heap) (hg : s₁.gens = #[])
    (h : Good1 s₁ (ghostOf s₁.heap [(508, 506)]) r s') : GoodWG PySem.Challenge.rw_pq0682_01.row.claim cl mean args s₁ r s' := by
  obtain ⟨h', tk, ps, rfl, rfl, hk, hP⟩ := h
  have h0 := hT _ (.head _)
  have keep : ∀ b o, b ≠ 506 → s₁.heap.get? b = some o → h'.get? b = some o := fun b o hb e => hk b o (ghost_ne e fun hm => hb (List.mem_singleton.mp hm))
  refine ⟨.inl ⟨_, .bool true, [], rfl, fun _ => rfl, .bool _, ?post, fun _ => ⟨List.nodup_nil, fun a ha => nomatch ha⟩⟩, ⟨fun b o e => ?_, fun b o e => ?_⟩, rfl, .of_eq hg⟩
  case post => exact postW_of (by wrow_shape) (by wtm_val) (by w_fin)
  · by_cases hb : b = 506
    · subst hb
      have e2 := h0.2
      rw [e] at e2
      cases e2
      exact .inr (.inl ⟨(h0.1.tab h0.2).isCodeTable, rfl, #[], ps, rfl, by rw [Array.empty_append]; exact hP⟩)
    · exact .inl (keep b o hb e)
  · by_cases hb : b = 506
    · subst hb; exact ⟨_, hP⟩
    · exact ⟨o, keep b o hb e⟩
noncomputable abbrev amb (dp un : Nat) (fr : List Env) : Around := { handled := none, depth := dp, frames := some fr, guards := some [], units := un }
noncomputable abbrev Sub (g h : Heap) : Prop := ∀ b o, g.get? b = some o → h.get? b = some o
noncomputable abbrev Has (g h : Heap) (core : List (Addr × Obj)) : Prop := ∀ q ∈ core, h.get? q.1 = some q.2 ∧ g.get? q.1 = none
theorem le_c {n a b : Nat} (h : n ≤ a) (hb : Nat.ble a b = true) : n ≤ b := Nat.le_trans h (Nat.le_of_ble_eq_true hb)
theorem room0 {dp D : Nat} (h : dp + D < recursionLimit) : dp < recursionLimit := Nat.lt_of_le_of_lt (Nat.le_add_right _ _) h
theorem room1 {dp un D d : Nat} {fr : List Env} {env : Env} (h : dp + D < recursionLimit) (hd : Nat.ble (1 + d) D = true) : ((amb dp un fr).deeper env).depth + d < recursionLimit := by
  have := Nat.le_of_ble_eq_true hd
  show dp + 1 + d < _
  omega
theorem unit1 {dp un D d : Nat} {fr : List Env} {env : Env} (h : un + D < cLine) (hd : Nat.ble (3 + d) D = true) : ((amb dp un fr).deeper env).units + d < cLine := by
  have := Nat.le_of_ble_eq_true hd
  show un + 3 + d < _
  omega
/-- the contract of a def: over any heap that bears the written part and the core, it hands back a value and a new core; all else of the ghost heap stands -/
noncomputable def SpecG (C : Around → Code → (Result → Shared → Prop) → Shared → Prop) (w : World) (f : Addr) (args : List Value) (core : List (Addr × Obj)) (d u : Nat) (post : Value → List (Addr × Obj) → Prop) : Prop :=
  ∀ (p : Program) (loose : List Str) (mean : ExcName → Option Value) (mg mb : Str → Option Value) (dp un : Nat) (outer : List Env) (base g : Heap) (s : Shared) (R : Result → Shared → Prop),
    Below (amb dp un outer) base outer g → (hd.heap_1 w.params).In g → Top p loose mean mg mb g → Sub g s.heap → g.objs.size ≤ s.heap.objs.size → Has g s.heap core →
    dp + d < recursionLimit → un + u < cLine →
    (∀ v core' h' tk', Sub g h' → g.objs.size ≤ h'.objs.size → Has g h' core' → post v core' → R (.ok (.ret v)) { s with heap := h', toks := tk' }) →
    C (amb dp un outer) (.call (.ref f) ⟨args, []⟩) R s
noncomputable abbrev Spec (prog : Program) (w : World) := SpecG (codeAny (model prog w)) w
noncomputable abbrev SpecP (prog : Program) (w : World) := SpecG (codeP (model prog w)) w
section
variable {prog : Program} {w : World} {dp un : Nat} {outer : List Env} {base g : Heap} {p : Program} {loose : List Str} {mean : ExcName → Option Value} {mg mb : Str → Option Value}
  {s : Shared} {K : Frag} {core : List (Addr × Obj)} {R : Result → Shared → Prop} {name qual : Str} {params : Arguments} {body : List Stmt} {scope : Scope} {dV kV doc pm cdv ct oc : Value} {an od : Option Addr} {osl : Array (Option Value)} {f : Addr} {args : Args} {binds : List (Str × Value)}
theorem enter (X : K.In g) (T : Top p loose mean mg mb g) (sub : Sub g s.heap) (sz : g.objs.size ≤ s.heap.objs.size) (N : Has g s.heap core)
    (ho : K.lookup f = some ⟨oc, od, .func (fnOf name qual params body scope dV kV doc pm an cdv ct), osl⟩) (hcd : codeIn K cdv qual = true) (hroom : dp < recursionLimit)
    (hbind : BindsTo s (fnOf name qual params body scope dV kV doc pm an cdv ct) args binds) (hloc : ∀ y ∈ binds, scope.names.lookup y.1 = some .local)
    (h : ∀ L' h₁, Fr g L' h₁ (fun y => binds.reverse.lookup y) → News g L' h₁ core → (∀ q ∈ core, q.1 < L') →
      wpAny (model prog w) ((amb dp un outer).deeper (envOf qual scope L' f cdv)) (execs body (envOf qual scope L' f cdv))
        (fun fl s' => R (.ok (.ret (match fl with | .ret v => v | _ => .none))) s')
        (fun e s' => wpAny (model prog w) ((amb dp un outer).deeper (envOf qual scope L' f cdv)) (leaving (envOf qual scope L' f cdv) e) (fun _ s'' => R (.error e) s'') (fun e' s'' => R (.error e') s'') s')
        { s with heap := h₁, toks := s.toks + binds.length })
    (hcell : ∀ x ∈ scope.names, x.2 ≠ .cell := by decide) (hco : scope.isCoroutine = false := by rfl) (hgen : scope.isGenerator = false := by rfl) (hk : scope.kind = .function := by rfl) :
    codeAny (model prog w) (amb dp un outer) (.call (.ref f) args) R s := by
  refine codeAny_call_def (fd := fnOf name qual params body scope dV kV doc pm an cdv ct) (body := body) (binds := binds) hroom (sub _ _ (X _ _ ho)) rfl (T.nolimit.keeps sub) (codeRec_of (X.keeps sub) hcd) rfl hbind hcell hloc (fun h₁ hns hk₁ => ?_) hco hgen hk
  exact h s.heap.objs.size h₁ ⟨hns, fun b o e => hk₁ b o (sub b o e), sz⟩ (fun q hq => ⟨hk₁ _ _ (N q hq).1, Nat.ne_of_lt (Heap.lt_size (N q hq).1), (N q hq).2⟩) fun q hq => Heap.lt_size (N q hq).1
theorem enterP (X : K.In g) (T : Top p loose mean mg mb g) (sub : Sub g s.heap) (sz : g.objs.size ≤ s.heap.objs.size) (N : Has g s.heap core)
    (ho : K.lookup f = some ⟨oc, od, .func (fnOf name qual params body scope dV kV doc pm an cdv ct), osl⟩) (hcd : codeIn K cdv qual = true) (hroom : dp < recursionLimit)
    (hbind : BindsTo s (fnOf name qual params body scope dV kV doc pm an cdv ct) args binds) (hloc : ∀ y ∈ binds, scope.names.lookup y.1 = some .local)
    (h : ∀ L' h₁, Fr g L' h₁ (fun y => binds.reverse.lookup y) → News g L' h₁ core → (∀ q ∈ core, q.1 < L') →
      wpP (model prog w) ((amb dp un outer).deeper (envOf qual scope L' f cdv)) (execs body (envOf qual scope L' f cdv))
        (fun fl s' => R (.ok (.ret (match fl with | .ret v => v | _ => .none))) s')
        (fun e s' => wpAny (model prog w) ((amb dp un outer).deeper (envOf qual scope L' f cdv)) (leaving (envOf qual scope L' f cdv) e) (fun _ s'' => R (.error e) s'') (fun e' s'' => R (.error e') s'') s')
        { s with heap := h₁, toks := s.toks + binds.length })
    (hcell : ∀ x ∈ scope.names, x.2 ≠ .cell := by decide) (hco : scope.isCoroutine = false := by rfl) (hgen : scope.isGenerator = false := by rfl) (hk : scope.kind = .function := by rfl) :
    codeP (model prog w) (amb dp un outer) (.call (.ref f) args) R s := by
  refine P_call_def (fd := fnOf name qual params body scope dV kV doc pm an cdv ct) (body := body) (binds := binds) hroom (sub _ _ (X _ _ ho)) rfl (T.nolimit.keeps sub) (codeRec_of (X.keeps sub) hcd) rfl hbind hcell hloc (fun h₁ hns hk₁ => ?_) hco hgen hk
  exact h s.heap.objs.size h₁ ⟨hns, fun b o e => hk₁ b o (sub b o e), sz⟩ (fun q hq => ⟨hk₁ _ _ (N q hq).1, Nat.ne_of_lt (Heap.lt_size (N q hq).1), (N q hq).2⟩) fun q hq => Heap.lt_size (N q hq).1
theorem has_of {L : Addr} {h : Heap} {news core' : List (Addr × Obj)} (N : News g L h news) (hs : ∀ q ∈ core', q ∈ news) : Has g h core' := fun q hq => ⟨(N q (hs q hq)).1, (N q (hs q hq)).2.2⟩
theorem fr_size {L : Addr} {h : Heap} {m : Str → Option Value} (F : Fr g L h m) : g.objs.size ≤ h.objs.size := by
  obtain ⟨oL, _, _, hL, _⟩ := F.ns
  exact Nat.le_of_lt (Nat.lt_of_le_of_lt F.above (Heap.lt_size hL))
end
section
variable {prog : Program} {w : World} {A A₀ : Around} {outer : List Env} {env : Env} {base h₀ : Heap} {L : Addr} {m : Str → Option Value} {p : Program} {loose : List Str} {mean : ExcName → Option Value} {mg mb : Str → Option Value}
  {s : Shared} {core news : List (Addr × Obj)} {d u : Nat} {f : Addr} {vs : List Value} {post : Value → List (Addr × Obj) → Prop} {Q E : Value → Shared → Prop} {C : Around → Code → (Result → Shared → Prop) → Shared → Prop}
/-- what stood beside the core -/
noncomputable def Stays (news core core' : List (Addr × Obj)) (h₀ : Heap) (L : Addr) (h' : Heap) : Prop := ∀ q ∈ news, (∀ r ∈ core, q.1 = r.1 → r ∈ core') → h'.get? q.1 = some q.2 ∧ q.1 ≠ L ∧ h₀.get? q.1 = none
/-- a contract used within a frame: what the ledger said besides the core is still so -/
theorem SpecG.code (S : SpecG C w f vs core d u post) (B : Below A₀ base outer h₀) (F : Fr h₀ L s.heap m) (X : (hd.heap_1 w.params).In h₀) (N : News h₀ L s.heap news) (T : Top p loose mean mg mb h₀)
    (hh : A.handled = none) (hA : A.frames = some (env :: outer)) (hg : A.guards = some []) (hf : env.frame = some L) (hk : env.scope.kind = .function) (hsub : ∀ q ∈ core, q ∈ news)
    (hd : A.depth + d < recursionLimit) (hu : A.units + u < cLine)
    (k : ∀ v core' h' tk', post v core' → Fr h₀ L h' m → Stays news core core' h₀ L h' → News h₀ L h' core' → Q v { s with heap := h', toks := tk' }) :
    C A (.call (.ref f) ⟨vs, []⟩) (fun r s' => match r with | .ok (.ret v) => Q v s' | .ok _ => False | .error e => E e s') s := by
  obtain ⟨ah, ad, af, ag, au⟩ := A
  dsimp only at hh hA hg hd hu
  subst hh hA hg
  have Nc : News h₀ L s.heap core := fun q hq => N q (hsub q hq)
  obtain ⟨FG, BG, st, lv⟩ := groundX (A := amb ad au (env :: outer)) (R := fun r s' => match r with | .ok (.ret v) => Q v s' | .ok _ => False | .error e => E e s') B F Nc rfl hf hk
  have nL : L ∉ core.map (·.1) := fun q => by
    obtain ⟨r, hr, e⟩ := List.mem_map.mp q
    exact (Nc r hr).2.1 e
  have hLs : ∃ o, s.heap.get? L = some o := by
    obtain ⟨oL, _, _, hL, _⟩ := F.ns
    exact ⟨oL, hL⟩
  refine S p loose mean mg mb ad au (env :: outer) base _ s _ ⟨rfl, BG.stays, BG.frames⟩ (X.keeps st) (T.keeps st) (fun b o e => of_hideAll _ e) (Nat.le_of_eq (hideAll_size _ _)) (fun q hq => ⟨(Nc q hq).1, hideAll_none _ (List.mem_map_of_mem hq)⟩) hd hu ?_
  intro v core' h' tk' hs hsz hc hp
  refine k v core' h' tk' hp ⟨?_, fun b o e => hs b o (st b o e), F.above⟩ (fun q hq hne => ⟨?_, (N q hq).2⟩) (fun q hq => ⟨(hc q hq).1, fun e => ?_, ?_⟩)
  · obtain ⟨oL, es, ep, hL, r⟩ := FG.ns
    exact ⟨oL, es, ep, hs _ _ hL, r⟩
  · by_cases z : ∃ r ∈ core, q.1 = r.1
    · obtain ⟨r, hr, e⟩ := z
      have e2 : q.2 = r.2 := by
        have a := (N q hq).1
        rw [e, (Nc r hr).1] at a
        exact (Option.some.inj a).symm
      rw [e, e2]
      exact (hc r (hne r hr e)).1
    · exact hs _ _ (hideAll_get _ (N q hq).1 fun hm => by
        obtain ⟨r, hr, e⟩ := List.mem_map.mp hm
        exact z ⟨r, hr, e.symm⟩)
  · obtain ⟨oL, hL⟩ := hLs
    have := (hc q hq).2
    rw [e, hideAll_get _ hL nL] at this
    cases this
  · cases z : h₀.get? q.1 with
    | none => rfl
    | some o => have := (hc q hq).2; rw [st _ _ z] at this; cases this
theorem Spec.use (S : Spec prog w f vs core d u post) (B : Below A₀ base outer h₀) (F : Fr h₀ L s.heap m) (X : (hd.heap_1 w.params).In h₀) (N : News h₀ L s.heap news) (T : Top p loose mean mg mb h₀)
    (hh : A.handled = none) (hA : A.frames = some (env :: outer)) (hg : A.guards = some []) (hf : env.frame = some L) (hk : env.scope.kind = .function) (hsub : ∀ q ∈ core, q ∈ news)
    (hd : A.depth + d < recursionLimit) (hu : A.units + u < cLine)
    (k : ∀ v core' h' tk', post v core' → Fr h₀ L h' m → Stays news core core' h₀ L h' → News h₀ L h' core' → Q v { s with heap := h', toks := tk' }) :
    wpAny (model prog w) A (call (.ref f) vs) Q E s := wpAny_call (SpecG.code S B F X N T hh hA hg hf hk hsub hd hu k)
theorem SpecP.use (S : SpecP prog w f vs core d u post) (B : Below A₀ base outer h₀) (F : Fr h₀ L s.heap m) (X : (hd.heap_1 w.params).In h₀) (N : News h₀ L s.heap news) (T : Top p loose mean mg mb h₀)
    (hh : A.handled = none) (hA : A.frames = some (env :: outer)) (hg : A.guards = some []) (hf : env.frame = some L) (hk : env.scope.kind = .function) (hsub : ∀ q ∈ core, q ∈ news)
    (hd : A.depth + d < recursionLimit) (hu : A.units + u < cLine)
    (k : ∀ v core' h' tk', post v core' → Fr h₀ L h' m → Stays news core core' h₀ L h' → News h₀ L h' core' → Q v { s with heap := h', toks := tk' }) :
    wpP (model prog w) A (call (.ref f) vs) Q E s := P_call (SpecG.code S B F X N T hh hA hg hf hk hsub hd hu k)
end
section
variable {h₀ h h' : Heap} {L d b : Addr} {o o' ob ob' : Obj} {news n1 n2 core core' : List (Addr × Obj)}
/-- the ledger behind a call: nothing, one, two objects of it have turned -/
theorem stays0 (S : Stays news core core' h₀ L h') (hc : ∀ r ∈ core, r ∈ core') : News h₀ L h' news := fun q hq => S q hq fun r hr _ => hc r hr
theorem stays1 (S : Stays news core core' h₀ L h') (N : News h₀ L h' core') (U : Upd d o o' news n1) (hm : (d, o') ∈ core') (hc : ∀ r ∈ core, r.1 = d ∨ r ∈ core') : News h₀ L h' n1 := by
  obtain ⟨pre, post, rfl, rfl, h1, h2⟩ := U.split
  intro q hq
  have out : ∀ q, q ∈ pre ∨ q ∈ post → q.1 ≠ d → h'.get? q.1 = some q.2 ∧ q.1 ≠ L ∧ h₀.get? q.1 = none := fun q hq hne =>
    S q (by rcases hq with hq | hq <;> simp [hq]) fun r hr e => (hc r hr).elim (fun z => absurd (e.trans z) hne) id
  rcases List.mem_append.mp hq with z | z
  · exact out q (.inl z) (h1 q z)
  · rcases List.mem_cons.mp z with z | z
    · subst z; exact N _ hm
    · exact out q (.inr z) (h2 q z)
theorem stays2 (S : Stays news core core' h₀ L h') (N : News h₀ L h' core') (U : Upd d o o' news n1) (V : Upd b ob ob' n1 n2) (hm : (d, o') ∈ core') (hn : (b, ob') ∈ core') (hc : ∀ r ∈ core, r.1 = d ∨ r.1 = b ∨ r ∈ core') : News h₀ L h' n2 := by
  obtain ⟨pre, post, rfl, rfl, h1, h2⟩ := U.split
  obtain ⟨pre', post', e, rfl, h3, h4⟩ := V.split
  intro q hq
  have out : ∀ q, q ∈ pre ++ (d, o') :: post → q.1 ≠ b → h'.get? q.1 = some q.2 ∧ q.1 ≠ L ∧ h₀.get? q.1 = none := fun q hq hnb => by
    rcases List.mem_append.mp hq with z | z
    · exact S q (by simp [z]) fun r hr e => (hc r hr).elim (fun y => absurd (e.trans y) (h1 q z)) fun y => y.elim (fun y => absurd (e.trans y) hnb) id
    · rcases List.mem_cons.mp z with z | z
      · subst z; exact N _ hm
      · exact S q (by simp [z]) fun r hr e => (hc r hr).elim (fun y => absurd (e.trans y) (h2 q z)) fun y => y.elim (fun y => absurd (e.trans y) hnb) id
  rcases List.mem_append.mp hq with z | z
  · exact out q (by rw [e]; simp [z]) (h3 q z)
  · rcases List.mem_cons.mp z with z | z
    · subst z; exact N _ hn
    · exact out q (by rw [e]; simp [z]) (h4 q z)
theorem stays_c1 {r : List (Addr × Obj)} (S : Stays news ((d, o) :: r) ((d, o') :: r) h₀ L h') (N : News h₀ L h' ((d, o') :: r)) (U : Upd d o o' news n1) : News h₀ L h' n1 :=
  stays1 S N U (.head _) fun q hq => (List.mem_cons.mp hq).elim (fun e => .inl (by rw [e])) fun e => .inr (.tail _ e)
theorem stays_c2 {r : List (Addr × Obj)} (S : Stays news ((d, o) :: (b, ob) :: r) ((d, o') :: (b, ob') :: r) h₀ L h') (N : News h₀ L h' ((d, o') :: (b, ob') :: r)) (U : Upd d o o' news n1) (V : Upd b ob ob' n1 n2) : News h₀ L h' n2 :=
  stays2 S N U V (.head _) (.tail _ (.head _)) fun q hq => (List.mem_cons.mp hq).elim (fun e => .inl (by rw [e])) fun e => (List.mem_cons.mp e).elim (fun e => .inr (.inl (by rw [e]))) fun e => .inr (.inr (.tail _ (.tail _ e)))
theorem news_cons (N : News h₀ L h [(d, o)]) (M : News h₀ L h news) : News h₀ L h ((d, o) :: news) := fun q hq => by
  rcases List.mem_cons.mp hq with rfl | hq
  · exact N _ (.head _)
  · exact M q hq
theorem news_sub (N : News h₀ L h news) (hs : ∀ q ∈ n1, q ∈ news) : News h₀ L h n1 := fun q hq => N q (hs q hq)
/-- a mark of an object's make: two objects of one ledger with other marks lie apart -/
noncomputable def okind (o : Obj) : Nat := match o.data with
  | .plain => 0
  | .bytearray .. => 1
  | .cell _ => 2
  | .dict _ n => 100 + n
  | .seq .. => 3
  | .fields vs => 20000 + vs.size
  | _ => 4
theorem news_ne (N : News h₀ L h news) {a : Addr} (h1 : (a, o) ∈ news) (h2 : (b, o') ∈ news) (hk : Nat.beq (okind o) (okind o') = false) : a ≠ b := fun e => by
  subst e
  have z := (N _ h1).1
  rw [(N _ h2).1] at z
  cases z
  exact absurd hk (by simp)
end
set_option genInjectivity false in
set_option genSizeOf false in
structure HZ where
  a0 : Int
  a1 : Int
  a2 : Int
  a3 : Int
  a4 : Int
  a5 : Int
  a6 : Int
  a7 : Int
  a8 : Int
  a9 : Int
  a10 : Int
  a11 : Int
  z0 : Nat
  z1 : Nat
  z2 : Nat
  z3 : Nat
  z4 : Nat
  z5 : Nat
  z6 : Nat
  z7 : Nat
  z8 : Nat
  z9 : Nat
  z10 : Nat
  z11 : Nat
/-- the entries of a Lexer's own dict -/
noncomputable abbrev LD (k : HZ) (text source chunk limits kinds at_ sign line last buffer current ahead : Value) : List DictEntry :=
  [⟨k.a0, .str (Str.ofString "text") k.z0, text⟩, ⟨k.a1, .str (Str.ofString "source") k.z1, source⟩, ⟨k.a2, .str (Str.ofString "chunk") k.z2, chunk⟩, ⟨k.a3, .str (Str.ofString "limits") k.z3, limits⟩,
   ⟨k.a4, .str (Str.ofString "kinds") k.z4, kinds⟩, ⟨k.a5, .str (Str.ofString "at") k.z5, at_⟩, ⟨k.a6, .str (Str.ofString "sign") k.z6, sign⟩, ⟨k.a7, .str (Str.ofString "line") k.z7, line⟩,
   ⟨k.a8, .str (Str.ofString "last_line") k.z8, last⟩, ⟨k.a9, .str (Str.ofString "buffer") k.z9, buffer⟩, ⟨k.a10, .str (Str.ofString "current") k.z10, current⟩, ⟨k.a11, .str (Str.ofString "ahead") k.z11, ahead⟩]
section
open Sem (wp)
noncomputable abbrev baO (B : List UInt8) : Obj := { cls := .type "bytearray", data := .bytearray B.toArray 0 }
theorem ba_slot_len : Slot "bytearray" "__len__" "bytearray.__len__" :=
  .of (owner := "bytearray") (n := "__len__") (by rw [typeLookup_type, builtinLookup_eq_fast]; kernel_rfl) (by decide +kernel) (by decide +kernel) (by decide +kernel)
    (by first | exact .inl (by decide +kernel) | exact .inr (by decide +kernel)) (by rw [isSubtype_type]; kernel_rfl)
theorem ba_slot_append : Slot "bytearray" "append" "bytearray.append" :=
  .of (owner := "bytearray") (n := "append") (by rw [typeLookup_type, builtinLookup_eq_fast]; kernel_rfl) (by decide +kernel) (by decide +kernel) (by decide +kernel)
    (by first | exact .inl (by decide +kernel) | exact .inr (by decide +kernel)) (by rw [isSubtype_type]; kernel_rfl)
theorem ba_slot_getitem : Slot "bytearray" "__getitem__" "bytearray.__getitem__" :=
  .of (owner := "bytearray") (n := "__getitem__") (by rw [typeLookup_type, builtinLookup_eq_fast]; kernel_rfl) (by decide +kernel) (by decide +kernel) (by decide +kernel)
    (by first | exact .inl (by decide +kernel) | exact .inr (by decide +kernel)) (by rw [isSubtype_type]; kernel_rfl)
theorem ba_slot_init : Slot "bytearray" "__init__" "bytearray.__init__" :=
  .of (owner := "bytearray") (n := "__init__") (by rw [typeLookup_type, builtinLookup_eq_fast]; kernel_rfl) (by decide +kernel) (by decide +kernel) (by decide +kernel)
    (by first | exact .inl (by decide +kernel) | exact .inr (by decide +kernel)) (by rw [isSubtype_type]; kernel_rfl)
theorem ba_entry_len : entryFor table "bytearray.__len__" = some Builtin.«bytearray.__len__» := by first | exact entryFor_of_fast (by kernel_rfl) | exact entryFor_of_tree (by kernel_rfl)
theorem ba_entry_append : entryFor table "bytearray.append" = some Builtin.«bytearray.append» := by first | exact entryFor_of_fast (by kernel_rfl) | exact entryFor_of_tree (by kernel_rfl)
theorem ba_entry_getitem : entryFor table "bytearray.__getitem__" = some Builtin.«bytearray.__getitem__» := by first | exact entryFor_of_fast (by kernel_rfl) | exact entryFor_of_tree (by kernel_rfl)
theorem ba_entry_init : entryFor table "bytearray.__init__" = some Builtin.«bytearray.__init__» := by first | exact entryFor_of_fast (by kernel_rfl) | exact entryFor_of_tree (by kernel_rfl)
theorem ba_entry_new : entryFor table "bytearray.__new__" = some Builtin.«list.__new__» := entryFor_alias (id' := "list.__new__") (by kernel_rfl) (by decide +kernel) (by decide +kernel) (by kernel_rfl)
theorem ba_args_len (a : Value) : argsOk "bytearray.__len__" ⟨[a], []⟩ := by unfold argsOk; kernel_rfl
theorem ba_args_append (a b : Value) : argsOk "bytearray.append" ⟨[a, b], []⟩ := by unfold argsOk; kernel_rfl
theorem ba_args_getitem (a b : Value) : argsOk "bytearray.__getitem__" ⟨[a, b], []⟩ := by unfold argsOk; kernel_rfl
theorem ba_args_init (a : Value) : argsOk "bytearray.__init__" ⟨[a], []⟩ := by unfold argsOk; kernel_rfl
theorem ba_type_append : typeOf (.builtin "bytearray.append") = pure (.type "method_descriptor") := by kernel_rfl
theorem ba_plain : PlainAttrs "bytearray" where
  ga := ⟨"bytearray.__getattribute__", by rw [typeLookup_type, builtinLookup_eq_fast]; kernel_rfl, by decide +kernel⟩
  noGetattr := by rw [typeLookup_type, builtinLookup_eq_fast]; kernel_rfl
section
variable {M : Model} {prog : Program} {w : World} {A : Around} {E : Value → Shared → Prop} {s : Shared} {b : Addr} {B : List UInt8}
theorem ba_type (ho : s.heap.get? b = some (baO B)) : s.TypeIs (.ref b) "bytearray" := ⟨_, ho, rfl⟩
theorem ba_getMethod {pl : Sem Bool} {Q : Value × List Value → Shared → Prop} (ho : s.heap.get? b = some (baO B)) (h : Q (.builtin "bytearray.append", [.ref b]) s) :
    wpAny M A (getMethod (.ref b) "append" pl) Q E s :=
  getMethod_builtin (ba_type ho) ba_plain ba_slot_append ba_type_append (fun a e => by cases e; exact ⟨_, ho, rfl⟩) h
theorem ba_payload {α : Type} {f : Array UInt8 → Sem α} {Q : α → Shared → Prop} (ho : s.heap.get? b = some (baO B)) (h : wpAny M A (f B.toArray) Q E s) : wpAny M A (Builtin.Bytes.payload (.ref b) >>= f) Q E s := by
  unfold Builtin.Bytes.payload Builtin.Bytes.payload?
  refine wpAny_bind (wpAny_bind (wpAny_bind (wpAny_load ho ?_)))
  exact wpAny_pure (wpAny_pure h)
theorem ba_len {Q : Value → Shared → Prop} (ho : s.heap.get? b = some (baO B)) (hfit : (B.length : Int) < 2 ^ 63) (h : Q (.int B.length (s.toks + 1)) { s with toks := s.toks + 1 + 1 }) :
    wpAny (model prog w) A (call (.builtin "len") [.ref b]) Q E s := by
  refine call_function_entry kind_len plain_len entry_len (args_len1 _) ?_
  unfold Builtin.«len»
  refine wpAny_bind (m := oneArg "len" _) (wpAny_pure ?_)
  refine wpAny_bind (m := callSpecial? (.ref b) (Str.ofString "__len__")) (wpAny_callSpecial?_slot (name := Str.ofString "__len__") (ba_type ho) ba_slot_len
    (wpAny_call_entry ba_slot_len (ba_type ho) ba_entry_len ?_ (ba_args_len _)))
  · show wpAny _ _ (do retInt (← Builtin.Bytes.payload (.ref b)).size) _ _ s
    refine ba_payload ho (wpAny_bind (wpAny_mkInt (wpAny_pure ⟨_, rfl, ?_⟩)))
    refine wpAny_bind (wpAny_holding (wpAny_pure ?_))
    refine wpAny_bind (wpAny_letGo ?_)
    show wpAny _ _ (if ((B.toArray.size : Nat) : Int) < 0 then _ else _) _ _ _
    rw [if_neg (by omega)]
    show wpAny _ _ (if ((B.toArray.size : Nat) : Int) ≥ 2 ^ 63 then _ else _) _ _ _
    rw [if_neg (by simp only [List.size_toArray]; omega)]
    refine wpAny_bind (wpAny_mkInt (wpAny_pure ⟨_, rfl, ?_⟩))
    simp only [List.size_toArray]
    exact h
theorem isGuard_of {id : String} {args : Args} (h : (Code.builtin id args).isGuard = false) (hm : guardIds.contains id = true) : False := by
  have : guardIds.contains id = false := h
  rw [hm] at this; cases this
theorem ba_exported (hg : A.guards = some []) {Q : Bool → Shared → Prop} {v : Value} (h : Q false s) : wpP M A (Builtin.Bytes.exported v) Q E s := by
  unfold Builtin.Bytes.exported
  refine P_stackAny hg (fun c p hcg hcd => ?_) h
  cases c with
  | builtin id args =>
    obtain ⟨ps, kw⟩ := args
    have hn : ∀ x : String, guardIds.contains x = true → id ≠ x := fun x hx e => isGuard_of hcg (e ▸ hx)
    delta Builtin.Bytes.exported.match_1
    show (dite _ _ _ : Bool) = false
    refine (dif_neg (hn _ (by decide +kernel))).trans ?_
    refine (dif_neg (hn _ (by decide +kernel))).trans ?_
    refine (dif_neg (hn _ (by decide +kernel))).trans ?_
    refine (dif_neg (hn _ (by decide +kernel))).trans ?_
    refine (dif_neg (hn _ (by decide +kernel))).trans ?_
    cases ps with
    | nil => rfl
    | cons a r =>
      show (Builtin.Bytes.sameRef a v && Builtin.Bytes.decodersThatHold.contains id) = false
      have : Builtin.Bytes.decodersThatHold.contains id = false := hcd
      rw [this, Bool.and_false]
  | _ => rfl
theorem ba_checkResize (hg : A.guards = some []) {Q : Unit → Shared → Prop} (ho : s.heap.get? b = some (baO B)) (h : Q () s) : wpP M A (Builtin.Bytes.checkResize (.ref b)) Q E s := by
  unfold Builtin.Bytes.checkResize
  refine P_bind ?_
  show wpP M A (Builtin.Bytes.exported (.ref b) >>= fun x => _) _ E s
  refine P_bind (ba_exported hg ?_)
  refine P_lift ?_
  show wpAny M A ((Builtin.Bytes.exportsOf (.ref b) >>= fun x => _) : Sem Bool) _ E s
  unfold Builtin.Bytes.exportsOf
  refine wpAny_bind (wpAny_bind (wpAny_load ho (wpAny_pure ?_)))
  exact wpAny_pure (P_pure h)
theorem P_callWith_builtin {pos : Pos} {id : String} {first : List Value} {args : List (Bool × Sem Value)} {Q : Value → Shared → Prop} (hplain : args.any (·.1) = false)
    (h : wpP M A (evalArgs (.builtin id) true args []) (fun a s₁ => wpP M A (call (.builtin id) (first ++ a.pos) a.kw) Q E s₁) E s) :
    wpP M A (callWith pos (.builtin id) first args []) Q E s := by
  unfold callWith
  refine P_bind (P_holding (P_mono h (fun a s₁ h₁ => P_bind (P_standAt ?_)) fun _ _ x => x))
  simp only [hplain, List.any_nil, Bool.or_false]
  refine P_bind (P_pure ?_)
  exact P_bind (P_mono h₁ (fun r s₂ hr => P_bindA (wpAny_holding (wpAny_point (P_pure hr)))) fun _ _ x => x)
theorem P_code_builtin {id : String} {args : Args} {bi : Builtin} {R : Result → Shared → Prop} (hq : plainId id = true) (hd : Dec (.builtin id args) = false) (hb : entryFor table id = some bi)
    (h : wpP (model prog w) A.in1 (bi args) (fun fin s' => match fin with | .done f => R (.ok f) s' | .again c' => c'.quiet = true ∧ codeP (model prog w) A c' R s') (fun e s' => R (.error e) s') s) :
    codeP (model prog w) A (.builtin id args) R s := by
  refine P_of_tree hd ?_
  rw [Around.under_plainId hq args]
  show wpP _ _ (match entryFor table id with | some b => b args | none => unsupported ((withoutEnding? id "#data").getD id)) _ _ s
  rw [hb]; exact h
theorem P_call_builtin {id : String} {args : Args} {bi : Builtin} {R : Result → Shared → Prop} (hq : plainId id = true) (hd : Dec (.builtin id args) = false) (hb : entryFor table id = some bi)
    (h : wpAny (model prog w) A.in1 (checkBuiltinCall id args) (fun _ s₁ => wpP (model prog w) A.in1 (bi args) (fun fin s' => match fin with | .done f => R (.ok f) s' | .again c' => c'.quiet = true ∧ codeP (model prog w) A c' R s') (fun e s' => R (.error e) s') s₁)
      (fun e s' => R (.error e) s') s) : codeP (model prog w) A (.call (.builtin id) args) R s := by
  refine P_of_tree rfl ?_
  show wpP _ A.in1 (do checkBuiltinCall id args; again (.builtin id args)) _ _ s
  exact P_bindA (wpAny_mono h (fun _ s₁ h₁ => P_pure ⟨plainId_quiet hq args, P_code_builtin hq hd hb h₁⟩) fun _ _ x => x)
theorem P_call_entry {T : String} {name : Str} {id : String} {self : Value} {rest : List Value} {bi : Builtin} {Q : Value → Shared → Prop} (slot : Slot T name id) (hT : s.TypeIs self T) (hd : Dec (.builtin id ⟨self :: rest, []⟩) = false) (hb : entryFor table id = some bi) (ha : argsOk id ⟨self :: rest, []⟩)
    (h : wpP (model prog w) A.in1 (bi ⟨self :: rest, []⟩) (fun fin s' => ∃ v, fin = .done (.ret v) ∧ Q v s') E s) : wpP (model prog w) A (call (.builtin id) (self :: rest)) Q E s := by
  refine P_call (P_call_builtin slot.plain hd hb (slot.check _ _ _ _ _ _ _ _ hT ha (P_mono h (fun fin s' h' => ?_) fun _ _ x => x)))
  obtain ⟨v, rfl, hq⟩ := h'
  exact hq
theorem ba_append (hg : A.guards = some []) (ho : s.heap.get? b = some (baO B)) {c : Int} {t : Tok} (h0 : 0 ≤ c) (h1 : c < 256) (hsz : B.length + 1 ≤ sizeLine) {Q : Value → Shared → Prop}
    (h : Q .none { s with heap := s.heap.update b (Obj.mapBytearray (·.push c.toNat.toUInt8)) }) : wpP (model prog w) A (call (.builtin "bytearray.append") [.ref b, .int c t]) Q E s := by
  refine P_call_entry ba_slot_append (ba_type ho) (show Builtin.Bytes.decodersThatHold.contains "bytearray.append" = false by decide +kernel) ba_entry_append (ba_args_append _ _) ?_
  unfold Builtin.«bytearray.append»
  refine P_bindA (wpAny_of_eq (a := (Value.ref b, Value.int c t)) rfl ?_)
  show wpP _ _ (Builtin.Bytes.byteValue (.int c t) >>= fun c => _) _ _ s
  refine P_bindA ?_
  unfold Builtin.Bytes.byteValue
  refine wpAny_bind (wpAny_of_eq (a := c) rfl ?_)
  rw [if_neg (by simp; omega)]
  refine wpAny_pure (P_bind (ba_checkResize (A := A.in1) hg ho (P_bindA ?_)))
  show wpAny _ _ (updateBytearray b (fun x => x.push c.toNat.toUInt8)) _ _ s
  unfold updateBytearray
  refine wpAny_bind (wpAny_load ho ?_)
  refine wpAny_bind (wpAny_update ho ?_)
  refine wpAny_lookBehind (o := Obj.mapBytearray (·.push c.toNat.toUInt8) (baO B)) (Heap.get?_update_self _ ho rfl) ?_ (P_pure ⟨_, rfl, h⟩)
  show (if (B.toArray.push c.toNat.toUInt8).size > sizeLine then _ else _) = _
  rw [if_neg (by simp; omega)]
end
end
section
open Sem (wp)
theorem ba_mro : mroOf (.type "bytearray") = pure [.type "bytearray", .type "object"] := by rw [mroOf_type]; kernel_rfl
theorem ba_lookup_new : typeLookup (.type "bytearray") "__new__" = pure (some (.builtin "bytearray.__new__")) := by rw [typeLookup_type, builtinLookup_eq_fast]; kernel_rfl
theorem ba_sub : isSubtype (.type "bytearray") (.type "bytearray") = pure true := by rw [isSubtype_type]; kernel_rfl
theorem ba_called : TypeCalled "bytearray" "bytearray.__new__" "bytearray.__init__" :=
  ⟨by decide +kernel, by decide +kernel, ⟨_, _, ba_mro⟩, madeBy_type ba_mro ba_lookup_new (by decide +kernel), by decide +kernel, ba_sub, ba_slot_init⟩
theorem ba_typeCall : checkTypeCall "bytearray" ⟨[], []⟩ = pure () := by kernel_rfl
theorem ba_newCall : checkBuiltinCall "bytearray.__new__" ⟨[.type "bytearray"], []⟩ = pure () := by kernel_rfl
theorem ba_plain_new : plainId "bytearray.__new__" = true := by decide +kernel
set_option maxRecDepth 1000000 in
set_option maxHeartbeats 4000000 in
theorem ba_owner_new : ("bytearray.__new__".splitOn ".__new__").headD "" = "bytearray" := by simp +decide [String.splitOn, String.splitOnAux]
theorem ba_release : typeLookup (.type "bytearray") "__release_buffer__" = pure (some (.builtin "bytearray.__release_buffer__")) := by rw [typeLookup_type, builtinLookup_eq_fast]; kernel_rfl
theorem ba_buffer : typeLookup (.type "bytearray") "__buffer__" = pure (some (.builtin "bytearray.__buffer__")) := by rw [typeLookup_type, builtinLookup_eq_fast]; kernel_rfl
theorem ba_bind0 : Builtin.Bytes.bindOptional "bytearray.__init__" "bytearray" ["source", "encoding", "errors"] [] [] = pure [none, none, none] := by kernel_rfl
section
variable {M : Model} {prog : Program} {w : World} {A : Around} {E : Value → Shared → Prop} {s : Shared} {b : Addr} {B : List UInt8}
theorem ba_code_new {Q₁ : Value → Shared → Prop} (h : Q₁ (.ref s.heap.objs.size) { s with heap := s.heap.push (baO []) }) :
    codeAny (model prog w) A (.call (.builtin "bytearray.__new__") ⟨[.type "bytearray"], []⟩) (wants Q₁ E) s := by
  refine codeAny_of_tree ?_
  show wpAny _ A.in1 (do checkBuiltinCall "bytearray.__new__" ⟨[.type "bytearray"], []⟩; again (.builtin "bytearray.__new__" ⟨[.type "bytearray"], []⟩)) _ _ s
  refine wpAny_bind (wpAny_of_eq ba_newCall (wpAny_pure ⟨plainId_quiet ba_plain_new _, codeAny_builtin_stack ba_entry_new rfl fun p st => ?_⟩))
  rw [Around.under_plainId ba_plain_new _]
  have hsub := ba_sub
  have hown := ba_owner_new
  obtain ⟨hp, g, d, tk, os⟩ := s
  simp only [hown]
  wp_walk
  exact h
/-- a slot of bytearray's own -/
theorem ba_own {name : String} {id : String} (ho : s.heap.get? b = some (baO B)) (hl : typeLookup (.type "bytearray") name = pure (some (.builtin id))) (he : id.endsWith ("." ++ name) = true) (hn : id.dropRight (name.length + 1) = "bytearray")
    {Q : Bool → Shared → Prop} (h : Q true s) : wpAny M A (Builtin.Bytes.slotIsOwn (.ref b) name) Q E s := by
  unfold Builtin.Bytes.slotIsOwn
  refine wpAny_bind (wpAny_specialOf (ba_type ho) hl ?_)
  dsimp only
  rw [he, hn]
  exact wpAny_isInstance (ba_type ho) ba_sub h
theorem ba_ownRelease (ho : s.heap.get? b = some (baO B)) {Q : Bool → Shared → Prop} (h : Q false s) : wpAny M A (Builtin.Bytes.ownRelease (.ref b)) Q E s := by
  unfold Builtin.Bytes.ownRelease
  exact wpAny_bind (ba_own ho ba_release (by decide +kernel) (by decide +kernel) (wpAny_pure h))
theorem ba_init (hg : A.guards = some []) (ho : s.heap.get? b = some (baO [])) {Q : Fin → Shared → Prop} (h : ∀ h', h'.get? b = some (baO []) → Heap.SameBut b s.heap h' → Q (.done (.ret .none)) { s with heap := h' }) :
    wpP (model prog w) A (Builtin.«bytearray.__init__» ⟨[.ref b], []⟩) Q E s := by
  unfold Builtin.«bytearray.__init__»
  refine P_bindA (ba_ownRelease ho ?_)
  rw [if_neg Bool.false_ne_true]
  refine P_bindA (wpAny_of_eq ba_bind0 ?_)
  refine P_bindA (wpAny_of_eq (a := ()) rfl ?_)
  refine P_bindA (wpAny_of_eq (a := ()) rfl ?_)
  refine P_bind ?_
  show wpP _ A (Builtin.Bytes.exported (.ref b) >>= fun x => _) _ E s
  refine P_bind (ba_exported hg ?_)
  refine P_lift ?_
  show wpAny _ A ((Builtin.Bytes.exportsOf (.ref b) >>= fun x => _) : Sem Bool) _ E s
  unfold Builtin.Bytes.exportsOf
  refine wpAny_bind (wpAny_bind (wpAny_load ho (wpAny_pure (wpAny_pure ?_))))
  rw [if_neg (by simp)]
  refine P_bindA ?_
  show wpAny _ _ (updateBytearray b (fun _ => #[])) _ _ s
  unfold updateBytearray
  refine wpAny_bind (wpAny_load ho (wpAny_bind (wpAny_update ho ?_)))
  refine wpAny_lookBehind (o := baO []) (Heap.get?_update_self _ ho rfl) rfl ?_
  refine P_lift (wpAny_bind ?_)
  exact wpAny_of_eq (a := ()) rfl (wpAny_pure (h _ (Heap.get?_update_self _ ho rfl) (.update ..)))
end
end
section
open Sem (wp)
section
variable {M : Model} {prog : Program} {w : World} {A : Around} {E : Value → Shared → Prop} {s : Shared} {b : Addr} {B : List UInt8}
theorem P_callSpecial {self : Value} {T : String} {name : Str} {id : String} {args : List Value} {kw : List (Str × Value)} {Q : Option Value → Shared → Prop} (hT : s.TypeIs self T) (h : Slot T name id)
    (hc : wpP M A (call (.builtin id) (self :: args) kw) (fun v => Q (some v)) E s) : wpP M A (callSpecial? self name args kw) Q E s := by
  simp only [callSpecial?]
  refine P_bindA (wpAny_specialOf hT h.lookup ?_)
  simp only [h.bind]
  exact P_holding (P_bind (P_pure (P_bind (P_mono hc (fun v s' h' => P_pure h') fun _ _ h' => h'))))
theorem P_code_entry {id : String} {args : Args} {bi : Builtin} {R : Result → Shared → Prop} (hd : Dec (.builtin id args) = false) (hb : entryFor table id = some bi)
    (h : wpP (model prog w) (A.under (.builtin id args)) (bi args) (fun fin s' => match fin with | .done f => R (.ok f) s' | .again c' => c'.quiet = true ∧ codeP (model prog w) A c' R s') (fun e s' => R (.error e) s') s) :
    codeP (model prog w) A (.builtin id args) R s := by
  refine P_of_tree hd ?_
  show wpP _ _ (match entryFor table id with | some b => b args | none => unsupported ((withoutEnding? id "#data").getD id)) _ _ s
  rw [hb]; exact h
theorem ba_make (hg : A.guards = some []) {Q : Value → Shared → Prop} (h : ∀ h' b, (∀ a o, s.heap.get? a = some o → h'.get? a = some o) → h'.get? b = some (baO []) → s.heap.objs.size = b → h'.objs.size = b + 1 → Q (.ref b) { s with heap := h' }) :
    wpP (model prog w) A (call (.type "bytearray") []) Q E s := by
  obtain ⟨c, tl, hmro⟩ := ba_called.mro
  have hmade := ba_called.made
  refine P_call (P_of_tree rfl ?_)
  show wpP _ _ (callAny (.type "bytearray") _) _ _ _
  refine P_pure ⟨Code.quiet_builtin _ (by decide +kernel), P_code_entry (show Builtin.Bytes.decodersThatHold.contains "type.__call__" = false by decide +kernel) F.entry_type_call ?_⟩
  rw [Around.under_plain (weight_type_call_type "bytearray" [] []) rfl]
  dsimp only
  unfold Builtin.«type.__call__»
  have h1 := ba_called.notType
  have h2 := ba_called.canCreate
  dsimp only
  simp only [h1, Bool.false_eq_true, if_false]
  simp only [h2, Bool.false_eq_true, if_false, ba_typeCall, pure_bind]
  refine P_bindA (wpAny_of_eq hmro ?_)
  simp only [List.isEmpty_cons, Bool.false_eq_true, if_false]
  refine P_bindA (wpAny_of_eq hmade ?_)
  dsimp only
  refine P_bindA (wpAny_holding (wpAny_call ?_))
  refine codeAny_mono (ba_code_new (E := E) (Q₁ := fun v s' => v = .ref s.heap.objs.size ∧ s' = { s with heap := s.heap.push (baO []) }) ⟨rfl, rfl⟩) fun r s₁ hr => ?_
  cases r with
  | error e => exact hr
  | ok fl =>
    cases fl with
    | ret obj =>
      obtain ⟨rfl, rfl⟩ := hr
      have ho : (s.heap.push (baO [])).get? s.heap.objs.size = some (baO []) := Heap.get?_push_size _ rfl
      refine P_bindA (wpAny_isInstance (T := "bytearray") ⟨_, ho, rfl⟩ ba_sub ?_)
      simp only [Bool.not_true, Bool.false_eq_true, if_false]
      refine P_bind (P_holding (P_callSpecial (T := "bytearray") (name := Str.ofString "__init__") ⟨_, ho, rfl⟩ ba_slot_init ?_))
      refine P_call_entry ba_slot_init ⟨_, ho, rfl⟩ (show Builtin.Bytes.decodersThatHold.contains "bytearray.__init__" = false by decide +kernel) ba_entry_init (ba_args_init _) ?_
      refine ba_init (A := A.in1.in1) hg ho fun h' hb' hs => ⟨_, rfl, ?_⟩
      simp only [bne_self_eq_false, Bool.false_eq_true, if_false]
      refine P_pure (h h' _ (fun a o e => (hs.2 a (Nat.ne_of_lt (Heap.lt_size e))).trans (Heap.get?_push_of_some _ e)) hb' rfl ?_)
      rw [hs.1]; exact Heap.size_push _ _
    | _ => exact hr.elim
end
end
section
open Sem (wp)
theorem ba_no_bytes : typeLookup (.type "bytearray") "__bytes__" = pure none := by rw [typeLookup_type, builtinLookup_eq_fast]; kernel_rfl
theorem ba_no_index : typeLookup (.type "bytearray") "__index__" = pure none := by rw [typeLookup_type, builtinLookup_eq_fast]; kernel_rfl
section
variable {M : Model} {prog : Program} {w : World} {A : Around} {E : Value → Shared → Prop} {s : Shared} {b : Addr} {B : List UInt8}
theorem ba_buffer? {id : String} {full : Bool} (ho : s.heap.get? b = some (baO B)) {Q : Option (Array UInt8) → Shared → Prop} (h : Q (some B.toArray) s) : wpAny M A (Builtin.Bytes.buffer? id (.ref b) full) Q E s := by
  unfold Builtin.Bytes.buffer?
  refine wpAny_bind (wpAny_specialOf (ba_type ho) ba_buffer ?_)
  refine wpAny_bind (ba_own ho ba_buffer (by decide +kernel) (by decide +kernel) ?_)
  refine wpAny_bind (wpAny_specialOf (ba_type ho) ba_buffer ?_)
  dsimp only
  refine wpAny_bind (ba_ownRelease ho ?_)
  rw [if_neg Bool.false_ne_true]
  exact ba_payload ho (wpAny_pure h)
theorem ba_bytes_new (ho : s.heap.get? b = some (baO B)) (hz : B.length ≤ sizeLine) {Q : Value → Shared → Prop} (h : ∀ t k, Q (.bytes B.toArray t) { s with toks := k }) :
    codeAny (model prog w) A (.call (.builtin "bytes.__new__") ⟨[.type "bytes", .ref b], []⟩) (wants Q E) s := by
  refine codeAny_of_tree ?_
  show wpAny _ A.in1 (do checkBuiltinCall "bytes.__new__" ⟨[.type "bytes", .ref b], []⟩; again (.builtin "bytes.__new__" ⟨[.type "bytes", .ref b], []⟩)) _ _ s
  refine wpAny_bind (wpAny_of_eq (F.bm_newCall _) (wpAny_pure ⟨plainId_quiet F.bm_plain _, codeAny_builtin F.bm_entry ?_⟩))
  rw [Around.under_plainId F.bm_plain _]
  unfold Builtin.«bytes.__new__»
  refine wpAny_bind (wpAny_of_eq (a := true) rfl ?_)
  refine bm_if_false rfl ?_
  refine wpAny_bind (wpAny_of_eq F.bm_sub ?_)
  refine bm_if_false rfl ?_
  refine wpAny_bind (wpAny_of_eq (F.bm_bind _) ?_)
  refine wpAny_bind (wpAny_of_eq (a := ()) rfl ?_)
  refine wpAny_bind (wpAny_of_eq (a := ()) rfl ?_)
  refine bm_if_false rfl ?_
  refine wpAny_bind (wpAny_specialOf (ba_type ho) ba_no_bytes ?_)
  refine wpAny_bind (wpAny_bind ?_)
  show wpAny _ _ (load b >>= _) _ _ _
  refine wpAny_bind (wpAny_load ho ?_)
  refine wpAny_pure (wpAny_pure ?_)
  refine bm_if_false rfl ?_
  refine wpAny_bind (wpAny_specialOf (ba_type ho) ba_no_index ?_)
  refine bm_if_true rfl ?_
  first
    | show wpAny _ _ (Builtin.Bytes.buffer? "bytes.__new__" (.ref b) true >>= _) _ _ _
    | (refine wpAny_bind ?_; show wpAny _ _ (Builtin.Bytes.buffer? "bytes.__new__" (.ref b) true >>= _) _ _ _)
  refine wpAny_bind (ba_buffer? ho ?_)
  refine wpAny_bind (wpAny_rule ?_)
  have hz' : ¬ B.toArray.size > sizeLine := by simp; exact hz
  unfold mkBytes
  simp only [if_neg hz']
  first
    | exact wpAny_pure (wpAny_pure (h _ _))
    | exact wpAny_bind (wpAny_bind (wpAny_fresh (wpAny_pure (wpAny_pure (h _ _)))))
theorem ba_bytes (ho : s.heap.get? b = some (baO B)) (hz : B.length ≤ sizeLine) {Q : Value → Shared → Prop} (h : ∀ t k, Q (.bytes B.toArray t) { s with toks := k }) : wpAny (model prog w) A (call (.type "bytes") [.ref b]) Q E s := by
  refine callType_codes (Q₁ := fun obj s₁ => s₁.TypeIs obj "bytes" ∧ Q obj s₁) F.bm_called (F.bm_typeCall _) F.entry_object_init
    (ba_bytes_new ho hz fun t k => ⟨PySem.W.typeIs_bytes _ _ _, h t k⟩) fun obj s₁ h₁ => ?_
  exact ⟨h₁.1, F.args_object_init_2 obj _, object_init_meets F.bm_called.init.lookup F.bm_called.made (by decide) prog w A.in1 _ s₁ ⟨h₁.1, rfl, h₁.2⟩⟩
end
end
section
open Sem (wp)
/-- a plain cut of a list -/
noncomputable def cut (B : List UInt8) (i j : Nat) : List UInt8 := (B.drop i).take (j - i)
theorem range_pick (B : List UInt8) (i : Nat) : ∀ n : Nat, i + n ≤ B.length → ((List.range n).map fun k : Nat => ((i : Int) + 1 * (k : Int)).toNat).filterMap (B.toArray[·]?) = (B.drop i).take n := by
  intro n
  induction n with
  | zero => intro _; simp
  | succ n ih =>
    intro h
    rw [List.range_succ, List.map_append, List.filterMap_append, ih (by omega)]
    have e : ((i : Int) + 1 * (n : Int)).toNat = i + n := by omega
    simp only [List.map_cons, List.map_nil, e]
    have hx : B.toArray[i + n]? = some (B[i + n]'(by omega)) := by simp
    simp only [List.filterMap_cons, hx, List.filterMap_nil]
    have hlt : n < (B.drop i).length := by simp; omega
    have g : (B.drop i)[n] = B[i + n]'(by omega) := by simp
    rw [List.take_succ_eq_append_getElem hlt, g]
theorem sliced_cut (B : List UInt8) (i j : Nat) (hij : i ≤ j) (hj : j ≤ B.length) : Builtin.Bytes.sliced B.toArray i j 1 = (cut B i j).toArray := by
  unfold Builtin.Bytes.sliced cut
  congr 1
  unfold sliceRange
  by_cases h : i < j
  · have h1 : ((1 : Int) > 0) := by decide
    have h2 : ((i : Int) < (j : Int)) := by omega
    simp only [h1, if_true, h2]
    have e : (((j : Int) - i + 1 - 1) / 1).toNat = j - i := by omega
    rw [e]
    exact range_pick B i (j - i) (by omega)
  · have h1 : ((1 : Int) > 0) := by decide
    have h2 : ¬ ((i : Int) < (j : Int)) := by omega
    simp only [h1, if_true, h2, if_false]
    have e : j - i = 0 := by omega
    rw [e]
    simp
section
variable {M : Model} {prog : Program} {w : World} {A : Around} {E : Value → Shared → Prop} {s : Shared} {b : Addr} {B : List UInt8}
theorem bounds_cut {n i j : Nat} (hi : i ≤ n) (hj : j ≤ n) : sliceBounds (some (i : Int)) (some (j : Int)) none n = ((i : Int), (j : Int), 1) := by
  unfold sliceBounds
  simp only [Option.getD_none]
  have h1 : ((1 : Int) > 0) := by decide
  simp only [h1, if_true]
  have a : ¬ ((i : Int) < 0) := by omega
  have b : ¬ ((j : Int) < 0) := by omega
  rw [if_neg a, if_neg b, Int.min_eq_left (by omega), Int.min_eq_left (by omega), Int.max_eq_right (by omega), Int.max_eq_right (by omega)]
theorem ba_getitem {a : Addr} {i j : Nat} {u v : Tok} {R : Value → Shared → Prop} (ho : s.heap.get? b = some (baO B)) (ha : s.heap.IsSliceOf a (.int i u) (.int j v) .none) (hij : i ≤ j) (hj : j ≤ B.length) (hz : B.length ≤ sizeLine)
    (h : R (.ref s.heap.objs.size) { s with heap := s.heap.push (baO (cut B i j)) }) : wpAny (model prog w) A (getItem (.ref b) (.ref a)) R E s := by
  refine wpAny_getItem_slot (ba_type ho) (by decide +kernel) ba_slot_getitem (wpAny_call_entry ba_slot_getitem (ba_type ho) ba_entry_getitem ?_ (ba_args_getitem _ _))
  obtain ⟨o, hoa, hc, hd⟩ := ha
  have hT : s.TypeIs (.ref a) "slice" := ⟨o, hoa, hc⟩
  unfold Builtin.«bytearray.__getitem__»
  refine wpAny_bind (wpAny_of_eq (a := (Value.ref b, [Value.ref a])) rfl ?_)
  show wpAny _ _ (Builtin.Bytes.subscript? (.ref a) >>= fun r => _) _ _ s
  refine wpAny_bind ?_
  unfold Builtin.Bytes.subscript?
  refine wpAny_bind (wpAny_specialOf hT slice_no_index (wpAny_pure ?_))
  refine wpAny_bind (wpAny_typeOf hT ?_)
  show wpAny _ _ (Builtin.Bytes.sliceParts (.ref a) >>= fun r => _) _ _ s
  refine wpAny_bind ?_
  unfold Builtin.Bytes.sliceParts
  refine wpAny_bind (wpAny_field (x := .none) hoa hd rfl ?_)
  kby_none
  refine wpAny_ite (KBy.ite_no (show ¬ ((Value.none == rawInt 0) = true) from Bool.false_ne_true) ?_)
  refine wpAny_bind (wpAny_field (x := .int i u) hoa hd rfl ?_)
  kby_int
  refine wpAny_bind (wpAny_field (x := .int j v) hoa hd rfl ?_)
  kby_int
  refine wpAny_pure (ba_payload ho ?_)
  refine wpAny_bind (wpAny_of_eq (sliceIndices_raw (some (i : Int)) (some (j : Int)) none B.toArray.size (fun e => nomatch e)) ?_)
  rw [bounds_cut (by simp; omega) (by simp; omega)]
  dsimp only
  rw [sliced_cut B i j hij hj]
  unfold Builtin.Bytes.newBytearray
  refine wpAny_bind (wpAny_newObj_type (wpAny_pure ⟨_, rfl, h⟩) ?_)
  show (cut B i j).toArray.size ≤ sizeLine
  unfold cut
  simp
  omega
end
end
/-- the sign at a place of a text: the octet, or -1 behind the end -/
noncomputable def sgn (T : List UInt8) (z : Int) : Int := if z < T.length then ((T.getD z.toNat 0).toNat : Int) else -1
theorem sgn_in {T : List UInt8} {z : Int} (h : z < T.length) : sgn T z = (T.getD z.toNat 0).toNat := if_pos h
theorem sgn_out {T : List UInt8} {z : Int} (h : ¬ z < T.length) : sgn T z = -1 := if_neg h
theorem sgn_lt (T : List UInt8) (z : Int) : -1 ≤ sgn T z ∧ sgn T z < 256 := by
  unfold sgn
  split
  · have := (T.getD z.toNat 0).toNat_lt; omega
  · omega
section
variable {M : Model} {prog : Program} {w : World} {A : Around} {E : Value → Shared → Prop} {s : Shared} {value slice : PySem.Expr} {T : List UInt8} {t u : Tok} {z : Int} {Q : Value → Shared → Prop}
theorem txt_len (hfit : T.length ≤ 1099511627776) (h : ∀ t k, Q (.int (T.length : Nat) t) { s with toks := k }) : wpAny (model prog w) A (call (.builtin "len") [.bytes T.toArray t]) Q E s := by
  refine len_bytes (by simpa using hfit) ?_
  simp only [List.size_toArray]
  exact h _ _
theorem txt_item (hfit : T.length ≤ 1099511627776) (h0 : 0 ≤ z) (h1 : z < (T.length : Int)) (h : ∀ t k, Q (.int (sgn T z) t) { s with toks := k })
    (hs : subscripted slice false (.bytes T.toArray t) (.int z u) = operate [.bytes T.toArray t, .int z u] (getItem (.bytes T.toArray t) (.int z u)) := by with_unfolding_all rfl)
    (ht : ∀ r, letTemporaryGo value (.bytes T.toArray t) r = pure () := by intro _; with_unfolding_all rfl) :
    wpAny (model prog w) A (subscriptTail value slice (.bytes T.toArray t) (.int z u)) Q E s := by
  refine KBy.item_N hfit h0 h1 ?_ hs ht
  rw [← sgn_in h1]
  exact h _ _
end
/-! Postconditions under names of one letter: what they stand for is told once, and not at every step of a walk. -/
noncomputable def isN : Flow → Bool
  | .next => true
  | _ => false
section
variable (M : Model) (A : Around) (env : Env)
noncomputable def OpN (rest : List Stmt) (Q : Flow → Shared → Prop) (E : Value → Shared → Prop) (Q1 : Flow → Shared → Prop) : Prop := ∀ s, wpP M A (execs rest env) Q E s → Q1 .next s
noncomputable def OpA (rest : List Stmt) (Q : Flow → Shared → Prop) (E : Value → Shared → Prop) (Q1 : Flow → Shared → Prop) : Prop := ∀ s, wpAny M A (execs rest env) Q E s → Q1 .next s
noncomputable def OpO (Q Q1 : Flow → Shared → Prop) : Prop := ∀ f s, isN f = false → Q f s → Q1 f s
noncomputable def OpI (body orelse : List Stmt) (Q : Flow → Shared → Prop) (E : Value → Shared → Prop) (Q1 : Bool → Shared → Prop) : Prop := ∀ b s, (if b then wpP M A (execs body env) Q E s else wpP M A (execs orelse env) Q E s) → Q1 b s
noncomputable def OpJ (body orelse : List Stmt) (Q : Flow → Shared → Prop) (E : Value → Shared → Prop) (Q1 : Bool → Shared → Prop) : Prop := ∀ b s, (if b then wpAny M A (execs body env) Q E s else wpAny M A (execs orelse env) Q E s) → Q1 b s
noncomputable def OpW (Q : Flow → Shared → Prop) (R1 : Result → Shared → Prop) : Prop := ∀ f s, Q f s → R1 (.ok f) s
noncomputable def OpX (E : Value → Shared → Prop) (R1 : Result → Shared → Prop) : Prop := ∀ e s, cameBackBy M A env E e s → R1 (.error e) s
noncomputable def OpL (body : List Stmt) (R : Result → Shared → Prop) (E : Value → Shared → Prop) (Q2 : Flow → Shared → Prop) (Q1 : Bool → Shared → Prop) : Prop := ∀ b s, (if b then wpP M A (execs body env) Q2 E s else R (.ok .next) s) → Q1 b s
noncomputable def OpT (test : PySem.Expr) (body : List Stmt) (R : Result → Shared → Prop) (Q2 : Flow → Shared → Prop) : Prop := ∀ s, codeP M A (.whileLoop test body [] env) R s → Q2 .next s ∧ Q2 .cont s
noncomputable def OpK (R : Result → Shared → Prop) (Q2 : Flow → Shared → Prop) : Prop := ∀ s, R (.ok .next) s → Q2 .brk s
noncomputable def OpV (R : Result → Shared → Prop) (Q2 : Flow → Shared → Prop) : Prop := ∀ v s, R (.ok (.ret v)) s → Q2 (.ret v) s
noncomputable def OpZ (R : Result → Shared → Prop) (Q2 : Flow → Shared → Prop) : Prop := ∀ s, R (.ok (.ret .none)) s → Q2 .next s
noncomputable def OpE (E E1 : Value → Shared → Prop) : Prop := ∀ e s, E e s → E1 e s
end
section
variable {M : Model} {A : Around} {env : Env} {E : Value → Shared → Prop} {h : Heap} {g : Array GenState} {d : Drawn} {tk : Nat} {os : OsState} {st : Stmt} {rest body orelse : List Stmt} {test : PySem.Expr} {pos : Pos} {Q : Flow → Shared → Prop}
theorem P_seq (k : ∀ Q1 tk, OpN M A env rest Q E Q1 → OpO Q Q1 → wpP M A (exec st env) Q1 E ⟨h, g, d, tk, os⟩) : wpP M A (execs (st :: rest) env) Q E ⟨h, g, d, tk, os⟩ :=
  P_execs_cons (k _ _ (fun _ x => x) fun f _ e x => by cases f <;> first | exact x | cases e)
theorem P_seqA (k : ∀ Q1 tk, OpN M A env rest Q E Q1 → OpO Q Q1 → wpAny M A (exec st env) Q1 E ⟨h, g, d, tk, os⟩) : wpP M A (execs (st :: rest) env) Q E ⟨h, g, d, tk, os⟩ :=
  P_seq fun a b c e => P_lift (k a b c e)
theorem W_seq (k : ∀ Q1 tk, OpA M A env rest Q E Q1 → OpO Q Q1 → wpAny M A (exec st env) Q1 E ⟨h, g, d, tk, os⟩) : wpAny M A (execs (st :: rest) env) Q E ⟨h, g, d, tk, os⟩ :=
  wpAny_execs_cons (k _ _ (fun _ x => x) fun f _ e x => by cases f <;> first | exact x | cases e)
theorem P_ifq (k : ∀ Q1, OpI M A env body orelse Q E Q1 → wpP M A (isTrue test env (eval test env)) Q1 E ⟨h, g, d, tk, os⟩) : wpP M A (exec (.If test body orelse pos) env) Q E ⟨h, g, d, tk, os⟩ := P_If (k _ fun _ _ x => x)
theorem P_ifqA (k : ∀ Q1, OpI M A env body orelse Q E Q1 → wpAny M A (isTrue test env (eval test env)) Q1 E ⟨h, g, d, tk, os⟩) : wpP M A (exec (.If test body orelse pos) env) Q E ⟨h, g, d, tk, os⟩ := P_IfA (k _ fun _ _ x => x)
theorem W_ifq (k : ∀ Q1, OpJ M A env body orelse Q E Q1 → wpAny M A (isTrue test env (eval test env)) Q1 E ⟨h, g, d, tk, os⟩) : wpAny M A (exec (.If test body orelse pos) env) Q E ⟨h, g, d, tk, os⟩ := wpAny_If (k _ fun _ _ x => x)
theorem P_whileq (k : ∀ R1, OpW Q R1 → OpX M A env E R1 → codeP M A (.whileLoop test body orelse env) R1 ⟨h, g, d, tk, os⟩) : wpP M A (exec (.While test body orelse pos) env) Q E ⟨h, g, d, tk, os⟩ := P_While (k _ (fun _ _ x => x) fun _ _ x => x)
end
/-- a while with a measure -/
theorem P_loop {prog : Program} {w : World} {A : Around} {env : Env} {test : Expr} {body : List Stmt} {R : Result → Shared → Prop} (Inv : Nat → Shared → Prop)
    (step : ∀ n s, Inv n s → wpP (model prog w) A (isTrue test env (eval test env)) (fun b s₂ => if b then wpP (model prog w) A (execs body env) (fun f s₃ => match f with
        | .next | .cont => ∃ n', n' < n ∧ Inv n' s₃
        | .brk => R (.ok .next) s₃
        | .ret v => R (.ok (.ret v)) s₃) (notedBy (model prog w) A env fun x s₃ => R (.error x) s₃) s₂ else R (.ok .next) s₂) (notedBy (model prog w) A env fun x s₂ => R (.error x) s₂) s) :
    ∀ n s, Inv n s → codeP (model prog w) A (.whileLoop test body [] env) R s := by
  intro n
  induction n using Nat.strongRecOn with
  | ind n ih =>
    intro s hI
    refine P_turn (P_mono (step n s hI) (fun b s₂ h₂ => ?_) fun _ _ x => x)
    cases b with
    | true =>
      simp only [if_true] at h₂ ⊢
      refine P_mono h₂ (fun f s₃ h₃ => ?_) fun _ _ x => x
      cases f with
      | next => obtain ⟨n', hn, hi⟩ := h₃; exact ih n' hn _ hi
      | cont => obtain ⟨n', hn, hi⟩ := h₃; exact ih n' hn _ hi
      | brk => exact h₃
      | ret v => exact h₃
    | false => simpa using h₂
section
variable {prog : Program} {w : World} {A : Around} {env : Env} {h : Heap} {gs : Array GenState} {d : Drawn} {tk : Nat} {os : OsState} {body : List Stmt} {test : PySem.Expr} {R : Result → Shared → Prop} {Q : Flow → Shared → Prop} {E : Value → Shared → Prop} {g : Heap} {L : Addr} {m : Str → Option Value} {core : List (Addr × Obj)}
theorem P_turnq (k : ∀ Q1 Q2 E1 tk, OpL (model prog w) A env body R E1 Q2 Q1 → OpT (model prog w) A env test body R Q2 → OpK R Q2 → OpV R Q2 → OpE (notedBy (model prog w) A env fun x s₂ => R (.error x) s₂) E1 → wpP (model prog w) A (isTrue test env (eval test env)) Q1 E1 ⟨h, gs, d, tk, os⟩) :
    codeP (model prog w) A (.whileLoop test body [] env) R ⟨h, gs, d, tk, os⟩ :=
  P_turn (k _ _ _ tk (fun _ _ x => x) (fun _ x => ⟨x, x⟩) (fun _ x => x) (fun _ _ x => x) fun _ _ x => x)
/-- a while with a measure, over a frame and a ledger -/
theorem P_loopq {n : Nat} (PR : Nat → List (Addr × Obj) → Prop) (F : Fr g L h m) (N : News g L h core) (p0 : PR n core)
    (step : ∀ n h tk core Q1 Q2 E1, Fr g L h m → News g L h core → PR n core → OpL (model prog w) A env body R E1 Q2 Q1 →
      (∀ n' h' tk' core', n' < n → Fr g L h' m → News g L h' core' → PR n' core' → Q2 .next ⟨h', gs, d, tk', os⟩ ∧ Q2 .cont ⟨h', gs, d, tk', os⟩) → OpK R Q2 → OpV R Q2 → OpE (notedBy (model prog w) A env fun x s₂ => R (.error x) s₂) E1 →
      wpP (model prog w) A (isTrue test env (eval test env)) Q1 E1 ⟨h, gs, d, tk, os⟩) :
    codeP (model prog w) A (.whileLoop test body [] env) R ⟨h, gs, d, tk, os⟩ := by
  refine P_loop (fun n s₁ => ∃ h' tk' core', s₁ = ⟨h', gs, d, tk', os⟩ ∧ Fr g L h' m ∧ News g L h' core' ∧ PR n core') ?_ n _ ⟨h, tk, core, rfl, F, N, p0⟩
  rintro n _ ⟨h', tk', core', rfl, F', N', p'⟩
  exact step n h' tk' core' _ _ _ F' N' p' (fun _ _ x => x) (fun n' h' tk' core' a b c e => ⟨⟨n', a, h', tk', core', rfl, b, c, e⟩, ⟨n', a, h', tk', core', rfl, b, c, e⟩⟩) (fun _ x => x) (fun _ _ x => x) fun _ _ x => x
theorem po_leave : PassesOwn (model prog w) (A.deeper env) env (fun e s' => wpAny (model prog w) (A.deeper env) (leaving env e) (fun _ s'' => R (.error e) s'') (fun e' s'' => R (.error e') s'') s') := by
  passes_own
/-- the start of a def's walk: the flow's end and the exception's end by name -/
theorem W_start (k : ∀ Q1 E1, OpV R Q1 → OpZ R Q1 → OpE (fun e s' => wpAny (model prog w) (A.deeper env) (leaving env e) (fun _ s'' => R (.error e) s'') (fun e' s'' => R (.error e') s'') s') E1 → PassesOwn (model prog w) (A.deeper env) env E1 →
      wpAny (model prog w) (A.deeper env) (execs body env) Q1 E1 ⟨h, gs, d, tk, os⟩) :
    wpAny (model prog w) (A.deeper env) (execs body env) (fun fl s' => R (.ok (.ret (match fl with | .ret v => v | _ => .none))) s')
      (fun e s' => wpAny (model prog w) (A.deeper env) (leaving env e) (fun _ s'' => R (.error e) s'') (fun e' s'' => R (.error e') s'') s') ⟨h, gs, d, tk, os⟩ := k _ _ (fun _ _ x => x) (fun _ x => x) (fun _ _ x => x) po_leave
theorem P_start (k : ∀ Q1 E1, OpV R Q1 → OpZ R Q1 → OpE (fun e s' => wpAny (model prog w) (A.deeper env) (leaving env e) (fun _ s'' => R (.error e) s'') (fun e' s'' => R (.error e') s'') s') E1 → PassesOwn (model prog w) (A.deeper env) env E1 →
      wpP (model prog w) (A.deeper env) (execs body env) Q1 E1 ⟨h, gs, d, tk, os⟩) :
    wpP (model prog w) (A.deeper env) (execs body env) (fun fl s' => R (.ok (.ret (match fl with | .ret v => v | _ => .none))) s')
      (fun e s' => wpAny (model prog w) (A.deeper env) (leaving env e) (fun _ s'' => R (.error e) s'') (fun e' s'' => R (.error e') s'') s') ⟨h, gs, d, tk, os⟩ := k _ _ (fun _ _ x => x) (fun _ x => x) (fun _ _ x => x) po_leave
end
theorem off_L1 : True := by
  w_top off
  trivial
theorem fill : PySem.Challenge.rw_pq0682_01 = PySem.Challenge.rw_pq0682_01 ∧ hd.heap_1 = hd.heap_1 := by
  k_fill
  exact ⟨rfl, rfl⟩
local macro_rules | `(tactic| k_room) => `(tactic| k_extra "k_room")
theorem reg_77c3e30d_L1 : True := by
  k_with "k_room" =>
    (first | exact room1 (by assumption) rfl | ((try simp only [depth_mark, depth_under_make, depth_under_kw, depth_in1, depth_deeper, depth_caller]); omega))
  trivial
local macro_rules | `(tactic| k_units) => `(tactic| k_extra "k_units")
theorem reg_1a4dc66b_L1 : True := by
  k_with "k_units" =>
    (first | exact unit1 (by assumption) rfl | ((try simp only [units_in1, units_deeper, Around.mark_units, units_caller]); omega))
  trivial
local macro_rules | `(tactic| k_ne) => `(tactic| k_extra "k_ne")
theorem reg_82c2d393_L1 : True := by
  k_with "k_ne" =>
    (refine neN ?_; (try dsimp only); exact news_ne (by assumption) (by k_mem) (by k_mem) rfl)
  trivial
local macro_rules | `(tactic| passes_own) => `(tactic| assumption)
local macro_rules | `(tactic| walk_at $s:str) => do `(tactic| k_extra $(Lean.Syntax.mkStrLit ("q " ++ s.getString)))
theorem reg_5411f37b_L1 : True := by
  k_with "q subs" =>
    ((repeat' (first | exact List.forall_mem_nil _ | refine' List.forall_mem_cons.mpr ⟨?_, ?_⟩ | k_mem | (rw [‹LC.chk _ = _›]; k_mem))))
  trivial
theorem reg_da7355b3_L1 : True := by
  k_with "q side" =>
    (first | assumption | exact le_c (by assumption) rfl | omega | (refine neN ?_; omega) | (constructor <;> omega) | ((try simp only [List.length_append, List.length_cons, List.length_nil, List.length_replicate]); omega) | (constructor <;> (first | assumption | decide | omega)) | rfl | decide)
  trivial
theorem reg_d3cd5d6e_L1 : True := by
  k_with "q contra" =>
    (exfalso; (try simp only [Bool.or_eq_true, Bool.and_eq_true, decide_eq_true_eq, beq_iff_eq, Bool.or_eq_false_iff, Bool.and_eq_false_iff, decide_eq_false_iff_not, beq_eq_false_iff_ne] at *); omega)
  trivial
theorem reg_2c9f3b3a_L1 : True := by
  k_with "q close" =>
    ((case uF => k_asm); (case uA => rfl); (case uB => k_asm); (case uX => k_asm); (case uN => k_asm); (case uT => k_asm); (case uh => rfl); (case ug => rfl); (case uf => rfl); (case uk => rfl); (case us => walk_at "subs"))
  trivial
theorem reg_c5b00bdf_L1 : True := by
  k_with "q astep" =>
    (first | ((fail_if_success (with_reducible show wpAny _ _ _ _ _ _)); (first | (refine (by assumption : OpN _ _ _ _ _ _ _) _ ?_) | (refine (by assumption : OpO _ _) _ _ rfl ?_) | (refine (by assumption : OpI _ _ _ _ _ _ _ _) _ _ ?_) | (refine (by assumption : OpV _ _) _ _ ?_) | (refine (by assumption : OpW _ _) _ _ ?_) | (refine (by assumption : OpL _ _ _ _ _ _ _ _) _ _ ?_) | (refine ((by assumption : OpT _ _ _ _ _ _ _) _ ?_).1) | (refine (by assumption : OpK _ _) _ ?_) | (refine (by assumption : OpZ _ _) _ ?_) | (refine (by assumption : OpA _ _ _ _ _ _ _) _ ?_) | (refine (by assumption : OpJ _ _ _ _ _ _ _ _) _ _ ?_) | (refine (by assumption : OpE _ _) _ _ ?_) | (refine (by assumption : OpX _ _ _ _ _) _ _ ?_)); (try dsimp only)) | ((with_reducible show wpAny _ _ (execs (_ :: _) _) _ _ _); (fail_if_success (with_reducible show wpAny _ _ (execs (Stmt.For _ _ _ _ _ :: _) _) _ _ _)); refine W_seq fun Q1 tk1 k1 k2 => ?_) | ((with_reducible show wpAny _ _ (exec (Stmt.If _ _ _ _) _) _ _ _); refine W_ifq fun Q2 k3 => ?_) | ((with_reducible show ite _ _ _); (first | refine ite_neg (by first | decide | ((try simp only [List.any_cons, List.any_nil, bne_iff_ne, ne_eq, Bool.not_eq_true, bne_eq_false_iff_eq, decide_eq_true_eq, Bool.or_eq_true, Bool.and_eq_true, beq_iff_eq, Bool.or_false, Bool.false_or, Bool.not_eq_true', decide_eq_false_iff_not, Bool.or_eq_false_iff, Bool.and_eq_false_iff, beq_eq_false_iff_ne]); omega)) ?_ | refine ite_pos (by first | decide | ((try simp only [List.any_cons, List.any_nil, bne_iff_ne, ne_eq, Bool.not_eq_true, bne_eq_false_iff_eq, decide_eq_true_eq, Bool.or_eq_true, Bool.and_eq_true, beq_iff_eq, Bool.or_false, Bool.false_or, Bool.not_eq_true', decide_eq_false_iff_not, Bool.or_eq_false_iff, Bool.and_eq_false_iff, beq_eq_false_iff_ne]); omega)) ?_)) | ((with_reducible show wpAny _ _ (execs _ _) _ _ _); dsimp only) | (k_unfold; (try dsimp only)) | walk1 | (dsimp only; walk1) | fail "no step")
  trivial
theorem reg_1322b343_L1 : True := by
  k_with "q call builtin:len" =>
    (k_here; (with_reducible show wpAny _ _ (call (Value.builtin "len") [Value.bytes (List.toArray _) _]) _ _ _); (refine txt_len (by omega) ?_); intro _ _; (try dsimp only))
  trivial
theorem reg_cf1fbd11_L1 : True := by
  k_with "q subscriptTail" =>
    (k_here; (with_reducible show wpAny _ _ (subscriptTail _ _ (Value.bytes (List.toArray _) _) (Value.int _ _)) _ _ _); (refine txt_item (by omega) (by omega) (by omega) ?_); intro _ _; (try dsimp only))
  trivial
theorem is_newline_spec (prog : Program) (w : World) (n : Int) (t : Tok) : Spec prog w 224 [.int n t] [] 3 30 (fun v _ => v = .bool (n == 10 || n == 13)) := by
  intro p loose mean mg mb dp un outer base g s R B' X' T' sub sz hC hdp hun hret
  refine' enter X' T' sub sz hC ?k6 ?k7 ?k8 ?k9 ?kB ?_ ?c5 ?c2 ?c3 ?c4
  (case k6 => k_is)
  (case k7 => k_is)
  (case k8 => exact room0 hdp)
  (case k9 => exact BindsTo.of_eq rfl)
  (case kB => exact locs rfl)
  (case c5 => decide)
  (case c2 => exact rfl)
  (case c3 => exact rfl)
  (case c4 => exact rfl)
  intro L' h' F' N' l1
  (try k_lt l1)
  clear sub sz hC
  (try dsimp only)
  (try k_fold)
  (repeat' (first 
    | walk_at "astep"))
  all_goals (refine' hret _ _ _ _ (Fr.keep (by assumption)) (fr_size (by assumption)) (has_of (by assumption) (fun _ hq => hq)) (by simp [Bool.beq_comm]))
theorem said_1 : True := by
  k_with "x0" =>
    (refine' hret _ _ _ _ (Fr.keep (by assumption)) (fr_size (by assumption)) (has_of (by assumption) (fun _ hq => hq)) (by (try dsimp only); refine congrArg Value.bool (Bool.eq_iff_iff.mpr ?_); simp only [Bool.or_eq_true, Bool.and_eq_true, decide_eq_true_eq, beq_iff_eq, Bool.or_eq_false_iff, Bool.and_eq_false_iff, decide_eq_false_iff_not, beq_eq_false_iff_ne] at *; omega))
  trivial
theorem is_blank_spec (prog : Program) (w : World) (n : Int) (t : Tok) : Spec prog w 210 [.int n t] [] 3 30 (fun v _ => v = .bool (n == 32 || (9 ≤ n && n ≤ 13))) := by
  intro p loose mean mg mb dp un outer base g s R B' X' T' sub sz hC hdp hun hret
  refine' enter X' T' sub sz hC ?k6 ?k7 ?k8 ?k9 ?kB ?_ ?c5 ?c2 ?c3 ?c4
  (case k6 => k_is)
  (case k7 => k_is)
  (case k8 => exact room0 hdp)
  (case k9 => exact BindsTo.of_eq rfl)
  (case kB => exact locs rfl)
  (case c5 => decide)
  (case c2 => exact rfl)
  (case c3 => exact rfl)
  (case c4 => exact rfl)
  intro L' h' F' N' l1
  (try k_lt l1)
  clear sub sz hC
  (try dsimp only)
  (try k_fold)
  (repeat' (first 
    | walk_at "astep"))
  all_goals k_extra "x0"
theorem is_digit_spec (prog : Program) (w : World) (n : Int) (t : Tok) : Spec prog w 189 [.int n t] [] 3 30 (fun v _ => v = .bool (48 ≤ n && n ≤ 57)) := by
  intro p loose mean mg mb dp un outer base g s R B' X' T' sub sz hC hdp hun hret
  refine' enter X' T' sub sz hC ?k6 ?k7 ?k8 ?k9 ?kB ?_ ?c5 ?c2 ?c3 ?c4
  (case k6 => k_is)
  (case k7 => k_is)
  (case k8 => exact room0 hdp)
  (case k9 => exact BindsTo.of_eq rfl)
  (case kB => exact locs rfl)
  (case c5 => decide)
  (case c2 => exact rfl)
  (case c3 => exact rfl)
  (case c4 => exact rfl)
  intro L' h' F' N' l1
  (try k_lt l1)
  clear sub sz hC
  (try dsimp only)
  (try k_fold)
  (repeat' (first 
    | walk_at "astep"))
  all_goals k_extra "x0"
theorem is_letter_spec (prog : Program) (w : World) (n : Int) (t : Tok) : Spec prog w 196 [.int n t] [] 3 30 (fun v _ => v = .bool ((65 ≤ n && n ≤ 90) || (97 ≤ n && n ≤ 122) || n == 95)) := by
  intro p loose mean mg mb dp un outer base g s R B' X' T' sub sz hC hdp hun hret
  refine' enter X' T' sub sz hC ?k6 ?k7 ?k8 ?k9 ?kB ?_ ?c5 ?c2 ?c3 ?c4
  (case k6 => k_is)
  (case k7 => k_is)
  (case k8 => exact room0 hdp)
  (case k9 => exact BindsTo.of_eq rfl)
  (case kB => exact locs rfl)
  (case c5 => decide)
  (case c2 => exact rfl)
  (case c3 => exact rfl)
  (case c4 => exact rfl)
  intro L' h' F' N' l1
  (try k_lt l1)
  clear sub sz hC
  (try dsimp only)
  (try k_fold)
  (repeat' (first 
    | walk_at "astep"))
  all_goals k_extra "x0"
theorem is_control_spec (prog : Program) (w : World) (n : Int) (t : Tok) : Spec prog w 217 [.int n t] [] 3 30 (fun v _ => v = .bool ((0 ≤ n && n < 32) || n == 127)) := by
  intro p loose mean mg mb dp un outer base g s R B' X' T' sub sz hC hdp hun hret
  refine' enter X' T' sub sz hC ?k6 ?k7 ?k8 ?k9 ?kB ?_ ?c5 ?c2 ?c3 ?c4
  (case k6 => k_is)
  (case k7 => k_is)
  (case k8 => exact room0 hdp)
  (case k9 => exact BindsTo.of_eq rfl)
  (case kB => exact locs rfl)
  (case c5 => decide)
  (case c2 => exact rfl)
  (case c3 => exact rfl)
  (case c4 => exact rfl)
  intro L' h' F' N' l1
  (try k_lt l1)
  clear sub sz hC
  (try dsimp only)
  (try k_fold)
  (repeat' (first 
    | walk_at "astep"))
  all_goals k_extra "x0"
section
variable {k : HZ} {x dx : Addr} {T : List UInt8} {tT ti tsg : Tok} {src chk lim knd ln ll buf cur ahd : Value} {i sg : Int}
theorem said_3 : True := by
  k_with "x1" =>
    (refine' hret _ _ _ _ (Fr.keep (by assumption)) (fr_size (by assumption)) (has_of (by assumption) (fun _ hq => hq)) ⟨rfl, _, _, rfl⟩)
  k_with "x2" =>
    (refine' hret _ _ _ _ (Fr.keep (by assumption)) (fr_size (by assumption)) (has_of (by assumption) (fun _ hq => hq)) ⟨rfl, _, _, by rw [sgn_out (by assumption)]⟩)
  trivial
set_option maxHeartbeats 4000000 in
theorem move_spec (prog : Program) (w : World) (h0 : 0 ≤ i) (hT : T.length ≤ 100000) :
    Spec prog w 322 [.ref x] [(dx, dictOf (LD k (.bytes T.toArray tT) src chk lim knd (.int i ti) (.int sg tsg) ln ll buf cur ahd) 12), (x, instObj 465 dx)] 3 30
      (fun v c => v = .none ∧ ∃ t1 t2, c = [(dx, dictOf (LD k (.bytes T.toArray tT) src chk lim knd (.int (i + 1) t1) (.int (sgn T (i + 1)) t2) ln ll buf cur ahd) 12), (x, instObj 465 dx)]) := by
  intro p loose mean mg mb dp un outer base g s R B' X' T' sub sz hC hdp hun hret
  refine' enter X' T' sub sz hC ?k6 ?k7 ?k8 ?k9 ?kB ?_ ?c5 ?c2 ?c3 ?c4
  (case k6 => k_is)
  (case k7 => k_is)
  (case k8 => exact room0 hdp)
  (case k9 => exact BindsTo.of_eq rfl)
  (case kB => exact locs rfl)
  (case c5 => decide)
  (case c2 => exact rfl)
  (case c3 => exact rfl)
  (case c4 => exact rfl)
  intro L' h' F' N' l1
  (try k_lt l1)
  clear sub sz hC
  (try dsimp only)
  (try k_fold)
  (repeat' (first 
    | walk_at "astep"))
  · k_extra "x1"
  · k_extra "x2"
end
section
open Sem (wp)
/-- a stop that is seen: a contract that is to be used at a place does not fit -/
theorem use_failed {p : Prop} (h : False ∧ p) : p := h.2
section
variable {M : Model} {A : Around} {E : Value → Shared → Prop} {s : Shared} {K : Frag} {env : Env} {pos : Pos} {f : Value} {first : List Value} {Q : Value → Shared → Prop}
theorem P_callWith_K {h₀ : Heap} {e : Expr} {rest : List Expr} (_X : K.In h₀) (hk : keepIn K f = true) (h : wpAny M A (spliced (backTo pos (starEach (e :: rest) env))) (fun vs s₁ => K.In s₁.heap ∧ wpP M A (call f (first ++ vs)) Q E s₁) E s)
    (he : starEach (e :: rest) env = (false, eval e env) :: starEach rest env := by rfl) (hplain : (backTo pos (starEach rest env)).any (·.1) = false := by rfl) :
    wpP M A (callWith pos f first (backTo pos (starEach (e :: rest) env)) []) Q E s := by
  rw [he] at h ⊢
  exact P_callWith (by show (false || (backTo pos (starEach rest env)).any (·.1)) = false; rw [hplain]; rfl) (keeps_K hk) (P_lift (evalArgs_plain h))
theorem P_callWith_KP {h₀ : Heap} {e : Expr} {rest : List Expr} (_X : K.In h₀) (hk : keepIn K f = true) (h : wpP M A (spliced (backTo pos (starEach (e :: rest) env))) (fun vs s₁ => K.In s₁.heap ∧ wpP M A (call f (first ++ vs)) Q E s₁) E s)
    (he : starEach (e :: rest) env = (false, eval e env) :: starEach rest env := by rfl) (hplain : (backTo pos (starEach rest env)).any (·.1) = false := by rfl) :
    wpP M A (callWith pos f first (backTo pos (starEach (e :: rest) env)) []) Q E s := by
  rw [he] at h ⊢
  exact P_callWith (by show (false || (backTo pos (starEach rest env)).any (·.1)) = false; rw [hplain]; rfl) (keeps_K hk) (P_evalArgs h)
theorem P_callWith_K0 (X : K.In s.heap) (hk : keepIn K f = true) (h : wpP M A (call f (first ++ [])) Q E s) : wpP M A (callWith pos f first (backTo pos (starEach [] env)) []) Q E s :=
  P_callWith rfl (keeps_K hk) (P_lift (evalArgs_nil3 ⟨X, h⟩))
theorem P_callWith_b1 {id : String} {e : Expr} (h : wpAny M A (spliced (backTo pos (starEach [e] env))) (fun vs s₁ => wpP M A (call (.builtin id) (first ++ vs)) Q E s₁) E s)
    (he : starEach [e] env = (false, eval e env) :: starEach [] env := by rfl) :
    wpP M A (callWith pos (.builtin id) first (backTo pos (starEach [e] env)) []) Q E s := by
  rw [he] at h ⊢
  exact P_callWith_builtin rfl (P_lift (evalArgs_plain h))
theorem P_callWith_t0 {T : String} (h : wpP M A (call (.type T) []) Q E s) : wpP M A (callWith pos (.type T) [] (backTo pos (starEach [] env)) []) Q E s := by
  show wpP M A (callWith pos (.type T) [] [] []) Q E s
  unfold callWith
  refine P_bind (P_holding (P_lift (evalArgs_nil3 (P_bind (P_standAt ?_)))))
  simp only [List.any_nil, Bool.or_false]
  refine P_bind (P_pure ?_)
  exact P_bind (P_mono h (fun r s₂ hr => P_bindA (wpAny_holding (wpAny_point (P_pure hr)))) fun _ _ x => x)
theorem P_Call {func : Expr} {args : List Expr} (h : wpAny M A (eval func env) (fun f s₁ => wpP M A (callWith pos f [] (backTo pos (starEach args env)) []) Q E s₁) E s)
    (he : eval (.Call func args [] pos) env = (do callWith pos (← eval func env) [] (backTo pos (starEach args env)) (backToKw pos (keywordEach [] env))) := by rfl) :
    wpP M A (eval (.Call func args [] pos) env) Q E s := by
  rw [he]
  exact P_bindA h
theorem P_methodCall0 {o : Expr} {name : Str} {apos : Pos} {args : List Expr} {pl : Sem Bool}
    (h : wpAny M A (eval o env) (fun ov s₁ => wpAny M A (getMethod ov name pl) (fun fx s₂ => wpP M A (callWith pos fx.1 fx.2 (backTo pos (starEach args env)) []) Q E s₂) E s₁) E s)
    (he : eval (.Call (.Attribute o name apos) args [] pos) env = (do
      let ov ← eval o env
      standAt apos.atName
      let (f, first) ← holding [ov] (getMethod ov name pl)
      callWith pos f first (backTo pos (starEach args env)) (backToKw pos (keywordEach [] env))) := by rfl) :
    wpP M A (eval (.Call (.Attribute o name apos) args [] pos) env) Q E s := P_methodCall h he
/-- a statement at the end of a list: nothing is behind it -/
theorem P_execs_nil {Q : Flow → Shared → Prop} (h : Q .next s) : wpP M A (execs [] env) Q E s := P_lift (wpAny_execs_nil h)
end
section
variable {prog : Program} {w : World} {M : Model} {A : Around} {E : Value → Shared → Prop} {s : Shared} {h₀ : Heap} {L b : Addr} {m : Str → Option Value} {news news' : List (Addr × Obj)} {B : List UInt8} {Q : Value → Shared → Prop}
theorem ba_len_N (_F : Fr h₀ L s.heap m) (N : News h₀ L s.heap news) (hm : (b, baO B) ∈ news) (hfit : B.length ≤ 1000000) (h : ∀ t k, Q (.int B.length t) { s with toks := k }) : wpAny (model prog w) A (call (.builtin "len") [.ref b]) Q E s :=
  ba_len (N _ hm).1 (by omega) (h _ _)
theorem ba_getMethod_N {pl : Sem Bool} {Q : Value × List Value → Shared → Prop} (_F : Fr h₀ L s.heap m) (N : News h₀ L s.heap news) (hm : (b, baO B) ∈ news) (h : Q (.builtin "bytearray.append", [.ref b]) s) :
    wpAny M A (getMethod (.ref b) "append" pl) Q E s := ba_getMethod (N _ hm).1 h
theorem ba_append_N (hg : A.guards = some []) (F : Fr h₀ L s.heap m) (N : News h₀ L s.heap news) (_m : (b, baO B) ∈ news) {c : Int} {t : Tok} (h0 : 0 ≤ c ∧ c < 256) (hsz : B.length + 1 ≤ 1000000)
    (U : Upd b (baO B) (baO (B ++ [c.toNat.toUInt8])) news news') (h : ∀ h', Fr h₀ L h' m → News h₀ L h' news' → Q .none { s with heap := h' }) : wpP (model prog w) A (call (.builtin "bytearray.append") [.ref b, .int c t]) Q E s := by
  obtain ⟨pre, post, rfl, rfl, a1, a2⟩ := U.split
  have z := N (b, baO B) (List.mem_append.mpr (.inr (.head _)))
  refine ba_append hg z.1 h0.1 h0.2 (by have : (1000000 : Nat) ≤ sizeLine := by decide +kernel
                                        omega) (h _ (F.change (.update ..) z.2.1 z.2.2) (news_set N a1 a2 (.update ..) ?_))
  refine (Heap.get?_update_self _ z.1 rfl).trans ?_
  show some (Obj.mapBytearray (·.push c.toNat.toUInt8) (baO B)) = _
  simp [Obj.mapBytearray, baO]
theorem ba_make_N (hg : A.guards = some []) (F : Fr h₀ L s.heap m) (N : News h₀ L s.heap news)
    (h : ∀ b h', Fr h₀ L h' m → News h₀ L h' ((b, baO []) :: news) → (∀ q ∈ news, q.1 < b) → Q (.ref b) { s with heap := h' }) : wpP (model prog w) A (call (.type "bytearray") []) Q E s := by
  refine ba_make hg fun h' b hk hb hs _ => h b h' (F.keptAll hk) (fun q hq => ?_) fun q hq => ?_
  · rcases List.mem_cons.mp hq with rfl | hq
    · refine ⟨hb, fun e => ?_, ?_⟩
      · have := F.ns.lt
        dsimp only at e
        rw [← e, ← hs] at this
        exact absurd this (Nat.lt_irrefl _)
      · cases z : h₀.get? b with
        | none => rfl
        | some o =>
          have := Heap.lt_size (F.keep _ _ z)
          rw [← hs] at this
          exact absurd this (Nat.lt_irrefl _)
    · exact ⟨hk _ _ (N q hq).1, (N q hq).2⟩
  · rw [← hs]; exact Heap.lt_size (N q hq).1
end
end
section
variable {prog : Program} {w : World} {A : Around} {E : Value → Shared → Prop} {s : Shared} {h₀ : Heap} {L b : Addr} {m : Str → Option Value} {news : List (Addr × Obj)} {B : List UInt8} {Q : Value → Shared → Prop} {value slice : PySem.Expr} {x y : Int} {u v : Tok}
theorem ba_slice_N (F : Fr h₀ L s.heap m) (N : News h₀ L s.heap news) (hm : (b, baO B) ∈ news) (h0 : 0 ≤ x) (hxy : x ≤ y) (hy : y ≤ B.length) (hz : B.length ≤ 1000000)
    (h : ∀ D h', Fr h₀ L h' m → News h₀ L h' ((D, baO (cut B x.toNat y.toNat)) :: news) → (∀ p ∈ news, p.1 < D) → Q (.ref D) { s with heap := h' })
    (hs : subscripted slice false (.ref b) (.ref s.heap.objs.size) = operate [.ref s.heap.objs.size, .ref b] (getItem (.ref b) (.ref s.heap.objs.size))) (ht : ∀ r, letTemporaryGo value (.ref b) r = pure ()) :
    wpAny (model prog w) A (subscriptTail value slice (.ref b) (.ref s.heap.objs.size)) Q E { s with heap := s.heap.push { cls := .type "slice", data := .fields #[.int x u, .int y v, .none] } } := by
  have ho := (N _ hm).1
  have ho' : (s.heap.push { cls := .type "slice", data := .fields #[.int x u, .int y v, .none] }).get? b = some (baO B) := Heap.get?_push_of_some _ ho
  refine tail_of_ItemOn ⟨"bytearray", _, ba_slot_getitem.lookup, ⟨_, ho', rfl⟩, ?_⟩ hs ht
  have e1 : x = ((x.toNat : Nat) : Int) := by omega
  have e2 : y = ((y.toNat : Nat) : Int) := by omega
  have hz' : B.length ≤ sizeLine := by
    have : (1000000 : Nat) ≤ sizeLine := by decide +kernel
    omega
  refine ba_getitem (B := B) (i := x.toNat) (j := y.toNat) (u := u) (v := v) ho' ?_ (by omega) (by omega) hz' ?_
  · have := Heap.IsSliceOf.new s.heap (.int x u) (.int y v) .none
    rw [← e1, ← e2]; exact this
  · have F1 := F.push { cls := .type "slice", data := .fields #[.int x u, .int y v, .none] }
    have N1 := News.pushKeep N { cls := .type "slice", data := .fields #[.int x u, .int y v, .none] }
    exact h _ _ (F1.push _) (N1.push F1 _) fun p hp => Heap.lt_size (N1 p hp).1
theorem ba_bytes_N (_F : Fr h₀ L s.heap m) (N : News h₀ L s.heap news) (hm : (b, baO B) ∈ news) (hz : B.length ≤ 1000000) (h : ∀ t k, Q (.bytes B.toArray t) { s with toks := k }) : wpAny (model prog w) A (call (.type "bytes") [.ref b]) Q E s :=
by
  have hz' : B.length ≤ sizeLine := by
    have : (1000000 : Nat) ≤ sizeLine := by decide +kernel
    omega
  exact ba_bytes (N _ hm).1 hz' h
theorem cut_len (B : List UInt8) (i j : Nat) : (cut B i j).length ≤ B.length := by unfold cut; simp; omega
theorem cut_mid (a : UInt8) (R : List UInt8) (z : UInt8) {j : Nat} (h : j = R.length + 1) : cut (a :: (R ++ [z])) 1 j = R := by subst h; unfold cut; simp
end
section
variable {prog : Program} {w : World} {A : Around} {E : Value → Shared → Prop} {s : Shared} {h₀ : Heap} {L b : Addr} {m : Str → Option Value} {news : List (Addr × Obj)} {B B' : List UInt8} {Q : Value → Shared → Prop}
theorem ba_bytes_E (F : Fr h₀ L s.heap m) (N : News h₀ L s.heap news) (hm : (b, baO B) ∈ news) (hz : B.length ≤ 1000000) (e : B = B') (h : ∀ t k, Q (.bytes B'.toArray t) { s with toks := k }) : wpAny (model prog w) A (call (.type "bytes") [.ref b]) Q E s :=
  ba_bytes_N F N hm hz (by subst e; exact h)
set_option genInjectivity false in
set_option genSizeOf false in
structure HK where
  a0 : Int
  a1 : Int
  z0 : Nat
  z1 : Nat
/-- a Token with its dict, ahead of other objects -/
noncomputable abbrev TKL (x dx : Addr) (k : HK) (kind value : Value) (r : List (Addr × Obj)) : List (Addr × Obj) :=
  (x, instObj 262 dx) :: (dx, dictOf [⟨k.a0, .str (Str.ofString "kind") k.z0, kind⟩, ⟨k.a1, .str (Str.ofString "value") k.z1, value⟩] 2) :: r
theorem cut_end (B0 R Z : List UInt8) {i j : Nat} (hi : i = B0.length) (hj : j = B0.length + R.length) : cut (B0 ++ R ++ Z) i j = R := by
  subst hi hj; unfold cut
  simp [List.append_assoc]
end
theorem cut_l0 (B0 R : List UInt8) {i j : Nat} (hi : i = B0.length) (hj : j = B0.length + R.length) : cut (B0 ++ R ++ [93] ++ [93]) i j = R := by
  rw [List.append_assoc (B0 ++ R)]; exact cut_end _ _ _ hi hj
theorem cut_l1 (B0 R : List UInt8) {i j : Nat} (hi : i = B0.length) (hj : j = B0.length + R.length) : cut (B0 ++ R ++ [93] ++ [61] ++ [93]) i j = R := by
  rw [List.append_assoc (B0 ++ R ++ [93]), List.append_assoc (B0 ++ R)]; exact cut_end _ _ _ hi hj
section
variable {M : Model} {A : Around} {E : Value → Shared → Prop} {s : Shared} {env : Env} {pos : Pos} {e : PySem.Expr} {rest : List PySem.Expr}
theorem P_spliced_e {Q : List Value → Shared → Prop} (h : wpP M A (eval e env) (fun v s₁ => wpP M A (spliced (backTo pos (starEach rest env))) (fun vs s₂ => Q (v :: vs) s₂) E s₁) E s)
    (he : starEach (e :: rest) env = (false, eval e env) :: starEach rest env := by rfl) : wpP M A (spliced (backTo pos (starEach (e :: rest) env))) Q E s := by
  rw [he]
  exact P_spliced_cons h
theorem P_spliced_e0 {Q : List Value → Shared → Prop} (h : Q [] s) : wpP M A (spliced (backTo pos (starEach [] env))) Q E s := P_spliced_nil h
end
/-- the entries of a dict with octets for keys -/
noncomputable def KEs (P : Params) (kl : List (List UInt8 × Tok × Value)) : List DictEntry := kl.map fun q => ⟨hashW P (.bytes q.1), .bytes q.1.toArray q.2.1, q.2.2⟩
section
variable {prog : Program} {w : World} {A : Around} {E : Value → Shared → Prop} {s : Shared} {h₀ : Heap} {L D : Addr} {m : Str → Option Value} {news news' : List (Addr × Obj)} {kl : List (List UInt8 × Tok × Value)} {k : List UInt8} {t : Tok} {n : Nat}
theorem kes_keys : KeysOf (bytesKind prog w) (KEs w.params kl).toArray := by
  intro e he
  have he := List.mem_toArray.mp he
  obtain ⟨q, _, rfl⟩ := List.mem_map.mp he
  exact ⟨q.1, by simp [bytesKind, isBytes], rfl⟩
theorem kes_find : findBy (bytesKind prog w).is (KEs w.params kl).toArray k = (kl.find? fun q => q.1 == k).map (·.2.2) := by
  unfold findBy KEs
  rw [List.find?_toArray, List.find?_map]
  simp only [Option.map_map]
  congr 1
theorem kes_idx (h : kl.all (fun q => q.1 != k) = true) : ((KEs w.params kl).toArray.findIdx? fun e => (bytesKind prog w).is k e.key) = none := by
  rw [List.findIdx?_toArray, List.findIdx?_eq_none_iff]
  intro e he
  obtain ⟨q, hq, rfl⟩ := List.mem_map.mp he
  have := List.all_eq_true.mp h q hq
  simpa [bytesKind, isBytes] using this
theorem kes_map (ho : s.heap.get? D = some (dictOf (KEs w.params kl) n)) : s.heap.MapOf (bytesKind prog w) D fun k => (kl.find? fun q => q.1 == k).map (·.2.2) :=
  ⟨_, _, _, ho, ⟨rfl, rfl, rfl⟩, rfl, kes_keys, fun _ => kes_find⟩
theorem bk_isB (k : List UInt8) (t : Tok) : (bytesKind prog w).is k (.bytes k.toArray t) = true := by simp [bytesKind, isBytes]
theorem bk_get_N {Q : Value → Shared → Prop} (_F : Fr h₀ L s.heap m) (N : News h₀ L s.heap news) (hm : (D, dictOf (KEs w.params kl) n) ∈ news) (lo : (D == sysModules) = false) (hno : kl.all (fun q => q.1 != k) = true)
    (h : ∀ tk, Q .none { s with toks := tk }) : wpAny (model prog w) A (call (.builtin "dict.get") [.ref D, .bytes k.toArray t]) Q E s := by
  have hM : s.heap.MapOf (bytesKind prog w) D _ := kes_map (N _ hm).1
  refine call_meetsIn PySem.F.slot_dict_get hM.typeIs PySem.F.entry_dict_get (PySem.F.args_dict_get_2 _ _) (meets_dict_get (bytesKind prog w) D (bk_isB k t) lo) ⟨_, hM, ?_⟩
  have : (kl.find? fun q => q.1 == k) = none := by
    rw [List.find?_eq_none]
    intro q hq
    have := List.all_eq_true.mp hno q hq
    simpa using this
  rw [this]
  exact h _
theorem bk_getMethod_N {pl : Sem Bool} {Q : Value × List Value → Shared → Prop} (_F : Fr h₀ L s.heap m) (N : News h₀ L s.heap news) (hm : (D, dictOf (KEs w.params kl) n) ∈ news) (h : Q (.builtin "dict.get", [.ref D]) s) : wpAny (model prog w) A (getMethod (.ref D) "get" pl) Q E s := by
  have hM : s.heap.MapOf (bytesKind prog w) D _ := kes_map (N _ hm).1
  exact getMethod_builtin hM.typeIs PySem.F.plainAttrs_dict PySem.F.slot_dict_get PySem.F.type_dict_get hM.noDict h
theorem bk_set_N {v : Value} {Q : Unit → Shared → Prop} (F : Fr h₀ L s.heap m) (N : News h₀ L s.heap news) (hno : kl.all (fun q => q.1 != k) = true) (hz : kl.length ≤ 1000)
    (U : Upd D (dictOf (KEs w.params kl) n) (dictOf (KEs w.params (kl ++ [(k, t, v)])) (n + 1)) news news') (h : ∀ h' tk, Fr h₀ L h' m → News h₀ L h' news' → Q () { s with heap := h', toks := tk }) :
    wpAny (model prog w) A (setItem (.ref D) (.bytes k.toArray t) v) Q E s := by
  obtain ⟨pre, post, rfl, rfl, a1, a2⟩ := U.split
  have z := N (D, dictOf (KEs w.params kl) n) (List.mem_append.mpr (.inr (.head _)))
  have ho := z.1
  have hM : s.heap.MapOf (bytesKind prog w) D _ := kes_map ho
  have hsz : (1000 : Nat) ≤ sizeLine := by decide +kernel
  unfold setItem
  try with_reducible refine wpAny_holding ?_
  refine wpAny_bind (wpAny_sequenceKey hM.typeIs (by decide) ?_)
  refine wpAny_bind (wpAny_callSpecial?_slot (name := Str.ofString "__setitem__") hM.typeIs PySem.F.slot_dict_setitem
    (wpAny_call_entry PySem.F.slot_dict_setitem hM.typeIs PySem.F.entry_dict_setitem ?_ (PySem.F.args_dict_setitem_3 _ _ _)))
  show wpAny _ _ (Builtin.Dict.notOrdered "__setitem__" ⟨[.ref D, .bytes k.toArray t, v], []⟩ >>= _) _ _ s
  refine wpAny_bind (wpAny_notOrdered_dict hM.typeIs ?_)
  show wpAny _ _ (dictSet D (.bytes k.toArray t) v >>= _) _ _ s
  refine wpAny_bind ?_
  unfold dictSet
  try with_reducible refine wpAny_holding ?_
  refine wpAny_bind ((bytesKind prog w).pyHash (bk_isB k t) ?_)
  unfold dictSetHashed
  try with_reducible refine wpAny_holding ?_
  refine wpAny_bind (wpAny_dictFind_of (knd := bytesKind prog w) (s := { s with toks := s.toks + 1 }) (bk_isB k t) ho rfl kes_keys ?_)
  rw [kes_idx hno]
  refine wpAny_bind (wpAny_rule (wpAny_updateDictKeys (hz := ?_) (s := { s with toks := s.toks + 1 }) ho rfl (wpAny_pure ⟨.none, rfl, wpAny_pure (h _ _ (F.change (Heap.SameBut.update ..) z.2.1 z.2.2) (news_set N a1 a2 (Heap.SameBut.update ..) ?_))⟩)))
  · refine (Heap.get?_update_self _ ho rfl).trans ?_
    show some (dictOf _ _) = some (dictOf _ _)
    simp [KEs, dictOf, bytesKind]
  · show (KEs w.params kl).toArray.size ≤ sizeLine
    simp [KEs]; omega
end
/-- the reserved words -/
noncomputable def RWS : List (List UInt8) := ["and", "break", "do", "else", "elseif", "end", "false", "for", "function", "if", "in", "local", "nil", "not", "or", "repeat", "return", "then", "true", "until", "while"].map fun x => x.toList.map fun c => c.toNat.toUInt8
structure KF (w : World) (kn : List DictEntry) (kd : Addr) : Prop where
  ex : ∃ kl, kn = KEs w.params kl ∧ kl.map (·.1) = RWS
  lo : (kd == sysModules) = false
section
variable {prog : Program} {w : World} {A : Around} {E : Value → Shared → Prop} {s : Shared} {h₀ : Heap} {L D : Addr} {m : Str → Option Value} {news : List (Addr × Obj)} {kn : List DictEntry} {k : List UInt8} {t : Tok} {n : Nat}
theorem bk_getMethod_F {pl : Sem Bool} {Q : Value × List Value → Shared → Prop} (F : Fr h₀ L s.heap m) (N : News h₀ L s.heap news) (hm : (D, dictOf kn n) ∈ news) (H : KF w kn D) (h : Q (.builtin "dict.get", [.ref D]) s) : wpAny (model prog w) A (getMethod (.ref D) "get" pl) Q E s := by
  obtain ⟨⟨kl, rfl, _⟩, _⟩ := H
  exact bk_getMethod_N F N hm h
theorem bk_get_F {Q : Value → Shared → Prop} (F : Fr h₀ L s.heap m) (N : News h₀ L s.heap news) (hm : (D, dictOf kn n) ∈ news) (H : KF w kn D) (hno : RWS.all (fun q => q != k) = true)
    (h : ∀ tk, Q .none { s with toks := tk }) : wpAny (model prog w) A (call (.builtin "dict.get") [.ref D, .bytes k.toArray t]) Q E s := by
  obtain ⟨⟨kl, rfl, hk⟩, lo⟩ := H
  refine bk_get_N F N hm lo ?_ h
  rw [← hk, List.all_map] at hno
  exact hno
end
section
variable {prog : Program} {w : World} {A : Around} {E : Value → Shared → Prop} {s : Shared} {env : Env} {h₀ : Heap} {body : List Stmt} {Q : Flow → Shared → Prop}
/-- enumerate over a list that lies beneath the frame -/
theorem rk_enum {elts : List Expr} {k : Nat} {pos : Pos} {l : Addr} {lo : Obj} {vs : List Value} {n : Nat} {m₀ : Str → Option Value} {news : List (Addr × Obj)}
    (hh : A.handled = none) (F : Fr h₀ env.locals s.heap m₀) (N : News h₀ env.locals s.heap news) {K : Frag} (X₀ : K.In h₀) (hk₀ : K.lookup l = some lo) (hc : lo.cls = .type "list") (hd : lo.data = .seq vs.toArray n)
    (rest₀ : ∀ I : Addr, (∀ p ∈ news, p.1 < I) → ItemsRest prog w A E h₀ env (.Tuple elts k pos) body Q s [(I + 1, "enumerate"), (I, "list_iterator")] [] (enumItems 0 vs) m₀ news) :
    wpAny (model prog w) A (call (.type "enumerate") [.ref l]) (fun xv s₁ => wpAny (model prog w) A (pyIter xv) (fun it s₂ => TurnsAt prog w A h₀ env (.Tuple elts k pos) body Q E it s₂) E s₁) E s := by
  have hg : h₀.get? l = some lo := X₀ _ _ hk₀
  have hax : s.heap.get? l = some lo := F.keep _ _ hg
  have hl : s.heap.IsList l vs.toArray := ⟨lo, hax, hc, n, hd⟩
  have hlt : l < s.heap.objs.size := Heap.lt_size hax
  have hLs : env.locals < s.heap.objs.size := F.ns.lt
  refine call_enumerate_list hl fun h' hE hI hsz hk => ?_
  refine wpAny_pyIter_enum hE ?_
  refine ktg_core (tk0 := s.toks) (keep := []) (KTurns.ofWalksU (WalksT.enumerate hh (s.heap.objs.size + 1) s.heap.objs.size l (Nat.succ_ne_self _) (ktu_ne 1 hlt) (Nat.ne_of_lt hlt) vs.toArray).toU) (by simp [enumItems_length]) ?_ ?_ ?_ ?_ ?_ ?_ ?_ ?_ (F.keeps hk) (N.grown hk) trivial (rest₀ _ fun p hp => Heap.lt_size (N p hp).1)
  · rintro i v h ⟨T, vals, rfl, ⟨t, x, hx, rfl⟩, hT⟩
    refine ⟨_, enumItems_get vs 0 i (v := x) (by simpa using hx), T, t, rfl, ?_⟩
    rw [Nat.zero_add]
    exact hT
  · rintro i h ⟨⟨old, he⟩, ⟨oi, hoi, hic, _⟩, _⟩
    obtain ⟨oe, h1, h2⟩ : ∃ oe : Obj, h.get? (s.heap.objs.size + 1) = some oe ∧ oe.cls = .type "enumerate" := ⟨_, he, rfl⟩
    refine ⟨[(s.heap.objs.size + 1, oe), (s.heap.objs.size, oi)], ⟨⟨rfl, h2⟩, ⟨rfl, hic⟩, trivial⟩, fun p hp => ?_⟩
    rcases List.mem_cons.mp hp with rfl | hp
    · exact h1
    · rw [List.mem_singleton.mp hp]; exact hoi
  · intro b hb
    have hb' : b = s.heap.objs.size + 1 ∨ b = s.heap.objs.size := by simpa using hb
    rcases hb' with rfl | rfl
    · exact ⟨by simp, ktu_new F (Nat.le_add_right _ _)⟩
    · exact ⟨by simp, ktu_new F (Nat.le_refl _)⟩
  · intro b hb
    simpa using hb
  · intro b hb
    have hb' : b = s.heap.objs.size + 1 ∨ b = s.heap.objs.size ∨ b = l := by simpa using hb
    rcases hb' with rfl | rfl | rfl
    · exact .inl (by simp)
    · exact .inl (by simp)
    · exact .inr (.inr ⟨lo, hg⟩)
  · intro hI'
    have hb' : env.locals = s.heap.objs.size + 1 ∨ env.locals = s.heap.objs.size ∨ env.locals = l := by simpa using hI'
    rcases hb' with e | e | e
    · exact ktu_ne 1 hLs e
    · exact Nat.ne_of_lt hLs e
    · exact absurd (Heap.lt_size hg) (Nat.not_lt.mpr (e ▸ F.above))
  · intro p hp hI'
    have hb' : p.1 = s.heap.objs.size + 1 ∨ p.1 = s.heap.objs.size := by simpa using hI'
    have hlp := Heap.lt_size (N p hp).1
    rcases hb' with e | e
    · exact ktu_ne 1 hlp e
    · exact Nat.ne_of_lt hlp e
  · exact ⟨⟨.none, hE⟩, hI, hl.at fun o e => hk l o e⟩
end
theorem AllObj_mono : ∀ {ws : List (Addr × String)} {k k' : List (Addr × Obj) → Prop}, (∀ its, k its → k' its) → AllObj ws k → AllObj ws k'
  | [], _, _, h, x => h _ x
  | _ :: _, _, _, h, x => fun o ho => AllObj_mono (fun its => h _) (x o ho)
section
variable {prog : Program} {w : World} {A : Around} {E : Value → Shared → Prop} {s : Shared} {env : Env} {h₀ : Heap} {L : Addr} {target : Expr} {body : List Stmt} {Q : Flow → Shared → Prop} {ws : List (Addr × String)} {keep : List (Addr × Obj)}
theorem UnrPostW_mono {s₁ s₂ : Shared} {its : List (Addr × Obj)} {r r' : (Str → Option Value) → List (Addr × Obj) → Prop} {f : Flow} (h : ∀ m n, r m n → r' m n) (x : UnrPostW h₀ L s₁ its r Q f s₂) : UnrPostW h₀ L s₁ its r' Q f s₂ := by
  have e : UnrEndW h₀ L s₁ its r s₂ → UnrEndW h₀ L s₁ its r' s₂ := Exists.imp fun _ => Exists.imp fun _ => Exists.imp fun _ => Exists.imp fun _ => And.imp_right (And.imp_right (And.imp_right (And.imp_right (h _ _))))
  cases f with
  | next => exact e x
  | cont => exact e x
  | brk => exact x
  | ret v => exact x
/-- the turns of a loop over items, by a relation that holds from turn to turn -/
theorem items_ind (J : List Itm → (Str → Option Value) → List (Addr × Obj) → Prop)
    (step : ∀ a r m news, J (a :: r) m news → ∀ v h tk, a.Is v h → Fr h₀ env.locals h m → AllObj ws (fun its => News h₀ env.locals h (its ++ news) →
      wpAny (model prog w) A (assign target env v) (fun _ s₂ => wpAny (model prog w) A (execs body env) (UnrPostW h₀ env.locals { s with heap := h, toks := tk } its (fun m' n' => SubL keep n' ∧ J r m' n') Q) E s₂) E { s with heap := h, toks := tk }))
    (fin : ∀ m news, J [] m news → ∀ h tk, Fr h₀ env.locals h m → News h₀ env.locals h news → Q .next { s with heap := h, toks := tk }) :
    ∀ xs m news, J xs m news → ItemsRest prog w A E h₀ env target body Q s ws keep xs m news
  | [], m, news, hJ => ItemsRest.zero (fin m news hJ)
  | a :: r, m, news, hJ => fun v h tk ha F => AllObj_mono (fun its x N => wpAny_mono (x N) (fun _ s₂ y => wpAny_mono y (fun f s₃ z => UnrPostW_mono (fun m' n' q => ⟨q.1, items_ind J step fin r m' n' q.2⟩) z) fun _ _ e => e) fun _ _ e => e) (step a r m news hJ v h tk ha F)
theorem UnrPost_mono {s₁ s₂ : Shared} {I : Addr} {it : Obj} {r r' : (Str → Option Value) → List (Addr × Obj) → Prop} {f : Flow} (h : ∀ m n, r m n → r' m n) (x : UnrPost h₀ L s₁ I it r Q f s₂) : UnrPost h₀ L s₁ I it r' Q f s₂ := by
  have e : UnrEnd h₀ L s₁ I it r s₂ → UnrEnd h₀ L s₁ I it r' s₂ := Exists.imp fun _ => Exists.imp fun _ => Exists.imp fun _ => Exists.imp fun _ => And.imp_right (And.imp_right (And.imp_right (And.imp_right (h _ _))))
  cases f with
  | next => exact e x
  | cont => exact e x
  | brk => exact x
  | ret v => exact x
/-- the turns of a loop over a range -/
theorem range_ind {x : Str} {I : Addr} {a : Int} {n : Nat} (J : Nat → (Str → Option Value) → List (Addr × Obj) → Prop)
    (step : ∀ (k i : Nat) m news, J (k + 1) m news → ∀ t h tk, Fr h₀ env.locals h (fun y => if y = x then some (.int (a + (i : Int)) t) else m y) →
      News h₀ env.locals h ((I, itR (a + ((i + 1 : Nat) : Int)) ((n : Int) - ((i + 1 : Nat) : Int))) :: news) →
      wpAny (model prog w) A (execs body env) (UnrPost h₀ env.locals { s with heap := h, toks := tk } I (itR (a + ((i + 1 : Nat) : Int)) ((n : Int) - ((i + 1 : Nat) : Int))) (J k) Q) E { s with heap := h, toks := tk })
    (fin : ∀ m news, J 0 m news → ∀ h tk, Fr h₀ env.locals h m → News h₀ env.locals h news → Q .next { s with heap := h, toks := tk }) :
    ∀ (k i : Nat) m news, J k m news → RangeRest prog w A E h₀ env x body Q s I a n k i m news
  | 0, _, m, news, hJ => RangeRest.zero (fin m news hJ)
  | k + 1, i, m, news, hJ => RangeRest.succ fun t h tk F N => wpAny_mono (step k i m news hJ t h tk F N) (fun f s₂ z => UnrPost_mono (fun m' n' q => range_ind J step fin k (i + 1) m' n' q) z) fun _ _ e => e
end
section
variable {prog : Program} {w : World} {A : Around} {E : Value → Shared → Prop} {s : Shared} {env : Env} {h₀ : Heap} {L : Addr} {m : Str → Option Value} {news : List (Addr × Obj)}
theorem dict_new_N {pos : Pos} {Q : Value → Shared → Prop} (F : Fr h₀ L s.heap m) (N : News h₀ L s.heap news) (hbig : h₀.NoLimit)
    (h : ∀ d h', Fr h₀ L h' m → News h₀ L h' ((d, dictOf (KEs w.params []) 0) :: news) → (∀ p ∈ news, p.1 < d) → (d == sysModules) = false → Q (.ref d) { s with heap := h' }) : wpAny (model prog w) A (eval (.Dict [] [] pos) env) Q E s :=
  wpAny_Dict_empty (h _ _ (F.push _) (News.push F N _) (fun p hp => Heap.lt_size (N p hp).1) (F.notModules (modules_low hbig)))
end
theorem off_RK : True := by
  w_top off
  trivial
/-- the words as they are written -/
noncomputable def WV : Tok → List (List UInt8) → List Value
  | _, [] => []
  | t, k :: r => .bytes k.toArray t :: WV (t + 1) r
noncomputable def up2 (m0 : Str → Option Value) (x : Str) (a : Option Value) (y : Str) (b : Option Value) : Str → Option Value := fun z => if z = x then a else if z = y then b else m0 z
theorem up2_self (m0 : Str → Option Value) (x y : Str) : m0 = up2 m0 x (m0 x) y (m0 y) := by
  funext z
  unfold up2
  split
  · subst_vars; rfl
  · split
    · subst_vars; rfl
    · rfl
theorem up2_set (m0 : Str → Option Value) (x : Str) (a : Option Value) (y : Str) (b a' b' : Option Value) : (fun z => if z = x then a' else if z = y then b' else up2 m0 x a y b z) = up2 m0 x a' y b' := by
  funext z
  unfold up2
  split
  · rfl
  · split <;> rfl
noncomputable def JK (P : Params) (d : Addr) (m0 : Str → Option Value) (xs : List Itm) (m : Str → Option Value) (news : List (Addr × Obj)) : Prop :=
  ∃ (i : Nat) (ks : List (List UInt8)) (kl : List (List UInt8 × Tok × Value)) (a b : Option Value),
    xs = enumItems i (WV (440 + i) ks) ∧ kl.map (·.1) ++ ks = RWS ∧ kl.length = i ∧ m = up2 m0 (Str.ofString "word") a (Str.ofString "at") b ∧ news = [(d, dictOf (KEs P kl) i)]
theorem rws_no {kl : List (List UInt8 × Tok × Value)} {k : List UInt8} {ks : List (List UInt8)} (h : kl.map (·.1) ++ k :: ks = RWS) : kl.all (fun q => q.1 != k) = true := by
  have hn : RWS.Nodup := by decide +kernel
  rw [← h, List.nodup_append] at hn
  rw [List.all_eq_true]
  intro q hq
  have := hn.2.2 q.1 (List.mem_map_of_mem hq) k (.head _)
  simpa using this
theorem rws_len {kl : List (List UInt8 × Tok × Value)} {ks : List (List UInt8)} (h : kl.map (·.1) ++ ks = RWS) : kl.length ≤ 1000 := by
  have := congrArg List.length h
  rw [List.length_append, List.length_map, show RWS.length = 21 from rfl] at this
  omega
theorem reg_9261b5bb_RK : True := by
  k_with "q eval Dict nil nil" =>
    (k_here; k_dflt (refine' dict_new_N ?zzdnF ?zzdnN (TopRead.nolimit (by k_asm)) ?_; (case zzdnF => k_asm); (case zzdnN => first | k_asm | exact News.nil)); intro d' zzh' zzF' zzN' zzl1 hlo'; (try k_sweep))
  trivial
theorem reg_aa8193cd_RK : True := by
  k_with "q exec For Tuple Call cons nil" =>
    (k_here; (rename Fr _ _ _ _ => zzlF'); (with_unfolding_all refine' For_turns zzlF' ?_; k_whole))
  trivial
theorem reg_9fef5a0d_RK : True := by
  k_with "q last exec For" =>
    (k_here; (rename Fr _ _ _ _ => zzlF'); (with_unfolding_all refine' For_turns zzlF' ?_; k_whole))
  trivial
theorem reg_3b8c9966_RK : True := by
  k_with "k_ne" =>
    (refine neN ?_; (try dsimp only); first | assumption | (apply Ne.symm; assumption))
  trivial
theorem reg_abb9fa34_RK : True := by
  k_with "q setItem ref bytes" =>
    (k_here; k_dflt (refine' bk_set_N ?zzbsF ?zzbsN ?zzbsh ?zzbsz ?zzbsU ?_; (case zzbsF => k_asm); (case zzbsN => k_asm); (case zzbsh => assumption); (case zzbsz => assumption); (case zzbsU => k_upd)); intro zzh' zztk' zzF' zzN'; (try k_sweep))
  trivial
section
theorem said_4 : True := by
  k_with "x3" =>
    (repeat' (first | ((with_reducible show wpAny _ _ (execs _ _) _ _ _); dsimp only) | (k_unfold; (try dsimp only)) | walk1 | (dsimp only; walk1) | fail "no step"))
  trivial
set_option maxHeartbeats 8000000 in
theorem rk_spec (prog : Program) (w : World) : Spec prog w 238 [] [] 10 100 (fun v e => ∃ kd kn, v = .ref kd ∧ KF w kn kd ∧ e = [(kd, dictOf kn 21)]) := by
  intro p loose mean mg mb dp un outer base g s R B' X' T' sub sz hC hdp hun hret
  refine' enter X' T' sub sz hC ?k6 ?k7 ?k8 ?k9 ?kB ?_ ?c5 ?c2 ?c3 ?c4
  (case k6 => k_is)
  (case k7 => k_is)
  (case k8 => exact room0 hdp)
  (case k9 => exact BindsTo.of_eq rfl)
  (case kB => exact locs rfl)
  (case c5 => decide)
  (case c2 => exact rfl)
  (case c3 => exact rfl)
  (case c4 => exact rfl)
  intro L' h' F' N' l1
  (try k_lt l1)
  clear sub sz hC
  (try dsimp only)
  (try k_fold)
  (try dsimp only [LX] at N' l1)
  k_extra "x3"
  refine' rk_enum (vs := WV 440 RWS) ?a1 ?a2 ?a3 X' ?a4 ?a5 ?a6 ?_
  case a4 => k_is
  case a2 => assumption
  case a3 => assumption
  case a1 => rfl
  case a5 => rfl
  case a6 => rfl
  intro I hI
  have hdI : d' < I := hI _ (.head _)
  have hd1 : d' ≠ I := Nat.ne_of_lt hdI
  have hd2 : d' ≠ I + 1 := Nat.ne_of_lt (Nat.lt_succ_of_lt hdI)
  refine items_ind (JK w.params d' _) ?step ?fin _ _ _ ⟨0, RWS, [], _, _, rfl, rfl, rfl, up2_self _ _ _, rfl⟩
  case fin =>
    rintro m news ⟨i, ks, kl, a1, b1, hxs, hks, hl, rfl, rfl⟩ h tk F' N'
    cases ks with
    | cons k ks => cases hxs
    | nil =>
      rw [List.append_nil] at hks
      have hi : i = 21 := by rw [← hl, ← List.length_map (f := (·.1)), hks]; rfl
      subst hi
      dsimp only [up2] at F'
      k_extra "x3"
      dsimp only
      (refine' hret _ ([(d', dictOf (KEs w.params kl) 21)]) _ _ (Fr.keep (by assumption)) (fr_size (by assumption)) ?dH_1 ⟨d', _, rfl, ⟨⟨kl, rfl, hks⟩, hlo'⟩, rfl⟩; (case dH_1 => exact has_of (by assumption) (by (repeat' (first | exact List.forall_mem_nil _ | refine' List.forall_mem_cons.mpr ⟨?_, ?_⟩ | k_mem | (rw [‹LC.chk _ = _›]; k_mem))))))
  case step =>
    rintro a r m news ⟨i, ks, kl, a1, b1, hxs, hks, hl, rfl, rfl⟩ v h tk hv F'
    cases ks with
    | nil => cases hxs
    | cons k ks =>
      obtain ⟨e1, e2⟩ := List.cons.inj hxs
      subst e1
      subst e2
      obtain ⟨T, t, e3, hT'⟩ := hv
      subst e3
      have hno := rws_no hks
      have hkl := rws_len hks
      refine AllObj.cons fun o1 hc1 => AllObj.cons fun o2 hc2 => AllObj.nil fun N' => ?_
      simp only [List.cons_append, List.nil_append] at N'
      k_extra "x3"
      exact ⟨i + 1, ks, kl ++ [(k, _, _)], _, _, rfl, by rw [List.map_append, List.append_assoc]; exact hks, by rw [List.length_append, hl]; rfl, up2_set _ _ _ _ _ _ _, rfl⟩
end
section
variable {prog : Program} {w : World} {A : Around} {E : Value → Shared → Prop} {s : Shared} {env : Env} {test : PySem.Expr} {body : List Stmt} {R : Result → Shared → Prop}
theorem A_While {M : Model} {orelse : List Stmt} {pos : Pos} {Q : Flow → Shared → Prop}
    (h : codeAny M A (.whileLoop test body orelse env) (fun r s' => match r with | .ok f => Q f s' | .error e => cameBackBy M A env E e s') s) (hm : A.mark none = A := by rfl) : wpAny M A (exec (.While test body orelse pos) env) Q E s := by
  rw [exec_While]; exact wpAny_bind (wpAny_standAt (wpAny_runOwn (by rw [hm]; exact h)))
theorem A_noted {α : Type} {M : Model} {m : Sem α} {Q : α → Shared → Prop} (h : wpAny M A m Q (notedBy M A env E) s) : wpAny M A (m.onRaise fun x => do noteFrame x env; theTreesLotGoes x) Q E s :=
  wpAny_onRaise (wpAny_mono h (fun _ _ q => q) fun _ _ hx => wpAny_bind (wpAny_mono hx (fun _ _ e => wpAny_theTreesLotGoes e) fun _ _ e => e))
theorem A_turn
    (h : wpAny (model prog w) A (isTrue test env (eval test env)) (fun b s₂ => if b then wpAny (model prog w) A (execs body env) (fun f s₃ => match f with
        | .next | .cont => codeAny (model prog w) A (.whileLoop test body [] env) R s₃
        | .brk => R (.ok .next) s₃
        | .ret v => R (.ok (.ret v)) s₃) (notedBy (model prog w) A env fun x s₃ => R (.error x) s₃) s₂ else R (.ok .next) s₂) (notedBy (model prog w) A env fun x s₂ => R (.error x) s₂) s) :
    codeAny (model prog w) A (.whileLoop test body [] env) R s := by
  refine codeAny_of_tree ?_
  show wpAny _ A ((whileTurn test body [] env).onRaise (fun x => do noteFrame x env; theTreesLotGoes x)) _ _ s
  refine A_noted ?_
  unfold whileTurn
  refine wpAny_bind (wpAny_mono h (fun b s₂ h₂ => ?_) fun _ _ x => x)
  cases b with
  | true =>
    simp only [if_true] at h₂ ⊢
    refine wpAny_bind (wpAny_mono h₂ (fun f s₃ h₃ => ?_) fun _ _ x => x)
    cases f <;> first | exact wpAny_pure ⟨rfl, h₃⟩ | exact wpAny_pure h₃
  | false =>
    simp only [Bool.false_eq_true, if_false] at h₂ ⊢
    exact wpAny_bind (wpAny_execs_nil (wpAny_pure h₂))
theorem A_loop (Inv : Nat → Shared → Prop)
    (step : ∀ n s, Inv n s → wpAny (model prog w) A (isTrue test env (eval test env)) (fun b s₂ => if b then wpAny (model prog w) A (execs body env) (fun f s₃ => match f with
        | .next | .cont => ∃ n', n' < n ∧ Inv n' s₃
        | .brk => R (.ok .next) s₃
        | .ret v => R (.ok (.ret v)) s₃) (notedBy (model prog w) A env fun x s₃ => R (.error x) s₃) s₂ else R (.ok .next) s₂) (notedBy (model prog w) A env fun x s₂ => R (.error x) s₂) s) :
    ∀ n s, Inv n s → codeAny (model prog w) A (.whileLoop test body [] env) R s := by
  intro n
  induction n using Nat.strongRecOn with
  | ind n ih =>
    intro s hI
    refine A_turn (wpAny_mono (step n s hI) (fun b s₂ h₂ => ?_) fun _ _ x => x)
    cases b with
    | true =>
      simp only [if_true] at h₂ ⊢
      refine wpAny_mono h₂ (fun f s₃ h₃ => ?_) fun _ _ x => x
      cases f with
      | next => obtain ⟨n', hn, hi⟩ := h₃; exact ih n' hn _ hi
      | cont => obtain ⟨n', hn, hi⟩ := h₃; exact ih n' hn _ hi
      | brk => exact h₃
      | ret v => exact h₃
    | false => simpa using h₂
/-- a while whose one local is a number that goes up -/
theorem A_loopN {gens : Array GenState} {drawn : Drawn} {tk : Nat} {os : OsState} {g h : Heap} {L : Addr} {m : Str → Option Value} {x : Str} {k0 : Int} {t0 : Tok} {N0 : Nat} (PR : Int → Prop)
    (F : Fr g L h (fun y => if y = x then some (.int k0 t0) else m y)) (p0 : PR k0) (hb : ∀ k, PR k → 0 ≤ k ∧ k ≤ N0)
    (step : ∀ k t h tk, Fr g L h (fun y => if y = x then some (.int k t) else m y) → PR k → wpAny (model prog w) A (isTrue test env (eval test env)) (fun b s₂ => if b then wpAny (model prog w) A (execs body env) (fun f s₃ => match f with
        | .next | .cont => ∃ n' : Nat, n' < (N0 - k).toNat ∧ ∃ k' t' h' tk', s₃ = ⟨h', gens, drawn, tk', os⟩ ∧ Fr g L h' (fun y => if y = x then some (.int k' t') else m y) ∧ PR k' ∧ n' = (N0 - k').toNat
        | .brk => R (.ok .next) s₃
        | .ret v => R (.ok (.ret v)) s₃) (notedBy (model prog w) A env fun x s₃ => R (.error x) s₃) s₂ else R (.ok .next) s₂) (notedBy (model prog w) A env fun x s₂ => R (.error x) s₂) ⟨h, gens, drawn, tk, os⟩) :
    codeAny (model prog w) A (.whileLoop test body [] env) R ⟨h, gens, drawn, tk, os⟩ := by
  refine A_loop (fun n s₁ => ∃ k t h' tk', s₁ = ⟨h', gens, drawn, tk', os⟩ ∧ Fr g L h' (fun y => if y = x then some (.int k t) else m y) ∧ PR k ∧ n = (N0 - k).toNat) ?_ _ _ ⟨k0, t0, h, tk, rfl, F, p0, rfl⟩
  rintro n _ ⟨k, t, h', tk', rfl, F', p', rfl⟩
  exact step k t h' tk' F' p'
end
/-- the octets ahead of the first zero -/
noncomputable def up0 (B : List UInt8) : List UInt8 := B.takeWhile (· != 0)
section
variable {prog : Program} {w : World} {A : Around} {E : Value → Shared → Prop} {s : Shared} {value slice : PySem.Expr} {B : List UInt8} {t u : Tok} {h₀ : Heap} {L : Addr} {m : PySem.Str → Option Value} {k : Int} {Q : Value → Shared → Prop} {news : List (Addr × Obj)}
theorem txt_upto (hF : Fr h₀ L s.heap m) (hN : News h₀ L s.heap news) (h0 : 0 ≤ k ∧ k ≤ B.length) (hz : B.length ≤ 1000000)
    (h : ∀ h' t' tk, Fr h₀ L h' m → News h₀ L h' news → Q (.bytes (List.toArray (B.take k.toNat)) t') { s with heap := h', toks := tk })
    (hs : subscripted slice false (.bytes B.toArray t) (.ref s.heap.objs.size) = operate [.ref s.heap.objs.size, .bytes B.toArray t] (getItem (.bytes B.toArray t) (.ref s.heap.objs.size)))
    (ht : ∀ r, letTemporaryGo value (.bytes B.toArray t) r = pure ()) :
    wpAny (model prog w) A (subscriptTail value slice (.bytes B.toArray t) (.ref s.heap.objs.size)) Q E { s with heap := s.heap.push { cls := .type "slice", data := .fields #[.none, .int k u, .none] } } := by
  have e : KBy.picked B.toArray none (some k) = (B.take k.toNat).toArray := by
    obtain ⟨n, rfl⟩ : ∃ n : Nat, k = n := ⟨k.toNat, by omega⟩
    rw [KBc.picked_eq]
    simp only [Option.elim, clipAt_nat, List.drop_zero, Nat.sub_zero, List.size_toArray, Int.toNat_natCast]
    rw [Nat.min_eq_left (by omega)]
  have hz' : B.length ≤ 16777216 := by omega
  refine KBc.slice_K (lo := none) (hi := some k) (ks := KBw.bInts B.toArray) hF hN rfl IsPart.none (IsPart.int _ _) (by rw [KBw.ints_length]; simpa using hz') (fun h' t' tk F' N' _ => ?_) hs ht
  rw [e]
  exact h h' t' tk F' N'
end
theorem up0_stop {B : List UInt8} {k : Int} (h0 : 0 ≤ k) (hB : up0 B = B.take k.toNat ++ up0 (B.drop k.toNat)) (hs : ¬ k < B.length ∨ sgn B k = 0) : up0 B = B.take k.toNat := by
  rw [hB]
  have : up0 (B.drop k.toNat) = [] := by
    by_cases hl : k < B.length
    · have hz := hs.resolve_left (fun h => h hl)
      rw [sgn_in hl] at hz
      have hl' : k.toNat < B.length := by omega
      rw [List.drop_eq_getElem_cons hl']
      have e : B[k.toNat] = 0 := by
        have : B.getD k.toNat 0 = B[k.toNat] := by simp [List.getD_eq_getElem?_getD, hl']
        rw [this] at hz
        exact UInt8.toNat_inj.mp (by simpa using hz)
      rw [e]; rfl
    · rw [List.drop_eq_nil_iff.mpr (by omega)]; rfl
  rw [this, List.append_nil]
theorem up0_next {B : List UInt8} {k : Int} (h0 : 0 ≤ k) (hl : k < B.length) (hB : up0 B = B.take k.toNat ++ up0 (B.drop k.toNat)) (hs : sgn B k ≠ 0) : up0 B = B.take (k + 1).toNat ++ up0 (B.drop (k + 1).toNat) := by
  have hl' : k.toNat < B.length := by omega
  rw [sgn_in hl] at hs
  have e : B.getD k.toNat 0 = B[k.toNat] := by simp [List.getD_eq_getElem?_getD, hl']
  rw [e] at hs
  have e1 : (k + 1).toNat = k.toNat + 1 := by omega
  rw [hB, e1, List.drop_eq_getElem_cons hl', List.take_add_one]
  have hne : (B[k.toNat] != 0) = true := by
    rw [bne_iff_ne]; intro q; apply hs; rw [q]; rfl
  unfold up0
  rw [List.takeWhile_cons_of_pos (p := fun x => x != 0) hne]
  rw [List.getElem?_eq_getElem hl']
  simp only [Option.toList, List.append_assoc, List.cons_append, List.nil_append]
theorem fr_map {g h : Heap} {L : Addr} {m m' : PySem.Str → Option Value} (F : Fr g L h m) (e : ∀ y, m y = m' y) : Fr g L h m' := (funext e : m = m') ▸ F
theorem fr_over {g h : Heap} {L : Addr} {m : PySem.Str → Option Value} {x : PySem.Str} {a b : Option Value} (F : Fr g L h (fun y => if y = x then a else if y = x then b else m y)) : Fr g L h (fun y => if y = x then a else m y) :=
  fr_map F fun y => by by_cases e : y = x <;> simp [e]
section
variable {prog : Program} {w : World} {A : Around} {E : Value → Shared → Prop} {s : Shared} {a b : List UInt8} {t u : Tok} {Q : Value → Shared → Prop}
theorem add_bytes_L (hz : a.length + b.length ≤ 1000000) (h : ∀ t' k, Q (.bytes (List.toArray (a ++ b)) t') { s with toks := k }) : wpAny (model prog w) A (binaryOp .Add (.bytes a.toArray t) (.bytes b.toArray u)) Q E s := by
  refine KBy.add_bytes (by simp; omega) fun t' k => ?_
  rw [show a.toArray ++ b.toArray = (a ++ b).toArray by simp]
  exact h _ _
end
/-- where an exception's flight stands: no entry yet, or an entry with this mark -/
noncomputable def FlAt (X h : Heap) (e : Addr) (vs : Array Value) : Option Value → Prop
  | none => vs[1]? = some .none
  | some v => ∃ T oT ts, vs[1]? = some (.ref T) ∧ X.get? T = none ∧ T ≠ e ∧ h.get? T = some oT ∧ oT.data = .fields ts ∧ ts[3]? = some v
/-- an exception of a class with its own dict, on its way through frames; the heap X stands -/
structure Ex (X H : Heap) (l : List Env) (c : Value) (e d : Addr) (fl : Option Value) (h : Heap) : Prop where
  stays : X.StaysIn h
  new : X.get? e = none
  frames : h.FunFrames X l
  up : H.UpToSlots h
  tr : ∃ oe vs, h.get? e = some oe ∧ oe.cls = c ∧ oe.dict = some d ∧ oe.data = .fields vs ∧ 1 < vs.size ∧ FlAt X h e vs fl
section
variable {M : Model} {A : Around} {E : Value → Shared → Prop} {s : Shared} {X H : Heap} {env : Env} {outer l : List Env} {L e d : Addr} {c : Value} {Q : Unit → Shared → Prop}
/-- a record of the machine's turns: what is no such record stands -/
theorem ex_turn {h : Heap} {T : Addr} {oT : Obj} {ts : Array Value} {i : Nat} {v : Value} (hT : h.get? T = some oT) (hd : oT.data = .fields ts) (b : Addr) (hb : b ≠ T) :
    (h.update T (Obj.mapFields (·.setIfInBounds i v))).get? b = h.get? b := Heap.get?_update_other _ _ (Ne.symm hb)
theorem ex_entry {oe : Obj} {vs : Array Value} {head : Value} {hn : Bool} (hfr : A.frames = some (env :: outer)) (hf : env.frame = some L) (hX : X.StaysIn s.heap) (hnew : X.get? e = none) (hl : s.heap.FunFrames X (env :: outer)) (hH : H.UpToSlots s.heap)
    (he : s.heap.get? e = some oe) (hc : oe.cls = c) (hdc : oe.dict = some d) (hd : oe.data = .fields vs) (hsz : 1 < vs.size)
    (h : ∀ h', Ex X H (env :: outer) c e d (some (rawInt L)) h' → Q () { s with heap := h' }) :
    wpAny M A (do let a ← frameOf env; let pl ← entryPlaceOf L hn; let b ← EntryCells.newEntry head a .none (rawInt L) .none pl; setField (.ref e) 1 b) Q E s := by
  have notFr : e ∉ (env :: outer).filterMap (·.frame) := fun hm => by
    obtain ⟨_, o, ho, hno⟩ := hl.mem hm
    obtain rfl : oe = o := Option.some.inj (he.symm.trans ho)
    exact hno vs hd
  refine wpAny_bind (wpAny_frameOf_fun hfr hl hf fun h₁ k₁ => wpAny_bind (wpAny_entryPlaceOf fun pl hpl => ?_))
  unfold EntryCells.newEntry newFields
  refine wpAny_bind (wpAny_newObj_type ?_ (hpl.sizeOk5 _ _ _ _ _))
  obtain ⟨_, k2, k3⟩ := k₁
  have e₁ : h₁.get? e = some oe := (k2 e notFr).trans he
  have X₁ : X.StaysIn h₁ := fun b o hb => (k2 b fun hm => by rw [(hl.mem hm).1] at hb; cases hb).trans (hX b o hb)
  generalize hob : ({ cls := .type "traceback", dict := none, data := .fields ([head, .ref L, .none, rawInt L, .none] ++ (if pl.isEmpty then List.replicate 6 Value.none else pl)).toArray } : Obj) = tb
  have e₂ : (h₁.push tb).get? e = some oe := Heap.get?_push_of_some _ e₁
  refine wpAny_setField e₂ hd hsz (h _ ?_)
  have neT : h₁.objs.size ≠ e := Nat.ne_of_gt (Heap.lt_size e₁)
  have dd := Obj.data_mapFields hd (·.setIfInBounds 1 (Value.ref h₁.objs.size))
  have stand : ∀ b o, b ≠ e → h₁.get? b = some o → ((h₁.push tb).update e (Obj.mapFields (·.setIfInBounds 1 (Value.ref h₁.objs.size)))).get? b = some o := fun b o hb hbo =>
    (ex_turn e₂ hd b hb).trans (Heap.get?_push_of_some _ hbo)
  have e₃ := Heap.get?_update_self (Obj.mapFields (·.setIfInBounds 1 (Value.ref h₁.objs.size))) e₂ (Obj.isFreed_of_fields dd)
  have tbs : (h₁.push tb).get? h₁.objs.size = some tb := Heap.get?_push_size h₁ (by subst hob; rfl)
  have T₃ := (ex_turn (i := 1) (v := Value.ref h₁.objs.size) e₂ hd _ neT).trans tbs
  have hup : s.heap.UpToSlots ((h₁.push tb).update e (Obj.mapFields (·.setIfInBounds 1 (Value.ref h₁.objs.size)))) := fun b o hb hno => by
    obtain ⟨sl, hs⟩ := k3 b o hb
    exact ⟨_, stand b _ (fun q => by
      subst q
      obtain rfl : oe = o := Option.some.inj (he.symm.trans hb)
      exact hno vs hd) hs⟩
  refine ⟨fun b o hb => stand b o (fun q => by rw [q, hnew] at hb; cases hb) (X₁ b o hb), hnew, hl.of_keeps fun b o hb hno => (hup b o hb hno).elim fun sl hs => ⟨_, hs, rfl⟩, hH.trans hup, _, _, e₃, ?_, ?_, dd, by simpa using hsz, h₁.objs.size, tb, _, by simp [hsz], X₁.fresh, neT, T₃, by subst hob; rfl, ?_⟩
  · rw [← hc]; exact Obj.cls_mapFields _ _
  · rw [← hdc]
    obtain ⟨a1, a2, a3, a4⟩ := oe
    cases a3 <;> rfl
  · rcases hpl with rfl | ⟨_, _, _, _, _, _, _, rfl⟩ <;> simp
theorem ex_note (hfr : A.frames = some (env :: outer)) (hf : env.frame = some L) (x : Ex X H (env :: outer) c e d none s.heap ∨ Ex X H (env :: outer) c e d (some .none) s.heap)
    (h : ∀ h', Ex X H (env :: outer) c e d (some (rawInt L)) h' → Q () { s with heap := h' }) : wpAny M A (noteFrame (.ref e) env) Q E s := by
  unfold noteFrame
  simp only [hf]
  rcases x with x | x
  · obtain ⟨x1, x2, x3, x4, oe, vs, he, hc, hdc, hd, hsz, h1⟩ := x
    refine wpAny_bind (wpAny_field he hd h1 ?_)
    rw [if_neg (by decide)]
    exact ex_entry hfr hf x1 x2 x3 x4 he hc hdc hd hsz h
  · obtain ⟨x1, x2, x3, x4, oe, vs, he, hc, hdc, hd, hsz, T, oT, ts, h1, hXT, hTe, hT, hdT, h3⟩ := x
    refine wpAny_bind (wpAny_field he hd h1 ?_)
    rw [if_pos (show (Value.ref T != Value.none) = true from by simp)]
    refine wpAny_bind (wpAny_field hT hdT h3 ?_)
    rw [if_neg (show ¬ ((Value.none == rawInt L) = true) from by simp [rawInt])]
    refine wpAny_bind (wpAny_setField hT hdT (Array.getElem?_eq_some_iff.mp h3).1 ?_)
    have hup : s.heap.UpToSlots (s.heap.update T (Obj.mapFields (·.setIfInBounds 3 Value.none))) := fun b o hb hno => ⟨o.slots, (ex_turn hT hdT b fun q => by
      subst q
      obtain rfl : oT = o := Option.some.inj (hT.symm.trans hb)
      exact hno ts hdT).trans hb⟩
    exact ex_entry hfr hf (fun b o hb => (ex_turn hT hdT b fun q => by rw [q, hXT] at hb; cases hb).trans (x1 b o hb)) x2 (x3.of_keeps fun b o hb hno => (hup b o hb hno).elim fun sl hs => ⟨_, hs, rfl⟩) (x4.trans hup) ((ex_turn hT hdT e (Ne.symm hTe)).trans he) hc hdc hd hsz h
theorem ex_noted (hf : env.frame = some L) (x : Ex X H l c e d (some (rawInt L)) s.heap) (h : Q () s) : wpAny M A (noteFrame (.ref e) env) Q E s := by
  obtain ⟨_, _, _, _, oe, vs, he, hc, hdc, hd, hsz, T, oT, ts, h1, hXT, hTe, hT, hdT, h3⟩ := x
  unfold noteFrame
  simp only [hf]
  refine wpAny_bind (wpAny_field he hd h1 ?_)
  rw [if_pos (show (Value.ref T != Value.none) = true from by simp)]
  refine wpAny_bind (wpAny_field hT hdT h3 ?_)
  rw [if_pos (show (rawInt L == rawInt L) = true from by simp)]
  exact wpAny_pure h
theorem ex_flight {v : Value} {fr : Option Addr} (x : Ex X H l c e d (some v) s.heap) (h : ∀ h', Ex X H l c e d (some (fr.elim .none fun f => rawInt f)) h' → Q () { s with heap := h' }) : wpAny M A (setFlight (.ref e) fr) Q E s := by
  obtain ⟨x1, x2, x3, x4, oe, vs, he, hc, hdc, hd, hsz, T, oT, ts, h1, hXT, hTe, hT, hdT, h3⟩ := x
  have hs3 := (Array.getElem?_eq_some_iff.mp h3).1
  unfold setFlight
  refine wpAny_bind (wpAny_field he hd h1 ?_)
  rw [if_pos (show (Value.ref T != Value.none) = true from by simp)]
  have hup : s.heap.UpToSlots (s.heap.update T (Obj.mapFields (·.setIfInBounds 3 (fr.elim Value.none fun f => rawInt f)))) := fun b o hb hno => ⟨o.slots, (ex_turn hT hdT b fun q => by
    subst q
    obtain rfl : oT = o := Option.some.inj (hT.symm.trans hb)
    exact hno ts hdT).trans hb⟩
  refine wpAny_setField hT hdT hs3 (h _ ⟨fun b o hb => (ex_turn hT hdT b fun q => by rw [q, hXT] at hb; cases hb).trans (x1 b o hb), x2, x3.of_keeps fun b o hb hno => (hup b o hb hno).elim fun sl hs => ⟨_, hs, rfl⟩, x4.trans hup, ?_⟩)
  · have dT := Obj.data_mapFields hdT (·.setIfInBounds 3 (fr.elim Value.none fun f => rawInt f))
    exact ⟨oe, vs, (ex_turn hT hdT e (Ne.symm hTe)).trans he, hc, hdc, hd, hsz, T, _, _, h1, hXT, hTe, Heap.get?_update_self _ hT (Obj.isFreed_of_fields dT), dT, by simp [hs3]⟩
theorem Ex.pop {fl : Option Value} {h : Heap} (x : Ex X H (env :: l) c e d fl h) : Ex X H l c e d fl h := ⟨x.stays, x.new, x.frames.2.2, x.up, x.tr⟩
/-- an exception leaves a frame -/
theorem ex_leaving (hfr : A.frames = some (env :: outer)) (hf : env.frame = some L) (x : Ex X H (env :: outer) c e d none s.heap ∨ Ex X H (env :: outer) c e d (some .none) s.heap ∨ Ex X H (env :: outer) c e d (some (rawInt L)) s.heap)
    (h : ∀ h', Ex X H outer c e d (some .none) h' → Q () { s with heap := h' }) : wpAny M A (leaving env (.ref e)) Q E s := by
  unfold leaving
  have tail : ∀ h', Ex X H (env :: outer) c e d (some (rawInt L)) h' → wpAny M A (setFlight (.ref e) none) Q E { s with heap := h' } := fun h' x' => ex_flight (s := { s with heap := h' }) x' fun h'' x'' => h _ x''.pop
  rcases x with x | x | x
  · exact wpAny_bind (ex_note hfr hf (.inl x) tail)
  · exact wpAny_bind (ex_note hfr hf (.inr x) tail)
  · exact wpAny_bind (ex_noted hf x (tail _ x))
/-- an exception comes back from a code of the frame's own -/
theorem ex_back (hf : env.frame = some L) {v : Value} {E' : Value → Shared → Prop} (x : Ex X H l c e d (some v) s.heap) (h : ∀ h', Ex X H l c e d (some (rawInt L)) h' → E' (.ref e) { s with heap := h' }) : cameBackBy M A env E' (.ref e) s := by
  have x' := x
  obtain ⟨x1, x2, x3, x4, oe, vs, he, hc, hdc, hd, hsz, T, oT, ts, h1, hXT, hTe, hT, hdT, h3⟩ := x
  unfold cameBackBy
  refine wpAny_bind (wpAny_field he hd h1 ?_)
  rw [if_neg (show ¬ ((Value.ref T == Value.none) = true) from by simp)]
  rw [hf]
  exact ex_flight x' fun h' y => h h' y
end
section
open PySem.Builtin
noncomputable abbrev mro87 : List Value := [.ref 74, .type "Exception", .type "BaseException", .type "object"]
/-- the class stands as it was written -/
noncomputable def Cls (h : Heap) : Prop := ∃ nm q bs hdct sn sub ab col dd k0 k1 k2 k3 k5, h.get? 87 = some (excClassObj nm q 87 86 bs mro87 hdct sn sub ab col dd k0 k1 k2 k3 k5 "Exception.__new__") ∧ ab = false
theorem cls_of {w : World} {h : Heap} (X : (hd.heap_1 w.params).In h) : Cls h := ⟨_, _, _, _, _, _, _, _, _, _, _, _, _, _, X 87 _ rfl, rfl⟩
theorem Cls.keeps {h h' : Heap} (x : Cls h) (k : ∀ b o, h.get? b = some o → h'.get? b = some o) : Cls h' := by
  obtain ⟨_, _, _, _, _, _, _, _, _, _, _, _, _, _, e, r⟩ := x
  exact ⟨_, _, _, _, _, _, _, _, _, _, _, _, _, _, k _ _ e, r⟩
section
variable {M : Model} {A : Around} {E : Value → Shared → Prop} {h : Heap} {g : Array GenState} {d : Drawn} {t : Nat} {os : OsState}
theorem ex_check_new {rest : List Value} {Q : Unit → Shared → Prop} (x : Cls h) (hq : Q () ⟨h, g, d, t, os⟩) : wpAny M A (checkBuiltinCall "Exception.__new__" ⟨.ref 87 :: rest, []⟩) Q E ⟨h, g, d, t, os⟩ := by
  obtain ⟨_, _, _, _, _, _, _, _, _, _, _, _, _, _, hC, _⟩ := x
  have F := PySem.F.excBase_Exception
  have hcont : (Value.ref 87 :: mro87).contains (.type "Exception") = true := by decide
  have hstar := F.noStar
  simp only [checkBuiltinCall, F.newKind, F.newSplit, F.newRow]
  repeat (first | refine wpAny_loadPart_at hC ?_ | (refine wpAny_isSubtype_exc hC ?_; rw [hcont]) | refine wpAny_staticBase_exc hC ?_ | refine wpAny_madeBy_exc hC ?_ | simp only [bne_self_eq_false, Bool.false_eq_true, if_false] | wp_step)
  exact hq
end
section
variable {prog : Program} {w : World} {A : Around} {R : Result → Shared → Prop} {h : Heap} {g : Array GenState} {d : Drawn} {t : Nat} {os : OsState}
theorem ex_new {rest : List Value} (x : Cls h)
    (hq : R (.ok (.ret (.ref (h.objs.size + 1)))) ⟨(h.push { cls := .type "tuple", data := .seq rest.toArray }).push { cls := .ref 87, data := .fields #[.ref h.objs.size, .none, .none, .none, .bool false, .none] }, g, d, t, os⟩)
    (hrest : rest.length ≤ sizeLine) : codeAny (model prog w) A (.builtin "Exception.__new__" ⟨.ref 87 :: rest, []⟩) R ⟨h, g, d, t, os⟩ := by
  obtain ⟨_, _, _, _, _, _, _, _, _, _, _, _, _, _, hC, _⟩ := x
  have F := PySem.F.excBase_Exception
  have hends := F.ends
  have hcB : (Value.ref 87 :: mro87).contains (.type "Exception") = true := by decide
  have hcA : (Value.ref 87 :: mro87).contains (.type "AttributeError") = false := by decide
  have hcN : (Value.ref 87 :: mro87).contains (.type "NameError") = false := by decide
  refine codeAny_builtinAt F.entry ?_
  unfold Builtin.«BaseException.__new__»
  refine PySem.wpAt_bind ?_
  show PySem.wpAt _ _ _ (stack >>= _) _ _ _
  refine PySem.wpAt_bind (PySem.wpAt_stack fun p below => PySem.wpAt_of_wpAny ?_)
  wp_walk
  refine PySem.wpAt_of_wpAny ?_
  rw [F.owner]
  repeat (first | with_reducible refine wpAny_madeHere_exc F.canon hC ?_ | with_reducible refine wpAny_loadPart_at hC ?_ | (with_reducible refine wpAny_isSubtype_exc hC ?_; first | rw [hcB] | rw [hcA] | rw [hcN]) | wp_step)
  show R _ _
  rw [Heap.size_push]
  exact hq
end
section
variable {prog : Program} {w : World} {A : Around} {R : Result → Shared → Prop} {s : Shared}
noncomputable abbrev excObj (t : Addr) : Obj := { cls := .ref 87, data := .fields #[.ref t, .none, .none, .none, .bool false, .none] }
theorem ex_make {msg : Value} (X : (hd.heap_1 w.params).In s.heap)
    (hi : findIn (hd.heap_1 w.params) (.ref 87) "__init__" = some (some (.ref 71))) (hf : typeIn (hd.heap_1 w.params) (.ref 71) = some (.type "function"))
    (hcall : specialIn (hd.heap_1 w.params) (.ref 87) "__call__" = some (some (.builtin "type.__call__"))) (hself : mroIn (hd.heap_1 w.params) 87 (.ref 87) = some true) (hty : instIn (hd.heap_1 w.params) (.ref 87) (.type "type") = some true)
    (hq : codeAny (model prog w) (A.under (.builtin "type.__call__" ⟨[.ref 87, msg], []⟩)) (.call (.ref 71) ⟨[.ref (s.heap.objs.size + 1), msg], []⟩) (InitBack (s.heap.objs.size + 1) R)
      { s with heap := (s.heap.push { cls := .type "tuple", data := .seq #[msg] }).push (excObj s.heap.objs.size) }) :
    codeAny (model prog w) A (.call (.ref 87) ⟨[msg], []⟩) R s := by
  obtain ⟨h, g, d, t, os⟩ := s
  have x : Cls h := cls_of X
  have F := PySem.F.excBase_Exception
  have x' := x
  obtain ⟨_, _, _, _, _, _, _, _, _, _, _, _, _, _, hC, hab⟩ := x
  subst hab
  have call := looks_specialIn (M := model prog w) X hcall
  have typ := looks_instIn (M := model prog w) X hty
  have init := looks_findIn (M := model prog w) X hi
  refine codeAny_of_tree ?_
  show wpAny _ _ (callAny (.ref 87) _) _ _ _
  refine nd_load hC ?_
  show wpAny _ _ (callAny.viaDunder (.ref 87) _) _ _ _
  unfold callAny.viaDunder
  refine wpAny_bind (call.at ?_)
  dsimp only
  rw [tc_bind]
  refine wpAny_bind (wpAny_pure (wpAny_bind (wpAny_pure ?_)))
  refine wpAny_pure (a := Fin.again (.call (.builtin "type.__call__") ⟨[.ref 87, msg], []⟩)) (And.intro rfl ?_)
  refine codeAny_call_builtin_at (Code.quiet_builtin _ (by decide +kernel)) entry_typeCall ?_
  with_reducible refine check_slot tc_kind tc_split typ (tc_args _ _ _) ?_
  unfold Builtin.«type.__call__»
  repeat (first | with_reducible refine wpAny_loadPart_at hC ?_ | with_reducible refine wpAny_madeBy_exc hC ?_ | wp_step)
  refine codeAny_call_builtin_code (Code.quiet_builtin _ F.quiet) (ex_check_new x' ?_)
  refine ex_new x' ?_ (by show 1 ≤ sizeLine; decide +kernel)
  show wpAny _ _ _ _ _ _
  have k : ∀ b o, h.get? b = some o → ((h.push { cls := .type "tuple", data := .seq #[msg] }).push (excObj h.objs.size)).get? b = some o := fun b o e => Heap.get?_push_of_some _ (Heap.get?_push_of_some _ e)
  have hx : ((h.push { cls := .type "tuple", data := .seq #[msg] }).push (excObj h.objs.size)).get? (h.objs.size + 1) = some (excObj h.objs.size) := by heap_get
  have t1 : Looks (model prog w) ((h.push { cls := .type "tuple", data := .seq #[msg] }).push (excObj h.objs.size)) (typeOf (.ref (h.objs.size + 1))) (.ref 87) := (Looks.ld hx).andThen .now
  have s1 := (looks_mroIn (M := model prog w) X hself).keeps k
  have i1 := init.keeps k
  have b1 := (bind_fn (M := model prog w) X (.ref (h.objs.size + 1)) hf).keeps k
  unfold isInstance callSpecial? specialOf
  repeat (first | with_reducible refine wpAny_call ?_ | lk)
  refine codeAny_mono hq fun r s' z => ?_
  rcases r with e | (v | _ | _ | _) <;> first | exact z | exact z.elim | skip
  obtain ⟨rfl, z⟩ := z
  exact wpAny_pure (wpAny_pure z)
end
end
section
open PySem.Builtin
noncomputable abbrev excObjD (t d : Addr) : Obj := { cls := .ref 87, dict := some d, data := .fields #[.ref t, .none, .none, .none, .bool false, .none] }
section
variable {M : Model} {A : Around} {E : Value → Shared → Prop} {env : Env} {s : Shared}
theorem ex_raise {x : Sem Value} {Q : Flow → Shared → Prop} (hh : A.handled = none)
    (h : wpAny M A x (fun v s₁ => ∃ e t d, v = .ref e ∧ Cls s₁.heap ∧ s₁.heap.get? e = some (excObjD t d) ∧ E (.ref e) s₁) E s) : wpAny M A (raiseStmt env (some x) none) Q E s := by
  have hcB : (Value.ref 87 :: mro87).contains (.type "BaseException") = true := by decide
  unfold raiseStmt
  refine wpAny_bind (wpAny_mono h (fun v s₁ h₁ => ?_) fun _ _ x => x)
  obtain ⟨e, t, d, rfl, ⟨_, _, _, _, _, _, _, _, _, _, _, _, _, _, hC, _⟩, he, hE⟩ := h₁
  obtain ⟨hp, g, dr, tk, os⟩ := s₁
  repeat (first | with_reducible refine wpAny_loadPart_at he ?_ | with_reducible refine wpAny_loadPart_at hC ?_ | (with_reducible refine wpAny_isSubtype_exc hC ?_; rw [hcB]) | wp_step)
  exact wpAny_raiseNew_none hh hE
theorem ex_Raise {e : PySem.Expr} {pos : Pos} {Q : Flow → Shared → Prop} (hh : A.handled = none)
    (h : wpAny M A (eval e env) (fun v s₁ => ∃ e t d, v = .ref e ∧ Cls s₁.heap ∧ s₁.heap.get? e = some (excObjD t d) ∧ E (.ref e) s₁) E s) : wpAny M A (exec (.Raise (some e) none pos) env) Q E s := by
  rw [arm_exec_Raise]
  refine wpAny_bind (wpAny_standAt (ex_raise hh ?_))
  exact wpAny_bind (wpAny_mono h (fun v s₁ h₁ => wpAny_bind (wpAny_standAt (wpAny_pure h₁))) fun _ _ x => x)
end
end
section
open PySem.Builtin
/-- all that stood in g and is no frame's namespace stands in X -/
noncomputable def Stood (g X : Heap) (outer : List Env) : Prop := ∀ b o, g.get? b = some o → b ∉ outer.filterMap (·.frame) → X.get? b = some o
/-- the contract of a call that raises -/
noncomputable def SpecGE (C : Around → Code → (Result → Shared → Prop) → Shared → Prop) (w : World) (f : Addr) (args : List Value) (core : List (Addr × Obj)) (d u : Nat) (post : Addr → List (Addr × Obj) → Prop) : Prop :=
  ∀ (p : Program) (loose : List Str) (mean : ExcName → Option Value) (mg mb : Str → Option Value) (dp un : Nat) (outer : List Env) (base g : Heap) (s : Shared) (R : Result → Shared → Prop),
    Below (amb dp un outer) base outer g → (hd.heap_1 w.params).In g → Top p loose mean mg mb g → Sub g s.heap → g.objs.size ≤ s.heap.objs.size → Has g s.heap core →
    dp + d < recursionLimit → un + u < cLine →
    (∀ X e dd core' h' tk', Stood g X outer → (∀ q ∈ core', X.get? q.1 = some q.2 ∧ g.get? q.1 = none) → Ex X g outer (.ref 87) e dd (some .none) h' → post dd core' → R (.error (.ref e)) { s with heap := h', toks := tk' }) →
    C (amb dp un outer) (.call (.ref f) ⟨args, []⟩) R s
noncomputable abbrev SpecE (prog : Program) (w : World) := SpecGE (codeAny (model prog w)) w
noncomputable abbrev SpecEP (prog : Program) (w : World) := SpecGE (codeP (model prog w)) w
theorem SpecGE.lift {prog : Program} {w : World} {f : Addr} {args : List Value} {core : List (Addr × Obj)} {d u : Nat} {post : Addr → List (Addr × Obj) → Prop}
    (S : SpecE prog w f args core d u post) : SpecEP prog w f args core d u post :=
  fun p loose mean mg mb dp un outer base g s R hC X T sub sz N hdp hun hret => P_liftC (S p loose mean mg mb dp un outer base g s R hC X T sub sz N hdp hun hret)
/-- what is so where an exception has come back from a call -/
structure Flew (h₀ : Heap) (L : Addr) (m : Str → Option Value) (outer : List Env) (env : Env) (news core core' : List (Addr × Obj)) (Y : Heap) (e dd : Addr) (h' : Heap) : Prop where
  stood : Stood h₀ Y outer
  rest : ∀ q ∈ news, (∀ r ∈ core, q.1 ≠ r.1) → Y.get? q.1 = some q.2 ∧ h₀.get? q.1 = none
  core : ∀ q ∈ core', Y.get? q.1 = some q.2 ∧ h₀.get? q.1 = none
  ex : Ex Y h₀ (env :: outer) (.ref 87) e dd (some .none) h'
  ns : h'.Ns L m
section
variable {prog : Program} {w : World} {A A₀ : Around} {outer : List Env} {env : Env} {base h₀ : Heap} {L : Addr} {m : Str → Option Value} {p : Program} {loose : List Str} {mean : ExcName → Option Value} {mg mb : Str → Option Value}
  {s : Shared} {core news : List (Addr × Obj)} {d u : Nat} {f : Addr} {vs : List Value} {post : Addr → List (Addr × Obj) → Prop} {Q E : Value → Shared → Prop} {C : Around → Code → (Result → Shared → Prop) → Shared → Prop}
theorem frames_in {h base : Heap} : ∀ {l : List Env}, h.FunFrames base l → ∀ a ∈ l.filterMap (·.frame), (∃ o, h.get? a = some o) ∧ base.get? a = none := fun {l} hl a ha => by
  obtain ⟨z, o, ho, _⟩ := hl.mem ha
  exact ⟨⟨o, ho⟩, z⟩
theorem SpecGE.code (S : SpecGE C w f vs core d u post) (B : Below A₀ base outer h₀) (F : Fr h₀ L s.heap m) (X : (hd.heap_1 w.params).In h₀) (N : News h₀ L s.heap news) (T : Top p loose mean mg mb h₀)
    (hh : A.handled = none) (hA : A.frames = some (env :: outer)) (hg : A.guards = some []) (hf : env.frame = some L) (hk : env.scope.kind = .function) (hsub : ∀ q ∈ core, q ∈ news)
    (hd : A.depth + d < recursionLimit) (hu : A.units + u < cLine)
    (k : ∀ Y e dd core' h' tk', post dd core' → Flew h₀ L m outer env news core core' Y e dd h' → E (.ref e) { s with heap := h', toks := tk' }) :
    C A (.call (.ref f) ⟨vs, []⟩) (fun r s' => match r with | .ok (.ret v) => Q v s' | .ok _ => False | .error e => E e s') s := by
  obtain ⟨ah, ad, af, ag, au⟩ := A
  dsimp only at hh hA hg hd hu
  subst hh hA hg
  have Nc : News h₀ L s.heap core := fun q hq => N q (hsub q hq)
  obtain ⟨FG, BG, st, lv⟩ := groundX (A := amb ad au (env :: outer)) (R := fun r s' => match r with | .ok (.ret v) => Q v s' | .ok _ => False | .error e => E e s') B F Nc rfl hf hk
  have nL : L ∉ core.map (·.1) := fun q => by
    obtain ⟨r, hr, e⟩ := List.mem_map.mp q
    exact (Nc r hr).2.1 e
  refine S p loose mean mg mb ad au (env :: outer) base _ s _ ⟨rfl, BG.stays, BG.frames⟩ (X.keeps st) (T.keeps st) (fun b o e => of_hideAll _ e) (Nat.le_of_eq (hideAll_size _ _)) (fun q hq => ⟨(Nc q hq).1, hideAll_none _ (List.mem_map_of_mem hq)⟩) hd hu ?_
  intro Y e dd core' h' tk' hS hc hx hp
  have notIn : ∀ b, (h₀.get? b = none) → b ≠ L → b ∉ (env :: outer).filterMap (·.frame) := fun b hb hne hm => by
    rw [List.filterMap_cons, hf] at hm
    rcases List.mem_cons.mp hm with q | q
    · exact hne q
    · obtain ⟨⟨o, ho⟩, _⟩ := frames_in B.frames b q
      rw [ho] at hb; cases hb
  refine k Y e dd core' h' tk' hp ⟨fun b o hb hno => ?_, fun q hq hne => ?_, fun q hq => ⟨(hc q hq).1, ?_⟩, ⟨hx.stays, hx.new, hx.frames, (Heap.UpToSlots.of_keeps st).trans hx.up, hx.tr⟩, hx.up.ns FG.ns⟩
  · refine hS b o (st b o hb) fun hm => ?_
    rw [List.filterMap_cons, hf] at hm
    rcases List.mem_cons.mp hm with q | q
    · subst q
      exact absurd (Heap.lt_size hb) (Nat.not_lt.mpr F.above)
    · exact hno q
  · refine ⟨hS q.1 q.2 (hideAll_get _ (N q hq).1 fun hm => ?_) (notIn _ (N q hq).2.2 (N q hq).2.1), (N q hq).2.2⟩
    obtain ⟨r, hr, er⟩ := List.mem_map.mp hm
    exact hne r hr er.symm
  · cases z : h₀.get? q.1 with
    | none => rfl
    | some o => have := (hc q hq).2; rw [st _ _ z] at this; cases this
theorem SpecE.use (S : SpecE prog w f vs core d u post) (B : Below A₀ base outer h₀) (F : Fr h₀ L s.heap m) (X : (hd.heap_1 w.params).In h₀) (N : News h₀ L s.heap news) (T : Top p loose mean mg mb h₀)
    (hh : A.handled = none) (hA : A.frames = some (env :: outer)) (hg : A.guards = some []) (hf : env.frame = some L) (hk : env.scope.kind = .function) (hsub : ∀ q ∈ core, q ∈ news)
    (hd : A.depth + d < recursionLimit) (hu : A.units + u < cLine)
    (k : ∀ Y e dd core' h' tk', post dd core' → Flew h₀ L m outer env news core core' Y e dd h' → E (.ref e) { s with heap := h', toks := tk' }) :
    wpAny (model prog w) A (call (.ref f) vs) Q E s := wpAny_call (SpecGE.code S B F X N T hh hA hg hf hk hsub hd hu k)
theorem SpecEP.use (S : SpecEP prog w f vs core d u post) (B : Below A₀ base outer h₀) (F : Fr h₀ L s.heap m) (X : (hd.heap_1 w.params).In h₀) (N : News h₀ L s.heap news) (T : Top p loose mean mg mb h₀)
    (hh : A.handled = none) (hA : A.frames = some (env :: outer)) (hg : A.guards = some []) (hf : env.frame = some L) (hk : env.scope.kind = .function) (hsub : ∀ q ∈ core, q ∈ news)
    (hd : A.depth + d < recursionLimit) (hu : A.units + u < cLine)
    (k : ∀ Y e dd core' h' tk', post dd core' → Flew h₀ L m outer env news core core' Y e dd h' → E (.ref e) { s with heap := h', toks := tk' }) :
    wpP (model prog w) A (call (.ref f) vs) Q E s := P_call (SpecGE.code S B F X N T hh hA hg hf hk hsub hd hu k)
end
/-- where an exception is raised: all but the frames and itself stands -/
theorem ex_start {A : Around} {base g h : Heap} {outer : List Env} {name : Str} {scope : Scope} {L a e t d : Addr} {cd : Value} {m : Str → Option Value} {news : List (Addr × Obj)} (B : Below A base outer g) (F : Fr g L h m) (N : News g L h news)
    (he : (e, excObjD t d) ∈ news) (hk : scope.kind = .function := by rfl) :
    ∃ X, Stood g X outer ∧ (∀ q ∈ news, q.1 ≠ e → X.get? q.1 = some q.2 ∧ g.get? q.1 = none) ∧ Ex X g (envOf name scope L a cd :: outer) (.ref 87) e d none h := by
  have K := B.push (name := name) (a := a) (cd := cd) F hk
  have hfr : ∀ b, b ∈ (envOf name scope L a cd :: outer).filterMap (·.frame) → b = L ∨ b ∈ outer.filterMap (·.frame) := fun b hb => by
    rw [List.filterMap_cons] at hb
    exact List.mem_cons.mp hb
  have z := N _ he
  refine ⟨hideAll h (e :: (envOf name scope L a cd :: outer).filterMap (·.frame)), fun b o hb hno => hideAll_get _ (F.keep b o hb) fun hm => ?_, fun q hq hne => ⟨hideAll_get _ (N q hq).1 fun hm => ?_, (N q hq).2.2⟩,
    fun b o hb => of_hideAll _ hb, hideAll_none _ (.head _), funFrames_hide K.frames fun env henv b hb => .tail _ (List.mem_filterMap.mpr ⟨env, henv, hb⟩), Heap.UpToSlots.of_keeps F.keep, _, _, z.1, rfl, rfl, rfl, by simp, rfl⟩
  · rcases List.mem_cons.mp hm with q | q
    · rw [q, z.2.2] at hb; cases hb
    · rcases hfr b q with q | q
      · subst q; exact absurd (Heap.lt_size hb) (Nat.not_lt.mpr F.above)
      · exact hno q
  · rcases List.mem_cons.mp hm with x | x
    · exact hne x
    · rcases hfr _ x with x | x
      · exact (N q hq).2.1 x
      · obtain ⟨⟨o, ho⟩, _⟩ := frames_in B.frames _ x
        rw [(N q hq).2.2] at ho; cases ho
theorem ex_go {M : Model} {A : Around} {E : Value → Shared → Prop} {s : Shared} {base g : Heap} {outer : List Env} {name : Str} {scope : Scope} {L a e t d : Addr} {cd : Value} {m : Str → Option Value} {news : List (Addr × Obj)} {Q : Unit → Shared → Prop}
    (B : Below A base outer g) (F : Fr g L s.heap m) (N : News g L s.heap news) (he : (e, excObjD t d) ∈ news)
    (k : ∀ X, Stood g X outer → (∀ q ∈ news, q.1 ≠ e → X.get? q.1 = some q.2 ∧ g.get? q.1 = none) → ∀ h', Ex X g outer (.ref 87) e d (some .none) h' → Q () { s with heap := h' }) (hk : scope.kind = .function := by rfl) :
    wpAny M (A.deeper (envOf name scope L a cd)) (leaving (envOf name scope L a cd) (.ref e)) Q E s := by
  obtain ⟨X, st, nw, x⟩ := ex_start (name := name) (scope := scope) (a := a) (cd := cd) B F N he hk
  exact ex_leaving (Around.frames_deeper B.stack) rfl (.inl x) fun h' x' => k X st nw h' x'
end
section
open PySem.Builtin PySem.Builtin.ObjectAttr
theorem ex_refuse (self : Value) : refuseLoop self "__setattr__" (.ref 87 :: mro87) = pure () := by
  rw [refuseLoop_ref, refuseLoop_ref]
  kernel_rfl
section
variable {prog : Program} {w : World} {A : Around} {E : Value → Shared → Prop} {s : Shared} {h₀ : Heap} {L d e : Addr} {m : Str → Option Value} {pre post : List (Addr × Obj)} {es es' : List DictEntry} {n n' : Nat} {name : Str} {tk : Tok} {v : Value}
theorem ex_put {Q : PySem.Fin → Shared → Prop} (F : Fr h₀ L s.heap m) (N : News h₀ L s.heap (pre ++ (d, dictOf es n) :: post)) (h1 : ∀ p ∈ pre, p.1 ≠ d) (h2 : ∀ p ∈ post, p.1 ≠ d)
    (hc : (!es.toArray.any (·.key.isStr name) && es.toArray.any (·.refKey)) = false) (e1 : putL name (PyData.keyHash w.params name) (.str name s.toks) v es = es') (e2 : putN name es n = n') (hz : es'.length ≤ 1000)
    (h : ∀ h', Fr h₀ L h' m → News h₀ L h' (pre ++ (d, dictOf es' n') :: post) → Q (.done (.ret .none)) { s with heap := h', toks := s.toks + 1 }) :
    wpAny (model prog w) A (storeInDict d (.str name tk) name v) Q E s := by
  have z := N (d, dictOf es n) (List.mem_append.mpr (.inr (.head _)))
  have D := z.1
  have put := putName_dict name (PyData.keyHash w.params name) (.str name s.toks) v es n
  rw [e1, e2] at put
  have D' : (s.heap.update d (Obj.putName name (PyData.keyHash w.params name) (.str name s.toks) v)).get? d = some (dictOf es' n') := by
    rw [Heap.get?_update_self _ D (by rw [put]; rfl), put]
  refine wpAny_bind (wpAny_pure (wpAny_bind ?_))
  unfold nsSet
  refine wpAny_bind (wpAny_bind (wpAny_askSetting (wpAny_pure (wpAny_bind (wpAny_mkText (wpAny_bind (wpAny_loadPart D ?_)))))))
  dsimp only
  rw [aRefKeyMayBeTheName_at, hc]
  refine wpAny_updatePart D ?_
  refine wpAny_bind (wpAny_lookBehind D' (by exact pastItsLine_dict (by rw [List.size_toArray, sizeLine_eq]; omega)) ?_)
  exact wpAny_pure (h _ (F.change (Heap.SameBut.update ..) z.2.1 z.2.2) (news_set N h1 h2 (Heap.SameBut.update ..) D'))
theorem ex_osa {oe : Obj} {od : Option Obj} {R : Result → Shared → Prop} (X : (hd.heap_1 w.params).In s.heap) (I : InstAt s.heap e oe 87 od) (ht : takerIn (hd.heap_1 w.params) 87 name = some none) (hself : mroIn (hd.heap_1 w.params) 87 (.type "object") = some true)
    (h : ∀ b, wpAny (model prog w) A.in1 (storeInOwnDict (.ref e) (.ref 87) (.str name tk) name v b)
      (fun fin s' => match fin with | .done f => R (.ok f) s' | .again c' => c'.quiet = true ∧ codeAny (model prog w) A c' R s') (fun e s' => R (.error e) s') s) :
    codeAny (model prog w) A (.call (.builtin "object.__setattr__") ⟨[.ref e, .str name tk, v], []⟩) R s := by
  have SF := PySem.F.store_object
  have sub : Looks (model prog w) s.heap (isInstance (.ref e) (.type "object")) true := I.type.andThen (looks_mroIn X hself)
  refine codeAny_call_builtin SF.slot.plain SF.entry (@check_slot (model prog w) _ _ s "object.__setattr__" "object" "__setattr__" (.ref e) [.str name tk, v] [] _ SF.kind SF.split sub (SF.args (.ref e) (.str name tk) v) ?_)
  obtain ⟨attr, ha, hr⟩ := Option.bind_eq_some_iff.mp ht
  obtain ⟨_, _, _, _, _, _, _, _, _, _, _, _, _, _, hC, _⟩ := cls_of X
  have hm : Looks (model prog w) s.heap (mroOf (.ref 87)) (.ref 87 :: mro87) := (Looks.ld (part := none) hC).andThen (Looks.now)
  have L3 : Looks (model prog w) s.heap (storeTaker? attr) none := by
    cases attr with
    | none => exact .now
    | some a =>
      obtain ⟨b, hb, hbn⟩ := Option.map_eq_some_iff.mp hr
      refine (looks_takesIn X hb).andThen ?_
      cases b
      · exact .now
      · cases hbn
  rw [osa_eq, refuse_eq]
  refine wpAny_bind (wpAny_bind (I.type.here (wpAny_bind (hm.here ?_))))
  rw [ex_refuse]
  refine wpAny_pure (wpAny_bind (I.type.here (wpAny_bind ((looks_findIn X ha).here (wpAny_bind (L3.here ?_))))))
  exact h _
end
section
variable {prog : Program} {w : World} {A : Around} {E : Value → Shared → Prop} {s : Shared} {h₀ : Heap} {L d e t : Addr} {m : Str → Option Value} {es' : List DictEntry} {n' : Nat} {name : Str} {v : Value}
theorem ex_set1 {Q : Unit → Shared → Prop} (F : Fr h₀ L s.heap m) (X₀ : (hd.heap_1 w.params).In h₀) (N : News h₀ L s.heap [(e, excObj t)])
    (hs : findIn (hd.heap_1 w.params) (.ref 87) "__setattr__" = some (some (.builtin "object.__setattr__"))) (ht : takerIn (hd.heap_1 w.params) 87 name = some none) (hself : mroIn (hd.heap_1 w.params) 87 (.type "object") = some true) (hh : hasDictIn (hd.heap_1 w.params) 87 = true)
    (e0 : (putL name (PyData.keyHash w.params name) (.str name (s.toks + 1)) v [], putN name [] 0) = (es', n')) (hz : es'.length ≤ 1000)
    (h : ∀ D h', Fr h₀ L h' m → News h₀ L h' [(D, dictOf es' n'), (e, excObjD t D)] → e < D → Q () { s with heap := h', toks := s.toks + 2 }) : wpAny (model prog w) A (setAttr (.ref e) name v) Q E s := by
  obtain ⟨e1, e2⟩ := Prod.mk.inj e0
  have X := X₀.keeps F.keep
  have z := N _ (.head _)
  have I : InstAt s.heap e (excObj t) 87 none := ⟨z.1, rfl, rfl, trivial⟩
  obtain ⟨cd, hc, hdd⟩ := any_some hh
  refine set_plain X I hs (ex_osa (s := { s with toks := s.toks + 1 }) X I ht hself fun b => ?_)
  obtain ⟨hp, g, dr, tk, os⟩ := s
  dsimp only at X F N z e1 h ⊢
  have ltD : e < hp.objs.size := Heap.lt_size z.1
  have F1 := F.push emptyDict
  have N1 := N.push F emptyDict
  have e1g : (hp.push emptyDict).get? e = some (excObj t) := Heap.get?_push_of_some _ z.1
  unfold storeInOwnDict
  refine wpAny_bind (wpAny_of_eq (a := ()) rfl ?_)
  rw [if_neg (show ¬ ((Value.ref 87 == Value.type "module") = true) from by decide)]
  refine wpAny_bind ?_
  show wpAny _ _ (instanceDict e true) _ _ _
  unfold instanceDict
  refine wpAny_bind (wpAny_loadPart z.1 ?_)
  refine wpAny_bind ((looks_clsIn X hc).here ?_)
  rw [hdd]
  show wpAny _ _ (alloc emptyDict >>= fun D => update e (fun o => { o with dict := some D }) >>= fun _ => dictMade (.ref 87) e D) _ _ _
  refine wpAny_bind (wpAny_alloc (wpAny_bind (wpAny_update e1g ?_)))
  refine wpAny_of_eq (a := some hp.objs.size) rfl ?_
  have neq : ∀ p ∈ [(hp.objs.size, emptyDict)], p.1 ≠ e := fun p hp' => by
    rcases List.mem_cons.mp hp' with rfl | hp'
    · exact Nat.ne_of_gt ltD
    · cases hp'
  have up : ((hp.push emptyDict).update e (fun o => { o with dict := some hp.objs.size })).get? e = some (excObjD t hp.objs.size) := Heap.get?_update_self _ e1g rfl
  have F2 := F1.change (Heap.SameBut.update (h := hp.push emptyDict) (a := e) (f := fun o => { o with dict := some hp.objs.size })) z.2.1 z.2.2
  have N2 := news_set (pre := [(hp.objs.size, emptyDict)]) (post := []) N1 neq (fun _ hq => nomatch hq) (Heap.SameBut.update (h := hp.push emptyDict) (a := e) (f := fun o => { o with dict := some hp.objs.size })) up
  refine ex_put (pre := []) (post := [(e, excObjD t hp.objs.size)]) (es := []) (n := 0) F2 N2 (fun _ hq => nomatch hq) (fun p hq => ?_) (by simp) e1 e2 hz fun h' F' N' => ?_
  · rcases List.mem_cons.mp hq with rfl | hq
    · exact Nat.ne_of_lt ltD
    · cases hq
  · exact h _ h' F' N' ltD
end
section
variable {prog : Program} {w : World} {A : Around} {E : Value → Shared → Prop} {s : Shared} {h₀ : Heap} {L d e t : Addr} {m : Str → Option Value} {es es' : List DictEntry} {n n' : Nat} {name : Str} {v : Value} {news news' : List (Addr × Obj)}
theorem ex_set2 {Q : Unit → Shared → Prop} (F : Fr h₀ L s.heap m) (X₀ : (hd.heap_1 w.params).In h₀) (N : News h₀ L s.heap news) (he : (e, excObjD t d) ∈ news) (hdm : (d, dictOf es n) ∈ news) (U : Upd d (dictOf es n) (dictOf es' n') news news')
    (hs : findIn (hd.heap_1 w.params) (.ref 87) "__setattr__" = some (some (.builtin "object.__setattr__"))) (ht : takerIn (hd.heap_1 w.params) 87 name = some none) (hself : mroIn (hd.heap_1 w.params) 87 (.type "object") = some true) (hh : hasDictIn (hd.heap_1 w.params) 87 = true)
    (hc : (!es.any (·.key.isStr name) && es.any (·.refKey)) = false) (e0 : (putL name (PyData.keyHash w.params name) (.str name (s.toks + 1)) v es, putN name es n) = (es', n')) (hz : es'.length ≤ 1000)
    (h : ∀ h', Fr h₀ L h' m → News h₀ L h' news' → Q () { s with heap := h', toks := s.toks + 2 }) : wpAny (model prog w) A (setAttr (.ref e) name v) Q E s := by
  obtain ⟨e1, e2⟩ := Prod.mk.inj e0
  have X := X₀.keeps F.keep
  have z := N _ he
  have I : InstAt s.heap e (excObjD t d) 87 (some (dictOf es n)) := ⟨z.1, rfl, rfl, (N _ hdm).1⟩
  obtain ⟨cd, hc', hdd⟩ := any_some hh
  obtain ⟨pre, post, rfl, rfl, a1, a2⟩ := U.split
  refine set_plain X I hs (ex_osa (s := { s with toks := s.toks + 1 }) X I ht hself fun b => ?_)
  obtain ⟨hp, g, dr, tk, os⟩ := s
  dsimp only at X F N z e1 h ⊢
  unfold storeInOwnDict
  refine wpAny_bind (wpAny_of_eq (a := ()) rfl ?_)
  rw [if_neg (show ¬ ((Value.ref 87 == Value.type "module") = true) from by decide)]
  refine wpAny_bind ?_
  show wpAny _ _ (instanceDict e true) _ _ _
  unfold instanceDict
  refine wpAny_bind (wpAny_loadPart z.1 ?_)
  refine wpAny_bind ((looks_clsIn X hc').here ?_)
  rw [hdd]
  refine wpAny_of_eq (a := some d) rfl ?_
  exact ex_put F N a1 a2 (by simpa using hc) e1 e2 hz fun h' F' N' => h h' F' N'
end
set_option genInjectivity false in
set_option genSizeOf false in
structure HX where
  a0 : Int
  a1 : Int
  a2 : Int
  z0 : Nat
  z1 : Nat
  z2 : Nat
  l : Addr
/-- the dict of a raised error -/
noncomputable abbrev XD (k : HX) (msg : Value) : List DictEntry := [⟨k.a0, .str (Str.ofString "value") k.z0, msg⟩, ⟨k.a1, .str (Str.ofString "trace") k.z1, .ref k.l⟩, ⟨k.a2, .str (Str.ofString "is_in_handler") k.z2, .bool false⟩]
end
section
variable {e t : Addr} {M : Array UInt8} {tm : Tok}
set_option maxHeartbeats 8000000 in
theorem init_spec (prog : Program) (w : World) : Spec prog w 71 [.ref e, .bytes M tm] [(e, excObj t)] 3 30
    (fun v c => v = .none ∧ ∃ d k, c = [(e, excObjD t d), (d, dictOf (XD k (.bytes M tm)) 3)]) := by
  rintro p loose mean mg mb dp un outer base g ⟨hs0, gs0, ds0, tk0, os0⟩ R B' X' T' sub sz hC hdp hun hret
  refine' enter X' T' sub sz hC ?k6 ?k7 ?k8 ?k9 ?kB ?_ ?c5 ?c2 ?c3 ?c4
  (case k6 => k_is)
  (case k7 => k_is)
  (case k8 => exact room0 hdp)
  (case k9 => exact BindsTo.of_eq rfl)
  (case kB => exact locs rfl)
  (case c5 => decide)
  (case c2 => exact rfl)
  (case c3 => exact rfl)
  (case c4 => exact rfl)
  intro L' h' F' N' l1
  (try k_lt l1)
  clear sub sz hC
  (try dsimp only)
  (try k_fold)
  (try dsimp only [LX] at N' l1)
  (first | refine W_start fun Q0 E0 k1 k2 k3 hPO => ?_ | refine P_start fun Q0 E0 k1 k2 k3 hPO => ?_)
  (repeat' (first | ((with_reducible show wpAny _ _ (setAttr (Value.ref _) _ _) _ _ _); (first
  | (refine' ex_set1 ?xF ?xX ?xN ?xs ?xt ?xo ?xh ?xp ?xz ?_; (case xF => k_asm); (case xX => k_asm); (case xN => k_asm); (case xs => k_is); (case xt => k_is); (case xo => k_is); (case xh => k_is); (case xp => k_put); (case xz => exact Nat.le_of_ble_eq_true rfl); intro D' h' F' N' l1; (try k_sweep))
  | (refine' ex_set2 ?xF ?xX ?xN ?xe ?xd ?xu ?xs ?xt ?xo ?xh ?xc ?xp ?xz ?_; (case xF => k_asm); (case xX => k_asm); (case xN => k_asm); (case xe => k_mem); (case xd => k_mem); (case xs => k_is); (case xt => k_is); (case xo => k_is); (case xh => k_is); (case xc => rfl); (case xp => k_put); (case xu => k_upd); (case xz => exact Nat.le_of_ble_eq_true rfl); intro h' F' N'; (try k_sweep))))  | walk_at "astep"))
  all_goals (refine' hret _ ([(e, excObjD t ?d_1), (?d_1, dictOf (XD ⟨?a_1, ?b_1, ?c_1, ?g_1, ?i_1, ?j_1, ?l_1⟩ (.bytes M tm)) 3)]) _ _ (Fr.keep (by assumption)) (fr_size (by assumption)) ?dH_1 ⟨rfl, _, _, rfl⟩; (case dH_1 => exact has_of (by assumption) (by (repeat' (first | exact List.forall_mem_nil _ | refine' List.forall_mem_cons.mpr ⟨?_, ?_⟩ | k_mem | (rw [‹LC.chk _ = _›]; k_mem))))))
end
section
open PySem.Builtin
section
variable {prog : Program} {w : World} {A A₀ : Around} {outer : List Env} {env : Env} {base h₀ : Heap} {L : Addr} {m : Str → Option Value} {p : Program} {loose : List Str} {mean : ExcName → Option Value} {mg mb : Str → Option Value}
  {s : Shared} {news : List (Addr × Obj)} {bs : Array UInt8} {tm : Tok} {Q E : Value → Shared → Prop}
theorem ex_make_N (B : Below A₀ base outer h₀) (F : Fr h₀ L s.heap m) (X : (hd.heap_1 w.params).In h₀) (N : News h₀ L s.heap news) (T : Top p loose mean mg mb h₀)
    (hh : A.handled = none) (hA : A.frames = some (env :: outer)) (hg : A.guards = some []) (hf : env.frame = some L) (hk : env.scope.kind = .function) (hdp : A.depth + 6 < recursionLimit) (hun : A.units + 40 < cLine)
    (hi : findIn (hd.heap_1 w.params) (.ref 87) "__init__" = some (some (.ref 71))) (hty1 : typeIn (hd.heap_1 w.params) (.ref 71) = some (.type "function"))
    (hcall : specialIn (hd.heap_1 w.params) (.ref 87) "__call__" = some (some (.builtin "type.__call__"))) (hself : mroIn (hd.heap_1 w.params) 87 (.ref 87) = some true) (hty : instIn (hd.heap_1 w.params) (.ref 87) (.type "type") = some true)
    (h : ∀ e t d k h' tk', Fr h₀ L h' m → News h₀ L h' ((e, excObjD t d) :: (d, dictOf (XD k (.bytes bs tm)) 3) :: news) → (∀ q ∈ news, q.1 ≠ e) → Q (.ref e) { s with heap := h', toks := tk' }) :
    wpAny (model prog w) A (call (.ref 87) [.bytes bs tm]) Q E s := by
  obtain ⟨ah, ad, af, ag, au⟩ := A
  dsimp only at hh hA hg hdp hun
  subst hh hA hg
  refine wpAny_call (ex_make (X.keeps F.keep) hi hty1 hcall hself hty ?_)
  have F1 := F.push { cls := .type "tuple", data := .seq #[.bytes bs tm] }
  have F2 := F1.push (excObj s.heap.objs.size)
  have N1 := N.push F { cls := .type "tuple", data := .seq #[.bytes bs tm] }
  have N2 := N1.push F1 (excObj s.heap.objs.size)
  rw [Heap.size_push] at N2
  have far : ∀ q ∈ news, q.1 ≠ s.heap.objs.size + 1 := fun q hq => Nat.ne_of_lt (Nat.lt_succ_of_lt (Heap.lt_size (N q hq).1))
  refine codeAny_mono (SpecG.code (env := env) (Q := fun v s' => v = .none ∧ Q (.ref (s.heap.objs.size + 1)) s') (E := E) (init_spec (t := s.heap.objs.size) prog w) B F2 X N2 T rfl rfl rfl hf hk ?_ (by show ad + 1 + 3 < _; omega) (by show au + 1 + 30 < _; omega) ?_) fun r s' z => ?_
  · intro q hq
    rcases List.mem_cons.mp hq with rfl | hq
    · exact .head _
    · cases hq
  · rintro v core' h' tk' ⟨rfl, d, k, rfl⟩ F' S' N'
    refine ⟨rfl, h _ s.heap.objs.size d k h' tk' F' (show News h₀ L h' ((s.heap.objs.size + 1, excObjD s.heap.objs.size d) :: (d, dictOf (XD k (.bytes bs tm)) 3) :: news) from fun q hq => ?_) far⟩
    rcases List.mem_cons.mp hq with rfl | hq
    · exact N' _ (.head _)
    · rcases List.mem_cons.mp hq with rfl | hq
      · exact N' _ (.tail _ (.head _))
      · refine S' q (.tail _ (.tail _ hq)) fun r hr e => ?_
        rcases List.mem_cons.mp hr with rfl | hr
        · exact absurd e (far q hq)
        · cases hr
  · rcases r with e | (v | _ | _ | _) <;> exact z
end
end
section
open PySem.Builtin
section
variable {prog : Program} {w : World} {A : Around} {R : Result → Shared → Prop} {h : Heap} {g : Array GenState} {d : Drawn} {t : Nat} {os : OsState} {C : Addr}
theorem P_make {rest : List Value} {init : Value} (Y : Makes (model prog w) h C) (hi : Looks (model prog w) h (typeLookup (.ref C) "__init__") (some init))
    (hb : ∀ self, Looks (model prog w) h (bindSpecial init self) (init, [self])) (hne : (some init != some (Value.builtin "object.__init__")) = true)
    (hq : codeP (model prog w) (A.under (.builtin "type.__call__" ⟨.ref C :: rest, []⟩)) (.call init ⟨.ref (h.objs.size + 1) :: rest, []⟩) (InitBack (h.objs.size + 1) R) ⟨(h.push emptyDict).push (instObj C h.objs.size), g, d, t, os⟩) :
    codeP (model prog w) A (.call (.ref C) ⟨rest, []⟩) R ⟨h, g, d, t, os⟩ := by
  have Y' := Y
  obtain ⟨⟨oc, od, cd, sl, hC, e1, e2, e4⟩, made, base, self, top, call, typ⟩ := Y
  refine P_of_tree rfl ?_
  show wpP _ _ (callAny (.ref C) _) _ _ _
  unfold callAny
  refine P_bindA (wpAny_load hC ?_)
  show wpP _ _ (callAny.viaDunder (.ref C) _) _ _ _
  unfold callAny.viaDunder
  refine P_bindA (call.here ?_)
  dsimp only
  rw [tc_bind]
  refine P_bindA (wpAny_pure (P_bindA (wpAny_pure ?_)))
  refine P_pure (a := Fin.again (.call (.builtin "type.__call__") ⟨.ref C :: rest, []⟩)) (And.intro rfl ?_)
  refine P_of_tree rfl ?_
  show wpP _ _ (do checkBuiltinCall "type.__call__" ⟨.ref C :: rest, []⟩; again (.builtin "type.__call__" ⟨.ref C :: rest, []⟩)) _ _ _
  refine P_bindA (check_slot tc_kind tc_split typ (tc_args _ _ _) (P_pure ⟨Code.quiet_builtin _ (by decide +kernel), ?_⟩))
  refine P_code_entry (show Builtin.Bytes.decodersThatHold.contains "type.__call__" = false by decide +kernel) entry_typeCall ?_
  have hm : Looks (model prog w) h (mroOf (.ref C)) cd.mro := ((Looks.ld (part := none) hC).andThen .now).andThen .now
  unfold Builtin.«type.__call__»
  dsimp only
  rw [if_neg (show ¬ ((Value.ref C == Value.type "type") = true) from by simp)]
  refine P_bindA (hm.here ?_)
  rw [e4]
  simp only [Bool.false_eq_true, if_false]
  refine P_bindA (made.here ?_)
  dsimp only
  refine P_bind (P_pure (P_bind (P_holding (P_lift (wpAny_call (new_K Y' hi (.inl hne) ?_))))))
  show wpP _ _ _ _ _ _
  have k : ∀ b o, h.get? b = some o → ((h.push emptyDict).push (instObj C h.objs.size)).get? b = some o := fun b o e => Heap.get?_push_of_some _ (Heap.get?_push_of_some _ e)
  have hx : ((h.push emptyDict).push (instObj C h.objs.size)).get? (h.objs.size + 1) = some (instObj C h.objs.size) := by heap_get
  have t1 : Looks (model prog w) ((h.push emptyDict).push (instObj C h.objs.size)) (typeOf (.ref (h.objs.size + 1))) (.ref C) := (Looks.ld hx).andThen .now
  have ins : Looks (model prog w) ((h.push emptyDict).push (instObj C h.objs.size)) (isInstance (.ref (h.objs.size + 1)) (.ref C)) true := t1.andThen (self.keeps k)
  have sp : Looks (model prog w) ((h.push emptyDict).push (instObj C h.objs.size)) (specialOf (.ref (h.objs.size + 1)) "__init__") (some init) := t1.andThen (hi.keeps k)
  have b1 := (hb (.ref (h.objs.size + 1))).keeps k
  refine P_bindA (ins.here ?_)
  simp only [Bool.not_true, Bool.false_eq_true, if_false]
  refine P_bind (P_holding ?_)
  simp only [callSpecial?]
  refine P_bindA (sp.here ?_)
  dsimp only
  refine P_holding (P_bindA (b1.here (P_bind (P_call (P_codeMono hq fun r s' z => ?_)))))
  rcases r with e | (v | _ | _ | _) <;> first | exact z | exact z.elim | skip
  obtain ⟨rfl, z⟩ := z
  exact P_pure (P_pure z)
end
section
variable {prog : Program} {w : World} {A A₀ : Around} {outer : List Env} {env : Env} {base h₀ : Heap} {L : Addr} {m : Str → Option Value} {p : Program} {loose : List Str} {mean : ExcName → Option Value} {mg mb : Str → Option Value}
  {s : Shared} {news core : List (Addr × Obj)} {C fI : Addr} {args : List Value} {d u : Nat} {post : Addr → Addr → List (Addr × Obj) → Prop} {Q E : Value → Shared → Prop}
/-- a class call over P, in a frame with a ledger, by the contract of its __init__ -/
theorem P_make_N (S : ∀ x dx, SpecP prog w fI (.ref x :: args) ((x, instObj C dx) :: (dx, emptyDict) :: core) d u (fun v c => v = .none ∧ post x dx c))
    (B : Below A₀ base outer h₀) (F : Fr h₀ L s.heap m) (X : (hd.heap_1 w.params).In h₀) (N : News h₀ L s.heap news) (T : Top p loose mean mg mb h₀)
    (hh : A.handled = none) (hA : A.frames = some (env :: outer)) (hg : A.guards = some []) (hf : env.frame = some L) (hk : env.scope.kind = .function) (hsub : ∀ q ∈ core, q ∈ news)
    (hdp : A.depth + (d + 1) < recursionLimit) (hun : A.units + (u + 1) < cLine)
    (hm : makesIn (hd.heap_1 w.params) C = true) (hi : findIn (hd.heap_1 w.params) (.ref C) "__init__" = some (some (.ref fI))) (hty : typeIn (hd.heap_1 w.params) (.ref fI) = some (.type "function"))
    (h : ∀ x dx core' h' tk', post x dx core' → Fr h₀ L h' m → Stays ((x, instObj C dx) :: (dx, emptyDict) :: news) ((x, instObj C dx) :: (dx, emptyDict) :: core) core' h₀ L h' → News h₀ L h' core' → (∀ q ∈ news, q.1 < dx) → Q (.ref x) { s with heap := h', toks := tk' }) :
    wpP (model prog w) A (call (.ref C) args) Q E s := by
  obtain ⟨ah, ad, af, ag, au⟩ := A
  dsimp only at hh hA hg hdp hun
  subst hh hA hg
  obtain ⟨hp, g, dr, tk, os⟩ := s
  dsimp only at F N h
  have F1 := F.push emptyDict
  have F2 := F1.push (instObj C hp.objs.size)
  have N1 := N.push F emptyDict
  have N2 := N1.push F1 (instObj C hp.objs.size)
  rw [Heap.size_push] at N2
  refine P_call (P_make (makes_of (X.keeps F.keep) hm) (looks_findIn (X.keeps F.keep) hi) (fun self => bind_fn (X.keeps F.keep) self hty) (by rfl) ?_)
  refine P_codeMono (SpecG.code (s := ⟨(hp.push emptyDict).push (instObj C hp.objs.size), g, dr, tk, os⟩) (env := env) (Q := fun v s' => v = .none ∧ Q (.ref (hp.objs.size + 1)) s') (E := E) (S (hp.objs.size + 1) hp.objs.size) B F2 X N2 T rfl rfl rfl hf hk ?_ (by show ad + 1 + d < _; omega) (by show au + 1 + u < _; omega) ?_) fun r s' z => ?_
  · intro q hq
    rcases List.mem_cons.mp hq with rfl | hq
    · exact .head _
    · rcases List.mem_cons.mp hq with rfl | hq
      · exact .tail _ (.head _)
      · exact .tail _ (.tail _ (hsub q hq))
  · rintro v core' h' tk' ⟨rfl, hpo⟩ F' S' N'
    exact ⟨rfl, h _ _ core' h' tk' hpo F' S' N' fun q hq => Heap.lt_size (N q hq).1⟩
  · rcases r with e | (v | _ | _ | _) <;> exact z
end
end
/-- two ledgers lie apart -/
noncomputable def Apart (rest core : List (Addr × Obj)) : Prop := ∀ q ∈ rest, ∀ r ∈ core, q.1 ≠ r.1
theorem Apart.nil {core : List (Addr × Obj)} : Apart [] core := fun _ h => nomatch h
theorem Apart.cons {q : Addr × Obj} {rest core : List (Addr × Obj)} (h : ∀ r ∈ core, q.1 ≠ r.1) (t : Apart rest core) : Apart (q :: rest) core := fun p hp => by
  rcases List.mem_cons.mp hp with rfl | hp
  · exact h
  · exact t p hp
theorem Apart.sub {r1 r2 c1 c2 : List (Addr × Obj)} (h : Apart r2 c2) (a : ∀ q ∈ r1, q ∈ r2) (b : ∀ q ∈ c1, q ∈ c2) : Apart r1 c1 := fun q hq r hr => h q (a q hq) r (b r hr)
theorem Apart.symm {a b : List (Addr × Obj)} (h : Apart a b) : Apart b a := fun q hq r hr => (h r hr q hq).symm
theorem News.append2 {h₀ h : Heap} {L : Addr} {a b : List (Addr × Obj)} (x : News h₀ L h a) (y : News h₀ L h b) : News h₀ L h (a ++ b) := fun q hq => (List.mem_append.mp hq).elim (x q) (y q)
section
variable {prog : Program} {w : World} {A A₀ : Around} {outer : List Env} {env : Env} {base h₀ : Heap} {L : Addr} {m : Str → Option Value} {p : Program} {loose : List Str} {mean : ExcName → Option Value} {mg mb : Str → Option Value}
  {s : Shared} {core rest : List (Addr × Obj)} {d u : Nat} {f : Addr} {vs : List Value} {post : Value → List (Addr × Obj) → Prop} {Q E : Value → Shared → Prop} {C : Around → Code → (Result → Shared → Prop) → Shared → Prop}
/-- a contract used within a frame: what lies apart from the core stays, and stays apart -/
theorem SpecG.frame (S : SpecG C w f vs core d u post) (B : Below A₀ base outer h₀) (F : Fr h₀ L s.heap m) (X : (hd.heap_1 w.params).In h₀) (Nc : News h₀ L s.heap core) (Nr : News h₀ L s.heap rest) (D : Apart rest core) (T : Top p loose mean mg mb h₀)
    (hh : A.handled = none) (hA : A.frames = some (env :: outer)) (hg : A.guards = some []) (hf : env.frame = some L) (hk : env.scope.kind = .function)
    (hd : A.depth + d < recursionLimit) (hu : A.units + u < cLine)
    (k : ∀ v core' h' tk', post v core' → Fr h₀ L h' m → News h₀ L h' core' → News h₀ L h' rest → Apart rest core' → Q v { s with heap := h', toks := tk' }) :
    C A (.call (.ref f) ⟨vs, []⟩) (fun r s' => match r with | .ok (.ret v) => Q v s' | .ok _ => False | .error e => E e s') s := by
  obtain ⟨ah, ad, af, ag, au⟩ := A
  dsimp only at hh hA hg hd hu
  subst hh hA hg
  obtain ⟨FG, BG, st, lv⟩ := groundX (A := amb ad au (env :: outer)) (R := fun r s' => match r with | .ok (.ret v) => Q v s' | .ok _ => False | .error e => E e s') B F Nc rfl hf hk
  have nL : L ∉ core.map (·.1) := fun q => by
    obtain ⟨r, hr, e⟩ := List.mem_map.mp q
    exact (Nc r hr).2.1 e
  have hLs : ∃ o, s.heap.get? L = some o := by
    obtain ⟨oL, _, _, hL, _⟩ := F.ns
    exact ⟨oL, hL⟩
  have gr : ∀ q ∈ rest, (hideAll s.heap (core.map (·.1))).get? q.1 = some q.2 := fun q hq => hideAll_get _ (Nr q hq).1 fun hm => by
    obtain ⟨r, hr, e⟩ := List.mem_map.mp hm
    exact D q hq r hr e.symm
  refine S p loose mean mg mb ad au (env :: outer) base _ s _ ⟨rfl, BG.stays, BG.frames⟩ (X.keeps st) (T.keeps st) (fun b o e => of_hideAll _ e) (Nat.le_of_eq (hideAll_size _ _)) (fun q hq => ⟨(Nc q hq).1, hideAll_none _ (List.mem_map_of_mem hq)⟩) hd hu ?_
  intro v core' h' tk' hs hsz hc hp
  refine k v core' h' tk' hp ⟨?_, fun b o e => hs b o (st b o e), F.above⟩ (fun q hq => ⟨(hc q hq).1, fun e => ?_, ?_⟩) (fun q hq => ⟨hs _ _ (gr q hq), (Nr q hq).2⟩) fun q hq r hr e => ?_
  · obtain ⟨oL, es, ep, hL, r⟩ := FG.ns
    exact ⟨oL, es, ep, hs _ _ hL, r⟩
  · obtain ⟨oL, hL⟩ := hLs
    have := (hc q hq).2
    rw [e, hideAll_get _ hL nL] at this
    cases this
  · cases z : h₀.get? q.1 with
    | none => rfl
    | some o => have := (hc q hq).2; rw [st _ _ z] at this; cases this
  · have z := (hc r hr).2
    rw [← e, gr q hq] at z
    cases z
theorem Spec.frame (S : Spec prog w f vs core d u post) (B : Below A₀ base outer h₀) (F : Fr h₀ L s.heap m) (X : (hd.heap_1 w.params).In h₀) (Nc : News h₀ L s.heap core) (Nr : News h₀ L s.heap rest) (D : Apart rest core) (T : Top p loose mean mg mb h₀)
    (hh : A.handled = none) (hA : A.frames = some (env :: outer)) (hg : A.guards = some []) (hf : env.frame = some L) (hk : env.scope.kind = .function)
    (hd : A.depth + d < recursionLimit) (hu : A.units + u < cLine)
    (k : ∀ v core' h' tk', post v core' → Fr h₀ L h' m → News h₀ L h' core' → News h₀ L h' rest → Apart rest core' → Q v { s with heap := h', toks := tk' }) :
    wpAny (model prog w) A (call (.ref f) vs) Q E s := wpAny_call (SpecG.frame S B F X Nc Nr D T hh hA hg hf hk hd hu k)
theorem SpecP.frame (S : SpecP prog w f vs core d u post) (B : Below A₀ base outer h₀) (F : Fr h₀ L s.heap m) (X : (hd.heap_1 w.params).In h₀) (Nc : News h₀ L s.heap core) (Nr : News h₀ L s.heap rest) (D : Apart rest core) (T : Top p loose mean mg mb h₀)
    (hh : A.handled = none) (hA : A.frames = some (env :: outer)) (hg : A.guards = some []) (hf : env.frame = some L) (hk : env.scope.kind = .function)
    (hd : A.depth + d < recursionLimit) (hu : A.units + u < cLine)
    (k : ∀ v core' h' tk', post v core' → Fr h₀ L h' m → News h₀ L h' core' → News h₀ L h' rest → Apart rest core' → Q v { s with heap := h', toks := tk' }) :
    wpP (model prog w) A (call (.ref f) vs) Q E s := P_call (SpecG.frame S B F X Nc Nr D T hh hA hg hf hk hd hu k)
end
section
variable {prog : Program} {w : World} {A A₀ : Around} {outer : List Env} {env : Env} {base h₀ : Heap} {L : Addr} {m : Str → Option Value} {p : Program} {loose : List Str} {mean : ExcName → Option Value} {mg mb : Str → Option Value}
  {s : Shared} {rest core : List (Addr × Obj)} {C fI : Addr} {args : List Value} {d u : Nat} {post : Addr → Addr → List (Addr × Obj) → Prop} {Q E : Value → Shared → Prop}
/-- a class call over P, in a frame, by the contract of its __init__: what lies apart stays apart -/
theorem P_make_F (S : ∀ x dx, (∀ q ∈ core, q.1 < dx) → SpecP prog w fI (.ref x :: args) ((x, instObj C dx) :: (dx, emptyDict) :: core) d u (fun v c => v = .none ∧ post x dx c))
    (B : Below A₀ base outer h₀) (F : Fr h₀ L s.heap m) (X : (hd.heap_1 w.params).In h₀) (Nc : News h₀ L s.heap core) (Nr : News h₀ L s.heap rest) (D : Apart rest core) (T : Top p loose mean mg mb h₀)
    (hh : A.handled = none) (hA : A.frames = some (env :: outer)) (hg : A.guards = some []) (hf : env.frame = some L) (hk : env.scope.kind = .function)
    (hdp : A.depth + (d + 1) < recursionLimit) (hun : A.units + (u + 1) < cLine)
    (hm : makesIn (hd.heap_1 w.params) C = true) (hi : findIn (hd.heap_1 w.params) (.ref C) "__init__" = some (some (.ref fI))) (hty : typeIn (hd.heap_1 w.params) (.ref fI) = some (.type "function"))
    (h : ∀ x dx core' h' tk', post x dx core' → Fr h₀ L h' m → News h₀ L h' core' → News h₀ L h' rest → Apart rest core' → Q (.ref x) { s with heap := h', toks := tk' }) :
    wpP (model prog w) A (call (.ref C) args) Q E s := by
  obtain ⟨ah, ad, af, ag, au⟩ := A
  dsimp only at hh hA hg hdp hun
  subst hh hA hg
  obtain ⟨hp, g, dr, tk, os⟩ := s
  dsimp only at F Nc Nr h
  have F1 := F.push emptyDict
  have F2 := F1.push (instObj C hp.objs.size)
  have up : ∀ l : List (Addr × Obj), News h₀ L hp l → News h₀ L ((hp.push emptyDict).push (instObj C hp.objs.size)) l := fun l N q hq => ⟨Heap.get?_push_of_some _ (Heap.get?_push_of_some _ (N q hq).1), (N q hq).2⟩
  have N1 := Nc.push F emptyDict
  have N2 := N1.push F1 (instObj C hp.objs.size)
  rw [Heap.size_push] at N2
  have Ar : Apart rest ((hp.objs.size + 1, instObj C hp.objs.size) :: (hp.objs.size, emptyDict) :: core) := fun q hq r hr e => by
    have lt := Heap.lt_size (Nr q hq).1
    rcases List.mem_cons.mp hr with rfl | hr
    · exact absurd e (Nat.ne_of_lt (Nat.lt_succ_of_lt lt))
    · rcases List.mem_cons.mp hr with rfl | hr
      · exact absurd e (Nat.ne_of_lt lt)
      · exact D q hq r hr e
  refine P_call (P_make (makes_of (X.keeps F.keep) hm) (looks_findIn (X.keeps F.keep) hi) (fun self => bind_fn (X.keeps F.keep) self hty) (by rfl) ?_)
  refine P_codeMono (SpecG.frame (s := ⟨(hp.push emptyDict).push (instObj C hp.objs.size), g, dr, tk, os⟩) (env := env) (Q := fun v s' => v = .none ∧ Q (.ref (hp.objs.size + 1)) s') (E := E) (S (hp.objs.size + 1) hp.objs.size fun q hq => Heap.lt_size (Nc q hq).1) B F2 X N2 (up _ Nr) Ar T rfl rfl rfl hf hk (by show ad + 1 + d < _; omega) (by show au + 1 + u < _; omega) ?_) fun r s' z => ?_
  · rintro v core' h' tk' ⟨rfl, hpo⟩ F' N' R' D'
    exact ⟨rfl, h _ _ core' h' tk' hpo F' N' R' D'⟩
  · rcases r with e | (v | _ | _ | _) <;> exact z
end
section
variable {prog : Program} {w : World} {A : Around} {E : Value → Shared → Prop} {s : Shared} {h₀ : Heap} {L D : Addr} {m : Str → Option Value} {news news' : List (Addr × Obj)} {a b v : Value} {n : Nat} {t : Tok}
theorem rope_set {Q : Unit → Shared → Prop} (F : Fr h₀ L s.heap m) (N : News h₀ L s.heap news) (U : Upd D (listOf #[a, b] n) (listOf #[a, v] n) news news')
    (h : ∀ h', Fr h₀ L h' m → News h₀ L h' news' → Q () { s with heap := h' }) : wpAny (model prog w) A (setItem (.ref D) (.int 1 t) v) Q E s := by
  obtain ⟨pre, post, rfl, rfl, a1, a2⟩ := U.split
  have z := N (D, listOf #[a, b] n) (List.mem_append.mpr (.inr (.head _)))
  refine ki_setAt z.1 (by decide) (by decide) (by simp) (h _ (F.change (Heap.SameBut.update ..) z.2.1 z.2.2) (ki_turn _ N a1 a2 ?_ ?_))
  · rfl
  · simp
end
theorem fm_in {a b : Int} (h : 0 < b) : 0 ≤ a.fmod b ∧ a.fmod b < b := by
  rw [Int.fmod_eq_emod_of_nonneg _ (by omega)]
  exact ⟨Int.emod_nonneg _ (by omega), Int.emod_lt_of_pos _ h⟩
theorem reg_e54663d5_W1 : True := by
  k_with "q setItem ref int" =>
    (k_here; (with_reducible show wpAny _ _ (setItem (Value.ref _) (Value.int 1 _) (Value.int _ _)) _ _ _); k_dflt (refine' rope_set ?zzrsF ?zzrsN ?zzrsU ?_; (case zzrsF => k_asm); (case zzrsN => k_asm); (case zzrsU => k_upd)); intro zzh' zzF' zzN'; (try k_sweep))
  trivial
section
variable {r sl : Addr} {vs : List Value} {ns : List Int} {k many : Int} {t1 t2 t : Tok} {n : Nat}
set_option maxHeartbeats 8000000 in
theorem law_next_spec (prog : Program) (w : World) (hne : sl ≠ r) (hI : IntsAre vs ns) (hl : ns.length ≤ 40) (hk : 0 ≤ k ∧ k ≤ 100000) (hm : 0 < many ∧ many ≤ 1000) :
    Spec prog w 476 [.ref r, .int many t] [(r, listOf #[.ref sl, .int k t1] n), (sl, listOf vs.toArray 0)] 7 70
      (fun v e => (∃ z u, v = .int z u ∧ 0 ≤ z ∧ z < many) ∧ ∃ u n', e = [(r, listOf #[.ref sl, .int (k + 1) u] n'), (sl, listOf vs.toArray 0)]) := by
  rintro p loose mean mg mb dp un outer base g ⟨hs0, gs0, ds0, tk0, os0⟩ R B' X' T' sub sz hC hdp hun hret
  refine' enter X' T' sub sz hC ?k6 ?k7 ?k8 ?k9 ?kB ?_ ?c5 ?c2 ?c3 ?c4
  (case k6 => k_is)
  (case k7 => k_is)
  (case k8 => exact room0 hdp)
  (case k9 => exact BindsTo.of_eq rfl)
  (case kB => exact locs rfl)
  (case c5 => decide)
  (case c2 => exact rfl)
  (case c3 => exact rfl)
  (case c4 => exact rfl)
  intro L' h' F' N' l1
  (try k_lt l1)
  clear sub sz hC
  (try dsimp only)
  (try k_fold)
  (try dsimp only [LX] at N' l1)
  (first | refine W_start fun Q0 E0 k1 k2 k3 hPO => ?_ | refine P_start fun Q0 E0 k1 k2 k3 hPO => ?_)
  (repeat' (first 
    | walk_at "astep"))
  · (refine' hret _ ([(r, listOf #[.ref sl, .int (k + 1) ?u_1] ?n_1), (sl, listOf vs.toArray 0)]) _ _ (Fr.keep (by assumption)) (fr_size (by assumption)) ?dH_1 ⟨⟨_, _, rfl, (fm_in hm.1).1, (fm_in hm.1).2⟩, _, _, rfl⟩; (case dH_1 => exact has_of (by assumption) (by (repeat' (first | exact List.forall_mem_nil _ | refine' List.forall_mem_cons.mpr ⟨?_, ?_⟩ | k_mem | (rw [‹LC.chk _ = _›]; k_mem))))))
  · (refine' hret _ ([(r, listOf #[.ref sl, .int (k + 1) ?u_2] ?n_2), (sl, listOf vs.toArray 0)]) _ _ (Fr.keep (by assumption)) (fr_size (by assumption)) ?dH_2 ⟨⟨_, _, rfl, (fm_in hm.1).1, (fm_in hm.1).2⟩, _, _, rfl⟩; (case dH_2 => exact has_of (by assumption) (by (repeat' (first | exact List.forall_mem_nil _ | refine' List.forall_mem_cons.mpr ⟨?_, ?_⟩ | k_mem | (rw [‹LC.chk _ = _›]; k_mem))))))
end
section
variable {prog : Program} {w : World} {A : Around} {E : Value → Shared → Prop} {s : Shared} {env : Env} {h₀ : Heap} {body : List Stmt} {Q : Flow → Shared → Prop} {x : Str} {m₀ : Str → Option Value} {news : List (Addr × Obj)}
/-- range(z) for a small z, ahead of a for -/
theorem rg_for {z : Int} {t : Tok} (hz : 0 ≤ z ∧ z ≤ 1000) (hh : A.handled = none) (F : Fr h₀ env.locals s.heap m₀) (N : News h₀ env.locals s.heap news)
    (rest₀ : ∀ I h tk, (∀ p ∈ news, p.1 < I) → RangeRest prog w A E h₀ env x body Q { s with heap := h, toks := tk } I 0 z.toNat z.toNat 0 m₀ news) :
    wpAny (model prog w) A (call (.type "range") [.int z t]) (fun xv s₁ => wpAny (model prog w) A (pyIter xv) (fun it s₂ => LoopAtV prog w A h₀ env x body Q E it s₂) E s₁) E s := by
  refine call_range_1 ?_
  have hsm : Builtin.Range.small 0 z 1 = true := small_one (by omega) (by omega) (by omega) (by omega)
  refine iter_rangeUnr hh (Heap.get?_push_size _ rfl) hsm ?_ (F.push _) (N.grown fun _ _ e => Heap.get?_push_of_some _ e) fun I hI => rest₀ I _ _ hI
  rw [rangeSize_nat]
  simp
end
/-- the seven pairs of what is laid and what it tells -/
inductive Pr : List UInt8 → List UInt8 → Prop
  | a : Pr [97] [97]
  | b : Pr [32, 98] [32, 98]
  | z : Pr [0] [0]
  | e0 : Pr [92, 48] [0]
  | e000 : Pr [92, 48, 48, 48] [0]
  | t : Pr [92, 116] [9]
  | n : Pr [92, 54, 53] [65]
theorem Pr.len {a b : List UInt8} (h : Pr a b) : a.length ≤ 4 ∧ b.length ≤ 2 := by cases h <;> decide
noncomputable abbrev tupObj (vs : Array Value) : Obj := { cls := .type "tuple", data := .seq vs }
noncomputable def PrAt (news : List (Addr × Obj)) (v : Value) : Prop := ∃ D a b ta tb, v = .ref D ∧ Pr a b ∧ (D, tupObj #[.bytes a.toArray ta, .bytes b.toArray tb]) ∈ news
section
variable {prog : Program} {w : World} {A : Around} {E : Value → Shared → Prop} {s : Shared} {h₀ : Heap} {L l : Addr} {news core : List (Addr × Obj)} {vs : List Value} {n : Nat} {z : Int} {u : Tok} {value slice : PySem.Expr} {Q : Value → Shared → Prop}
theorem pick_pr (N : News h₀ L s.heap news) (hl : (l, listOf vs.toArray n) ∈ news) (hp : ∀ v ∈ vs, PrAt news v) (h0 : 0 ≤ z) (h1 : z < vs.length) (hsz : vs.length ≤ 1000) (hc : ∀ q ∈ core, q ∈ news)
    (h : ∀ D a b ta tb, Pr a b → News h₀ L s.heap ((D, tupObj #[.bytes a.toArray ta, .bytes b.toArray tb]) :: core) → Q (.ref D) s)
    (hs : subscripted slice false (.ref l) (.int z u) = operate [.ref l, .int z u] (getItem (.ref l) (.int z u)) := by with_unfolding_all rfl) :
    wpAny (model prog w) A (subscriptTail value slice (.ref l) (.int z u)) Q E s := by
  have hL : s.heap.IsList l vs.toArray := ⟨_, (N _ hl).1, rfl, _, rfl⟩
  have hlt : z.toNat < vs.length := by omega
  obtain ⟨D, a, b, ta, tb, e, hpr, hm⟩ := hp (vs[z.toNat]) (List.getElem_mem hlt)
  have hx : vs.toArray[z.toNat]? = some (.ref D) := by
    rw [List.getElem?_toArray, List.getElem?_eq_getElem hlt, e]
  refine tail_any hL.typeIs slot_list_getitem.lookup (wpAny_getItem_list hL h0 (by omega) hx (h D a b ta tb hpr ?_)) hs
  intro q hq
  rcases List.mem_cons.mp hq with rfl | hq
  · exact N _ hm
  · exact N _ (hc q hq)
end
section
variable {prog : Program} {w : World} {A : Around} {E : Value → Shared → Prop} {env : Env} {h₀ : Heap} {L : Addr} {m : Str → Option Value}
/-- a written pair: what is laid and what it tells -/
inductive PrE : PySem.Expr → Prop
  | mk {a b : List UInt8} {k1 k2 k : Nat} {p1 p2 p : PySem.Pos} : Pr a b → PrE (.Tuple [.Constant (.bytes a) k1 p1, .Constant (.bytes b) k2 p2] k p)
theorem PrAt.mono {X Y : List (Addr × Obj)} {v : Value} (h : PrAt X v) (hs : ∀ q ∈ X, q ∈ Y) : PrAt Y v := by
  obtain ⟨D, a, b, ta, tb, e, hp, hm⟩ := h
  exact ⟨D, a, b, ta, tb, e, hp, hs _ hm⟩
theorem pairs_spliced {pos : PySem.Pos} : ∀ (es : List PySem.Expr) (s : Shared) (news : List (Addr × Obj)) {Q : List Value → Shared → Prop}, (∀ e ∈ es, PrE e) → Fr h₀ L s.heap m → News h₀ L s.heap news →
    (∀ (vs : List Value) (X : List (Addr × Obj)) (h' : Heap) (tk' : Nat), vs.length = es.length → (∀ v ∈ vs, PrAt X v) → (∀ q ∈ X, ∀ p ∈ news, p.1 < q.1) → Fr h₀ L h' m → News h₀ L h' (news ++ X) → Q vs { s with heap := h', toks := tk' }) →
    wpAny (model prog w) A (spliced (backTo pos (starEach es env))) Q E s
  | [], s, news, Q, _, F, N, k => args_nil (k [] [] s.heap s.toks rfl (fun _ h => nomatch h) (fun _ h => nomatch h) F (by rw [List.append_nil]; exact N))
  | e :: es, s, news, Q, hes, F, N, k => by
    obtain @⟨a, b, k1, k2, kk, p1, p2, p, hp⟩ := hes e (.head _)
    refine args_cons (Tuple_ (args_cons (Constant_bytes (args_cons (Constant_bytes (args_nil (newTuple_N (news := news) F N (fun h' F' N' => ?_) ?_))))))) rfl
    · refine pairs_spliced es _ _ (fun x hx => hes x (.tail _ hx)) F' N' fun vs X h2 tk2 hl hv ha F2 N2 => ?_
      refine k (.ref s.heap.objs.size :: vs) ((s.heap.objs.size, tupObj #[.bytes a.toArray s.toks, .bytes b.toArray (s.toks + 1)]) :: X) h2 tk2 (congrArg (· + 1) hl) ?_ ?_ F2 (fun q hq => N2 q ?_)
      · intro v hv'
        rcases List.mem_cons.mp hv' with rfl | hv'
        · exact ⟨_, a, b, _, _, rfl, hp, .head _⟩
        · exact (hv v hv').mono fun q hq => .tail _ hq
      · intro q hq p hp
        rcases List.mem_cons.mp hq with rfl | hq
        · exact Heap.lt_size (N p hp).1
        · exact ha q hq p (.tail _ hp)
      · rcases List.mem_append.mp hq with hq | hq
        · exact .tail _ (List.mem_append_left _ hq)
        · rcases List.mem_cons.mp hq with rfl | hq
          · exact .head _
          · exact .tail _ (List.mem_append_right _ hq)
    · exact Nat.le_trans (by decide : 2 ≤ 1000) (by decide +kernel)
theorem pairs_lit {p0 : PySem.Pos} {es : List PySem.Expr} {s : Shared} {news : List (Addr × Obj)} {Q : Value → Shared → Prop} (hes : ∀ e ∈ es, PrE e) (hn : es.length = 7) (F : Fr h₀ L s.heap m) (N : News h₀ L s.heap news)
    (k : ∀ (l : Addr) (vs : List Value) (X : List (Addr × Obj)) (h' : Heap) (tk' : Nat), vs.length = 7 → (∀ v ∈ vs, PrAt X v) → (∀ q ∈ X, ∀ p ∈ news, p.1 < q.1) → Fr h₀ L h' m → News h₀ L h' ((l, listOf vs.toArray 0) :: (news ++ X)) → (∀ p ∈ news, p.1 < l) → Q (.ref l) { s with heap := h', toks := tk' }) :
    wpAny (model prog w) A (eval (.List es p0) env) Q E s := by
  refine List_ (pairs_spliced es s news hes F N fun vs X h' tk' hl hv ha F' N' => ?_)
  refine newList_K F' N' (fun l h2 F2 N2 l1 => k l vs X h2 tk' (hl.trans hn) hv ha F2 N2 fun p hp => l1 p (List.mem_append_left _ hp)) ?_
  rw [hl, hn]
  exact Nat.le_trans (by decide : 7 ≤ 1000) (by decide +kernel)
end
theorem off_LI : True := by
  w_top off
  trivial
theorem reg_36d10bcd_LI : True := by
  k_with "q call ref" =>
    (k_here; (with_reducible show wpAny _ _ (call (Value.ref 476) _) _ _ _); (first | (k_dflt ((refine' Spec.use (law_next_spec _ _ (by assumption) (by assumption) ?zzh1 ?zzh2 ?zzh3) ?zzuB ?zzuF ?zzuX ?zzuN ?zzuT ?zzuh ?zzuA ?zzug ?zzuf ?zzuk ?zzus ?zzud ?zzuu ?_); (case zzuF => k_asm); (case zzuA => with_unfolding_all rfl); (case zzuB => k_asm); (case zzuX => k_asm); (case zzuN => k_asm); (case zzuT => k_asm); (case zzuh => with_unfolding_all rfl);  (case zzug => with_unfolding_all rfl); (case zzuf => with_unfolding_all rfl); (case zzuk => with_unfolding_all rfl); (case zzus => (repeat' (first | exact List.forall_mem_nil _ | refine' List.forall_mem_cons.mpr ⟨?_, ?_⟩ | k_mem | (rw [‹LC.chk _ = _›]; k_mem)))); (case zzh1 => (first | assumption | exact le_c (by assumption) rfl | omega | (refine neN ?_; omega) | (constructor <;> omega) | ((try simp only [List.length_append, List.length_cons, List.length_nil, List.length_replicate]); omega) | (constructor <;> (first | assumption | decide | omega)) | rfl | decide)); (case zzh2 => (first | assumption | exact le_c (by assumption) rfl | omega | (refine neN ?_; omega) | (constructor <;> omega) | ((try simp only [List.length_append, List.length_cons, List.length_nil, List.length_replicate]); omega) | (constructor <;> (first | assumption | decide | omega)) | rfl | decide)); (case zzh3 => (first | assumption | exact le_c (by assumption) rfl | omega | (refine neN ?_; omega) | (constructor <;> omega) | ((try simp only [List.length_append, List.length_cons, List.length_nil, List.length_replicate]); omega) | (constructor <;> (first | assumption | decide | omega)) | rfl | decide)); (case zzud => k_room); (case zzuu => k_units); intro zzv' zzc' zzh' zztk' zzhp' zzF' zzS' zzN'; (refine @opq _ ?_); intro zzG' zzhG'; (obtain ⟨⟨zzz', zzu', zze1, zzhz1, zzhz2⟩, zzu2, zzn2, zze2⟩ := zzhp'); subst zze1; subst zze2; (refine zzhG' ?_); (clear zzhG' zzG'); (have zzN' := stays_c1 zzS' zzN' (by k_upd)); clear zzS'; (try k_sweep); (try dsimp only))) | (exfalso; (try simp only [Bool.or_eq_true, Bool.and_eq_true, decide_eq_true_eq, beq_iff_eq, Bool.or_eq_false_iff, Bool.and_eq_false_iff, decide_eq_false_iff_not, beq_eq_false_iff_ne] at *); omega)))
  trivial
theorem reg_55930eeb_LI : True := by
  k_with "q binaryOp Add bytes bytes" =>
    (k_here; (with_reducible show wpAny _ _ (binaryOp _ (Value.bytes (List.toArray _) _) (Value.bytes (List.toArray _) _)) _ _ _); (refine add_bytes_L (by first | omega | ((simp only [List.length_append, List.length_cons, List.length_nil]); omega)) ?_); intro _ _; (try simp only [List.cons_append, List.nil_append, List.append_assoc]); (try dsimp only))
  trivial
theorem reg_5126235a_LI : True := by
  k_with "q exec For Name Call cons nil" =>
    (k_here; (rename Fr _ _ _ _ => zzlF'); (with_unfolding_all refine' For_invVF zzlF' ?zzk1 ?zzk2 ?_; (case zzk1 => exact rfl); (case zzk2 => exact rfl); k_whole))
  trivial
theorem reg_a8d11254_LI : True := by
  k_with "q eval List" =>
    (k_here; k_dflt (refine' pairs_lit ?zzpe ?zzpn ?zzpF ?zzpN ?_; (case zzpe => (repeat' (first | exact List.forall_mem_nil _ | refine' List.forall_mem_cons.mpr ⟨.mk (by constructor), ?_⟩))); (case zzpn => exact rfl); (case zzpF => k_asm); (case zzpN => k_asm)); intro zzl' zzvs' zzX' zzh' zztk' zzhvs zzhpr zzhap zzF' zzN' zzl1; (try dsimp only [List.cons_append, List.nil_append] at zzN'); (try k_sweep))
  trivial
inductive InP : List UInt8 → List UInt8 → Prop
  | nil : InP [] []
  | snoc (L R a b) : Pr a b → InP L R → InP (L ++ a) (R ++ b)
noncomputable def lm (m0 : Str → Option Value) (rd la ot on so tu : Option Value) (y : Str) : Option Value :=
  if y = Str.ofString "read" then rd else if y = Str.ofString "laid" then la else if y = Str.ofString "other" then ot else if y = Str.ofString "one" then on else if y = Str.ofString "some" then so else if y = Str.ofString "turn" then tu else m0 y
theorem lm_self (m0 : Str → Option Value) : m0 = lm m0 (m0 (Str.ofString "read")) (m0 (Str.ofString "laid")) (m0 (Str.ofString "other")) (m0 (Str.ofString "one")) (m0 (Str.ofString "some")) (m0 (Str.ofString "turn")) := by
  funext y
  unfold lm
  repeat' (split; (subst_vars; rfl))
  rfl
theorem lm_self2 {m0 : Str → Option Value} {rd la : Option Value} (h1 : m0 (Str.ofString "read") = rd) (h2 : m0 (Str.ofString "laid") = la) : m0 = lm m0 rd la (m0 (Str.ofString "other")) (m0 (Str.ofString "one")) (m0 (Str.ofString "some")) (m0 (Str.ofString "turn")) := by
  subst h1 h2; exact lm_self m0
theorem lm_set (m0 : Str → Option Value) (rd la ot on so tu rd' la' ot' on' so' tu' : Option Value) :
    (fun y => if y = Str.ofString "read" then rd' else if y = Str.ofString "laid" then la' else if y = Str.ofString "other" then ot' else if y = Str.ofString "one" then on' else if y = Str.ofString "some" then so' else if y = Str.ofString "turn" then tu' else lm m0 rd la ot on so tu y) = lm m0 rd' la' ot' on' so' tu' := by
  funext y
  unfold lm
  repeat' (first | rfl | split)
theorem lm_set2 (m0 : Str → Option Value) (rd la ot on so tu rd' la' ot' on' so' tu' : Option Value) :
    (fun y => if y = Str.ofString "laid" then la' else if y = Str.ofString "read" then rd' else if y = Str.ofString "other" then ot' else if y = Str.ofString "one" then on' else if y = Str.ofString "some" then so' else if y = Str.ofString "turn" then tu' else lm m0 rd la ot on so tu y) = lm m0 rd' la' ot' on' so' tu' := by
  refine Eq.trans ?_ (lm_set m0 rd la ot on so tu rd' la' ot' on' so' tu')
  funext y
  by_cases h1 : y = Str.ofString "read"
  · subst h1; rfl
  · rw [if_neg h1, if_neg h1]
noncomputable def JI (r sl : Addr) (vs : List Value) (k : Int) (m0 : Str → Option Value) (j : Nat) (m : Str → Option Value) (news : List (Addr × Obj)) : Prop :=
  ∃ (L R : List UInt8) (tl tr : Tok) (ot on so tu : Option Value) (kk : Int) (u : Tok) (n' : Nat), InP L R ∧ L.length + 4 * j ≤ 16 ∧ R.length + 2 * j ≤ 8 ∧ 0 ≤ kk ∧ kk + (j : Int) ≤ k + 5 ∧
    m = lm m0 (some (.bytes R.toArray tr)) (some (.bytes L.toArray tl)) ot on so tu ∧ news = [(r, listOf #[.ref sl, .int kk u] n'), (sl, listOf vs.toArray 0)]
section
variable {prog : Program} {w : World} {A : Around} {E : Value → Shared → Prop} {s : Shared} {env : Env} {h₀ : Heap} {body : List Stmt} {Q : Flow → Shared → Prop} {x : Str} {m₀ : Str → Option Value} {news : List (Addr × Obj)}
theorem rg_for5 {z : Int} {t : Tok} (h1 : 0 ≤ z) (h2 : z < 5) (hh : A.handled = none) (F : Fr h₀ env.locals s.heap m₀) {all : List (Addr × Obj)} (N : News h₀ env.locals s.heap all) (hs : ∀ q ∈ news, q ∈ all)
    (rest₀ : ∀ j, j ≤ 4 → ∀ I, (∀ p ∈ news, p.1 < I) → ∀ h tk, RangeRest prog w A E h₀ env x body Q { s with heap := h, toks := tk } I 0 j j 0 m₀ news) :
    wpAny (model prog w) A (call (.type "range") [.int z t]) (fun xv s₁ => wpAny (model prog w) A (pyIter xv) (fun it s₂ => LoopAtV prog w A h₀ env x body Q E it s₂) E s₁) E s :=
  rg_for (by omega) hh F (news_sub N hs) fun I h tk hI => rest₀ z.toNat (by omega) I hI h tk
end
theorem split7 {h₀ h : Heap} {L : Addr} {a b c d : Addr × Obj} {X : List (Addr × Obj)} (N : News h₀ L h (a :: b :: c :: d :: X)) (hl : ∀ p ∈ [b, c, d], p.1 < a.1) (hc : c.1 ≠ b.1) (hd : d.1 ≠ b.1) (ha : ∀ q ∈ X, ∀ p ∈ [b, c, d], p.1 < q.1) :
    News h₀ L h [c, d] ∧ News h₀ L h (a :: b :: X) ∧ Apart (a :: b :: X) [c, d] := by
  refine ⟨fun q hq => N q (.tail _ (.tail _ ?_)), fun q hq => N q ?_, .cons (fun p hp => Nat.ne_of_gt (hl p (.tail _ hp))) (.cons ?_ fun q hq p hp => Nat.ne_of_gt (ha q hq p (.tail _ hp)))⟩
  · rcases List.mem_cons.mp hq with rfl | hq
    · exact .head _
    · rcases List.mem_cons.mp hq with rfl | hq
      · exact .tail _ (.head _)
      · cases hq
  · rcases List.mem_cons.mp hq with rfl | hq
    · exact .head _
    · rcases List.mem_cons.mp hq with rfl | hq
      · exact .tail _ (.head _)
      · exact .tail _ (.tail _ (.tail _ (.tail _ hq)))
  · exact List.forall_mem_cons.mpr ⟨hc.symm, List.forall_mem_cons.mpr ⟨hd.symm, List.forall_mem_nil _⟩⟩
section
variable {r sl : Addr} {vs : List Value} {ns : List Int} {k : Int} {t1 t2 t : Tok} {n : Nat}
theorem said_5 : True := by
  k_with "x4" =>
    (repeat' ((fail_if_success (with_reducible show wpAny _ _ (call (Value.type "range") _) _ _ _)); first | ((with_reducible show wpAny _ _ (execs _ _) _ _ _); dsimp only) | (k_unfold; (try dsimp only)) | walk1 | (dsimp only; walk1) | fail "no step"))
  trivial
set_option maxHeartbeats 8000000 in
theorem law_inner_spec (prog : Program) (w : World) (hne : sl ≠ r) (hI : IntsAre vs ns) (hl : ns.length ≤ 40) (hk : 0 ≤ k ∧ k ≤ 90000) :
    Spec prog w 490 [.ref r] [(r, listOf #[.ref sl, .int k t1] n), (sl, listOf vs.toArray 0)] 12 120
      (fun v e => ∃ D L R tl tr kk u n', v = .ref D ∧ InP L R ∧ L.length ≤ 16 ∧ R.length ≤ 8 ∧ 0 ≤ kk ∧ kk ≤ k + 5 ∧ e = [(D, tupObj #[.bytes (List.toArray L) tl, .bytes (List.toArray R) tr]), (r, listOf #[.ref sl, .int kk u] n'), (sl, listOf vs.toArray 0)]) := by
  intro p loose mean mg mb dp un outer base g s R B' X' T' sub sz hC hdp hun hret
  refine' enter (binds := [(Str.ofString "rope", Value.ref r)]) X' T' sub sz hC ?k6 ?k7 ?k8 ?k9 ?kB ?_ ?c5 ?c2 ?c3 ?c4
  (case k6 => k_is)
  (case k7 => k_is)
  (case k8 => exact room0 hdp)
  (case k9 => exact BindsTo.of_eq rfl)
  (case kB => exact locs rfl)
  (case c5 => decide)
  (case c2 => exact rfl)
  (case c3 => exact rfl)
  (case c4 => exact rfl)
  intro L' h' F' N' l1
  (try k_lt l1)
  clear sub sz hC
  (try dsimp only)
  (try k_fold)
  (try dsimp only [LX] at N' l1)
  k_extra "x4"
  refine' rg_for5 (news := [(r, listOf #[.ref sl, .int (k + 1) ?zu1] ?zn1), (sl, listOf vs.toArray 0)]) ?g1 ?g2 rfl ?g3 ?g4 ?g5 ?_
  case g1 => assumption
  case g2 => assumption
  case g3 => k_asm
  case g4 => k_asm
  case g5 => (repeat' (first | exact List.forall_mem_nil _ | refine' List.forall_mem_cons.mpr ⟨?_, ?_⟩ | k_mem | (rw [‹LC.chk _ = _›]; k_mem)))
  intro j hj4 I hI' h3 tk3
  have hrI : r < I := hI' _ (.head _)
  have hsI : sl < I := hI' _ (.tail _ (.head _))
  clear hI'
  have hrI2 : r ≠ I := Nat.ne_of_lt hrI
  have hsI2 : sl ≠ I := Nat.ne_of_lt hsI
  refine' range_ind (JI r sl vs k ?mmx) ?step ?fin _ _ _ _ ?h0
  case h0 =>
    refine' ei11 [] [] ?tl ?tr ?o1 ?o2 ?o3 ?o4 (k + 1) ?o5 ?o6 ⟨.nil, ?ka, ?kb, ?kc, ?kd, ?ke, rfl⟩
    case ke => exact lm_self2 rfl rfl
    case ka => show 0 + 4 * j ≤ 16; omega
    case kb => show 0 + 2 * j ≤ 8; omega
    case kc => omega
    case kd => omega
  case fin =>
    intro m news hZq
    refine @opq _ ?_
    intro Gq hGq
    obtain ⟨L, R, tl, tr, ot, on, so, tu, kk, u, n', hP, hL, hR, hk1, hk2, rfl, rfl⟩ := hZq
    refine hGq ?_
    clear hGq Gq
    intro h tk F' N'
    change Fr _ _ _ (fun y => lm _ _ _ _ _ _ _ y) at F'
    dsimp only [lm] at F'
    k_extra "x3"
    (refine' hret _ ([(?dd_1, tupObj #[.bytes (List.toArray L) tl, .bytes (List.toArray R) tr]), (r, listOf #[.ref sl, .int kk u] n'), (sl, listOf vs.toArray 0)]) _ _ (Fr.keep (by assumption)) (fr_size (by assumption)) ?dH_1 (ei8 _ _ _ _ _ _ _ _ ⟨rfl, hP, hL, hR, hk1, by omega, rfl⟩); (case dH_1 => exact has_of (by assumption) (by (repeat' (first | exact List.forall_mem_nil _ | refine' List.forall_mem_cons.mpr ⟨?_, ?_⟩ | k_mem | (rw [‹LC.chk _ = _›]; k_mem))))))
  case step =>
    intro jj i m news hZq
    refine @opq _ ?_
    intro Gq hGq
    obtain ⟨L, R, tl, tr, ot, on, so, tu, kk, u, n', hP, hL, hR, hk1, hk2, rfl, rfl⟩ := hZq
    refine hGq ?_
    clear hGq Gq
    intro t3 h tk F' N'
    dsimp only [lm] at F'
    (repeat' ((fail_if_success (with_reducible show wpAny _ _ (call (Value.ref 476) [_, Value.int 7 _]) _ _ _)); first | ((with_reducible show wpAny _ _ (execs _ _) _ _ _); dsimp only) | (k_unfold; (try dsimp only)) | walk1 | (dsimp only; walk1) | fail "no step"))
    rename ∀ v ∈ _, PrAt _ v => hpr
    rename ∀ q ∈ (_ : List (Addr × Obj)), ∀ p ∈ (_ : List (Addr × Obj)), @LT.lt Nat _ p.1 q.1 => hap
    rename List.length _ = 7 => hvs
    rename List Value => vs7
    rename List (Addr × Obj) => X7
    rename News _ _ _ _ => N7
    rename Fr _ _ _ _ => F7
    rename ∀ p ∈ (_ : List (Addr × Obj)), @LT.lt Nat _ p.1 _ => hl7
    obtain ⟨Nc, Nr, ap⟩ := split7 N7 hl7 hrI2 hsI2 hap
    refine Spec.frame (law_next_spec _ _ hne hI hl (by omega) (by omega)) B' F7 X' Nc Nr ap T' rfl rfl rfl rfl rfl (by k_room) (by k_units) ?_
    clear Nc Nr ap
    clear N7 F7 hap hl7
    intro v7 core7 h7 tk7 hZq
    refine @opq _ ?_
    intro Gq hGq
    obtain ⟨⟨z7, u7, rfl, hz7, hz8⟩, uu, nn, rfl⟩ := hZq
    refine hGq ?_
    clear hGq Gq
    rintro F' Nc Nr -
    have N7 := News.append2 Nr Nc
    clear Nr Nc
    (try dsimp only)
    refine' pick_pr (core := [(I, itR (0 + ((i + 1 : Nat) : Int)) ((j : Int) - ((i + 1 : Nat) : Int))), (r, listOf #[.ref sl, .int (kk + 1) uu] nn), (sl, listOf vs.toArray 0)]) N7 (.head _) (fun v hv => (hpr v hv).mono fun q hq => .tail _ (.tail _ (List.mem_append_left _ hq))) hz7 (by rw [hvs]; exact hz8) (by rw [hvs]; exact Nat.le_of_ble_eq_true rfl) ?q7 ?_
    case q7 =>
      intro q hq
      rcases List.mem_cons.mp hq with rfl | hq
      · exact .tail _ (.head _)
      · exact .tail _ (.tail _ (List.mem_append_right _ hq))
    clear N7 hpr hvs hz7 hz8
    intro D a b ta tb hpr N'
    have hab := hpr.len
    (repeat' ((fail_if_success (with_reducible show UnrEnd _ _ _ _ _ _ _)); first | ((with_reducible show wpAny _ _ (execs _ _) _ _ _); dsimp only) | (k_unfold; (try dsimp only)) | walk1 | (dsimp only; walk1) | fail "no step"))
    refine' UnrEnd.intro (by assumption) (by assumption) [(r, listOf #[.ref sl, .int (kk + 1) uu] nn), (sl, listOf vs.toArray 0)] ?q8 ?q9 (ei11 (L ++ a) (R ++ b) ?zt1 ?zt2 ?zo1 ?zo2 ?zo3 ?zo4 (kk + 1) ?zo5 ?zo6 ⟨.snoc _ _ _ _ hpr hP, ?ra, ?rb, ?rc, ?rd, ?re, rfl⟩)
    case re => exact lm_set2 _ _ _ _ _ _ _ _ _ _ _ _ _
    case ra => rw [List.length_append]; omega
    case rb => rw [List.length_append]; omega
    case rc => omega
    case rd => omega
    case q8 => (repeat' (first | exact List.forall_mem_nil _ | refine' List.forall_mem_cons.mpr ⟨?_, ?_⟩ | k_mem | (rw [‹LC.chk _ = _›]; k_mem)))
    case q9 => exact List.forall_mem_cons.mpr ⟨hrI2, List.forall_mem_cons.mpr ⟨hsI2, List.forall_mem_nil _⟩⟩
end
theorem off_L2 : True := by
  w_top off
  trivial
theorem reg_33076917_L2 : True := by
  k_with "q pstep" =>
    (first
    | ((with_reducible show wpP _ _ (execs [] _) _ _ _); (refine P_execs_nil ?_); (try dsimp only))
    | ((with_reducible show wpP _ _ (execs (Stmt.Return (some (PySem.Expr.Call (PySem.Expr.Name _ _) [_, PySem.Expr.Call (PySem.Expr.Attribute _ _ _) _ _ _] [] _)) _ :: _) _) _ _ _); refine P_seq fun Q1 tk1 k1 k2 => (P_Return (P_Call ?_)))
    | ((with_reducible show wpP _ _ (callWith _ (Value.ref _) _ (backTo _ (starEach [_, PySem.Expr.Call (PySem.Expr.Attribute _ _ _) _ _ _] _)) _) _ _ _); (refine' P_callWith_KP ?k1 ?k2 ?_; (case k1 => k_asm); (case k2 => k_is)); (try dsimp only [List.nil_append, List.cons_append]))
    | ((with_reducible show wpP _ _ (spliced (backTo _ (starEach (PySem.Expr.Call (PySem.Expr.Attribute _ _ _) _ [] _ :: _) _))) _ _ _); refine P_spliced_e (P_methodCall0 ?_))
    | ((with_reducible show wpP _ _ (spliced (backTo _ (starEach (_ :: _) _))) _ _ _); refine P_spliced_e (P_lift ?_))
    | ((with_reducible show wpP _ _ (spliced (backTo _ (starEach [] _))) _ _ _); refine P_spliced_e0 ?_)
    | ((with_reducible show wpP _ _ (execs (Stmt.Expr (PySem.Expr.Call (PySem.Expr.Attribute _ _ _) _ [] _) _ :: _) _) _ _ _); refine P_seq fun Q1 tk1 k1 k2 => (P_Expr (P_methodCall0 ?_)))
    | ((with_reducible show wpP _ _ (execs (Stmt.Return (some (PySem.Expr.Call (PySem.Expr.Attribute _ _ _) _ [] _)) _ :: _) _) _ _ _); refine P_seq fun Q1 tk1 k1 k2 => (P_Return (P_methodCall0 ?_)))
    | ((with_reducible show wpP _ _ (execs (Stmt.If (PySem.Expr.Compare (PySem.Expr.Call (PySem.Expr.Attribute _ (PySem.Str.ofString "read_level") _) _ [] _) _ _ _) _ _ _ :: _) _) _ _ _); refine P_seq fun Q1 tk1 k1 k2 => P_ifq fun Q2 k3 => ((P_isTrue_Compare1 (P_methodCall0 ?_))))
    | ((with_reducible show wpP _ _ (execs (Stmt.If _ _ _ _ :: _) _) _ _ _); refine P_seq fun Q1 tk1 k1 k2 => P_ifqA fun Q2 k3 => ?_)
    | ((with_reducible show wpP _ _ (execs (Stmt.Assign [PySem.Expr.Name _ _] (PySem.Expr.Call (PySem.Expr.Attribute _ _ _) _ [] _) _ :: _) _) _ _ _); refine P_seq fun Q1 tk1 k1 k2 => (P_Assign_Name (P_methodCall0 ?_)))
    | ((with_reducible show wpP _ _ (execs (Stmt.Assign [PySem.Expr.Attribute _ _ _] (PySem.Expr.Call (PySem.Expr.Attribute _ _ _) _ [] _) _ :: _) _) _ _ _); refine P_seq fun Q1 tk1 k1 k2 => (P_Assign_Attr (P_methodCall0 ?_)))
    | ((with_reducible show wpP _ _ (execs (Stmt.Assign [PySem.Expr.Attribute _ _ _] (PySem.Expr.Call (PySem.Expr.Name _ _) _ [] _) _ :: _) _) _ _ _); refine P_seq fun Q1 tk1 k1 k2 => (P_Assign_Attr (P_Call ?_)))
    | ((with_reducible show wpP _ _ (execs (Stmt.While _ _ _ _ :: _) _) _ _ _); refine P_seq fun Q1 tk1 k1 k2 => P_whileq fun R1 k3 k4 => ?_)
    | ((with_reducible show wpP _ _ (isTrue _ _ _) _ _ _); refine P_lift ?_)
    | ((with_reducible show wpP _ _ (execs (_ :: _) _) _ _ _); refine P_seqA fun Q1 tk1 k1 k2 => ?_)
    | ((with_reducible show wpP _ _ (callWith _ (Value.builtin _) _ _ _) _ _ _); refine P_callWith_b1 ?_)
    | ((with_reducible show wpP _ _ (callWith _ (Value.type _) _ _ _) _ _ _); refine P_callWith_t0 ?_)
    | ((with_reducible show wpP _ _ (callWith _ (Value.ref _) _ _ _) _ _ _); (first | (refine' P_callWith_K0 ?k1 ?k2 ?_; (case k1 => k_in); (case k2 => k_is)) | (refine' P_callWith_K ?k1 ?k2 ?_; (case k1 => k_asm); (case k2 => k_is))); (try dsimp only [List.nil_append, List.cons_append]))
    | ((with_reducible show wpP _ _ (call (Value.type "bytearray") _) _ _ _); (refine' ba_make_N rfl ?uF ?uN ?_; (case uF => k_asm); (case uN => k_asm)); intro b' h' F' N' l1; (try k_lt l1); (try k_sweep))
    | ((with_reducible show wpP _ _ (call (Value.builtin "bytearray.append") _) _ _ _); (refine' ba_append_N rfl ?uF ?uN ?um ?uc ?us ?uU ?_; (case uF => k_asm); (case uN => k_asm); (case um => k_mem); (case uc => first | assumption | (constructor <;> omega)); (case us => first | omega | (simp only [List.length_append, List.length_cons, List.length_nil]; omega)); (case uU => k_upd)); intro h' F' N'; (try k_sweep))
    | ((with_reducible show wpP _ _ (call (Value.ref _) _) _ _ _); refine P_lift ?_)
    | ((with_reducible show wpP _ _ (call (Value.builtin _) _) _ _ _); refine P_lift ?_)
    | ((with_reducible show wpP _ _ (call (Value.type _) _) _ _ _); refine P_lift ?_)
    | ((with_reducible show (_ = Value.none) ∧ _); refine ⟨rfl, ?_⟩; (try dsimp only))
    | ((fail_if_success (with_reducible show wpAny _ _ _ _ _ _)); (first | (refine (by assumption : OpN _ _ _ _ _ _ _) _ ?_) | (refine (by assumption : OpO _ _) _ _ rfl ?_) | (refine (by assumption : OpI _ _ _ _ _ _ _ _) _ _ ?_) | (refine (by assumption : OpV _ _) _ _ ?_) | (refine (by assumption : OpW _ _) _ _ ?_) | (refine (by assumption : OpL _ _ _ _ _ _ _ _) _ _ ?_) | (refine ((by assumption : OpT _ _ _ _ _ _ _) _ ?_).1) | (refine (by assumption : OpK _ _) _ ?_) | (refine (by assumption : OpZ _ _) _ ?_) | (refine (by assumption : OpA _ _ _ _ _ _ _) _ ?_) | (refine (by assumption : OpJ _ _ _ _ _ _ _ _) _ _ ?_) | (refine (by assumption : OpE _ _) _ _ ?_) | (refine (by assumption : OpX _ _ _ _ _) _ _ ?_)); (try dsimp only))
    | ((with_reducible show wpAny _ _ (execs (_ :: _) _) _ _ _); (fail_if_success (with_reducible show wpAny _ _ (execs (Stmt.For _ _ _ _ _ :: _) _) _ _ _)); refine W_seq fun Q1 tk1 k1 k2 => ?_)
    | ((with_reducible show wpAny _ _ (exec (Stmt.If _ _ _ _) _) _ _ _); refine W_ifq fun Q2 k3 => ?_)
    | ((with_reducible show wpAny _ _ (execs _ _) _ _ _); dsimp only)
    | ((with_reducible show ite _ _ _); (first | refine ite_neg (by first | decide | ((try simp only [List.any_cons, List.any_nil, bne_iff_ne, ne_eq, Bool.not_eq_true, bne_eq_false_iff_eq, decide_eq_true_eq, Bool.or_eq_true, Bool.and_eq_true, beq_iff_eq, Bool.or_false, Bool.false_or, Bool.not_eq_true', decide_eq_false_iff_not, Bool.or_eq_false_iff, Bool.and_eq_false_iff, beq_eq_false_iff_ne]); omega)) ?_ | refine ite_pos (by first | decide | ((try simp only [List.any_cons, List.any_nil, bne_iff_ne, ne_eq, Bool.not_eq_true, bne_eq_false_iff_eq, decide_eq_true_eq, Bool.or_eq_true, Bool.and_eq_true, beq_iff_eq, Bool.or_false, Bool.false_or, Bool.not_eq_true', decide_eq_false_iff_not, Bool.or_eq_false_iff, Bool.and_eq_false_iff, beq_eq_false_iff_ne]); omega)) ?_))
    | (k_unfold; (try dsimp only))
    | walk1
    | (dsimp only; walk1)
    | (dsimp only; (with_reducible show wpP _ _ _ _ _ _))
    | fail "no step")
  trivial
theorem reg_083014cd_L2 : True := by
  k_with "q call builtin:len" =>
    (k_here; (with_reducible show wpAny _ _ (call (Value.builtin "len") [Value.ref _]) _ _ _); (refine' ba_len_N ?zzF ?zzN ?zzm ?zzf ?_; (case zzF => k_asm); (case zzN => k_asm); (case zzm => k_mem); (case zzf => omega)); intro _ _; (try dsimp only))
  trivial
theorem reg_4367842d_L2 : True := by
  k_with "q getMethod ref" =>
    (k_here; (with_reducible show wpAny _ _ (getMethod (Value.ref _) (PySem.Str.ofString "append") _) _ _ _); (refine' ba_getMethod_N ?zzF ?zzN ?zzm ?_; (case zzF => k_asm); (case zzN => k_asm); (case zzm => k_mem)); (try dsimp only))
  trivial
set_option genInjectivity false in
set_option genSizeOf false in
structure HL where
  a0 : Int
  a1 : Int
  a2 : Int
  a3 : Int
  a4 : Int
  a5 : Int
  a6 : Int
  a7 : Int
  a8 : Int
  a9 : Int
  z0 : Nat
  z1 : Nat
  z2 : Nat
  z3 : Nat
  z4 : Nat
  z5 : Nat
  z6 : Nat
  z7 : Nat
  z8 : Nat
  z9 : Nat
  t0 : Tok
  t1 : Tok
  t2 : Tok
  t3 : Tok
  t4 : Tok
  t5 : Tok
  t6 : Tok
  t7 : Tok
  t8 : Tok
  t9 : Tok
/-- the entries of a Limits' own dict -/
noncomputable abbrev LMD (k : HL) : List DictEntry :=
  [⟨k.a0, .str (Str.ofString "width") k.z0, .int 64 k.t0⟩, ⟨k.a1, .str (Str.ofString "registers") k.z1, .int 250 k.t1⟩, ⟨k.a2, .str (Str.ofString "upvalues") k.z2, .int 60 k.t2⟩,
   ⟨k.a3, .str (Str.ofString "local_names") k.z3, .int 200 k.t3⟩, ⟨k.a4, .str (Str.ofString "ccalls") k.z4, .int 40 k.t4⟩, ⟨k.a5, .str (Str.ofString "frames") k.z5, .int 200 k.t5⟩,
   ⟨k.a6, .str (Str.ofString "stack") k.z6, .int 2000 k.t6⟩, ⟨k.a7, .str (Str.ofString "flush") k.z7, .int 50 k.t7⟩, ⟨k.a8, .str (Str.ofString "steps") k.z8, .int 1000000000 k.t8⟩, ⟨k.a9, .str (Str.ofString "text") k.z9, .int 1000000 k.t9⟩]
set_option genInjectivity false in
set_option genSizeOf false in
/-- what stays of a Lexer -/
structure LC where
  k : HZ
  kl : HL
  x : Addr
  dx : Addr
  lm : Addr
  dl : Addr
  kd : Addr
  T : List UInt8
  tT : Tok
  src : Value
  chk : Value
  kn : List DictEntry
/-- a Lexer with all that it holds -/
noncomputable abbrev LX (c : LC) (b : Addr) (B : List UInt8) (i : Int) (ti : Tok) (sg : Int) (ts : Tok) (ln ll cur ahd : Value) : List (Addr × Obj) :=
  [(c.dx, dictOf (LD c.k (.bytes c.T.toArray c.tT) c.src c.chk (.ref c.lm) (.ref c.kd) (.int i ti) (.int sg ts) ln ll (.ref b) cur ahd) 12), (b, baO B), (c.x, instObj 465 c.dx), (c.lm, instObj 53 c.dl), (c.dl, dictOf (LMD c.kl) 10), (c.kd, dictOf c.kn 21)]
section
variable {c : LC} {b : Addr} {B : List UInt8} {i sg z : Int} {ti ts t : Tok} {ln ll cur ahd : Value}
set_option maxHeartbeats 8000000 in
theorem keep_spec (prog : Program) (w : World) (hc : 0 ≤ z ∧ z < 256) (hB : B.length ≤ 100000) :
    SpecP prog w 329 [.ref c.x, .int z t] (LX c b B i ti sg ts ln ll cur ahd) 3 30
      (fun v e => v = .none ∧ e = LX c b (B ++ [z.toNat.toUInt8]) i ti sg ts ln ll cur ahd) := by
  intro p loose mean mg mb dp un outer base g s R B' X' T' sub sz hC hdp hun hret
  refine' enterP X' T' sub sz hC ?k6 ?k7 ?k8 ?k9 ?kB ?_ ?c5 ?c2 ?c3 ?c4
  (case k6 => k_is)
  (case k7 => k_is)
  (case k8 => exact room0 hdp)
  (case k9 => exact BindsTo.of_eq rfl)
  (case kB => exact locs rfl)
  (case c5 => decide)
  (case c2 => exact rfl)
  (case c3 => exact rfl)
  (case c4 => exact rfl)
  intro L' h' F' N' l1
  (try k_lt l1)
  clear sub sz hC
  (try dsimp only)
  (try k_fold)
  (try dsimp only [LX] at N' l1)
  (repeat' (first | walk_at "pstep"))
  all_goals (refine' hret _ _ _ _ (Fr.keep (by assumption)) (fr_size (by assumption)) (has_of (by assumption) (fun _ hq => hq)) ⟨rfl, rfl⟩)
end
theorem reg_db49d3eb_L3 : True := by
  k_with "q POSTX" =>
    (intro v' c' h' tk' hp' F' S' N'; (obtain ⟨e1, e2⟩ := hp'); subst e1; subst e2; clear S'; (try dsimp only [LX] at N'); (try k_sweep); (try dsimp only))
  trivial
theorem reg_bf9af684_L3 : True := by
  k_with "q POSTX2" =>
    (intro v' c' h' tk' hp' F' S' N'; (obtain ⟨e1, t1, t2, e2⟩ := hp'); subst e1; subst e2; clear S'; (try dsimp only [LX] at N'); (try k_sweep); (try dsimp only))
  trivial
section
variable {c : LC} {b : Addr} {B : List UInt8} {i sg z : Int} {ti ts t : Tok} {ln ll cur ahd : Value}
set_option maxHeartbeats 8000000 in
theorem go_spec (prog : Program) (w : World) (h0 : 0 ≤ i) (hT : c.T.length ≤ 100000) :
    Spec prog w 322 [.ref c.x] (LX c b B i ti sg ts ln ll cur ahd) 3 30
      (fun v e => v = .none ∧ ∃ t1 t2, e = LX c b B (i + 1) t1 (sgn c.T (i + 1)) t2 ln ll cur ahd) := by
  rintro p loose mean mg mb dp un outer base g ⟨hs0, gs0, ds0, tk0, os0⟩ R B' X' T' sub sz hC hdp hun hret
  refine' enter X' T' sub sz hC ?k6 ?k7 ?k8 ?k9 ?kB ?_ ?c5 ?c2 ?c3 ?c4
  (case k6 => k_is)
  (case k7 => k_is)
  (case k8 => exact room0 hdp)
  (case k9 => exact BindsTo.of_eq rfl)
  (case kB => exact locs rfl)
  (case c5 => decide)
  (case c2 => exact rfl)
  (case c3 => exact rfl)
  (case c4 => exact rfl)
  intro L' h' F' N' l1
  (try k_lt l1)
  clear sub sz hC
  (try dsimp only)
  (try k_fold)
  (try dsimp only [LX] at N' l1)
  (first | refine W_start fun Q0 E0 k1 k2 k3 hPO => ?_ | refine P_start fun Q0 E0 k1 k2 k3 hPO => ?_)
  (repeat' (first 
    | walk_at "astep"))
  · k_extra "x1"
  · k_extra "x2"
set_option maxHeartbeats 8000000 in
theorem clear_spec (prog : Program) (w : World) :
    SpecP prog w 350 [.ref c.x] (LX c b B i ti sg ts ln ll cur ahd) 3 30
      (fun v e => v = .none ∧ ∃ b', e = LX c b' [] i ti sg ts ln ll cur ahd) := by
  rintro p loose mean mg mb dp un outer base g ⟨hs0, gs0, ds0, tk0, os0⟩ R B' X' T' sub sz hC hdp hun hret
  refine' enterP X' T' sub sz hC ?k6 ?k7 ?k8 ?k9 ?kB ?_ ?c5 ?c2 ?c3 ?c4
  (case k6 => k_is)
  (case k7 => k_is)
  (case k8 => exact room0 hdp)
  (case k9 => exact BindsTo.of_eq rfl)
  (case kB => exact locs rfl)
  (case c5 => decide)
  (case c2 => exact rfl)
  (case c3 => exact rfl)
  (case c4 => exact rfl)
  intro L' h' F' N' l1
  (try k_lt l1)
  clear sub sz hC
  (try dsimp only)
  (try k_fold)
  (try dsimp only [LX] at N' l1)
  (first | refine W_start fun Q0 E0 k1 k2 k3 hPO => ?_ | refine P_start fun Q0 E0 k1 k2 k3 hPO => ?_)
  (repeat' (first | walk_at "pstep"))
  all_goals (refine' hret _ (LX c ?bb [] i ti sg ts ln ll cur ahd) _ _ (Fr.keep (by assumption)) (fr_size (by assumption)) ?dH_1 ⟨rfl, _, rfl⟩; (case dH_1 => exact has_of (by assumption) (by (repeat' (first | exact List.forall_mem_nil _ | refine' List.forall_mem_cons.mpr ⟨?_, ?_⟩ | k_mem | (rw [‹LC.chk _ = _›]; k_mem))))))
theorem said_6 : True := by
  k_with "x5" =>
    ((with_reducible show wpP _ _ (call (Value.ref 329) _) _ _ _); (first | (refine' SpecP.use (keep_spec _ _ ?h1 ?h2) ?uB ?uF ?uX ?uN ?uT ?uh ?uA ?ug ?uf ?uk ?us ?ud ?uu ?_; walk_at "close"; (case h1 => walk_at "side"); (case h2 => walk_at "side"); (case ud => k_room); (case uu => k_units); walk_at "POSTX") | walk_at "contra"))
  trivial
set_option maxHeartbeats 8000000 in
theorem km_spec (prog : Program) (w : World) (h0 : 0 ≤ i) (hT : c.T.length ≤ 100000) (hs : 0 ≤ sg ∧ sg < 256) (hB : B.length ≤ 100000) :
    SpecP prog w 336 [.ref c.x] (LX c b B i ti sg ts ln ll cur ahd) 7 70
      (fun v e => v = .none ∧ ∃ t1 t2, e = LX c b (B ++ [sg.toNat.toUInt8]) (i + 1) t1 (sgn c.T (i + 1)) t2 ln ll cur ahd) := by
  rintro p loose mean mg mb dp un outer base g ⟨hs0, gs0, ds0, tk0, os0⟩ R B' X' T' sub sz hC hdp hun hret
  refine' enterP X' T' sub sz hC ?k6 ?k7 ?k8 ?k9 ?kB ?_ ?c5 ?c2 ?c3 ?c4
  (case k6 => k_is)
  (case k7 => k_is)
  (case k8 => exact room0 hdp)
  (case k9 => exact BindsTo.of_eq rfl)
  (case kB => exact locs rfl)
  (case c5 => decide)
  (case c2 => exact rfl)
  (case c3 => exact rfl)
  (case c4 => exact rfl)
  intro L' h' F' N' l1
  (try k_lt l1)
  clear sub sz hC
  (try dsimp only)
  (try k_fold)
  (try dsimp only [LX] at N' l1)
  (first | refine W_start fun Q0 E0 k1 k2 k3 hPO => ?_ | refine P_start fun Q0 E0 k1 k2 k3 hPO => ?_)
  (repeat' (first 
    | k_extra "x5"
    | ((with_reducible show wpAny _ _ (call (Value.ref 322) _) _ _ _); (first | (refine' Spec.use (go_spec _ _ ?h1 ?h2) ?uB ?uF ?uX ?uN ?uT ?uh ?uA ?ug ?uf ?uk ?us ?ud ?uu ?_; walk_at "close"; (case h1 => walk_at "side"); (case h2 => walk_at "side"); (case ud => k_room); (case uu => k_units); walk_at "POSTX2") | walk_at "contra"))
    | walk_at "pstep"))
  all_goals k_extra "x1"
end
section
open PySem.Builtin
theorem bf_slot_find : Slot "bytes" "find" "bytes.find" :=
  .of (owner := "bytes") (n := "find") (by rw [typeLookup_type, builtinLookup_eq_fast]; kernel_rfl) (by decide +kernel) (by decide +kernel) (by decide +kernel)
    (by first | exact .inl (by decide +kernel) | exact .inr (by decide +kernel)) (by rw [isSubtype_type]; kernel_rfl)
theorem bf_slot_index : Slot "bytes" "index" "bytes.index" :=
  .of (owner := "bytes") (n := "index") (by rw [typeLookup_type, builtinLookup_eq_fast]; kernel_rfl) (by decide +kernel) (by decide +kernel) (by decide +kernel)
    (by first | exact .inl (by decide +kernel) | exact .inr (by decide +kernel)) (by rw [isSubtype_type]; kernel_rfl)
theorem bf_type_find : typeOf (.builtin "bytes.find") = pure (.type "method_descriptor") := by show builtinType _ = _; rw [builtinType_eq_fast]; kernel_rfl
theorem bf_type_index : typeOf (.builtin "bytes.index") = pure (.type "method_descriptor") := by show builtinType _ = _; rw [builtinType_eq_fast]; kernel_rfl
theorem bf_entry_find : entryFor table "bytes.find" = some Builtin.«bytes.find» := by first | exact entryFor_of_fast (by kernel_rfl) | exact entryFor_of_tree (by kernel_rfl)
theorem bf_entry_index : entryFor table "bytes.index" = some Builtin.«bytes.index» := by first | exact entryFor_of_fast (by kernel_rfl) | exact entryFor_of_tree (by kernel_rfl)
theorem bf_args_find (a b : Value) : argsOk "bytes.find" ⟨[a, b], []⟩ := by unfold argsOk; kernel_rfl
theorem bf_args_index (a b : Value) : argsOk "bytes.index" ⟨[a, b], []⟩ := by unfold argsOk; kernel_rfl
section
variable {M : Model} {prog : Program} {w : World} {A : Around} {E : Value → Shared → Prop} {s : Shared} {t u : Tok} {b sub : Array UInt8} {pl : Sem Bool}
theorem bf_getMethod_find {Q : Value × List Value → Shared → Prop} (h : Q (.builtin "bytes.find", [.bytes b t]) s) : wpAny M A (getMethod (.bytes b t) "find" pl) Q E s :=
  by with_reducible exact KBd.method_of (.bytes b t) (typeIs_bytes _ _ _) bf_slot_find bf_type_find KBd.noRef h
theorem bf_getMethod_index {Q : Value × List Value → Shared → Prop} (h : Q (.builtin "bytes.index", [.bytes b t]) s) : wpAny M A (getMethod (.bytes b t) "index" pl) Q E s :=
  by with_reducible exact KBd.method_of (.bytes b t) (typeIs_bytes _ _ _) bf_slot_index bf_type_index KBd.noRef h
theorem bf_find_eq : «bytes.find» ⟨[.bytes #[97, 98, 102, 110, 114, 116, 118] t, .bytes #[116] u], []⟩ = retInt 5 := by
  unfold «bytes.find» Bytes.searchM Bytes.searchArgs
  show (Bytes.buffer? _ (.bytes #[116] u) >>= _) >>= _ = _
  rw [KBy.buffer_eq]
  kernel_rfl
theorem bf_find {Q : Value → Shared → Prop} (h : ∀ t' k, Q (.int 5 t') { s with toks := k }) :
    wpAny (model prog w) A (call (.builtin "bytes.find") [.bytes #[97, 98, 102, 110, 114, 116, 118] t, .bytes #[116] u]) Q E s :=
  wpAny_call_entry bf_slot_find (typeIs_bytes _ _ _) bf_entry_find (by
    rw [bf_find_eq]
    exact wpAny_bind (wpAny_mkInt (wpAny_pure ⟨_, rfl, h _ _⟩))) (bf_args_find _ _)
theorem bf_nobuf {id : String} {k : Int} : Bytes.buffer? id (.int k u) = pure none := by
  unfold Bytes.buffer?
  kernel_rfl
theorem bf_search0 : Bytes.searchArgs .bytes "index" ⟨[.bytes b t, .int 0 u], []⟩ = pure (b, #[0], if (Bytes.window b.size none none).2 - (Bytes.window b.size none none).1 < ((#[0] : Array UInt8).size : Nat) then none else some ((Bytes.window b.size none none).1.toNat, (Bytes.window b.size none none).2.toNat)) := by
  kernel_rfl
theorem bf_index_eq {i : Nat} (hi : Bytes.find? b #[0] 0 b.size = some i) : «bytes.index» ⟨[.bytes b t, .int 0 u], []⟩ = retInt i := by
  unfold «bytes.index» Bytes.searchM
  rw [bf_search0]
  have hw : Bytes.window b.size none none = ((0 : Int), (b.size : Int)) := by
    unfold Bytes.window
    simp only [Option.getD_none]
    have h1 : ¬ ((0 : Int) < 0) := by decide
    have h2 : ¬ ((b.size : Int) < 0) := by omega
    simp only [h1, h2, if_false]
    rw [Int.min_self]
  have hz : ¬ ((b.size : Int) - 0 < (1 : Nat)) := fun hh => by
    have : b.size = 0 := by omega
    unfold Bytes.find? at hi
    rw [this] at hi
    cases hi
  rw [hw]
  show (match (if (b.size : Int) - 0 < (1 : Nat) then none else some ((0 : Int).toNat, (b.size : Int).toNat)).bind fun x => Bytes.find? b #[0] x.1 x.2 with | some i => retInt i | none => _) = _
  rw [if_neg hz]
  show (match Bytes.find? b #[0] 0 b.size with | some i => retInt i | none => _) = _
  rw [hi]
theorem bf_index {i : Nat} {Q : Value → Shared → Prop} (hi : Bytes.find? b #[0] 0 b.size = some i) (h : ∀ t' k, Q (.int i t') { s with toks := k }) :
    wpAny (model prog w) A (call (.builtin "bytes.index") [.bytes b t, .int 0 u]) Q E s :=
  wpAny_call_entry bf_slot_index (typeIs_bytes _ _ _) bf_entry_index (by
    rw [bf_index_eq hi]
    exact wpAny_bind (wpAny_mkInt (wpAny_pure ⟨_, rfl, h _ _⟩))) (bf_args_index _ _)
end
end
theorem reg_1ee7e324_L4 : True := by
  k_with "q POSTN" =>
    (intro v' c' h' tk' hp' F' S' N'; subst hp'; (have N' := stays0 S' (fun _ hq => nomatch hq)); clear S'; (try k_sweep); (try dsimp only))
  trivial
theorem reg_71f1dfdb_L4 : True := by
  k_with "q call builtin:len" =>
    (k_here; (with_reducible show wpAny _ _ (call (Value.builtin "len") [Value.ref _]) _ _ _); (refine' ba_len_N ?zzF ?zzN ?zzm ?zzf ?_; (case zzF => k_asm); (case zzN => k_asm); (case zzm => k_mem); (case zzf => (first | omega | (simp only [List.length_append, List.length_cons, List.length_nil]; omega)))); intro _ _; (try dsimp only))
  trivial
theorem reg_474f7106_L4 : True := by
  k_with "q getMethod bytes" =>
    (k_here; (with_reducible show wpAny _ _ (getMethod (Value.bytes _ _) (PySem.Str.ofString "find") _) _ _ _); k_dflt (refine bf_getMethod_find ?_); (try dsimp only))
  trivial
theorem reg_0eb81385_L4 : True := by
  k_with "q call builtin:bytes.find" =>
    (k_here; k_dflt (refine bf_find ?_); intro _ _; (try dsimp only))
  trivial
theorem reg_3de9104a_L4 : True := by
  k_with "q subscriptTail" =>
    (k_here; (with_reducible show wpAny _ _ (subscriptTail _ (PySem.Expr.Slice _ _ none _) (Value.ref _) (Value.ref _)) _ _ _); k_dflt (refine' ba_slice_N (s := ⟨_, _, _, _, _⟩) ?zzbsF ?zzbsN ?zzbsm ?zzbsa ?zzbsb ?zzbsc ?zzbsd ?_ ?zzbss ?zzbst; (case zzbsF => k_asm); (case zzbsN => k_asm); (case zzbsm => k_mem); (case zzbsa => (first | omega | ((try simp only [List.length_append, List.length_cons, List.length_nil]); omega))); (case zzbsb => (first | omega | ((try simp only [List.length_append, List.length_cons, List.length_nil]); omega))); (case zzbsc => (first | omega | ((try simp only [List.length_append, List.length_cons, List.length_nil]); omega))); (case zzbsd => (first | omega | ((try simp only [List.length_append, List.length_cons, List.length_nil]); omega))); (case zzbss => with_unfolding_all rfl); (case zzbst => intro _; with_unfolding_all rfl)); intro zzD' zzh' zzF' zzN' zzl1; (try k_lt zzl1); (try k_sweep))
  trivial
theorem reg_a6e97227_L4 : True := by
  k_with "q call type:bytes" =>
    (k_here; (with_reducible show wpAny _ _ (call (Value.type "bytes") [Value.ref _]) _ _ _); k_dflt (refine' ba_bytes_E ?zzbsF ?zzbsN ?zzbsm ?zzbsd ?zzbse ?_; (case zzbsF => k_asm); (case zzbsN => k_asm); (case zzbsm => k_mem); (case zzbsd => first | (first | omega | ((try simp only [List.length_append, List.length_cons, List.length_nil]); omega)) | (refine Nat.le_trans (cut_len _ _ _) ?_; (first | omega | ((try simp only [List.length_append, List.length_cons, List.length_nil]); omega)))); (case zzbse => first | (refine cut_l0 _ _ ?_ ?_ <;> (first | omega | ((try simp only [List.length_append, List.length_cons, List.length_nil]); omega))) | (refine cut_l1 _ _ ?_ ?_ <;> (first | omega | ((try simp only [List.length_append, List.length_cons, List.length_nil]); omega))) | (refine cut_mid _ _ _ ?_; (first | omega | ((try simp only [List.length_append, List.length_cons, List.length_nil]); omega))) | assumption | rfl)); intro _ _; (try dsimp only))
  trivial
theorem reg_0d56c046_L4 : True := by
  k_with "q getMethod ref" =>
    (k_here; (with_reducible show wpAny _ _ (getMethod (Value.ref _) (PySem.Str.ofString "get") _) _ _ _); k_dflt (refine' bk_getMethod_F ?zzbsF ?zzbsN ?zzbsm ?zzbsk ?_; (case zzbsF => k_asm); (case zzbsN => k_asm); (case zzbsm => k_mem); (case zzbsk => assumption)); (try dsimp only))
  trivial
theorem reg_c52efa0e_L4 : True := by
  k_with "q call builtin:dict.get" =>
    (k_here; (with_reducible show wpAny _ _ (call (Value.builtin "dict.get") [Value.ref _, Value.bytes _ _]) _ _ _); k_dflt (refine' bk_get_F ?zzbsF ?zzbsN ?zzbsm ?zzbsk ?zzbsh ?_; (case zzbsF => k_asm); (case zzbsN => k_asm); (case zzbsm => k_mem); (case zzbsk => assumption); (case zzbsh => assumption)); intro _; (try dsimp only))
  trivial
/-- what is left of a text from a place on -/
noncomputable def At (T : List UInt8) (i : Int) (W : List UInt8) : Prop := 0 ≤ i ∧ T.drop i.toNat = W
noncomputable def sv (x : UInt8) : Int := x.toNat
/-- the sign ahead: the first octet of what is left, or -1 -/
noncomputable def hdv : List UInt8 → Int
  | [] => -1
  | x :: _ => sv x
theorem hdv_nil : hdv [] = -1 := rfl
theorem hdv_cons {x : UInt8} {W : List UInt8} : hdv (x :: W) = sv x := rfl
theorem sv_lt (x : UInt8) : 0 ≤ sv x ∧ sv x < 256 := by have := x.toNat_lt; unfold sv; omega
theorem sv_back (x : UInt8) : (sv x).toNat.toUInt8 = x := by simp [sv]
theorem At.sgn {T W : List UInt8} {i : Int} (h : At T i W) : sgn T i = hdv W := by
  obtain ⟨h0, h⟩ := h
  unfold Mine.sgn
  cases W with
  | nil =>
    have := List.drop_eq_nil_iff.mp h
    rw [if_neg (by omega)]; rfl
  | cons x W =>
    have hl : i.toNat < T.length := by
      apply Decidable.byContradiction; intro hn
      rw [List.drop_eq_nil_iff.mpr (by omega)] at h; cases h
    have e : T[i.toNat]? = some x := by rw [← List.head?_drop, h]; rfl
    rw [if_pos (by omega)]
    show ((T.getD i.toNat 0).toNat : Int) = (x.toNat : Int)
    rw [List.getD_eq_getElem?_getD, e]; rfl
theorem At.next {T W : List UInt8} {x : UInt8} {i : Int} (h : At T i (x :: W)) : At T (i + 1) W := by
  obtain ⟨h0, h⟩ := h
  refine ⟨by omega, ?_⟩
  rw [show (i + 1).toNat = i.toNat + 1 by omega, ← List.tail_drop, h]; rfl
theorem At.start (T : List UInt8) : At T 0 T := ⟨by omega, rfl⟩
theorem sv_0 : sv 0 = 0 := rfl
theorem sv_1 : sv 1 = 1 := rfl
theorem sv_8 : sv 8 = 8 := rfl
theorem sv_9 : sv 9 = 9 := rfl
theorem sv_10 : sv 10 = 10 := rfl
theorem sv_31 : sv 31 = 31 := rfl
theorem sv_32 : sv 32 = 32 := rfl
theorem sv_34 : sv 34 = 34 := rfl
theorem sv_39 : sv 39 = 39 := rfl
theorem sv_48 : sv 48 = 48 := rfl
theorem sv_49 : sv 49 = 49 := rfl
theorem sv_50 : sv 50 = 50 := rfl
theorem sv_51 : sv 51 = 51 := rfl
theorem sv_52 : sv 52 = 52 := rfl
theorem sv_53 : sv 53 = 53 := rfl
theorem sv_54 : sv 54 = 54 := rfl
theorem sv_55 : sv 55 = 55 := rfl
theorem sv_56 : sv 56 = 56 := rfl
theorem sv_57 : sv 57 = 57 := rfl
theorem sv_61 : sv 61 = 61 := rfl
theorem sv_65 : sv 65 = 65 := rfl
theorem sv_91 : sv 91 = 91 := rfl
theorem sv_92 : sv 92 = 92 := rfl
theorem sv_93 : sv 93 = 93 := rfl
theorem sv_95 : sv 95 = 95 := rfl
theorem sv_97 : sv 97 = 97 := rfl
theorem sv_98 : sv 98 = 98 := rfl
theorem sv_100 : sv 100 = 100 := rfl
theorem sv_101 : sv 101 = 101 := rfl
theorem sv_110 : sv 110 = 110 := rfl
theorem sv_116 : sv 116 = 116 := rfl
theorem sv_120 : sv 120 = 120 := rfl
theorem sv_127 : sv 127 = 127 := rfl
theorem SpecG.mono {C : Around → Code → (Result → Shared → Prop) → Shared → Prop} {w : World} {f : Addr} {args : List Value} {core : List (Addr × Obj)} {d u : Nat} {post post' : Value → List (Addr × Obj) → Prop}
    (S : SpecG C w f args core d u post) (h : ∀ v e, post v e → post' v e) : SpecG C w f args core d u post' :=
  fun p loose mean mg mb dp un outer base g s R hC X T sub sz N hdp hun hret => S p loose mean mg mb dp un outer base g s R hC X T sub sz N hdp hun fun v e h' tk' a b c d => hret v e h' tk' a b c (h v e d)
theorem SpecG.lift {prog : Program} {w : World} {f : Addr} {args : List Value} {core : List (Addr × Obj)} {d u : Nat} {post : Value → List (Addr × Obj) → Prop}
    (S : Spec prog w f args core d u post) : SpecP prog w f args core d u post :=
  fun p loose mean mg mb dp un outer base g s R hC X T sub sz N hdp hun hret => P_liftC (S p loose mean mg mb dp un outer base g s R hC X T sub sz N hdp hun hret)
section
variable {c : LC} {b : Addr} {B W : List UInt8} {x : UInt8} {i sg z : Int} {ti ts t : Tok} {ln ll cur ahd : Value}
/-- a step ahead -/
theorem go_st (prog : Program) (w : World) (hA : At c.T i (x :: W)) (hT : c.T.length ≤ 100000) :
    Spec prog w 322 [.ref c.x] (LX c b B i ti sg ts ln ll cur ahd) 3 30
      (fun v e => v = .none ∧ ∃ i' t1 t2, At c.T i' W ∧ e = LX c b B i' t1 (hdv W) t2 ln ll cur ahd) :=
  (go_spec prog w hA.1 hT).mono fun _ _ ⟨e1, t1, t2, e2⟩ => ⟨e1, _, t1, t2, hA.next, by rw [e2, hA.next.sgn]⟩
theorem km_st (prog : Program) (w : World) (hA : At c.T i (x :: W)) (hT : c.T.length ≤ 100000) (hs : sg = sv x) (hB : B.length ≤ 100000) :
    SpecP prog w 336 [.ref c.x] (LX c b B i ti sg ts ln ll cur ahd) 7 70
      (fun v e => v = .none ∧ ∃ i' t1 t2, At c.T i' W ∧ e = LX c b (B ++ [x]) i' t1 (hdv W) t2 ln ll cur ahd) :=
  (km_spec prog w hA.1 hT (by rw [hs]; exact sv_lt x) hB).mono fun _ _ ⟨e1, t1, t2, e2⟩ => ⟨e1, _, t1, t2, hA.next, by rw [e2, hA.next.sgn, hs, sv_back]⟩
end
section
variable {z : Int} {t : Tok}
theorem said_8 : True := by
  k_with "x6" =>
    ((with_reducible show wpAny _ _ (call (Value.ref 196) _) _ _ _); (first | (refine' Spec.use (is_letter_spec _ _ _ _) ?uB ?uF ?uX ?uN ?uT ?uh ?uA ?ug ?uf ?uk ?us ?ud ?uu ?_; walk_at "close"; (case ud => k_room); (case uu => k_units); walk_at "POSTN") | walk_at "contra"))
  k_with "x7" =>
    ((with_reducible show wpAny _ _ (call (Value.ref 189) _) _ _ _); (first | (refine' Spec.use (is_digit_spec _ _ _ _) ?uB ?uF ?uX ?uN ?uT ?uh ?uA ?ug ?uf ?uk ?us ?ud ?uu ?_; walk_at "close"; (case ud => k_room); (case uu => k_units); walk_at "POSTN") | walk_at "contra"))
  trivial
set_option maxHeartbeats 8000000 in
theorem is_name_sign_spec (prog : Program) (w : World) :
    Spec prog w 203 [.int z t] [] 6 60 (fun v _ => v = .bool (decide ((65 ≤ z ∧ z ≤ 90) ∨ (97 ≤ z ∧ z ≤ 122) ∨ z = 95 ∨ (48 ≤ z ∧ z ≤ 57)))) := by
  rintro p loose mean mg mb dp un outer base g ⟨hs0, gs0, ds0, tk0, os0⟩ R B' X' T' sub sz hC hdp hun hret
  refine' enter X' T' sub sz hC ?k6 ?k7 ?k8 ?k9 ?kB ?_ ?c5 ?c2 ?c3 ?c4
  (case k6 => k_is)
  (case k7 => k_is)
  (case k8 => exact room0 hdp)
  (case k9 => exact BindsTo.of_eq rfl)
  (case kB => exact locs rfl)
  (case c5 => decide)
  (case c2 => exact rfl)
  (case c3 => exact rfl)
  (case c4 => exact rfl)
  intro L' h' F' N' l1
  (try k_lt l1)
  clear sub sz hC
  (try dsimp only)
  (try k_fold)
  (try dsimp only [LX] at N' l1)
  (first | refine W_start fun Q0 E0 k1 k2 k3 hPO => ?_ | refine P_start fun Q0 E0 k1 k2 k3 hPO => ?_)
  (repeat' (first 
    | k_extra "x6"
    | k_extra "x7"
    | walk_at "astep"))
  all_goals k_extra "x0"
theorem said_9 : True := by
  k_with "x8" =>
    (refine' hret _ _ _ _ (Fr.keep (by assumption)) (fr_size (by assumption)) (has_of (by assumption) (fun _ hq => hq)) ⟨_, rfl⟩)
  trivial
set_option maxHeartbeats 8000000 in
theorem escaped_t_spec (prog : Program) (w : World) :
    Spec prog w 231 [.int 116 t] [] 3 30 (fun v _ => ∃ t', v = .int 9 t') := by
  rintro p loose mean mg mb dp un outer base g ⟨hs0, gs0, ds0, tk0, os0⟩ R B' X' T' sub sz hC hdp hun hret
  refine' enter X' T' sub sz hC ?k6 ?k7 ?k8 ?k9 ?kB ?_ ?c5 ?c2 ?c3 ?c4
  (case k6 => k_is)
  (case k7 => k_is)
  (case k8 => exact room0 hdp)
  (case k9 => exact BindsTo.of_eq rfl)
  (case kB => exact locs rfl)
  (case c5 => decide)
  (case c2 => exact rfl)
  (case c3 => exact rfl)
  (case c4 => exact rfl)
  intro L' h' F' N' l1
  (try k_lt l1)
  clear sub sz hC
  (try dsimp only)
  (try k_fold)
  (try dsimp only [LX] at N' l1)
  (first | refine W_start fun Q0 E0 k1 k2 k3 hPO => ?_ | refine P_start fun Q0 E0 k1 k2 k3 hPO => ?_)
  (repeat' (first 
    | k_extra "x6"
    | k_extra "x7"
    | walk_at "astep"))
  all_goals k_extra "x8"
end
/-! A walk as a judgement without heaps: the locals as a list, the ledger, what is left of the body, and where it ends. -/
noncomputable def lk (l : List (Str × Value)) : Str → Option Value := fun y => l.lookup y
noncomputable def putl (x : Str) (v : Value) : List (Str × Value) → List (Str × Value)
  | [] => [(x, v)]
  | p :: r => if p.1 = x then (x, v) :: r else p :: putl x v r
theorem lk_put (x : Str) (v : Value) : ∀ l : List (Str × Value), (fun y => if y = x then some v else lk l y) = lk (putl x v l)
  | [] => by
    funext y
    unfold lk putl
    by_cases h : y = x
    · rw [if_pos h, List.lookup_cons, beq_iff_eq.mpr h]
    · rw [if_neg h, List.lookup_cons, beq_eq_false_iff_ne.mpr h]
  | (z, u) :: r => by
    have ih := congrFun (lk_put x v r)
    funext y
    unfold putl
    by_cases h : y = x
    · subst h
      by_cases k : z = y
      · rw [if_pos rfl, if_pos k, lk, List.lookup_cons, beq_self_eq_true]
      · have := ih y
        rw [if_pos rfl] at this
        rw [if_pos rfl, if_neg k, lk, List.lookup_cons, beq_eq_false_iff_ne.mpr (Ne.symm k)]
        exact this
    · rw [if_neg h]
      by_cases k : z = x
      · subst k
        rw [if_pos rfl, lk, lk, List.lookup_cons, List.lookup_cons, beq_eq_false_iff_ne.mpr h]
      · have := ih y
        rw [if_neg h] at this
        rw [if_neg k, lk, lk, List.lookup_cons, List.lookup_cons]
        cases y == z with
        | true => rfl
        | false => exact this
theorem lk_putl (x : Str) (v : Value) (l : List (Str × Value)) : lk (putl x v l) x = some v := by
  rw [← lk_put]; exact if_pos rfl
theorem fr_put {g h : Heap} {L : Addr} {x : Str} {v : Value} {l l' : List (Str × Value)} (F : Fr g L h (fun y => if y = x then some v else lk l y)) (e : putl x v l = l') : Fr g L h (lk l') := by
  rw [lk_put, e] at F
  exact F
theorem fr_put2 {g h : Heap} {L : Addr} {x x' : Str} {v v' : Value} {l l' : List (Str × Value)} (F : Fr g L h (fun y => if y = x then some v else if y = x' then some v' else lk l y)) (e : putl x v (putl x' v' l) = l') : Fr g L h (lk l') := by
  have h1 := lk_put x' v' l
  refine fr_put (x := x) (v := v) (l := putl x' v' l) ?_ e
  rw [← h1]
  exact F
set_option genInjectivity false in
set_option genSizeOf false in
structure Fn where
  cn : Str
  cs : Scope
  a : Addr
  cd : Value
set_option genInjectivity false in
set_option genSizeOf false in
structure Zc where
  dp : Nat
  un : Nat
  outer : List Env
  g : Heap
  L : Addr
  gs : Array GenState
  d : Drawn
  os : OsState
noncomputable abbrev Zc.env (Z : Zc) (φ : Fn) : Env := envOf φ.cn φ.cs Z.L φ.a φ.cd
noncomputable abbrev Zc.A (Z : Zc) (φ : Fn) : Around := (amb Z.dp Z.un Z.outer).deeper (Z.env φ)
noncomputable abbrev Zc.s (Z : Zc) (h : Heap) (tk : Nat) : Shared := ⟨h, Z.gs, Z.d, tk, Z.os⟩
structure OK (w : World) (Z : Zc) (D U : Nat) : Prop where
  ex : ∃ p loose mean mg mb base, Below (amb Z.dp Z.un Z.outer) base Z.outer Z.g ∧ (hd.heap_1 w.params).In Z.g ∧ Top p loose mean mg mb Z.g
  hd : Z.dp + D < recursionLimit
  hu : Z.un + U < cLine
section
variable (prog : Program) (w : World) (φ : Fn) (Z : Zc) (l : List (Str × Value)) (core : List (Addr × Obj))
noncomputable def Go (ss : List Stmt) (Q : Flow → Shared → Prop) : Prop := ∀ E h tk, Fr Z.g Z.L h (lk l) → News Z.g Z.L h core → wpP (model prog w) (Z.A φ) (execs ss (Z.env φ)) Q E (Z.s h tk)
/-- a test that leaves the ledger as it is -/
noncomputable def EvB (t : PySem.Expr) (b : Bool) : Prop := ∀ Q E h tk, Fr Z.g Z.L h (lk l) → News Z.g Z.L h core → (∀ h' tk', Fr Z.g Z.L h' (lk l) → News Z.g Z.L h' core → Q b (Z.s h' tk')) →
  wpAny (model prog w) (Z.A φ) (isTrue t (Z.env φ) (eval t (Z.env φ))) Q E (Z.s h tk)
/-- an expression that leaves the ledger as it is -/
noncomputable def EvV (e : PySem.Expr) (P : Value → Prop) : Prop := ∀ Q E h tk, Fr Z.g Z.L h (lk l) → News Z.g Z.L h core → (∀ v h' tk', P v → Fr Z.g Z.L h' (lk l) → News Z.g Z.L h' core → Q v (Z.s h' tk')) →
  wpAny (model prog w) (Z.A φ) (eval e (Z.env φ)) Q E (Z.s h tk)
noncomputable def EvP (e : PySem.Expr) (post : Value → List (Addr × Obj) → Prop) : Prop := ∀ Q E h tk, Fr Z.g Z.L h (lk l) → News Z.g Z.L h core →
  (∀ v core' h' tk', post v core' → Fr Z.g Z.L h' (lk l) → News Z.g Z.L h' core' → Q v (Z.s h' tk')) → wpP (model prog w) (Z.A φ) (eval e (Z.env φ)) Q E (Z.s h tk)
/-- a test that may turn the ledger -/
noncomputable def EvC (t : PySem.Expr) (post : Bool → List (Addr × Obj) → Prop) : Prop := ∀ Q E h tk, Fr Z.g Z.L h (lk l) → News Z.g Z.L h core →
  (∀ b core' h' tk', post b core' → Fr Z.g Z.L h' (lk l) → News Z.g Z.L h' core' → Q b (Z.s h' tk')) → wpP (model prog w) (Z.A φ) (isTrue t (Z.env φ) (eval t (Z.env φ))) Q E (Z.s h tk)
noncomputable def Rt (v : Value) (Q : Flow → Shared → Prop) : Prop := ∀ h tk l, Fr Z.g Z.L h (lk l) → News Z.g Z.L h core → Q (.ret v) (Z.s h tk)
noncomputable def Nx (Q : Flow → Shared → Prop) : Prop := ∀ h tk, Fr Z.g Z.L h (lk l) → News Z.g Z.L h core → Q .next (Z.s h tk)
end
noncomputable def noN (Q : Flow → Shared → Prop) : Flow → Shared → Prop := fun f s => match f with
  | .next => False
  | f => Q f s
section
variable {prog : Program} {w : World} {φ : Fn} {Z : Zc} {l : List (Str × Value)} {core : List (Addr × Obj)} {Q : Flow → Shared → Prop} {D U d u : Nat} {f : Addr} {args : List Value} {post : Value → List (Addr × Obj) → Prop} {postB : Bool → List (Addr × Obj) → Prop}
  {rest body orelse : List Stmt} {t e : PySem.Expr} {pos p1 p2 p3 : Pos} {b : Bool} {P : Value → Prop} {x : Str}
theorem spec_go {name qual : Str} {params : Arguments} {scope : Scope} {dV kV doc pm cdv ct oc : Value} {an od : Option Addr} {osl : Array (Option Value)} {binds : List (Str × Value)} (l : List (Str × Value))
    (ho : (hd.heap_1 w.params).lookup f = some ⟨oc, od, .func (fnOf name qual params body scope dV kV doc pm an cdv ct), osl⟩) (hcd : codeIn (hd.heap_1 w.params) cdv qual = true)
    (hbind : ∀ s, BindsTo s (fnOf name qual params body scope dV kV doc pm an cdv ct) ⟨args, []⟩ binds) (hloc : ∀ y ∈ binds, scope.names.lookup y.1 = some .local) (hl : (fun y => binds.reverse.lookup y) = lk l)
    (hcell : ∀ x ∈ scope.names, x.2 ≠ .cell) (hco : scope.isCoroutine = false) (hgen : scope.isGenerator = false) (hk : scope.kind = .function) (h1 : 1 ≤ d)
    (k : ∀ Z Q, OK w Z d u → (∀ v core', post v core' → Rt Z core' v Q) → (∀ core', post .none core' → ∀ l', Nx Z l' core' Q) → Go prog w ⟨qual, scope, f, cdv⟩ Z l core body Q) : SpecP prog w f args core d u post := by
  intro p loose mean mg mb dp un outer base g s R B X T sub sz hC hdp hun hret
  refine enterP X T sub sz hC ho hcd (by omega) (hbind _) hloc ?_ hcell hco hgen hk
  intro L h F N _
  rw [hl] at F
  refine k ⟨dp, un, outer, g, L, s.gens, s.drawn, s.os⟩ _ ⟨⟨p, loose, mean, mg, mb, base, B, X, T⟩, hdp, hun⟩ ?_ ?_ _ h _ F N
  · exact fun v core' hp h' tk l' F' N' => hret _ core' h' tk F'.keep (fr_size F') (has_of N' fun _ q => q) hp
  · exact fun core' hp l' h' tk F' N' => hret _ core' h' tk F'.keep (fr_size F') (has_of N' fun _ q => q) hp
theorem EvB.c (t₁ : EvB prog w φ Z l core t b) : EvC prog w φ Z l core t fun b' c' => b' = b ∧ c' = core := fun Q E h tk F N hQ => P_lift (t₁ Q E h tk F N fun h' tk' F' N' => hQ b core h' tk' ⟨rfl, rfl⟩ F' N')
theorem EvV.p (v₁ : EvV prog w φ Z l core e P) : EvP prog w φ Z l core e fun v c' => P v ∧ c' = core := fun Q E h tk F N hQ => P_lift (v₁ Q E h tk F N fun v h' tk' p F' N' => hQ v core h' tk' ⟨p, rfl⟩ F' N')
theorem Go.nil (k : Nx Z l core Q) : Go prog w φ Z l core [] Q := fun E h tk F N => P_execs_nil (k h tk F N)
theorem Go.ret (v₁ : EvP prog w φ Z l core e post) (k : ∀ v core', post v core' → Rt Z core' v Q) : Go prog w φ Z l core (.Return (some e) pos :: rest) Q := fun E h tk F N =>
  P_execs_cons (P_Return (v₁ _ E h tk F N fun v core' h' tk' p F' N' => k v core' p h' tk' l F' N'))
theorem Go.expr (v₁ : EvP prog w φ Z l core e post) (k : ∀ v core', post v core' → v = .none ∧ Go prog w φ Z l core' rest Q)
    (hi : ∀ L, interactive (envOf φ.cn φ.cs L φ.a φ.cd) = false := by intro _; rfl) (hs : ∀ L, swapsWith e none pos.line (envOf φ.cn φ.cs L φ.a φ.cd) = pure false := by intro _; rfl) : Go prog w φ Z l core (.Expr e pos :: rest) Q := fun E h tk F N =>
  P_execs_cons (P_Expr (v₁ _ E h tk F N fun v core' h' tk' p F' N' => ⟨(k v core' p).1, (k v core' p).2 E h' tk' F' N'⟩) (hi _) (hs _))
theorem Go.asg (l' : Value → List (Str × Value)) (v₁ : EvP prog w φ Z l core e post) (k : ∀ v core', post v core' → Go prog w φ Z (l' v) core' rest Q) (hl : ∀ v, putl x v l = l' v := by intro _; rfl) (hk : φ.cs.kind = .function := by rfl) (hx : ∀ L, (envOf φ.cn φ.cs L φ.a φ.cd).kindOf x = some .local := by intro _; rfl)
    (hs : ∀ L, swapsWith e (some (.Name x p1)) pos.line (envOf φ.cn φ.cs L φ.a φ.cd) = pure false := by intro _; rfl) : Go prog w φ Z l core (.Assign [.Name x p1] e pos :: rest) Q := fun E h tk F N =>
  P_execs_cons (P_Assign_Name (v₁ _ E h tk F N fun v core' h' tk' p F' N' => storeX_L F' N' (fun h2 F2 N2 => k v core' p E h2 _ (fr_put F2 (hl v)) N2) hk (hx _)) (hs _))
theorem Go.loc {l' : List (Str × Value)} (k : Go prog w φ Z l' core rest Q) (e : lk l = lk l') : Go prog w φ Z l core rest Q := fun E h tk F N => k E h tk (e ▸ F) N
/-- an if whose body does not fall through -/
theorem Go.ifr (t₁ : EvB prog w φ Z l core t b) (kt : b = true → Go prog w φ Z l core body (noN Q)) (kf : b = false → Go prog w φ Z l core rest Q) : Go prog w φ Z l core (.If t body [] pos :: rest) Q := fun E h tk F N =>
  P_execs_cons (P_IfA (t₁ _ E h tk F N fun h' tk' F' N' => by
    cases b with
    | true => exact P_mono (kt rfl E h' tk' F' N') (fun f s x => by cases f <;> first | exact x | exact x.elim) fun _ _ x => x
    | false => exact P_execs_nil (kf rfl E h' tk' F' N')))
/-- an if at the end of a block -/
theorem Go.ifl (t₁ : EvB prog w φ Z l core t b) (kt : b = true → Go prog w φ Z l core body Q) (kf : b = false → Go prog w φ Z l core orelse Q) : Go prog w φ Z l core [.If t body orelse pos] Q := fun E h tk F N =>
  P_execs_cons (P_IfA (t₁ _ E h tk F N fun h' tk' F' N' => by
    cases b with
    | true => exact P_mono (kt rfl E h' tk' F' N') (fun f s x => by cases f <;> first | exact P_execs_nil x | exact x) fun _ _ x => x
    | false => exact P_mono (kf rfl E h' tk' F' N') (fun f s x => by cases f <;> first | exact P_execs_nil x | exact x) fun _ _ x => x))
theorem Go.iflC (t₁ : EvC prog w φ Z l core t postB) (kt : ∀ core', postB true core' → Go prog w φ Z l core' body Q) (kf : ∀ core', postB false core' → Go prog w φ Z l core' orelse Q) : Go prog w φ Z l core [.If t body orelse pos] Q := fun E h tk F N =>
  P_execs_cons (P_If (t₁ _ E h tk F N fun b core' h' tk' p F' N' => by
    cases b with
    | true => exact P_mono (kt _ p E h' tk' F' N') (fun f s x => by cases f <;> first | exact P_execs_nil x | exact x) fun _ _ x => x
    | false => exact P_mono (kf _ p E h' tk' F' N') (fun f s x => by cases f <;> first | exact P_execs_nil x | exact x) fun _ _ x => x))
theorem Go.ifrC (t₁ : EvC prog w φ Z l core t postB) (kt : ∀ core', postB true core' → Go prog w φ Z l core' body (noN Q)) (kf : ∀ core', postB false core' → Go prog w φ Z l core' rest Q) : Go prog w φ Z l core (.If t body [] pos :: rest) Q := fun E h tk F N =>
  P_execs_cons (P_If (t₁ _ E h tk F N fun b core' h' tk' p F' N' => by
    cases b with
    | true => exact P_mono (kt _ p E h' tk' F' N') (fun f s x => by cases f <;> first | exact x | exact x.elim) fun _ _ x => x
    | false => exact P_execs_nil (kf _ p E h' tk' F' N')))
/-- a while with a measure -/
theorem Go.whileC (Inv : Nat → List (Str × Value) → List (Addr × Obj) → Prop) {n : Nat} (i0 : Inv n l core)
    (step : ∀ n l core, Inv n l core → ∃ postB, EvC prog w φ Z l core t postB ∧
      (∀ core', postB true core' → ∀ Q2, (∀ n' l' c', n' < n → Inv n' l' c' → Nx Z l' c' Q2) → (∀ v c', Rt Z c' v Q → Rt Z c' v Q2) → Go prog w φ Z l core' body Q2) ∧
      (∀ core', postB false core' → Go prog w φ Z l core' rest Q)) : Go prog w φ Z l core (.While t body [] pos :: rest) Q := fun E h tk F N => by
  refine P_execs_cons (P_While (P_loop (fun n s => ∃ h tk l core, s = Z.s h tk ∧ Fr Z.g Z.L h (lk l) ∧ News Z.g Z.L h core ∧ Inv n l core) ?_ n _ ⟨h, tk, l, core, rfl, F, N, i0⟩))
  rintro n _ ⟨h, tk, l, core, rfl, F, N, i⟩
  obtain ⟨pB, hc, ht, hf⟩ := step n l core i
  refine hc _ _ h tk F N fun b core' h' tk' p F' N' => ?_
  cases b with
  | true =>
    refine P_mono (ht core' p (fun fl s₃ => match fl with
        | .next | .cont => ∃ n', n' < n ∧ ∃ h tk l core, s₃ = Z.s h tk ∧ Fr Z.g Z.L h (lk l) ∧ News Z.g Z.L h core ∧ Inv n' l core
        | .brk => False
        | .ret v => Q (.ret v) s₃) (fun n' l' c' hn i' h2 tk2 F2 N2 => ⟨n', hn, h2, tk2, l', c', rfl, F2, N2, i'⟩) (fun v c' r => r) _ h' tk' F' N') (fun fl s x => ?_) fun _ _ x => x
    cases fl <;> first | exact x | exact x.elim
  | false => exact hf core' p _ h' tk' F' N'
theorem Go.while (Inv : Nat → List (Str × Value) → List (Addr × Obj) → Prop) {n : Nat} (i0 : Inv n l core)
    (step : ∀ n l core, Inv n l core → ∃ b, EvB prog w φ Z l core t b ∧
      (b = true → ∀ Q2, (∀ n' l' c', n' < n → Inv n' l' c' → Nx Z l' c' Q2) → (∀ v c', Rt Z c' v Q → Rt Z c' v Q2) → Go prog w φ Z l core body Q2) ∧
      (b = false → Go prog w φ Z l core rest Q)) : Go prog w φ Z l core (.While t body [] pos :: rest) Q :=
  Go.whileC Inv i0 fun n l core i => by
    obtain ⟨b, tb, k1, k2⟩ := step n l core i
    exact ⟨_, tb.c, fun c' p => by obtain ⟨e, rfl⟩ := p; exact k1 e.symm, fun c' p => by obtain ⟨e, rfl⟩ := p; exact k2 e.symm⟩
end
section
variable {prog : Program} {w : World} {φ : Fn} {Z : Zc} {l : List (Str × Value)} {Q : Flow → Shared → Prop} {D U d u : Nat} {f : Addr} {post : Value → List (Addr × Obj) → Prop} {e : PySem.Expr} {p1 p2 p3 : Pos} {name : Str} {P : Value → Prop}
  {c : LC} {b : Addr} {B : List UInt8} {i sg : Int} {ti ts : Tok} {ln ll cur ahd : Value} {g h : Heap} {L : Addr}
theorem lx_inst (N : News g L h (LX c b B i ti sg ts ln ll cur ahd)) :
    InstAt h c.x (instObj 465 c.dx) 465 (some (dictOf (LD c.k (.bytes c.T.toArray c.tT) c.src c.chk (.ref c.lm) (.ref c.kd) (.int i ti) (.int sg ts) ln ll (.ref b) cur ahd) 12)) := InstAt.of_news N (by k_mem) (by k_mem)
/-- a method of the Lexer -/
structure LxM (w : World) (name : Str) (f : Addr) : Prop where
  get : plainGet (hd.heap_1 w.params) 465 name = true
  fn : findIn (hd.heap_1 w.params) (.ref 465) name = some (some (.ref f))
  isf : isFn (hd.heap_1 w.params) (.ref f) = true
  keep : keepIn (hd.heap_1 w.params) (.ref f) = true
  none : ∀ k t s c l n a g li la b cu ah, getL name (LD k t s c l n a g li la b cu ah) = some none
/-- a method's call stands where it is written plainly -/
noncomputable abbrev MethAt (env : Env) (o name : Str) (p1 p2 p3 : Pos) (args : List PySem.Expr) : Prop := eval (.Call (.Attribute (.Name o p1) name p2) args [] p3) env = (do
  let ov ← eval (.Name o p1) env
  standAt p2.atName
  let (f, first) ← holding [ov] (getMethod ov name (do return (← importBound (.Name o p1) env).getD true))
  callWith p3 f first (backTo p3 (starEach args env)) (backToKw p3 (keywordEach [] env)))
theorem EvP.m0 (M : LxM w name f) (ok : OK w Z D U) (S : SpecP prog w f [.ref c.x] (LX c b B i ti sg ts ln ll cur ahd) d u post) (hD : 1 + d ≤ D := by decide) (hU : 4 + u ≤ U := by decide)
    (hs : lk l (Str.ofString "self") = some (.ref c.x) := by rfl) (hx : ∀ L, (envOf φ.cn φ.cs L φ.a φ.cd).kindOf (Str.ofString "self") = some .local := by intro _; rfl) (hk : φ.cs.kind = .function := by rfl)
    (he : ∀ L, MethAt (envOf φ.cn φ.cs L φ.a φ.cd) (Str.ofString "self") name p1 p2 p3 [] := by intro _; rfl) :
    EvP prog w φ Z l (LX c b B i ti sg ts ln ll cur ahd) (.Call (.Attribute (.Name (Str.ofString "self") p1) name p2) [] [] p3) post := fun Q E h tk F N hQ => by
  obtain ⟨⟨p, loose, mean, mg, mb, base, B', X', T'⟩, h1, h2⟩ := ok
  refine P_methodCall0 (nameX_L F hs (method_inst F X' (lx_inst N) M.get M.fn M.isf (M.none ..) ?_) hk (hx _) (by decide)) (he _)
  refine P_callWith_K0 (X'.keeps F.keep) M.keep ?_
  refine SpecP.use S B' F X' N T' rfl rfl rfl rfl hk (fun _ q => q) ?_ ?_ fun v core' h' tk' hp F' _ N' => hQ v core' h' tk' hp F' N'
  · simp only [depth_deeper]; omega
  · simp only [units_deeper]; omega
end
noncomputable def IsI (n : Int) (v : Value) : Prop := ∃ t, v = .int n t
section
variable {prog : Program} {w : World} {φ : Fn} {Z : Zc} {l l' : List (Str × Value)} {core : List (Addr × Obj)} {Q : Flow → Shared → Prop} {D U d u : Nat} {f : Addr} {post : Value → List (Addr × Obj) → Prop} {t e e1 e2 : PySem.Expr} {pos p1 p2 p3 : Pos}
  {name x : Str} {P P1 : Value → Prop} {v : Value} {n m : Int} {r r' : Bool} {rest : List Stmt}
  {c : LC} {b : Addr} {B : List UInt8} {i sg : Int} {ti ts : Tok} {ln ll cur ahd : Value}
theorem EvV.loc (hv : lk l x = some v := by rfl) (hx : ∀ L, (envOf φ.cn φ.cs L φ.a φ.cd).kindOf x = some .local := by intro _; rfl) (hk : φ.cs.kind = .function := by rfl) (hd : (x == ("__debug__" : Str)) = false := by decide) :
    EvV prog w φ Z l core (.Name x p1) (fun a => a = v) := fun Q E h tk F N hQ => nameX_L F hv (hQ _ h tk rfl F N) hk (hx _) hd
theorem EvV.glob (ok : OK w Z D U) (he : nsIn (hd.heap_1 w.params) mainGlobals x = some (some v)) (hx : ∀ L, (envOf φ.cn φ.cs L φ.a φ.cd).kindOf x = some .globalImplicit := by intro _; rfl) (hk : φ.cs.kind = .function := by rfl)
    (hd : (x == ("__debug__" : Str)) = false := by decide) : EvV prog w φ Z l core (.Name x p1) (fun a => a = v) := fun Q E h tk F N hQ => by
  obtain ⟨⟨p, loose, mean, mg, mb, base, B', X', T'⟩, h1, h2⟩ := ok
  exact nameX_K F X' (topRead_of T') he (hQ _ h tk rfl F N) hk (hx _) hd
theorem EvV.int {nt : Nat} : EvV prog w φ Z l core (.Constant (.int n) nt p1) (IsI n) := fun Q E h tk F N hQ => wpAny_Constant_int (hQ _ h _ ⟨_, rfl⟩ F N)
theorem EvV.mono (v₁ : EvV prog w φ Z l core e P) (h : ∀ v, P v → P1 v) : EvV prog w φ Z l core e P1 := fun Q E hp tk F N hQ => v₁ Q E hp tk F N fun v h' tk' p => hQ v h' tk' (h v p)
/-- an attribute of the Lexer -/
structure LxA (w : World) (name : Str) : Prop where
  get : plainGet (hd.heap_1 w.params) 465 name = true
  has : hasDictIn (hd.heap_1 w.params) 465 = true
  fn : findIn (hd.heap_1 w.params) (.ref 465) name = some none
  noget : noGet (hd.heap_1 w.params) none = true
theorem EvV.attr (M : LxA w name) (ok : OK w Z D U) (hl : getL name (LD c.k (.bytes c.T.toArray c.tT) c.src c.chk (.ref c.lm) (.ref c.kd) (.int i ti) (.int sg ts) ln ll (.ref b) cur ahd) = some (some v)) (hh : handedIn v = true)
    (hs : lk l (Str.ofString "self") = some (.ref c.x) := by rfl) (hx : ∀ L, (envOf φ.cn φ.cs L φ.a φ.cd).kindOf (Str.ofString "self") = some .local := by intro _; rfl) (hk : φ.cs.kind = .function := by rfl) :
    EvV prog w φ Z l (LX c b B i ti sg ts ln ll cur ahd) (.Attribute (.Name (Str.ofString "self") p1) name p2) (fun a => a = v) := fun Q E h tk F N hQ => by
  obtain ⟨⟨p, loose, mean, mg, mb, base, B', X', T'⟩, h1, h2⟩ := ok
  exact Attribute_Name_ (nameX_L F hs (get_own F X' (lx_inst N) M.get M.has M.fn M.noget hl hh (hQ _ h _ rfl F N)) hk (hx _) (by decide))
theorem EvV.sign (M : LxA w (Str.ofString "sign")) (ok : OK w Z D U)
    (hs : lk l (Str.ofString "self") = some (.ref c.x) := by rfl) (hx : ∀ L, (envOf φ.cn φ.cs L φ.a φ.cd).kindOf (Str.ofString "self") = some .local := by intro _; rfl) (hk : φ.cs.kind = .function := by rfl) :
    EvV prog w φ Z l (LX c b B i ti sg ts ln ll cur ahd) (.Attribute (.Name (Str.ofString "self") p1) (Str.ofString "sign") p2) (fun a => a = .int sg ts) := EvV.attr M ok rfl rfl hs hx hk
theorem EvV.isI {t : Tok} (v₁ : EvV prog w φ Z l core e (fun a => a = .int n t)) : EvV prog w φ Z l core e (IsI n) := v₁.mono fun _ h => ⟨t, h⟩
/-- a comparison of two ints -/
theorem EvB.cmp {op : CmpOp} (v₁ : EvV prog w φ Z l core e1 (IsI n)) (v₂ : EvV prog w φ Z l core e2 (IsI m))
    (ho : ∀ A E (s : Shared) t u (Q : Value → Shared → Prop), Q (.bool r) s → wpAny (model prog w) A (compareOp op (.int n t) (.int m u)) Q E s) (hm : behindInMarks op e2 = false) : EvB prog w φ Z l core (.Compare e1 [op] [e2] pos) r := fun Q E h tk F N hQ =>
  wpAny_isTrue_Compare1 (v₁ _ E h tk F N fun a h1 tk1 p1 F1 N1 => v₂ _ E h1 tk1 F1 N1 fun b h2 tk2 p2 F2 N2 => by
    obtain ⟨t, rfl⟩ := p1
    obtain ⟨u, rfl⟩ := p2
    exact ho _ _ _ _ _ _ (wpAny_truthy_bool (hQ h2 tk2 F2 N2))) hm
theorem EvB.eq (v₁ : EvV prog w φ Z l core e1 (IsI n)) (v₂ : EvV prog w φ Z l core e2 (IsI m)) (hm : behindInMarks .Eq e2 = false := by rfl) : EvB prog w φ Z l core (.Compare e1 [.Eq] [e2] pos) (n == m) := EvB.cmp v₁ v₂ (fun _ _ _ _ _ _ => eq_int) hm
theorem EvB.ne (v₁ : EvV prog w φ Z l core e1 (IsI n)) (v₂ : EvV prog w φ Z l core e2 (IsI m)) (hm : behindInMarks .NotEq e2 = false := by rfl) : EvB prog w φ Z l core (.Compare e1 [.NotEq] [e2] pos) (n != m) := EvB.cmp v₁ v₂ (fun _ _ _ _ _ _ => ne_int) hm
theorem EvB.lt (v₁ : EvV prog w φ Z l core e1 (IsI n)) (v₂ : EvV prog w φ Z l core e2 (IsI m)) (hm : behindInMarks .Lt e2 = false := by rfl) : EvB prog w φ Z l core (.Compare e1 [.Lt] [e2] pos) (decide (n < m)) := EvB.cmp v₁ v₂ (fun _ _ _ _ _ _ => lt_int) hm
theorem EvB.le (v₁ : EvV prog w φ Z l core e1 (IsI n)) (v₂ : EvV prog w φ Z l core e2 (IsI m)) (hm : behindInMarks .LtE e2 = false := by rfl) : EvB prog w φ Z l core (.Compare e1 [.LtE] [e2] pos) (decide (n ≤ m)) := EvB.cmp v₁ v₂ (fun _ _ _ _ _ _ => le_int) hm
theorem EvB.gt (v₁ : EvV prog w φ Z l core e1 (IsI n)) (v₂ : EvV prog w φ Z l core e2 (IsI m)) (hm : behindInMarks .Gt e2 = false := by rfl) : EvB prog w φ Z l core (.Compare e1 [.Gt] [e2] pos) (decide (m < n)) := EvB.cmp v₁ v₂ (fun _ _ _ _ _ _ => gt_int) hm
theorem EvB.ge (v₁ : EvV prog w φ Z l core e1 (IsI n)) (v₂ : EvV prog w φ Z l core e2 (IsI m)) (hm : behindInMarks .GtE e2 = false := by rfl) : EvB prog w φ Z l core (.Compare e1 [.GtE] [e2] pos) (decide (m ≤ n)) := EvB.cmp v₁ v₂ (fun _ _ _ _ _ _ => ge_int) hm
theorem EvB.to (t₁ : EvB prog w φ Z l core t r) (h : r = r') : EvB prog w φ Z l core t r' := h ▸ t₁
/-- a call of a def that asks after one int and leaves all as it is -/
theorem EvV.fn1 (ok : OK w Z D U) (S : ∀ a, P1 a → Spec prog w f [a] [] d u (fun v _ => P v)) (v₁ : EvV prog w φ Z l core e P1) (hg : nsIn (hd.heap_1 w.params) mainGlobals x = some (some (.ref f))) (hkeep : keepIn (hd.heap_1 w.params) (.ref f) = true) (hD : 1 + d ≤ D := by decide) (hU : 4 + u ≤ U := by decide)
    (hx : ∀ L, (envOf φ.cn φ.cs L φ.a φ.cd).kindOf x = some .globalImplicit := by intro _; rfl) (hk : φ.cs.kind = .function := by rfl) (hd : (x == ("__debug__" : Str)) = false := by decide)
    (he : ∀ L, starEach [e] (envOf φ.cn φ.cs L φ.a φ.cd) = [(false, eval e (envOf φ.cn φ.cs L φ.a φ.cd))] := by intro _; rfl) :
    EvV prog w φ Z l core (.Call (.Name x p1) [e] [] p2) P := fun Q E h tk F N hQ => by
  obtain ⟨⟨p, loose, mean, mg, mb, base, B', X', T'⟩, h1, h2⟩ := ok
  refine Call_Name1 (nameX_K F X' (topRead_of T') hg ?_ hk (hx _) hd) (he _)
  have z := he Z.L
  have c := callWith_K (M := model prog w) (A := Z.A φ) (E := E) (s := Z.s h tk) (Q := Q) (pos := p2) (first := []) (e := e) (rest := []) (env := Z.env φ) X' hkeep ?_ z rfl
  · rw [z] at c; exact c
  refine args_cons (v₁ _ E h tk F N fun a h' tk' pa F' N' => args_nil ⟨X'.keeps F'.keep, ?_⟩) z
  refine Spec.use (S a pa) B' F' X' N' T' rfl rfl rfl rfl hk (fun _ q => nomatch q) ?_ ?_ fun v core' h2 tk2 hp F2 S2 N2 => hQ v h2 tk2 hp F2 (stays0 S2 fun _ q => nomatch q)
  · simp only [depth_deeper]; omega
  · simp only [units_deeper]; omega
theorem EvB.val (v₁ : EvV prog w φ Z l core t (fun a => a = .bool r)) (ht : ∀ L, isTrue t (envOf φ.cn φ.cs L φ.a φ.cd) (eval t (envOf φ.cn φ.cs L φ.a φ.cd)) = (do let v ← eval t (envOf φ.cn φ.cs L φ.a φ.cd); standAt t.pos; holding [v] (truthy v)) := by intro _; rfl) : EvB prog w φ Z l core t r := fun Q E h tk F N hQ =>
  isTrue_plain (v₁ _ E h tk F N fun a h1 tk1 p F1 N1 => by rw [p]; exact wpAny_truthy_bool (hQ h1 tk1 F1 N1)) (ht _)
theorem EvB.and (t₁ : EvB prog w φ Z l core e1 r) (t₂ : r = true → EvB prog w φ Z l core e2 r') : EvB prog w φ Z l core (.BoolOp .And [e1, e2] pos) (r && r') := fun Q E h tk F N hQ =>
  wpAny_isTrue_BoolOp (wpAny_allTrue_And_cons (t₁ _ E h tk F N fun h1 tk1 F1 N1 => by
    cases r with
    | true => exact wpAny_allTrue_And_cons (t₂ rfl _ E h1 tk1 F1 N1 fun h2 tk2 F2 N2 => by
        cases r' with
        | true => exact wpAny_allTrue_And_nil (hQ h2 tk2 F2 N2)
        | false => exact hQ h2 tk2 F2 N2)
    | false => exact hQ h1 tk1 F1 N1))
theorem EvB.or (t₁ : EvB prog w φ Z l core e1 r) (t₂ : r = false → EvB prog w φ Z l core e2 r') : EvB prog w φ Z l core (.BoolOp .Or [e1, e2] pos) (r || r') := fun Q E h tk F N hQ =>
  wpAny_isTrue_BoolOp (wpAny_allTrue_Or_cons (t₁ _ E h tk F N fun h1 tk1 F1 N1 => by
    cases r with
    | false => exact wpAny_allTrue_Or_cons (t₂ rfl _ E h1 tk1 F1 N1 fun h2 tk2 F2 N2 => by
        cases r' with
        | false => exact wpAny_allTrue_Or_nil (hQ h2 tk2 F2 N2)
        | true => exact hQ h2 tk2 F2 N2)
    | true => exact hQ h1 tk1 F1 N1))
theorem EvV.ite {r : Bool} (t₁ : EvB prog w φ Z l core t r) (v₁ : r = true → EvV prog w φ Z l core e1 P) (v₂ : r = false → EvV prog w φ Z l core e2 P) : EvV prog w φ Z l core (.IfExp t e1 e2 pos) P := fun Q E h tk F N hQ =>
  IfExp_ (t₁ _ E h tk F N fun h1 tk1 F1 N1 => by
    cases r with
    | true => exact v₁ rfl _ E h1 tk1 F1 N1 hQ
    | false => exact v₂ rfl _ E h1 tk1 F1 N1 hQ)
theorem EvV.neg (v₁ : EvV prog w φ Z l core e (IsI n)) : EvV prog w φ Z l core (.UnaryOp .USub e pos) (IsI (-n)) := fun Q E h tk F N hQ =>
  UnaryOp_ (v₁ _ E h tk F N fun a h1 tk1 p F1 N1 => by
    obtain ⟨t, rfl⟩ := p
    exact neg_int (hQ _ h1 _ ⟨_, rfl⟩ F1 N1))
theorem EvV.bin {op : Operator} {k : Int} (v₁ : EvV prog w φ Z l core e1 (IsI n)) (v₂ : EvV prog w φ Z l core e2 (IsI m))
    (ho : ∀ A E (s : Shared) t u (Q : Value → Shared → Prop), Q (.int k s.toks) { s with toks := s.toks + 1 } → wpAny (model prog w) A (binaryOp op (.int n t) (.int m u)) Q E s) : EvV prog w φ Z l core (.BinOp e1 op e2 pos) (IsI k) := fun Q E h tk F N hQ =>
  wpAny_BinOp (v₁ _ E h tk F N fun a h1 tk1 p1 F1 N1 => v₂ _ E h1 tk1 F1 N1 fun b h2 tk2 p2 F2 N2 => by
    obtain ⟨t, rfl⟩ := p1
    obtain ⟨u, rfl⟩ := p2
    with_reducible refine ho _ _ _ _ _ _ ?_
    exact hQ _ h2 _ ⟨_, rfl⟩ F2 N2)
theorem EvV.add (v₁ : EvV prog w φ Z l core e1 (IsI n)) (v₂ : EvV prog w φ Z l core e2 (IsI m)) : EvV prog w φ Z l core (.BinOp e1 .Add e2 pos) (IsI (n + m)) := EvV.bin v₁ v₂ fun _ _ _ _ _ _ => add_int
theorem EvV.sub (v₁ : EvV prog w φ Z l core e1 (IsI n)) (v₂ : EvV prog w φ Z l core e2 (IsI m)) : EvV prog w φ Z l core (.BinOp e1 .Sub e2 pos) (IsI (n - m)) := EvV.bin v₁ v₂ fun _ _ _ _ _ _ => sub_int
theorem EvV.mul (v₁ : EvV prog w φ Z l core e1 (IsI n)) (v₂ : EvV prog w φ Z l core e2 (IsI m)) (hm : IntMulOk n m) : EvV prog w φ Z l core (.BinOp e1 .Mult e2 pos) (IsI (n * m)) := EvV.bin v₁ v₂ fun _ _ _ _ _ _ h => mul_int h hm
/-- `x += e` on a local int -/
theorem Go.inc (l' : Tok → List (Str × Value)) {t0 : Tok} (v₁ : EvV prog w φ Z l core e (IsI m)) (k : ∀ t, Go prog w φ Z (l' t) core rest Q) (hl : lk l x = some (.int n t0) := by rfl) (hp : ∀ t, putl x (.int (n + m) t) l = l' t := by intro _; rfl)
    (hk : φ.cs.kind = .function := by rfl) (hx : ∀ L, (envOf φ.cn φ.cs L φ.a φ.cd).kindOf x = some .local := by intro _; rfl) : Go prog w φ Z l core (.AugAssign (.Name x p1) .Add e pos :: rest) Q := fun E h tk F N =>
  P_stmt (wpAny_AugAssign_Name (wpAny_loadName_local hk (hx _) F.ns hl (v₁ _ E h tk F N fun a h1 tk1 p F1 N1 => by
    obtain ⟨u, rfl⟩ := p
    refine iadd_int ?_
    exact storeX_L F1 N1 (fun h2 F2 N2 => k _ E h2 _ (fr_put F2 (hp _)) N2) hk (hx _))))
/-- a method's call with one argument -/
theorem EvP.m1 (M : LxM w name f) (ok : OK w Z D U) (v₁ : EvV prog w φ Z l (LX c b B i ti sg ts ln ll cur ahd) e P1) (S : ∀ a, P1 a → SpecP prog w f [.ref c.x, a] (LX c b B i ti sg ts ln ll cur ahd) d u post) (hD : 1 + d ≤ D := by decide) (hU : 4 + u ≤ U := by decide)
    (hs : lk l (Str.ofString "self") = some (.ref c.x) := by rfl) (hx : ∀ L, (envOf φ.cn φ.cs L φ.a φ.cd).kindOf (Str.ofString "self") = some .local := by intro _; rfl) (hk : φ.cs.kind = .function := by rfl)
    (he : ∀ L, MethAt (envOf φ.cn φ.cs L φ.a φ.cd) (Str.ofString "self") name p1 p2 p3 [e] := by intro _; rfl) (ha : ∀ L, starEach [e] (envOf φ.cn φ.cs L φ.a φ.cd) = (false, eval e (envOf φ.cn φ.cs L φ.a φ.cd)) :: starEach [] (envOf φ.cn φ.cs L φ.a φ.cd) := by intro _; rfl) :
    EvP prog w φ Z l (LX c b B i ti sg ts ln ll cur ahd) (.Call (.Attribute (.Name (Str.ofString "self") p1) name p2) [e] [] p3) post := fun Q E h tk F N hQ => by
  obtain ⟨⟨p, loose, mean, mg, mb, base, B', X', T'⟩, h1, h2⟩ := ok
  refine P_methodCall0 (nameX_L F hs (method_inst F X' (lx_inst N) M.get M.fn M.isf (M.none ..) ?_) hk (hx _) (by decide)) (he _)
  refine P_callWith_K X' M.keep (args_cons (v₁ _ E h tk F N fun a h' tk' pa F' N' => args_nil ⟨X'.keeps F'.keep, ?_⟩) (ha _)) (ha _) rfl
  refine SpecP.use (S a pa) B' F' X' N' T' rfl rfl rfl rfl hk (fun _ q => q) ?_ ?_ fun v core' h2 tk2 hp F2 _ N2 => hQ v core' h2 tk2 hp F2 N2
  · simp only [depth_deeper]; omega
  · simp only [units_deeper]; omega
/-- a statement that the library's lines walk -/
noncomputable def StA (prog : Program) (w : World) (φ : Fn) (Z : Zc) (l : List (Str × Value)) (core : List (Addr × Obj)) (st : Stmt) {ι : Type} (l' : ι → List (Str × Value)) (core' : ι → List (Addr × Obj)) : Prop := ∀ Q E h tk, Fr Z.g Z.L h (lk l) → News Z.g Z.L h core →
  (∀ a h' tk', Fr Z.g Z.L h' (lk (l' a)) → News Z.g Z.L h' (core' a) → Q .next (Z.s h' tk')) → wpAny (model prog w) (Z.A φ) (exec st (Z.env φ)) Q E (Z.s h tk)
theorem Go.st {ι : Type} {st : Stmt} (l' : ι → List (Str × Value)) (core' : ι → List (Addr × Obj)) (s : StA prog w φ Z l core st l' core') (k : ∀ a, Go prog w φ Z (l' a) (core' a) rest Q) : Go prog w φ Z l core (st :: rest) Q := fun E h tk F N =>
  P_stmt (s _ E h tk F N fun a h' tk' F' N' => k a E h' tk' F' N')
theorem Go.asgE (l' : List (Str × Value)) (v₁ : EvV prog w φ Z l core e (fun a => a = v)) (k : Go prog w φ Z l' core rest Q) (hl : putl x v l = l' := by rfl) (hk : φ.cs.kind = .function := by rfl) (hx : ∀ L, (envOf φ.cn φ.cs L φ.a φ.cd).kindOf x = some .local := by intro _; rfl)
    (hs : ∀ L, swapsWith e (some (.Name x p1)) pos.line (envOf φ.cn φ.cs L φ.a φ.cd) = pure false := by intro _; rfl) : Go prog w φ Z l core (.Assign [.Name x p1] e pos :: rest) Q :=
  Go.asg (fun a => putl x a l) v₁.p (fun a c' h => by obtain ⟨rfl, rfl⟩ := h; rw [hl]; exact k) (fun _ => rfl) hk hx hs
theorem Go.asgI (l' : Tok → List (Str × Value)) (v₁ : EvV prog w φ Z l core e (IsI n)) (k : ∀ t, Go prog w φ Z (l' t) core rest Q) (hl : ∀ t, putl x (.int n t) l = l' t := by intro _; rfl) (hk : φ.cs.kind = .function := by rfl) (hx : ∀ L, (envOf φ.cn φ.cs L φ.a φ.cd).kindOf x = some .local := by intro _; rfl)
    (hs : ∀ L, swapsWith e (some (.Name x p1)) pos.line (envOf φ.cn φ.cs L φ.a φ.cd) = pure false := by intro _; rfl) : Go prog w φ Z l core (.Assign [.Name x p1] e pos :: rest) Q :=
  Go.asg (fun a => putl x a l) v₁.p (fun a c' h => by obtain ⟨⟨t, rfl⟩, rfl⟩ := h; rw [hl]; exact k t) (fun _ => rfl) hk hx hs
theorem Go.retE (v₁ : EvV prog w φ Z l core e (fun a => a = v)) (k : Rt Z core v Q) : Go prog w φ Z l core (.Return (some e) pos :: rest) Q := Go.ret v₁.p fun a c' h => by obtain ⟨rfl, rfl⟩ := h; exact k
theorem Go.retI (v₁ : EvV prog w φ Z l core e (IsI n)) (k : ∀ t, Rt Z core (.int n t) Q) : Go prog w φ Z l core (.Return (some e) pos :: rest) Q := Go.ret v₁.p fun a c' h => by obtain ⟨⟨t, rfl⟩, rfl⟩ := h; exact k t
/-- a call of a method that moves on in the text -/
theorem Go.m0S {W B' : List UInt8} (M : LxM w name f) (ok : OK w Z D U) (S : SpecP prog w f [.ref c.x] (LX c b B i ti sg ts ln ll cur ahd) d u (fun v e => v = .none ∧ ∃ i' t1 t2, At c.T i' W ∧ e = LX c b B' i' t1 (hdv W) t2 ln ll cur ahd))
    (k : ∀ i' t1 t2, At c.T i' W → Go prog w φ Z l (LX c b B' i' t1 (hdv W) t2 ln ll cur ahd) rest Q) (hD : 1 + d ≤ D := by decide) (hU : 4 + u ≤ U := by decide)
    (hs : lk l (Str.ofString "self") = some (.ref c.x) := by rfl) (hx : ∀ L, (envOf φ.cn φ.cs L φ.a φ.cd).kindOf (Str.ofString "self") = some .local := by intro _; rfl) (hk : φ.cs.kind = .function := by rfl)
    (he : ∀ L, MethAt (envOf φ.cn φ.cs L φ.a φ.cd) (Str.ofString "self") name p1 p2 p3 [] := by intro _; rfl) (hi : ∀ L, interactive (envOf φ.cn φ.cs L φ.a φ.cd) = false := by intro _; rfl)
    (hw : ∀ L, swapsWith (.Call (.Attribute (.Name (Str.ofString "self") p1) name p2) [] [] p3) none pos.line (envOf φ.cn φ.cs L φ.a φ.cd) = pure false := by intro _; rfl) :
    Go prog w φ Z l (LX c b B i ti sg ts ln ll cur ahd) (.Expr (.Call (.Attribute (.Name (Str.ofString "self") p1) name p2) [] [] p3) pos :: rest) Q :=
  Go.expr (EvP.m0 M ok S hD hU hs hx hk he) (fun v c' h => by obtain ⟨rfl, i', t1, t2, hA, rfl⟩ := h; exact ⟨rfl, k i' t1 t2 hA⟩) hi hw
/-- a while whose state is a function of an index -/
theorem Go.loop {ι : Type} (μ : ι → Nat) (lf : ι → List (Str × Value)) (cf : ι → List (Addr × Obj)) (Pr : ι → Prop) {body : List Stmt} (a : ι) (pa : Pr a) (hl : l = lf a) (hc : core = cf a)
    (step : ∀ a, Pr a → ∃ r, EvB prog w φ Z (lf a) (cf a) t r ∧
      (r = true → ∀ Q2, (∀ a', μ a' < μ a → Pr a' → Nx Z (lf a') (cf a') Q2) → (∀ v c', Rt Z c' v Q → Rt Z c' v Q2) → Go prog w φ Z (lf a) (cf a) body Q2) ∧
      (r = false → Go prog w φ Z (lf a) (cf a) rest Q)) : Go prog w φ Z l core (.While t body [] pos :: rest) Q :=
  Go.while (n := μ a) (fun n l core => ∃ a, μ a = n ∧ Pr a ∧ l = lf a ∧ core = cf a) ⟨a, rfl, pa, hl, hc⟩ fun n l core h => by
    obtain ⟨a, rfl, pa, rfl, rfl⟩ := h
    obtain ⟨r, h1, h2, h3⟩ := step a pa
    exact ⟨r, h1, fun hr Q2 k1 k2 => h2 hr Q2 (fun a' hm p' => k1 _ _ _ hm ⟨a', rfl, p', rfl, rfl⟩) k2, h3⟩
theorem Go.loopC {ι : Type} (μ : ι → Nat) (lf : ι → List (Str × Value)) (cf : ι → List (Addr × Obj)) (Pr : ι → Prop) {body : List Stmt} (a : ι) (pa : Pr a) (hl : l = lf a) (hc : core = cf a)
    (step : ∀ a, Pr a → ∃ postB, EvC prog w φ Z (lf a) (cf a) t postB ∧
      (∀ c', postB true c' → ∀ Q2, (∀ a', μ a' < μ a → Pr a' → Nx Z (lf a') (cf a') Q2) → (∀ v c', Rt Z c' v Q → Rt Z c' v Q2) → Go prog w φ Z (lf a) c' body Q2) ∧
      (∀ c', postB false c' → Go prog w φ Z (lf a) c' rest Q)) : Go prog w φ Z l core (.While t body [] pos :: rest) Q :=
  Go.whileC (n := μ a) (fun n l core => ∃ a, μ a = n ∧ Pr a ∧ l = lf a ∧ core = cf a) ⟨a, rfl, pa, hl, hc⟩ fun n l core h => by
    obtain ⟨a, rfl, pa, rfl, rfl⟩ := h
    obtain ⟨r, h1, h2, h3⟩ := step a pa
    exact ⟨r, h1, fun c' hr Q2 k1 k2 => h2 c' hr Q2 (fun a' hm p' => k1 _ _ _ hm ⟨a', rfl, p', rfl, rfl⟩) k2, h3⟩
end
theorem off_L5 : True := by
  w_top off
  trivial
theorem reg_5af573ec_L5 : True := by
  k_with "q call ref" =>
    (k_here; (with_reducible show wpAny _ _ (call (Value.ref 224) _) _ _ _); (first | (k_dflt ((refine' Spec.use (is_newline_spec _ _ _ _) ?zzuB ?zzuF ?zzuX ?zzuN ?zzuT ?zzuh ?zzuA ?zzug ?zzuf ?zzuk ?zzus ?zzud ?zzuu ?_); (case zzuF => k_asm); (case zzuA => with_unfolding_all rfl); (case zzuB => k_asm); (case zzuX => k_asm); (case zzuN => k_asm); (case zzuT => k_asm); (case zzuh => with_unfolding_all rfl);  (case zzug => with_unfolding_all rfl); (case zzuf => with_unfolding_all rfl); (case zzuk => with_unfolding_all rfl); (case zzus => (repeat' (first | exact List.forall_mem_nil _ | refine' List.forall_mem_cons.mpr ⟨?_, ?_⟩ | k_mem | (rw [‹LC.chk _ = _›]; k_mem))));  (case zzud => k_room); (case zzuu => k_units); intro zzv' zzc' zzh' zztk' zzhp' zzF' zzS' zzN'; subst zzhp'; (have zzN' := stays0 zzS' (fun _ hq => nomatch hq)); clear zzS'; (try k_sweep); (try dsimp only))) | (exfalso; (try simp only [Bool.or_eq_true, Bool.and_eq_true, decide_eq_true_eq, beq_iff_eq, Bool.or_eq_false_iff, Bool.and_eq_false_iff, decide_eq_false_iff_not, beq_eq_false_iff_ne] at *); omega)))
  trivial
theorem reg_7a819cf5_L5 : True := by
  k_with "q call ref" =>
    (k_here; (with_reducible show wpAny _ _ (call (Value.ref 189) _) _ _ _); (first | (k_dflt ((refine' Spec.use (is_digit_spec _ _ _ _) ?zzuB ?zzuF ?zzuX ?zzuN ?zzuT ?zzuh ?zzuA ?zzug ?zzuf ?zzuk ?zzus ?zzud ?zzuu ?_); (case zzuF => k_asm); (case zzuA => with_unfolding_all rfl); (case zzuB => k_asm); (case zzuX => k_asm); (case zzuN => k_asm); (case zzuT => k_asm); (case zzuh => with_unfolding_all rfl);  (case zzug => with_unfolding_all rfl); (case zzuf => with_unfolding_all rfl); (case zzuk => with_unfolding_all rfl); (case zzus => (repeat' (first | exact List.forall_mem_nil _ | refine' List.forall_mem_cons.mpr ⟨?_, ?_⟩ | k_mem | (rw [‹LC.chk _ = _›]; k_mem))));  (case zzud => k_room); (case zzuu => k_units); intro zzv' zzc' zzh' zztk' zzhp' zzF' zzS' zzN'; subst zzhp'; (have zzN' := stays0 zzS' (fun _ hq => nomatch hq)); clear zzS'; (try k_sweep); (try dsimp only))) | (exfalso; (try simp only [Bool.or_eq_true, Bool.and_eq_true, decide_eq_true_eq, beq_iff_eq, Bool.or_eq_false_iff, Bool.and_eq_false_iff, decide_eq_false_iff_not, beq_eq_false_iff_ne] at *); omega)))
  trivial
theorem m_km (w : World) : LxM w (Str.ofString "keep_and_move") 336 := ⟨by k_is, by k_is, by k_is, by k_is, by intros; rfl⟩
theorem a_sign (w : World) : LxA w (Str.ofString "sign") := ⟨by k_is, by k_is, by k_is, by k_is⟩
theorem sv_inj {x : UInt8} {n : Nat} (h : sv x = n) : x = n.toUInt8 := by
  have := sv_back x
  rw [h] at this
  simpa using this.symm
theorem sv_inj2 {x y : UInt8} (h : sv x = sv y) : x = y := by rw [← sv_back x, h, sv_back]
theorem m_go (w : World) : LxM w (Str.ofString "move") 322 := ⟨by k_is, by k_is, by k_is, by k_is, by intros; rfl⟩
theorem m_keep (w : World) : LxM w (Str.ofString "keep") 329 := ⟨by k_is, by k_is, by k_is, by k_is, by intros; rfl⟩
noncomputable def dval (z : Int) : List UInt8 → Int
  | [] => z
  | x :: r => dval (10 * z + sv x - 48) r
section
variable {c : LC} {b : Addr} {B W : List UInt8} {i sg : Int} {ti ts : Tok} {ln ll cur ahd : Value}
set_option maxHeartbeats 8000000 in
theorem rl_spec {n : Nat} {br y : UInt8} (prog : Program) (w : World) (hA : At c.T i (br :: (List.replicate n 61 ++ y :: W))) (hs : sg = sv br) (hy : y ≠ 61) (hT : c.T.length ≤ 100000) (hB : B.length + n ≤ 95000) :
    SpecP prog w 427 [.ref c.x] (LX c b B i ti sg ts ln ll cur ahd) 11 110
      (fun v e => (∃ t, v = .int (if y = br then n else - n - 1) t) ∧ ∃ i' t1 t2, At c.T i' (y :: W) ∧ e = LX c b (B ++ br :: List.replicate n 61) i' t1 (sv y) t2 ln ll cur ahd) := by
  refine' spec_go [(Str.ofString "self", .ref c.x)] ?k6 ?k7 ?k9 ?kB ?kl ?c5 ?c2 ?c3 ?c4 (by decide) fun Z Q ok hr hn' => ?_
  (case k6 => k_is)
  (case k7 => k_is)
  (case k9 => exact fun _ => BindsTo.of_eq rfl)
  (case kB => exact locs rfl)
  (case kl => rfl)
  (case c5 => decide)
  (case c2 => exact rfl)
  (case c3 => exact rfl)
  (case c4 => exact rfl)
  refine Go.asgE [(Str.ofString "self", .ref c.x), (Str.ofString "bracket", .int sg ts)] (EvV.sign (a_sign w) ok) ?_
  refine Go.asgI (fun v => [(Str.ofString "self", .ref c.x), (Str.ofString "bracket", .int sg ts), (Str.ofString "many", .int 0 v)]) EvV.int fun tm => ?_
  refine Go.m0S (m_km w) ok (km_st prog w hA hT hs (by first | exact le_c (by assumption) rfl | omega)) fun i1 u1 u2 hA1 => ?_
  refine Go.loop (ι := Nat × Tok × Int × Tok × Tok) (fun a => a.1) (fun a => [(Str.ofString "self", .ref c.x), (Str.ofString "bracket", .int sg ts), (Str.ofString "many", .int ((n - a.1 : Nat) : Int) a.2.1)])
    (fun a => LX c b (B ++ br :: List.replicate (n - a.1) 61) a.2.2.1 a.2.2.2.1 (hdv (List.replicate a.1 61 ++ y :: W)) a.2.2.2.2 ln ll cur ahd) (fun a => a.1 ≤ n ∧ At c.T a.2.2.1 (List.replicate a.1 61 ++ y :: W)) (n, tm, i1, u1, u2) ⟨Nat.le_refl n, hA1⟩ (by simp) (by simp) ?_
  clear hA1 hA
  refine cu5 fun k tm i3 u3 u4 => ?_
  rintro ⟨hk, hA3⟩
  dsimp only at hk hA3 ⊢
  refine ⟨_, EvB.eq (EvV.sign (a_sign w) ok).isI (EvV.glob ok (by k_is)).isI, fun hb Q2 hn2 hr2 => ?_, fun hb => ?_⟩
  · cases k with
    | zero => exact absurd (sv_inj (n := 61) (beq_iff_eq.mp hb)) hy
    | succ k =>
      refine Go.m0S (m_km w) ok (km_st prog w hA3 hT rfl (by simp; omega)) fun i2 u5 u6 hA2 => ?_
      refine Go.inc (fun t => [(Str.ofString "self", .ref c.x), (Str.ofString "bracket", .int sg ts), (Str.ofString "many", .int (((n - (k + 1) : Nat) : Int) + 1) t)]) EvV.int fun t => Go.nil ?_
      have h := hn2 (k, t, i2, u5, u6) (Nat.lt_succ_self k) ⟨Nat.le_of_succ_le hk, hA2⟩
      rw [show n - k = n - (k + 1) + 1 by omega, List.replicate_succ', ← List.cons_append, ← List.append_assoc] at h
      exact h
  · cases k with
    | succ k => exact absurd (show (sv 61 == 61) = false from hb) (by decide)
    | zero =>
      refine Go.retI (EvV.ite (P := IsI (if y = br then n else - n - 1)) (EvB.eq (EvV.sign (a_sign w) ok).isI (EvV.isI EvV.loc)) (fun hc => ?_) fun hc => ?_) fun t => hr _ _ ⟨⟨t, rfl⟩, i3, u3, u4, hA3, rfl⟩
      · rw [if_pos (sv_inj2 ((beq_iff_eq.mp hc).trans hs))]; exact EvV.isI EvV.loc
      · rw [if_neg fun e => by rw [hs, e] at hc; exact absurd hc (by simp [hdv_cons])]; exact (EvV.isI EvV.loc).neg.sub EvV.int
theorem said_10 : True := by
  k_with "x9" =>
    (intro Q E h0 tk0 F' N' hQ; (refine @opq _ ?_); intro G' hG'; (obtain ⟨⟨p, loose, mean, mg, mb, base, B', X', T'⟩, hdp, hun⟩ := ok); (refine hG' ?_); (clear hG' G'); dsimp only [Zc.env, Zc.A, Zc.s]; (repeat' (first | ((with_reducible show ite _ _ _); (first | refine ite_neg (by first | decide | ((try simp only [List.any_cons, List.any_nil, bne_iff_ne, ne_eq, Bool.not_eq_true, bne_eq_false_iff_eq, decide_eq_true_eq, Bool.or_eq_true, Bool.and_eq_true, beq_iff_eq, Bool.or_false, Bool.false_or, Bool.not_eq_true', decide_eq_false_iff_not, Bool.or_eq_false_iff, Bool.and_eq_false_iff, beq_eq_false_iff_ne]); omega)) ?_ | refine ite_pos (by first | decide | ((try simp only [List.any_cons, List.any_nil, bne_iff_ne, ne_eq, Bool.not_eq_true, bne_eq_false_iff_eq, decide_eq_true_eq, Bool.or_eq_true, Bool.and_eq_true, beq_iff_eq, Bool.or_false, Bool.false_or, Bool.not_eq_true', decide_eq_false_iff_not, Bool.or_eq_false_iff, Bool.and_eq_false_iff, beq_eq_false_iff_ne]); omega)) ?_)) | ((with_reducible show wpAny _ _ (execs _ _) _ _ _); dsimp only) | (k_unfold; (try dsimp only)) | walk1 | (dsimp only; walk1) | fail "no step")))
  trivial
set_option maxHeartbeats 8000000 in
theorem rd_spec {V : List UInt8} (prog : Program) (w : World) (hA : At c.T i (V ++ W)) (hs : sg = hdv (V ++ W)) (hd : ∀ x ∈ V, 48 ≤ sv x ∧ sv x ≤ 57) (hl : V.length ≤ 3) (hn : V.length = 3 ∨ hdv W < 48 ∨ 57 < hdv W) (hv : 0 ≤ dval 0 V ∧ dval 0 V ≤ 255)
    (hT : c.T.length ≤ 100000) (hB : B.length ≤ 90000) :
    SpecP prog w 462 [.ref c.x] (LX c b B i ti sg ts ln ll cur ahd) 11 110
      (fun v e => v = .none ∧ ∃ i' t1 t2, At c.T i' W ∧ e = LX c b (B ++ [(dval 0 V).toNat.toUInt8]) i' t1 (hdv W) t2 ln ll cur ahd) := by
  subst hs
  refine' spec_go [(Str.ofString "self", .ref c.x)] ?k6 ?k7 ?k9 ?kB ?kl ?c5 ?c2 ?c3 ?c4 (by decide) fun Z Q ok hr hn' => ?_
  (case k6 => k_is)
  (case k7 => k_is)
  (case k9 => exact fun _ => BindsTo.of_eq rfl)
  (case kB => exact locs rfl)
  (case kl => rfl)
  (case c5 => decide)
  (case c2 => exact rfl)
  (case c3 => exact rfl)
  (case c4 => exact rfl)
  refine Go.st (ι := Tok × Tok) (fun a => [(Str.ofString "self", .ref c.x), (Str.ofString "value", .int 0 a.1), (Str.ofString "many", .int 0 a.2)]) (fun _ => LX c b B i ti (hdv (V ++ W)) ts ln ll cur ahd) ?s1 fun a => ?_
  case s1 =>
    k_extra "x9"
    rename News _ _ _ _ => NN
    rename Fr _ _ _ _ => FF
    exact hQ (_, _) _ _ (fr_put2 FF rfl) (news_sub NN fun _ q => .tail _ q)
  refine Go.loop (ι := List UInt8 × Int × Nat × Tok × Tok × Int × Tok × Tok) (fun a => a.1.length) (fun a => [(Str.ofString "self", .ref c.x), (Str.ofString "value", .int a.2.1 a.2.2.2.1), (Str.ofString "many", .int a.2.2.1 a.2.2.2.2.1)])
    (fun a => LX c b B a.2.2.2.2.2.1 a.2.2.2.2.2.2.1 (hdv (a.1 ++ W)) a.2.2.2.2.2.2.2 ln ll cur ahd) (fun a => (∀ x ∈ a.1, 48 ≤ sv x ∧ sv x ≤ 57) ∧ a.1.length + a.2.2.1 = V.length ∧ dval a.2.1 a.1 = dval 0 V ∧ At c.T a.2.2.2.2.2.1 (a.1 ++ W)) (V, 0, 0, a.1, a.2, i, ti, ts) ⟨hd, rfl, rfl, hA⟩ rfl rfl ?_
  refine cu8 fun X z m tv tm i3 u3 u4 => ?_
  intro hZq
  refine @opq _ ?_
  intro Gq hGq
  obtain ⟨hx, hm, hz, hA3⟩ := hZq
  refine hGq ?_
  clear hGq Gq
  dsimp only at hx hm hz hA3 ⊢
  refine ⟨_, EvB.and (EvB.lt (EvV.isI EvV.loc) EvV.int) fun _ => EvB.val (EvV.fn1 (P1 := fun a => a = .int (hdv (X ++ W)) u4) ok (fun a ha => ha ▸ is_digit_spec prog w _ _) (EvV.sign (a_sign w) ok) (by k_is) (by k_is)), fun hb Q2 hn2 hr2 => ?_, fun hb => ?_⟩
  · simp only [Bool.and_eq_true, decide_eq_true_eq] at hb
    obtain ⟨hb1, hb2⟩ := hb
    cases X with
    | nil => simp only [List.nil_append, List.length_nil] at hb2 hm; omega
    | cons x X =>
      refine Go.asgI (fun v => [(Str.ofString "self", .ref c.x), (Str.ofString "value", .int (10 * z + sv x - 48) v), (Str.ofString "many", .int m tm)]) (((EvV.mul EvV.int (EvV.isI EvV.loc) (IntMulOk.of_left (by decide))).add (EvV.sign (a_sign w) ok).isI).sub EvV.int) fun tv => ?_
      refine Go.inc (fun t => [(Str.ofString "self", .ref c.x), (Str.ofString "value", .int (10 * z + sv x - 48) tv), (Str.ofString "many", .int ((m : Int) + 1) t)]) EvV.int fun t => ?_
      refine Go.m0S (m_go w) ok (go_st prog w hA3 hT).lift fun i4 u5 u6 hA4 => Go.nil ?_
      exact hn2 (X, 10 * z + sv x - 48, m + 1, tv, t, i4, u5, u6) (Nat.lt_succ_self _) ⟨fun y hy => hx y (.tail _ hy), by simp only [List.length_cons] at hm; show X.length + (m + 1) = _; omega, hz, hA4⟩
  · cases X with
    | cons x X =>
      have := hx x (.head _)
      simp only [Bool.and_eq_false_iff, decide_eq_false_iff_not, List.cons_append, hdv_cons, List.length_cons] at hb hm
      rcases hb with hb | hb | hb
      · omega
      · have := of_decide_eq_false hb; omega
      · have := of_decide_eq_false hb; omega
    | nil =>
      have hz : z = dval 0 V := hz
      subst hz
      refine Go.ifr (EvB.gt (EvV.isI EvV.loc) EvV.int) (fun hc => absurd hv.2 (Int.not_le.mpr (of_decide_eq_true hc))) fun _ => ?_
      refine Go.expr (EvP.m1 (P1 := fun a => a = .int (dval 0 V) tv) (m_keep w) ok EvV.loc (fun a ha => ha ▸ keep_spec prog w ⟨hv.1, by omega⟩ (by first | exact le_c (by assumption) rfl | omega))) fun v c' h => ?_
      exact ⟨h.1, Go.nil (hn' _ ⟨rfl, i3, u3, u4, hA3, h.2⟩ _)⟩
theorem rl0_91 (prog : Program) (w : World) (hA : At c.T i (91 :: 91 :: W)) (hT : c.T.length ≤ 100000) (hB : B.length ≤ 90000) :
    SpecP prog w 427 [.ref c.x] (LX c b B i ti 91 ts ln ll cur ahd) 11 110
      (fun v e => (∃ t, v = .int 0 t) ∧ ∃ i' t1 t2, At c.T i' (91 :: W) ∧ e = LX c b (B ++ [91]) i' t1 91 t2 ln ll cur ahd) := rl_spec (n := 0) prog w hA rfl (by decide) hT (by first | exact le_c (by assumption) rfl | omega)
theorem rl0_93 (prog : Program) (w : World) (hA : At c.T i (93 :: 93 :: W)) (hT : c.T.length ≤ 100000) (hB : B.length ≤ 90000) :
    SpecP prog w 427 [.ref c.x] (LX c b B i ti 93 ts ln ll cur ahd) 11 110
      (fun v e => (∃ t, v = .int 0 t) ∧ ∃ i' t1 t2, At c.T i' (93 :: W) ∧ e = LX c b (B ++ [93]) i' t1 93 t2 ln ll cur ahd) := rl_spec (n := 0) prog w hA rfl (by decide) hT (by first | exact le_c (by assumption) rfl | omega)
theorem rl1_91 (prog : Program) (w : World) (hA : At c.T i (91 :: 61 :: 91 :: W)) (hT : c.T.length ≤ 100000) (hB : B.length ≤ 90000) :
    SpecP prog w 427 [.ref c.x] (LX c b B i ti 91 ts ln ll cur ahd) 11 110
      (fun v e => (∃ t, v = .int 1 t) ∧ ∃ i' t1 t2, At c.T i' (91 :: W) ∧ e = LX c b (B ++ [91] ++ [61]) i' t1 91 t2 ln ll cur ahd) := by
  rw [List.append_assoc]
  exact rl_spec (n := 1) prog w hA rfl (by decide) hT (by first | exact le_c (by assumption) rfl | omega)
theorem rl1_93 (prog : Program) (w : World) (hA : At c.T i (93 :: 61 :: 93 :: W)) (hT : c.T.length ≤ 100000) (hB : B.length ≤ 90000) :
    SpecP prog w 427 [.ref c.x] (LX c b B i ti 93 ts ln ll cur ahd) 11 110
      (fun v e => (∃ t, v = .int 1 t) ∧ ∃ i' t1 t2, At c.T i' (93 :: W) ∧ e = LX c b (B ++ [93] ++ [61]) i' t1 93 t2 ln ll cur ahd) := by
  rw [List.append_assoc]
  exact rl_spec (n := 1) prog w hA rfl (by decide) hT (by first | exact le_c (by assumption) rfl | omega)
theorem rd_000 (prog : Program) (w : World) (hA : At c.T i (48 :: 48 :: 48 :: W)) (hT : c.T.length ≤ 100000) (hB : B.length ≤ 90000) :
    SpecP prog w 462 [.ref c.x] (LX c b B i ti 48 ts ln ll cur ahd) 11 110
      (fun v e => v = .none ∧ ∃ i' t1 t2, At c.T i' W ∧ e = LX c b (B ++ [0]) i' t1 (hdv W) t2 ln ll cur ahd) :=
  rd_spec (V := [48, 48, 48]) prog w hA rfl (by decide) (by decide) (.inl rfl) (by decide) hT hB
theorem rd_0 (prog : Program) (w : World) (hA : At c.T i (48 :: W)) (hn : hdv W < 48 ∨ 57 < hdv W) (hT : c.T.length ≤ 100000) (hB : B.length ≤ 90000) :
    SpecP prog w 462 [.ref c.x] (LX c b B i ti 48 ts ln ll cur ahd) 11 110
      (fun v e => v = .none ∧ ∃ i' t1 t2, At c.T i' W ∧ e = LX c b (B ++ [0]) i' t1 (hdv W) t2 ln ll cur ahd) :=
  rd_spec (V := [48]) prog w hA rfl (by decide) (by decide) (.inr hn) (by decide) hT hB
theorem rd_65 (prog : Program) (w : World) (hA : At c.T i (54 :: 53 :: W)) (hn : hdv W < 48 ∨ 57 < hdv W) (hT : c.T.length ≤ 100000) (hB : B.length ≤ 90000) :
    SpecP prog w 462 [.ref c.x] (LX c b B i ti 54 ts ln ll cur ahd) 11 110
      (fun v e => v = .none ∧ ∃ i' t1 t2, At c.T i' W ∧ e = LX c b (B ++ [65]) i' t1 (hdv W) t2 ln ll cur ahd) :=
  rd_spec (V := [54, 53]) prog w hA rfl (by decide) (by decide) (.inr hn) (by decide) hT hB
end
theorem reg_d815a3b5_L6 : True := by
  k_with "q POSTI" =>
    (intro v' c' h' tk' hp' F' S' N'; (obtain ⟨t', e1⟩ := hp'); subst e1; (have N' := stays0 S' (fun _ hq => nomatch hq)); clear S'; (try k_sweep); (try dsimp only))
  trivial
theorem reg_1deb28bf_L6 : True := by
  k_with "q POSTS" =>
    (intro v' c' h' tk' hp' F' S' N'; (obtain ⟨e1, i', t1, t2, hA', e2⟩ := hp'); subst e1; subst e2; clear S'; (try dsimp only [LX, hdv_cons, hdv_nil, sv_0, sv_1, sv_8, sv_9, sv_10, sv_31, sv_32, sv_34, sv_39, sv_48, sv_49, sv_50, sv_51, sv_52, sv_53, sv_54, sv_55, sv_56, sv_57, sv_61, sv_65, sv_91, sv_92, sv_93, sv_95, sv_97, sv_98, sv_100, sv_101, sv_110, sv_116, sv_120, sv_127] at N'); (try k_sweep); (try dsimp only))
  trivial
/-- what stands behind a backslash, the octet that it tells, and what is left -/
inductive Esc : List UInt8 → UInt8 → List UInt8 → Prop
  | t (W) : Esc (116 :: W) 9 W
  | d3 (W) : Esc (48 :: 48 :: 48 :: W) 0 W
  | d1 (W) : (hdv W < 48 ∨ 57 < hdv W) → Esc (48 :: W) 0 W
  | d2 (W) : (hdv W < 48 ∨ 57 < hdv W) → Esc (54 :: 53 :: W) 65 W
section
variable {c : LC} {b : Addr} {B W : List UInt8} {x : UInt8} {i sg z : Int} {ti ts t : Tok} {ln ll cur ahd : Value}
theorem said_15 : True := by
  k_with "x10" =>
    ((with_reducible show wpP _ _ (call (Value.ref 336) _) _ _ _); (first | (refine' SpecP.use (km_st _ _ ?h1 ?h2 ?h3 ?h4) ?uB ?uF ?uX ?uN ?uT ?uh ?uA ?ug ?uf ?uk ?us ?ud ?uu ?_; walk_at "close"; (case h1 => walk_at "side"); (case h2 => walk_at "side"); (case h3 => walk_at "side"); (case h4 => walk_at "side"); (case ud => k_room); (case uu => k_units); walk_at "POSTS") | walk_at "contra"))
  k_with "x11" =>
    ((with_reducible show wpAny _ _ (call (Value.ref 231) _) _ _ _); (first | (refine' Spec.use (escaped_t_spec _ _) ?uB ?uF ?uX ?uN ?uT ?uh ?uA ?ug ?uf ?uk ?us ?ud ?uu ?_; walk_at "close"; (case ud => k_room); (case uu => k_units); walk_at "POSTI") | walk_at "contra"))
  k_with "x12" =>
    ((with_reducible show wpAny _ _ (call (Value.ref 224) _) _ _ _); (first | (refine' Spec.use (is_newline_spec _ _ _ _) ?uB ?uF ?uX ?uN ?uT ?uh ?uA ?ug ?uf ?uk ?us ?ud ?uu ?_; walk_at "close"; (case ud => k_room); (case uu => k_units); walk_at "POSTN") | walk_at "contra"))
  k_with "x13" =>
    ((with_reducible show wpAny _ _ (call (Value.ref 322) _) _ _ _); (first | (refine' Spec.use (go_st _ _ ?h1 ?h2) ?uB ?uF ?uX ?uN ?uT ?uh ?uA ?ug ?uf ?uk ?us ?ud ?uu ?_; walk_at "close"; (case h1 => walk_at "side"); (case h2 => walk_at "side"); (case ud => k_room); (case uu => k_units); walk_at "POSTS") | walk_at "contra"))
  k_with "x14" =>
    (refine' hret _ _ _ _ (Fr.keep (by assumption)) (fr_size (by assumption)) (has_of (by assumption) (fun _ hq => hq)) ⟨rfl, _, _, _, by assumption, rfl⟩)
  trivial
set_option maxHeartbeats 8000000 in
theorem re_t (prog : Program) (w : World) (hA : At c.T i (116 :: W)) (hT : c.T.length ≤ 100000) (hB : B.length ≤ 90000) :
    SpecP prog w 455 [.ref c.x] (LX c b B i ti 116 ts ln ll cur ahd) 16 160
      (fun v e => v = .none ∧ ∃ i' t1 t2, At c.T i' W ∧ e = LX c b (B ++ [9]) i' t1 (hdv W) t2 ln ll cur ahd) := by
  rintro p loose mean mg mb dp un outer base g ⟨hs0, gs0, ds0, tk0, os0⟩ R B' X' T' sub sz hC hdp hun hret
  refine' enterP X' T' sub sz hC ?k6 ?k7 ?k8 ?k9 ?kB ?_ ?c5 ?c2 ?c3 ?c4
  (case k6 => k_is)
  (case k7 => k_is)
  (case k8 => exact room0 hdp)
  (case k9 => exact BindsTo.of_eq rfl)
  (case kB => exact locs rfl)
  (case c5 => decide)
  (case c2 => exact rfl)
  (case c3 => exact rfl)
  (case c4 => exact rfl)
  intro L' h' F' N' l1
  (try k_lt l1)
  clear sub sz hC
  (try dsimp only)
  (try k_fold)
  (try dsimp only [LX] at N' l1)
  (first | refine W_start fun Q0 E0 k1 k2 k3 hPO => ?_ | refine P_start fun Q0 E0 k1 k2 k3 hPO => ?_)
  (repeat' (first 
    | k_extra "x5"
    | k_extra "x10"
    | k_extra "x11"
    | k_extra "x12"
    | k_extra "x7"
    | k_extra "x13"
    | walk_at "pstep"))
  all_goals k_extra "x14"
set_option maxHeartbeats 8000000 in
theorem re_000 (prog : Program) (w : World) (hA : At c.T i (48 :: 48 :: 48 :: W)) (hT : c.T.length ≤ 100000) (hB : B.length ≤ 90000) :
    SpecP prog w 455 [.ref c.x] (LX c b B i ti 48 ts ln ll cur ahd) 16 160
      (fun v e => v = .none ∧ ∃ i' t1 t2, At c.T i' W ∧ e = LX c b (B ++ [0]) i' t1 (hdv W) t2 ln ll cur ahd) := by
  rintro p loose mean mg mb dp un outer base g ⟨hs0, gs0, ds0, tk0, os0⟩ R B' X' T' sub sz hC hdp hun hret
  refine' enterP X' T' sub sz hC ?k6 ?k7 ?k8 ?k9 ?kB ?_ ?c5 ?c2 ?c3 ?c4
  (case k6 => k_is)
  (case k7 => k_is)
  (case k8 => exact room0 hdp)
  (case k9 => exact BindsTo.of_eq rfl)
  (case kB => exact locs rfl)
  (case c5 => decide)
  (case c2 => exact rfl)
  (case c3 => exact rfl)
  (case c4 => exact rfl)
  intro L' h' F' N' l1
  (try k_lt l1)
  clear sub sz hC
  (try dsimp only)
  (try k_fold)
  (try dsimp only [LX] at N' l1)
  (first | refine W_start fun Q0 E0 k1 k2 k3 hPO => ?_ | refine P_start fun Q0 E0 k1 k2 k3 hPO => ?_)
  (repeat' (first 
    | k_extra "x5"
    | k_extra "x10"
    | ((with_reducible show wpP _ _ (call (Value.ref 462) _) _ _ _); (first | (refine' SpecP.use (rd_000 _ _ ?h1 ?h2 ?h3) ?uB ?uF ?uX ?uN ?uT ?uh ?uA ?ug ?uf ?uk ?us ?ud ?uu ?_; walk_at "close"; (case h1 => walk_at "side"); (case h2 => walk_at "side"); (case h3 => walk_at "side"); (case ud => k_room); (case uu => k_units); walk_at "POSTS") | walk_at "contra"))
    | k_extra "x11"
    | k_extra "x12"
    | k_extra "x7"
    | k_extra "x13"
    | walk_at "pstep"))
  all_goals k_extra "x14"
set_option maxHeartbeats 8000000 in
theorem re_0 (prog : Program) (w : World) (hA : At c.T i (48 :: W)) (hn : hdv W < 48 ∨ 57 < hdv W) (hT : c.T.length ≤ 100000) (hB : B.length ≤ 90000) :
    SpecP prog w 455 [.ref c.x] (LX c b B i ti 48 ts ln ll cur ahd) 16 160
      (fun v e => v = .none ∧ ∃ i' t1 t2, At c.T i' W ∧ e = LX c b (B ++ [0]) i' t1 (hdv W) t2 ln ll cur ahd) := by
  rintro p loose mean mg mb dp un outer base g ⟨hs0, gs0, ds0, tk0, os0⟩ R B' X' T' sub sz hC hdp hun hret
  refine' enterP X' T' sub sz hC ?k6 ?k7 ?k8 ?k9 ?kB ?_ ?c5 ?c2 ?c3 ?c4
  (case k6 => k_is)
  (case k7 => k_is)
  (case k8 => exact room0 hdp)
  (case k9 => exact BindsTo.of_eq rfl)
  (case kB => exact locs rfl)
  (case c5 => decide)
  (case c2 => exact rfl)
  (case c3 => exact rfl)
  (case c4 => exact rfl)
  intro L' h' F' N' l1
  (try k_lt l1)
  clear sub sz hC
  (try dsimp only)
  (try k_fold)
  (try dsimp only [LX] at N' l1)
  (first | refine W_start fun Q0 E0 k1 k2 k3 hPO => ?_ | refine P_start fun Q0 E0 k1 k2 k3 hPO => ?_)
  (repeat' (first 
    | ((with_reducible show wpP _ _ (call (Value.ref 462) _) _ _ _); (first | (refine' SpecP.use (rd_0 _ _ ?h1 ?h2 ?h3 ?h4) ?uB ?uF ?uX ?uN ?uT ?uh ?uA ?ug ?uf ?uk ?us ?ud ?uu ?_; walk_at "close"; (case h1 => walk_at "side"); (case h2 => walk_at "side"); (case h3 => walk_at "side"); (case h4 => walk_at "side"); (case ud => k_room); (case uu => k_units); walk_at "POSTS") | walk_at "contra"))
    | k_extra "x11"
    | k_extra "x12"
    | k_extra "x7"
    | k_extra "x13"
    | walk_at "pstep"))
  all_goals k_extra "x14"
set_option maxHeartbeats 8000000 in
theorem re_65 (prog : Program) (w : World) (hA : At c.T i (54 :: 53 :: W)) (hn : hdv W < 48 ∨ 57 < hdv W) (hT : c.T.length ≤ 100000) (hB : B.length ≤ 90000) :
    SpecP prog w 455 [.ref c.x] (LX c b B i ti 54 ts ln ll cur ahd) 16 160
      (fun v e => v = .none ∧ ∃ i' t1 t2, At c.T i' W ∧ e = LX c b (B ++ [65]) i' t1 (hdv W) t2 ln ll cur ahd) := by
  rintro p loose mean mg mb dp un outer base g ⟨hs0, gs0, ds0, tk0, os0⟩ R B' X' T' sub sz hC hdp hun hret
  refine' enterP X' T' sub sz hC ?k6 ?k7 ?k8 ?k9 ?kB ?_ ?c5 ?c2 ?c3 ?c4
  (case k6 => k_is)
  (case k7 => k_is)
  (case k8 => exact room0 hdp)
  (case k9 => exact BindsTo.of_eq rfl)
  (case kB => exact locs rfl)
  (case c5 => decide)
  (case c2 => exact rfl)
  (case c3 => exact rfl)
  (case c4 => exact rfl)
  intro L' h' F' N' l1
  (try k_lt l1)
  clear sub sz hC
  (try dsimp only)
  (try k_fold)
  (try dsimp only [LX] at N' l1)
  (first | refine W_start fun Q0 E0 k1 k2 k3 hPO => ?_ | refine P_start fun Q0 E0 k1 k2 k3 hPO => ?_)
  (repeat' (first 
    | ((with_reducible show wpP _ _ (call (Value.ref 462) _) _ _ _); (first | (refine' SpecP.use (rd_65 _ _ ?h1 ?h2 ?h3 ?h4) ?uB ?uF ?uX ?uN ?uT ?uh ?uA ?ug ?uf ?uk ?us ?ud ?uu ?_; walk_at "close"; (case h1 => walk_at "side"); (case h2 => walk_at "side"); (case h3 => walk_at "side"); (case h4 => walk_at "side"); (case ud => k_room); (case uu => k_units); walk_at "POSTS") | walk_at "contra"))
    | k_extra "x11"
    | k_extra "x12"
    | k_extra "x7"
    | k_extra "x13"
    | walk_at "pstep"))
  all_goals k_extra "x14"
theorem re_spec {V : List UInt8} {r : UInt8} (prog : Program) (w : World) (hE : Esc V r W) (hA : At c.T i V) (hs : sg = hdv V) (hT : c.T.length ≤ 100000) (hB : B.length ≤ 90000) :
    SpecP prog w 455 [.ref c.x] (LX c b B i ti sg ts ln ll cur ahd) 16 160
      (fun v e => v = .none ∧ ∃ i' t1 t2, At c.T i' W ∧ e = LX c b (B ++ [r]) i' t1 (hdv W) t2 ln ll cur ahd) := by
  subst hs
  cases hE with
  | t => exact re_t prog w hA hT hB
  | d3 => exact re_000 prog w hA hT hB
  | d1 _ h => exact re_0 prog w hA h hT hB
  | d2 _ h => exact re_65 prog w hA h hT hB
end
theorem off_G3 : True := by
  w_top off
  trivial
theorem P_IfExp {M : Model} {A : Around} {env : Env} {E : Value → Shared → Prop} {s : Shared} {test body orelse : PySem.Expr} {pos : Pos} {Q : Value → Shared → Prop}
    (h : wpP M A (isTrue test env (eval test env)) (fun c s₂ => if c then wpP M A (eval body env) Q E s₂ else wpP M A (eval orelse env) Q E s₂) E s) : wpP M A (eval (.IfExp test body orelse pos) env) Q E s := by
  rw [arm_eval_IfExp]
  refine P_bind (P_mono h (fun b s₁ h₁ => ?_) fun _ _ x => x)
  cases b <;> exact h₁
section
variable {prog : Program} {w : World} {φ : Fn} {Z : Zc} {l : List (Str × Value)} {core : List (Addr × Obj)} {Q : Flow → Shared → Prop} {D U d u : Nat} {f : Addr} {post : Value → List (Addr × Obj) → Prop} {t e e1 e2 : PySem.Expr} {pos p1 p2 p3 : Pos}
  {P1 : Value → Prop} {post1 post2 : Value → List (Addr × Obj) → Prop} {postB : Bool → List (Addr × Obj) → Prop} {rest : List Stmt}
set_option maxHeartbeats 8000000 in
/-- a Token is made -/
theorem tok_make (ok : OK w Z D U) (hk : φ.cs.kind = .function) (hD : 10 ≤ D) (hU : 100 ≤ U) (kv vv : Value) (Q : Value → Shared → Prop) (E : Value → Shared → Prop) (h0 : Heap) (tk0 : Nat) (F' : Fr Z.g Z.L h0 (lk l)) (N' : News Z.g Z.L h0 core)
    (hQ : ∀ x dx k h' tk', Fr Z.g Z.L h' (lk l) → News Z.g Z.L h' (TKL x dx k kv vv core) → Q (.ref x) (Z.s h' tk')) : wpAny (model prog w) (Z.A φ) (call (.ref 262) [kv, vv]) Q E (Z.s h0 tk0) := by
  obtain ⟨⟨p, loose, mean, mg, mb, base, B', X', T'⟩, hdp, hun⟩ := ok
  obtain ⟨cn, ⟨kind, names, gen, cor, cst⟩, a, cd⟩ := φ
  dsimp only at hk
  subst hk
  dsimp only [Zc.env, Zc.A, Zc.s]
  k_extra "x3"
  rename News _ _ _ _ => NN
  rename Fr _ _ _ _ => FF
  exact hQ _ _ ⟨_, _, _, _⟩ _ _ FF (news_sub NN fun _ q => by simpa only [List.mem_cons, or_left_comm] using q)
/-- `Token(e1, e2)`: the second part may call -/
theorem EvP.token (ok : OK w Z D U) (v₁ : EvV prog w φ Z l core e1 P1) (v₂ : EvP prog w φ Z l core e2 post) (hg : nsIn (hd.heap_1 w.params) mainGlobals (Str.ofString "Token") = some (some (.ref 262))) (hkeep : keepIn (hd.heap_1 w.params) (.ref 262) = true) (hD : 10 ≤ D := by decide) (hU : 100 ≤ U := by decide)
    (hx : ∀ L, (envOf φ.cn φ.cs L φ.a φ.cd).kindOf (Str.ofString "Token") = some .globalImplicit := by intro _; rfl) (hk : φ.cs.kind = .function := by rfl)
    (he : ∀ L, starEach [e1, e2] (envOf φ.cn φ.cs L φ.a φ.cd) = (false, eval e1 (envOf φ.cn φ.cs L φ.a φ.cd)) :: starEach [e2] (envOf φ.cn φ.cs L φ.a φ.cd) := by intro _; rfl)
    (he2 : ∀ L, starEach [e2] (envOf φ.cn φ.cs L φ.a φ.cd) = (false, eval e2 (envOf φ.cn φ.cs L φ.a φ.cd)) :: starEach [] (envOf φ.cn φ.cs L φ.a φ.cd) := by intro _; rfl)
    (hc : ∀ L, eval (.Call (.Name (Str.ofString "Token") p1) [e1, e2] [] p2) (envOf φ.cn φ.cs L φ.a φ.cd) = (do callWith p2 (← eval (.Name (Str.ofString "Token") p1) (envOf φ.cn φ.cs L φ.a φ.cd)) [] (backTo p2 (starEach [e1, e2] (envOf φ.cn φ.cs L φ.a φ.cd))) (backToKw p2 (keywordEach [] (envOf φ.cn φ.cs L φ.a φ.cd)))) := by intro _; rfl) :
    EvP prog w φ Z l core (.Call (.Name (Str.ofString "Token") p1) [e1, e2] [] p2) (fun v c' => ∃ x dx k kv vv c2, P1 kv ∧ post vv c2 ∧ v = .ref x ∧ c' = TKL x dx k kv vv c2) := fun Q E h tk F N hQ => by
  have ok' := ok
  obtain ⟨⟨p, loose, mean, mg, mb, base, B', X', T'⟩, h1, h2⟩ := ok
  refine P_Call (nameX_K F X' (topRead_of T') hg ?_ hk (hx _) (by decide)) (hc _)
  refine P_callWith_KP X' hkeep ?_ (he _) (by show (backTo p2 (starEach [e2] (Z.env φ))).any (·.1) = false; rw [he2]; rfl)
  refine P_spliced_e (P_lift (v₁ _ E h tk F N fun kv h' tk' pk F' N' => ?_)) (he _)
  refine P_spliced_e (v₂ _ E h' tk' F' N' fun vv c2 h3 tk3 pv F3 N3 => ?_) (he2 _)
  refine P_spliced_e0 ⟨X'.keeps F3.keep, P_lift ?_⟩
  exact tok_make ok' hk hD hU kv vv Q E h3 tk3 F3 N3 fun x dx k h4 tk4 F4 N4 => hQ _ _ h4 tk4 ⟨x, dx, k, kv, vv, c2, pk, pv, rfl, rfl⟩ F4 N4
theorem EvC.val (v₁ : EvP prog w φ Z l core t post) (hb : ∀ v c', post v c' → ∃ b, v = .bool b ∧ postB b c') (ht : ∀ L, isTrue t (envOf φ.cn φ.cs L φ.a φ.cd) (eval t (envOf φ.cn φ.cs L φ.a φ.cd)) = (do let v ← eval t (envOf φ.cn φ.cs L φ.a φ.cd); standAt t.pos; holding [v] (truthy v)) := by intro _; rfl) :
    EvC prog w φ Z l core t postB := fun Q E h tk F N hQ => by
  show wpP _ _ (isTrue t (envOf φ.cn φ.cs Z.L φ.a φ.cd) (eval t (envOf φ.cn φ.cs Z.L φ.a φ.cd))) _ _ _
  rw [ht]
  refine P_bind (v₁ _ E h tk F N fun v c' h' tk' p F' N' => P_bind (P_standAt (P_holding (P_lift ?_))))
  obtain ⟨b, rfl, pb⟩ := hb v c' p
  exact wpAny_truthy_bool (hQ b c' h' tk' pb F' N')
theorem Go.pass (k : Go prog w φ Z l core rest Q) : Go prog w φ Z l core (.Pass pos :: rest) Q := fun E h tk F N => P_stmt (by rw [arm_exec_Pass]; exact wpAny_bind (wpAny_standAt (wpAny_pure (k E h tk F N))))
theorem Go.ret0 (k : Rt Z core .none Q) : Go prog w φ Z l core (.Return none pos :: rest) Q := fun E h tk F N => P_stmt (wpAny_Return_none (k h tk l F N))
theorem EvV.bytes {bs : List UInt8} {nt : Nat} : EvV prog w φ Z l core (.Constant (.bytes bs) nt p1) (fun v => ∃ t, v = .bytes bs.toArray t) := fun Q E h tk F N hQ => Constant_bytes (hQ _ h _ ⟨_, rfl⟩ F N)
theorem EvV.none {nt : Nat} : EvV prog w φ Z l core (.Constant .none nt p1) (fun v => v = .none) := fun _ _ h _ F N hQ => wpAny_Constant_none (hQ _ h _ rfl F N)
theorem EvV.bool {bv : Bool} {nt : Nat} : EvV prog w φ Z l core (.Constant (.bool bv) nt p1) (fun v => v = .bool bv) := fun _ _ h _ F N hQ => Constant_bool (hQ _ h _ rfl F N)
theorem EvP.iteT (t₁ : EvB prog w φ Z l core t true) (v₁ : EvP prog w φ Z l core e1 post) : EvP prog w φ Z l core (.IfExp t e1 e2 pos) post := fun Q E h tk F N hQ =>
  P_IfExp (P_lift (t₁ _ E h tk F N fun h1 tk1 F1 N1 => v₁ _ E h1 tk1 F1 N1 hQ))
theorem EvP.iteF (t₁ : EvB prog w φ Z l core t false) (v₁ : EvP prog w φ Z l core e2 post) : EvP prog w φ Z l core (.IfExp t e1 e2 pos) post := fun Q E h tk F N hQ =>
  P_IfExp (P_lift (t₁ _ E h tk F N fun h1 tk1 F1 N1 => v₁ _ E h1 tk1 F1 N1 hQ))
/-- a while that is not entered -/
theorem Go.whileF {body : List Stmt} (t₁ : EvB prog w φ Z l core t false) (k : Go prog w φ Z l core rest Q) : Go prog w φ Z l core (.While t body [] pos :: rest) Q :=
  Go.loop (ι := Unit) (fun _ => 0) (fun _ => l) (fun _ => core) (fun _ => True) () trivial rfl rfl fun _ _ => ⟨false, t₁, fun h => (nomatch h), fun _ => k⟩
theorem EvC.eqP {n m : Int} {PC : List (Addr × Obj) → Prop} (v₁ : EvP prog w φ Z l core e1 (fun v c' => IsI n v ∧ PC c')) (v₂ : ∀ c', PC c' → EvV prog w φ Z l c' e2 (IsI m)) (hm : behindInMarks .Eq e2 = false := by rfl) :
    EvC prog w φ Z l core (.Compare e1 [.Eq] [e2] pos) (fun b c' => b = (n == m) ∧ PC c') := fun Q E h tk F N hQ =>
  P_isTrue_Compare1 (v₁ _ E h tk F N fun a c' h1 tk1 p1 F1 N1 => v₂ c' p1.2 _ E h1 tk1 F1 N1 fun b h2 tk2 p2 F2 N2 => by
    obtain ⟨⟨t, rfl⟩, pc⟩ := p1
    obtain ⟨u, rfl⟩ := p2
    exact eq_int (wpAny_truthy_bool (hQ _ c' h2 tk2 ⟨rfl, pc⟩ F2 N2))) hm
/-- a method's call with two arguments -/
theorem EvP.m2 {name : Str} {P2 : Value → Prop} {c : LC} {b : Addr} {B : List UInt8} {i sg : Int} {ti ts : Tok} {ln ll cur ahd : Value} (M : LxM w name f) (ok : OK w Z D U) (v₁ : EvV prog w φ Z l (LX c b B i ti sg ts ln ll cur ahd) e1 P1) (v₂ : EvV prog w φ Z l (LX c b B i ti sg ts ln ll cur ahd) e2 P2)
    (S : ∀ a a', P1 a → P2 a' → SpecP prog w f [.ref c.x, a, a'] (LX c b B i ti sg ts ln ll cur ahd) d u post) (hD : 1 + d ≤ D := by decide) (hU : 4 + u ≤ U := by decide)
    (hs : lk l (Str.ofString "self") = some (.ref c.x) := by rfl) (hx : ∀ L, (envOf φ.cn φ.cs L φ.a φ.cd).kindOf (Str.ofString "self") = some .local := by intro _; rfl) (hk : φ.cs.kind = .function := by rfl)
    (he : ∀ L, MethAt (envOf φ.cn φ.cs L φ.a φ.cd) (Str.ofString "self") name p1 p2 p3 [e1, e2] := by intro _; rfl)
    (ha : ∀ L, starEach [e1, e2] (envOf φ.cn φ.cs L φ.a φ.cd) = (false, eval e1 (envOf φ.cn φ.cs L φ.a φ.cd)) :: starEach [e2] (envOf φ.cn φ.cs L φ.a φ.cd) := by intro _; rfl)
    (ha2 : ∀ L, starEach [e2] (envOf φ.cn φ.cs L φ.a φ.cd) = (false, eval e2 (envOf φ.cn φ.cs L φ.a φ.cd)) :: starEach [] (envOf φ.cn φ.cs L φ.a φ.cd) := by intro _; rfl) :
    EvP prog w φ Z l (LX c b B i ti sg ts ln ll cur ahd) (.Call (.Attribute (.Name (Str.ofString "self") p1) name p2) [e1, e2] [] p3) post := fun Q E h tk F N hQ => by
  obtain ⟨⟨p, loose, mean, mg, mb, base, B', X', T'⟩, h1, h2⟩ := ok
  refine P_methodCall0 (nameX_L F hs (method_inst F X' (lx_inst N) M.get M.fn M.isf (M.none ..) ?_) hk (hx _) (by decide)) (he _)
  refine P_callWith_K X' M.keep (args_cons (v₁ _ E h tk F N fun a h' tk' pa F' N' => args_cons (v₂ _ E h' tk' F' N' fun a' h2' tk2' pa' F2' N2' => args_nil ⟨X'.keeps F2'.keep, ?_⟩) (ha2 _)) (ha _)) (ha _) (by show (backTo p3 (starEach [e2] (Z.env φ))).any (·.1) = false; rw [ha2]; rfl)
  refine SpecP.use (S a a' pa pa') B' F2' X' N2' T' rfl rfl rfl rfl hk (fun _ q => q) ?_ ?_ fun v core' h2 tk2 hp F2 _ N2 => hQ v core' h2 tk2 hp F2 N2
  · simp only [depth_deeper]; omega
  · simp only [units_deeper]; omega
end
theorem off_L7 : True := by
  w_top off
  trivial
/-- letters and escapes, what they tell, and what is left behind them -/
inductive Inn (E : List UInt8) : List UInt8 → List UInt8 → Prop
  | nil : Inn E E []
  | ch (x W R) : (x = 97 ∨ x = 32 ∨ x = 98 ∨ x = 0) → Inn E W R → Inn E (x :: W) (x :: R)
  | esc (V r W R) : Esc V r W → Inn E W R → Inn E (92 :: V) (r :: R)
theorem Esc.len {V : List UInt8} {r : UInt8} {W : List UInt8} (h : Esc V r W) : W.length < V.length := by cases h <;> simp <;> omega
theorem ch_sign {x : UInt8} (h : x = 97 ∨ x = 32 ∨ x = 98 ∨ x = 0) : (sv x ≠ -1 ∧ sv x ≠ 10 ∧ sv x ≠ 13) ∧ sv x ≠ 92 ∧ sv x ≠ 34 ∧ sv x ≠ 39 := by rcases h with rfl | rfl | rfl | rfl <;> decide
/-- the sign at which a text between quotes stands -/
theorem Inn.sign {E V R : List UInt8} (h : Inn E V R) (hn : hdv V ≠ hdv E) : hdv V ≠ -1 ∧ hdv V ≠ 10 ∧ hdv V ≠ 13 := by
  cases h with
  | nil => exact absurd rfl hn
  | ch x W R hx _ => exact (ch_sign hx).1
  | esc V r W R _ _ => exact (by decide : sv 92 ≠ -1 ∧ sv 92 ≠ 10 ∧ sv 92 ≠ 13)
theorem m_esc (w : World) : LxM w (Str.ofString "read_escape") 455 := ⟨by k_is, by k_is, by k_is, by k_is, by intros; rfl⟩
theorem nl_no {n : Int} (h : n ≠ 10 ∧ n ≠ 13) : (n == 10 || n == 13) = false := by simp [h.1, h.2]
section
variable {c : LC} {b : Addr} {B W : List UInt8} {x : UInt8} {i sg z : Int} {ti ts t : Tok} {ln ll cur ahd : Value}
set_option maxHeartbeats 8000000 in
theorem rs_spec {q : UInt8} {V R0 : List UInt8} (prog : Program) (w : World) (hq : q = 34 ∨ q = 39) (hQ : Inn (q :: W) V R0) (hA : At c.T i (q :: V)) (hT : c.T.length ≤ 80000) (hR : R0.length ≤ 80000) :
    SpecP prog w 448 [.ref c.x, .int (sv q) t] (LX c b [] i ti (sv q) ts ln ll cur ahd) 30 300
      (fun v e => ∃ x dx k u1 u2 i' t1 t2, v = .ref x ∧ At c.T i' W ∧ e = TKL x dx k (.int 286 u1) (.bytes R0.toArray u2) (LX c b (q :: R0 ++ [q]) i' t1 (hdv W) t2 ln ll cur ahd)) := by
  refine' spec_go [(Str.ofString "quote", .int (sv q) t), (Str.ofString "self", .ref c.x)] ?k6 ?k7 ?k9 ?kB ?kl ?c5 ?c2 ?c3 ?c4 (by decide) fun Z Q ok hr hn' => ?_
  (case k6 => k_is)
  (case k7 => k_is)
  (case k9 => exact fun _ => BindsTo.of_eq rfl)
  (case kB => exact locs rfl)
  (case kl => rfl)
  (case c5 => decide)
  (case c2 => exact rfl)
  (case c3 => exact rfl)
  (case c4 => exact rfl)
  refine Go.m0S (m_km w) ok (km_st prog w hA (by first | exact le_c (by assumption) rfl | omega) rfl (by simp)) fun i1 u1 u2 hA1 => ?_
  refine Go.loop (ι := List UInt8 × List UInt8 × List UInt8 × Int × Tok × Tok) (fun a => a.1.length) (fun a => [(Str.ofString "quote", .int (sv q) t), (Str.ofString "self", .ref c.x)]) (fun a => LX c b (q :: a.2.1) a.2.2.2.1 a.2.2.2.2.1 (hdv a.1) a.2.2.2.2.2 ln ll cur ahd)
    (fun a => Inn (q :: W) a.1 a.2.2.1 ∧ a.2.1 ++ a.2.2.1 = R0 ∧ At c.T a.2.2.2.1 a.1) (V, [], R0, i1, u1, u2) ⟨hQ, rfl, hA1⟩ rfl rfl ?_
  clear hQ hA1 hA
  refine cu6 fun V R1 R2 i1 u1 u2 => ?_
  rintro ⟨hI, hR0, hA⟩
  dsimp only at hI hR0 hA ⊢
  have hlen : R1.length ≤ 80000 := by rw [← hR0, List.length_append] at hR; omega
  refine ⟨_, EvB.ne (EvV.sign (a_sign w) ok).isI (EvV.isI EvV.loc), fun hb Q2 hn2 hr2 => ?_, fun hb => ?_⟩
  · have hsg := hI.sign (E := q :: W) fun e => by rw [hdv_cons] at e; rw [e] at hb; simp at hb
    refine Go.ifl (EvB.eq (EvV.sign (a_sign w) ok).isI (EvV.isI (EvV.glob ok (by k_is)))) (fun hc => absurd (beq_iff_eq.mp hc) hsg.1) fun _ => ?_
    refine Go.ifl ((EvB.val (EvV.fn1 (P1 := fun a => a = .int (hdv V) u2) ok (fun a ha => ha ▸ is_newline_spec prog w _ _) (EvV.sign (a_sign w) ok) (by k_is) (by k_is))).to (nl_no hsg.2)) (fun hc => nomatch hc) fun _ => ?_
    refine Go.ifl (EvB.eq (EvV.sign (a_sign w) ok).isI (EvV.isI (EvV.glob ok (by k_is)))) (fun hc => ?_) fun hc => ?_
    · have hc : hdv V = 92 := beq_iff_eq.mp hc
      cases hI with
      | nil => rw [hdv_cons] at hb; simp at hb
      | ch x W' R hx _ => exact absurd hc (ch_sign hx).2.1
      | esc V' r W' R hE hI' =>
        refine Go.m0S (m_go w) ok (go_st prog w hA (by first | exact le_c (by assumption) rfl | omega)).lift fun i2 u3 u4 hA2 => ?_
        refine Go.m0S (m_esc w) ok (re_spec prog w hE hA2 rfl (by first | exact le_c (by assumption) rfl | omega) (by simp; omega)) fun i3 u5 u6 hA3 => Go.nil ?_
        exact hn2 (W', R1 ++ [r], R, i3, u5, u6) (Nat.lt_succ_of_lt hE.len) ⟨hI', by rw [← hR0]; simp, hA3⟩
    · cases hI with
      | nil => rw [hdv_cons] at hb; simp at hb
      | ch x W' R hx hI' =>
        refine Go.m0S (m_km w) ok (km_st prog w hA (by first | exact le_c (by assumption) rfl | omega) rfl (by simp; omega)) fun i2 u3 u4 hA2 => Go.nil ?_
        exact hn2 (W', R1 ++ [x], R, i2, u3, u4) (Nat.lt_succ_self _) ⟨hI', by rw [← hR0]; simp, hA2⟩
      | esc V' r W' R hE hI' => exact absurd (show (sv 92 == 92) = false from hc) (by decide)
  · have he : V = q :: W ∧ R2 = [] := by
      have hb : hdv V = sv q := by simpa using hb
      cases hI with
      | nil => exact ⟨rfl, rfl⟩
      | ch x W' R hx _ =>
        rcases hq with rfl | rfl
        · exact absurd hb (ch_sign hx).2.2.1
        · exact absurd hb (ch_sign hx).2.2.2
      | esc V' r W' R hE hI' => rcases hq with rfl | rfl <;> exact absurd (show sv 92 = sv _ from hb) (by decide)
    obtain ⟨rfl, rfl⟩ := he
    obtain rfl : R1 = R0 := by simpa using hR0
    refine Go.m0S (m_km w) ok (km_st prog w hA (by first | exact le_c (by assumption) rfl | omega) rfl (by simp; omega)) fun i2 u3 u4 hA2 => ?_
    refine Go.ret (EvP.token ok (EvV.glob ok (by k_is)) (EvV.p (P := fun v => ∃ t, v = .bytes R1.toArray t) ?e1) (by k_is) (by k_is)) fun v c' h => ?_
    case e1 =>
      k_extra "x9"
      rename News _ _ _ _ => NN
      exact hQ _ _ _ ⟨_, rfl⟩ (by assumption) (news_sub NN fun _ q => .tail _ q)
    obtain ⟨x, dx, k, kv, vv, c2, rfl, ⟨⟨t, rfl⟩, rfl⟩, rfl, rfl⟩ := h
    exact hr _ _ ⟨x, dx, k, _, t, i2, u3, u4, rfl, hA2, rfl⟩
theorem rs_34 {V R0 : List UInt8} (prog : Program) (w : World) (hQ : Inn (34 :: W) V R0) (hA : At c.T i (34 :: V)) (hT : c.T.length ≤ 80000) (hR : R0.length ≤ 80000) :
    SpecP prog w 448 [.ref c.x, .int 34 t] (LX c b [] i ti 34 ts ln ll cur ahd) 30 300
      (fun v e => ∃ x dx k u1 u2 i' t1 t2, v = .ref x ∧ At c.T i' W ∧ e = TKL x dx k (.int 286 u1) (.bytes R0.toArray u2) (LX c b (34 :: R0 ++ [34]) i' t1 (hdv W) t2 ln ll cur ahd)) := rs_spec (q := 34) prog w (.inl rfl) hQ hA hT hR
theorem rs_39 {V R0 : List UInt8} (prog : Program) (w : World) (hQ : Inn (39 :: W) V R0) (hA : At c.T i (39 :: V)) (hT : c.T.length ≤ 80000) (hR : R0.length ≤ 80000) :
    SpecP prog w 448 [.ref c.x, .int 39 t] (LX c b [] i ti 39 ts ln ll cur ahd) 30 300
      (fun v e => ∃ x dx k u1 u2 i' t1 t2, v = .ref x ∧ At c.T i' W ∧ e = TKL x dx k (.int 286 u1) (.bytes R0.toArray u2) (LX c b (39 :: R0 ++ [39]) i' t1 (hdv W) t2 ln ll cur ahd)) := rs_spec (q := 39) prog w (.inr rfl) hQ hA hT hR
end
theorem off_L8 : True := by
  w_top off
  trivial
section
variable {c : LC} {b : Addr} {B W : List UInt8} {x : UInt8} {i sg z : Int} {ti ts t : Tok} {ln ll cur ahd : Value}
set_option maxHeartbeats 8000000 in
theorem sb_32 (prog : Program) (w : World) (hA : At c.T i (32 :: W)) (hT : c.T.length ≤ 100000) :
    SpecP prog w 371 [.ref c.x] (LX c b B i ti 32 ts ln ll cur ahd) 7 70
      (fun v e => v = .bool true ∧ ∃ i' t1 t2, At c.T i' W ∧ e = LX c b B i' t1 (hdv W) t2 ln ll cur ahd) := by
  refine' spec_go [(Str.ofString "self", .ref c.x)] ?k6 ?k7 ?k9 ?kB ?kl ?c5 ?c2 ?c3 ?c4 (by decide) fun Z Q ok hr hn' => ?_
  (case k6 => k_is)
  (case k7 => k_is)
  (case k9 => exact fun _ => BindsTo.of_eq rfl)
  (case kB => exact locs rfl)
  (case kl => rfl)
  (case c5 => decide)
  (case c2 => exact rfl)
  (case c3 => exact rfl)
  (case c4 => exact rfl)
  refine Go.ifr (EvB.val (EvV.fn1 (P1 := fun a => a = .int 32 ts) ok (fun a ha => ha ▸ is_newline_spec prog w _ _) (EvV.sign (a_sign w) ok) (by k_is) (by k_is))) (fun hc => absurd hc (by decide)) fun _ => ?_
  refine Go.ifr (EvB.val (EvV.fn1 (P1 := fun a => a = .int 32 ts) ok (fun a ha => ha ▸ is_blank_spec prog w _ _) (EvV.sign (a_sign w) ok) (by k_is) (by k_is))) (fun _ => ?_) fun hc => absurd hc (by decide)
  refine Go.m0S (m_go w) ok (go_st prog w hA hT).lift fun i1 u1 u2 hA1 => ?_
  exact Go.retE EvV.bool (hr _ _ ⟨rfl, i1, u1, u2, hA1, rfl⟩)
set_option maxHeartbeats 8000000 in
theorem sb_no (prog : Program) (w : World) (hs : sg ≠ 10 ∧ sg ≠ 13 ∧ sg ≠ 32 ∧ (sg < 9 ∨ 13 < sg) ∧ sg ≠ 45) :
    SpecP prog w 371 [.ref c.x] (LX c b B i ti sg ts ln ll cur ahd) 7 70
      (fun v e => v = .bool false ∧ e = LX c b B i ti sg ts ln ll cur ahd) := by
  refine' spec_go [(Str.ofString "self", .ref c.x)] ?k6 ?k7 ?k9 ?kB ?kl ?c5 ?c2 ?c3 ?c4 (by decide) fun Z Q ok hr hn' => ?_
  (case k6 => k_is)
  (case k7 => k_is)
  (case k9 => exact fun _ => BindsTo.of_eq rfl)
  (case kB => exact locs rfl)
  (case kl => rfl)
  (case c5 => decide)
  (case c2 => exact rfl)
  (case c3 => exact rfl)
  (case c4 => exact rfl)
  refine Go.ifr ((EvB.val (EvV.fn1 (P1 := fun a => a = .int sg ts) ok (fun a ha => ha ▸ is_newline_spec prog w _ _) (EvV.sign (a_sign w) ok) (by k_is) (by k_is))).to (nl_no ⟨hs.1, hs.2.1⟩)) (fun hc => nomatch hc) fun _ => ?_
  refine Go.ifr (b := false) ((EvB.val (EvV.fn1 (P1 := fun a => a = .int sg ts) ok (fun a ha => ha ▸ is_blank_spec prog w _ _) (EvV.sign (a_sign w) ok) (by k_is) (by k_is))).to ?b) (fun hc => nomatch hc) fun _ => ?_
  case b =>
    obtain ⟨-, -, h1, h2, -⟩ := hs
    simp only [beq_eq_false_iff_ne.mpr h1, Bool.false_or, Bool.and_eq_false_iff, decide_eq_false_iff_not]
    omega
  refine Go.ifr (EvB.and (r' := false) (EvB.eq (EvV.sign (a_sign w) ok).isI (EvV.isI (EvV.glob ok (by k_is)))) fun hc => absurd (beq_iff_eq.mp hc) hs.2.2.2.2) (fun hc => by simp at hc) fun _ => ?_
  exact Go.retE EvV.bool (hr _ _ ⟨rfl, rfl⟩)
noncomputable def NS (z : Int) : Prop := (65 ≤ z ∧ z ≤ 90) ∨ (97 ≤ z ∧ z ≤ 122) ∨ z = 95 ∨ (48 ≤ z ∧ z ≤ 57)
set_option maxHeartbeats 8000000 in
theorem rw_spec {word : List UInt8} (prog : Program) (w : World) (hA : At c.T i (word ++ W)) (hs : sg = hdv (word ++ W)) (hN : ∀ x ∈ word, NS (sv x)) (hW : ¬ NS (hdv W)) (hK : KF w c.kn c.kd) (hno : RWS.all (fun q => q != word) = true) (hT : c.T.length ≤ 80000) (hR : word.length ≤ 80000) :
    SpecP prog w 406 [.ref c.x] (LX c b [] i ti sg ts ln ll cur ahd) 30 300
      (fun v e => ∃ x dx k u1 u2 i' t1 t2, v = .ref x ∧ At c.T i' W ∧ e = TKL x dx k (.int 285 u1) (.bytes word.toArray u2) (LX c b word i' t1 (hdv W) t2 ln ll cur ahd)) := by
  subst hs
  refine' spec_go [(Str.ofString "self", .ref c.x)] ?k6 ?k7 ?k9 ?kB ?kl ?c5 ?c2 ?c3 ?c4 (by decide) fun Z Q ok hr hn' => ?_
  (case k6 => k_is)
  (case k7 => k_is)
  (case k9 => exact fun _ => BindsTo.of_eq rfl)
  (case kB => exact locs rfl)
  (case kl => rfl)
  (case c5 => decide)
  (case c2 => exact rfl)
  (case c3 => exact rfl)
  (case c4 => exact rfl)
  refine Go.loop (ι := List UInt8 × List UInt8 × Int × Tok × Tok) (fun a => a.1.length) (fun a => [(Str.ofString "self", .ref c.x)]) (fun a => LX c b a.2.1 a.2.2.1 a.2.2.2.1 (hdv (a.1 ++ W)) a.2.2.2.2 ln ll cur ahd)
    (fun a => (∀ x ∈ a.1, NS (sv x)) ∧ a.2.1 ++ a.1 = word ∧ At c.T a.2.2.1 (a.1 ++ W)) (word, [], i, ti, ts) ⟨hN, rfl, hA⟩ rfl rfl ?_
  clear hN hA
  refine cu5 fun R1 B1 i1 u1 u2 => ?_
  rintro ⟨hN, hB, hA⟩
  dsimp only at hN hB hA ⊢
  have hBl : B1.length ≤ 80001 := by have := congrArg List.length hB; simp at this; omega
  refine ⟨_, EvB.val (EvV.fn1 (P1 := fun a => a = .int (hdv (R1 ++ W)) u2) ok (fun a ha => ha ▸ is_name_sign_spec prog w) (EvV.sign (a_sign w) ok) (by k_is) (by k_is)), fun hb Q2 hn2 hr2 => ?_, fun hb => ?_⟩
  · cases R1 with
    | nil => exact absurd (of_decide_eq_true hb) hW
    | cons x R2 =>
      refine Go.m0S (m_km w) ok (km_st prog w hA (by first | exact le_c (by assumption) rfl | omega) rfl (by first | exact le_c (by assumption) rfl | omega)) fun i2 u3 u4 hA2 => Go.nil ?_
      exact hn2 (R2, B1 ++ [x], i2, u3, u4) (Nat.lt_succ_self _) ⟨fun y hy => hN y (.tail _ hy), by rw [← hB]; simp, hA2⟩
  · cases R1 with
    | cons x R2 => exact (of_decide_eq_false hb (hN x (.head _))).elim
    | nil =>
      obtain rfl : B1 = word := by simpa using hB
      refine Go.asg (fun v => [(Str.ofString "self", .ref c.x), (Str.ofString "word", v)]) (EvV.p (P := fun v => ∃ t, v = .bytes B1.toArray t) ?e1) fun v c' h => ?_
      case e1 =>
        k_extra "x9"
        exact hQ _ _ _ ⟨_, rfl⟩ (by assumption) (by assumption)
      obtain ⟨⟨t, rfl⟩, rfl⟩ := h
      refine Go.asgE (v := .none) [(Str.ofString "self", .ref c.x), (Str.ofString "word", .bytes B1.toArray t), (Str.ofString "kind", .none)] ?e2 ?_
      case e2 =>
        k_extra "x9"
        exact hQ _ _ _ rfl (by assumption) (by assumption)
      refine Go.ret (EvP.iteT ?e3 (EvP.token ok (EvV.glob ok (by k_is)) (EvV.p EvV.loc) (by k_is) (by k_is))) fun v c' h => ?_
      case e3 =>
        k_extra "x9"
        exact hQ _ _ (by assumption) (by assumption)
      obtain ⟨x, dx, k, kv, vv, c2, rfl, ⟨rfl, rfl⟩, rfl, rfl⟩ := h
      exact hr _ _ ⟨x, dx, k, _, t, i1, u1, u2, rfl, hA, rfl⟩
end
/-! The judgement over all contexts, for defs of ints, texts and lists. -/
section
variable (prog : Program) (w : World) (φ : Fn) (Z : Zc) (l : List (Str × Value)) (core : List (Addr × Obj))
noncomputable def GoA (ss : List Stmt) (Q : Flow → Shared → Prop) : Prop := ∀ E h tk, Fr Z.g Z.L h (lk l) → News Z.g Z.L h core → wpAny (model prog w) (Z.A φ) (execs ss (Z.env φ)) Q E (Z.s h tk)
/-- an expression that may turn the ledger -/
noncomputable def EvQ (e : PySem.Expr) (post : Value → List (Addr × Obj) → Prop) : Prop := ∀ Q E h tk, Fr Z.g Z.L h (lk l) → News Z.g Z.L h core →
  (∀ v core' h' tk', post v core' → Fr Z.g Z.L h' (lk l) → News Z.g Z.L h' core' → Q v (Z.s h' tk')) → wpAny (model prog w) (Z.A φ) (eval e (Z.env φ)) Q E (Z.s h tk)
/-- a statement that the library's lines walk; what it draws is named by an index -/
noncomputable def StP (st : Stmt) {ι : Type} (l' : ι → List (Str × Value)) (core' : ι → List (Addr × Obj)) (Pr : ι → Prop) : Prop := ∀ Q E h tk, Fr Z.g Z.L h (lk l) → News Z.g Z.L h core →
  (∀ a h' tk', Pr a → Fr Z.g Z.L h' (lk (l' a)) → News Z.g Z.L h' (core' a) → Q .next (Z.s h' tk')) → wpAny (model prog w) (Z.A φ) (exec st (Z.env φ)) Q E (Z.s h tk)
end
section
variable {prog : Program} {w : World} {φ : Fn} {Z : Zc} {l : List (Str × Value)} {core : List (Addr × Obj)} {Q : Flow → Shared → Prop} {D U d u : Nat} {f : Addr} {args : List Value} {post : Value → List (Addr × Obj) → Prop}
  {rest body orelse : List Stmt} {t e e1 e2 : PySem.Expr} {pos p1 p2 p3 : Pos} {b : Bool} {P P1 P2 : Value → Prop} {x : Str} {v : Value} {n : Int}
theorem spec_goA {name qual : Str} {params : Arguments} {scope : Scope} {dV kV doc pm cdv ct oc : Value} {an od : Option Addr} {osl : Array (Option Value)} {binds : List (Str × Value)} (l : List (Str × Value))
    (ho : (hd.heap_1 w.params).lookup f = some ⟨oc, od, .func (fnOf name qual params body scope dV kV doc pm an cdv ct), osl⟩) (hcd : codeIn (hd.heap_1 w.params) cdv qual = true)
    (hbind : ∀ s, BindsTo s (fnOf name qual params body scope dV kV doc pm an cdv ct) ⟨args, []⟩ binds) (hloc : ∀ y ∈ binds, scope.names.lookup y.1 = some .local) (hl : (fun y => binds.reverse.lookup y) = lk l)
    (hcell : ∀ x ∈ scope.names, x.2 ≠ .cell) (hco : scope.isCoroutine = false) (hgen : scope.isGenerator = false) (hk : scope.kind = .function) (h1 : 1 ≤ d)
    (k : ∀ Z Q, OK w Z d u → (∀ v core', post v core' → Rt Z core' v Q) → GoA prog w ⟨qual, scope, f, cdv⟩ Z l core body Q) : Spec prog w f args core d u post := by
  intro p loose mean mg mb dp un outer base g s R B X T sub sz hC hdp hun hret
  refine enter X T sub sz hC ho hcd (by omega) (hbind _) hloc ?_ hcell hco hgen hk
  intro L h F N _
  rw [hl] at F
  refine k ⟨dp, un, outer, g, L, s.gens, s.drawn, s.os⟩ _ ⟨⟨p, loose, mean, mg, mb, base, B, X, T⟩, hdp, hun⟩ ?_ _ h _ F N
  exact fun v core' hp h' tk l' F' N' => hret _ core' h' tk F'.keep (fr_size F') (has_of N' fun _ q => q) hp
theorem GoA.p (g : GoA prog w φ Z l core rest Q) : Go prog w φ Z l core rest Q := fun E h tk F N => P_lift (g E h tk F N)
theorem GoA.nil (k : Nx Z l core Q) : GoA prog w φ Z l core [] Q := fun _ h tk F N => wpAny_execs_nil (k h tk F N)
theorem GoA.st {ι : Type} {st : Stmt} (l' : ι → List (Str × Value)) (core' : ι → List (Addr × Obj)) (Pr : ι → Prop) (s : StP prog w φ Z l core st l' core' Pr) (k : ∀ a, Pr a → GoA prog w φ Z (l' a) (core' a) rest Q) : GoA prog w φ Z l core (st :: rest) Q := fun E h tk F N =>
  wpAny_execs_cons (s _ E h tk F N fun a h' tk' pa F' N' => k a pa E h' tk' F' N')
theorem GoA.ret (v₁ : EvQ prog w φ Z l core e post) (k : ∀ v core', post v core' → Rt Z core' v Q) : GoA prog w φ Z l core (.Return (some e) pos :: rest) Q := fun E h tk F N =>
  wpAny_execs_cons (wpAny_Return_some (v₁ _ E h tk F N fun v core' h' tk' p F' N' => k v core' p h' tk' l F' N'))
theorem GoA.retI (v₁ : EvV prog w φ Z l core e (IsI n)) (k : ∀ t, Rt Z core (.int n t) Q) : GoA prog w φ Z l core (.Return (some e) pos :: rest) Q := fun E h tk F N =>
  wpAny_execs_cons (wpAny_Return_some (v₁ _ E h tk F N fun v h' tk' p F' N' => by obtain ⟨t, rfl⟩ := p; exact k t h' tk' l F' N'))
theorem GoA.asgI (l' : Tok → List (Str × Value)) (v₁ : EvV prog w φ Z l core e (IsI n)) (k : ∀ t, GoA prog w φ Z (l' t) core rest Q) (hl : ∀ t, putl x (.int n t) l = l' t := by intro _; rfl) (hk : φ.cs.kind = .function := by rfl) (hx : ∀ L, (envOf φ.cn φ.cs L φ.a φ.cd).kindOf x = some .local := by intro _; rfl)
    (hs : ∀ L, swapsWith e (some (.Name x p1)) pos.line (envOf φ.cn φ.cs L φ.a φ.cd) = pure false := by intro _; rfl) : GoA prog w φ Z l core (.Assign [.Name x p1] e pos :: rest) Q := fun E h tk F N =>
  wpAny_execs_cons (wpAny_Assign_Name (v₁ _ E h tk F N fun v h' tk' p F' N' => by
    obtain ⟨t, rfl⟩ := p
    exact storeX_L F' N' (fun h2 F2 N2 => k t E h2 _ (fr_put F2 (hl t)) N2) hk (hx _)) (hs _))
/-- an if whose body does not fall through -/
theorem GoA.ifr (t₁ : EvB prog w φ Z l core t b) (kt : b = true → GoA prog w φ Z l core body (noN Q)) (kf : b = false → GoA prog w φ Z l core rest Q) : GoA prog w φ Z l core (.If t body [] pos :: rest) Q := fun E h tk F N =>
  wpAny_execs_cons (wpAny_If (t₁ _ E h tk F N fun h' tk' F' N' => by
    cases b with
    | true => exact wpAny_mono (kt rfl E h' tk' F' N') (fun f s x => by cases f <;> first | exact x | exact x.elim) fun _ _ x => x
    | false => exact wpAny_execs_nil (kf rfl E h' tk' F' N')))
/-- `x += e` on a local int -/
theorem GoA.inc (l' : Tok → List (Str × Value)) {t0 : Tok} {m : Int} (v₁ : EvV prog w φ Z l core e (IsI m)) (k : ∀ t, GoA prog w φ Z (l' t) core rest Q) (hl : lk l x = some (.int n t0) := by rfl) (hp : ∀ t, putl x (.int (n + m) t) l = l' t := by intro _; rfl)
    (hk : φ.cs.kind = .function := by rfl) (hx : ∀ L, (envOf φ.cn φ.cs L φ.a φ.cd).kindOf x = some .local := by intro _; rfl) : GoA prog w φ Z l core (.AugAssign (.Name x p1) .Add e pos :: rest) Q := fun E h tk F N =>
  wpAny_execs_cons (wpAny_AugAssign_Name (wpAny_loadName_local hk (hx _) F.ns hl (v₁ _ E h tk F N fun a h1 tk1 p F1 N1 => by
    obtain ⟨u, rfl⟩ := p
    refine iadd_int ?_
    exact storeX_L F1 N1 (fun h2 F2 N2 => k _ E h2 _ (fr_put F2 (hp _)) N2) hk (hx _))))
theorem GoA.loop {ι : Type} (μ : ι → Nat) (lf : ι → List (Str × Value)) (cf : ι → List (Addr × Obj)) (Pr : ι → Prop) (a : ι) (pa : Pr a) (hl : l = lf a) (hc : core = cf a)
    (step : ∀ a, Pr a → ∃ r, EvB prog w φ Z (lf a) (cf a) t r ∧
      (r = true → ∀ Q2, (∀ a', μ a' < μ a → Pr a' → Nx Z (lf a') (cf a') Q2) → (∀ v c', Rt Z c' v Q → Rt Z c' v Q2) → GoA prog w φ Z (lf a) (cf a) body Q2) ∧
      (r = false → GoA prog w φ Z (lf a) (cf a) rest Q)) : GoA prog w φ Z l core (.While t body [] pos :: rest) Q := fun E h tk F N => by
  subst hl hc
  refine wpAny_execs_cons (wpAny_While (codeAny_whileLoop (fun n s => ∃ h tk a, s = Z.s h tk ∧ Fr Z.g Z.L h (lk (lf a)) ∧ News Z.g Z.L h (cf a) ∧ Pr a ∧ μ a = n) ?_ (μ a) ⟨h, tk, a, rfl, F, N, pa, rfl⟩))
  rintro n _ ⟨h, tk, a, rfl, F, N, pa, rfl⟩
  obtain ⟨r, hb, ht, hf⟩ := step a pa
  refine hb _ _ h tk F N fun h' tk' F' N' => ?_
  cases r with
  | true =>
    refine wpAny_mono (ht rfl (fun fl s₃ => match fl with
        | .next | .cont => ∃ n', n' < μ a ∧ ∃ h tk a, s₃ = Z.s h tk ∧ Fr Z.g Z.L h (lk (lf a)) ∧ News Z.g Z.L h (cf a) ∧ Pr a ∧ μ a = n'
        | .brk => False
        | .ret v => Q (.ret v) s₃) (fun a' hn i' h2 tk2 F2 N2 => ⟨μ a', hn, h2, tk2, a', rfl, F2, N2, i', rfl⟩) (fun v c' r => r) _ h' tk' F' N') (fun fl s x => ?_) fun _ _ x => x
    cases fl <;> first | exact x | exact x.elim
  | false => exact wpAny_execs_nil (hf rfl _ h' tk' F' N')
theorem GoA.whileF (t₁ : EvB prog w φ Z l core t false) (k : GoA prog w φ Z l core rest Q) : GoA prog w φ Z l core (.While t body [] pos :: rest) Q :=
  GoA.loop (ι := Unit) (fun _ => 0) (fun _ => l) (fun _ => core) (fun _ => True) () trivial rfl rfl fun _ _ => ⟨false, t₁, fun h => (nomatch h), fun _ => k⟩
theorem GoA.asgQ (l' : Value → List (Str × Value)) (v₁ : EvQ prog w φ Z l core e post) (k : ∀ v core', post v core' → GoA prog w φ Z (l' v) core' rest Q) (hl : ∀ v, putl x v l = l' v := by intro _; rfl) (hk : φ.cs.kind = .function := by rfl)
    (hx : ∀ L, (envOf φ.cn φ.cs L φ.a φ.cd).kindOf x = some .local := by intro _; rfl) (hs : ∀ L, swapsWith e (some (.Name x p1)) pos.line (envOf φ.cn φ.cs L φ.a φ.cd) = pure false := by intro _; rfl) : GoA prog w φ Z l core (.Assign [.Name x p1] e pos :: rest) Q := fun E h tk F N =>
  wpAny_execs_cons (wpAny_Assign_Name (v₁ _ E h tk F N fun v core' h' tk' p F' N' => storeX_L F' N' (fun h2 F2 N2 => k v core' p E h2 _ (fr_put F2 (hl v)) N2) hk (hx _)) (hs _))
theorem EvQ.fn1 (ok : OK w Z D U) (S : ∀ a, P1 a → Spec prog w f [a] core d u post) (v₁ : EvV prog w φ Z l core e P1) (hg : nsIn (hd.heap_1 w.params) mainGlobals x = some (some (.ref f))) (hkeep : keepIn (hd.heap_1 w.params) (.ref f) = true) (hD : 1 + d ≤ D := by decide) (hU : 4 + u ≤ U := by decide)
    (hx : ∀ L, (envOf φ.cn φ.cs L φ.a φ.cd).kindOf x = some .globalImplicit := by intro _; rfl) (hk : φ.cs.kind = .function := by rfl) (hd : (x == ("__debug__" : Str)) = false := by decide)
    (he : ∀ L, starEach [e] (envOf φ.cn φ.cs L φ.a φ.cd) = [(false, eval e (envOf φ.cn φ.cs L φ.a φ.cd))] := by intro _; rfl) :
    EvQ prog w φ Z l core (.Call (.Name x p1) [e] [] p2) post := fun Q E h tk F N hQ => by
  obtain ⟨⟨p, loose, mean, mg, mb, base, B', X', T'⟩, h1, h2⟩ := ok
  refine Call_Name1 (nameX_K F X' (topRead_of T') hg ?_ hk (hx _) hd) (he _)
  have z := he Z.L
  have c := callWith_K (M := model prog w) (A := Z.A φ) (E := E) (s := Z.s h tk) (Q := Q) (pos := p2) (first := []) (e := e) (rest := []) (env := Z.env φ) X' hkeep ?_ z rfl
  · rw [z] at c; exact c
  refine args_cons (v₁ _ E h tk F N fun a h' tk' pa F' N' => args_nil ⟨X'.keeps F'.keep, ?_⟩) z
  refine Spec.use (S a pa) B' F' X' N' T' rfl rfl rfl rfl hk (fun _ q => q) ?_ ?_ fun v core' h2 tk2 hp F2 S2 N2 => hQ v core' h2 tk2 hp F2 N2
  · simp only [depth_deeper]; omega
  · simp only [units_deeper]; omega
theorem EvQ.fn2 (ok : OK w Z D U) (S : ∀ a a', P1 a → P2 a' → Spec prog w f [a, a'] core d u post) (v₁ : EvV prog w φ Z l core e1 P1) (v₂ : EvV prog w φ Z l core e2 P2) (hg : nsIn (hd.heap_1 w.params) mainGlobals x = some (some (.ref f))) (hkeep : keepIn (hd.heap_1 w.params) (.ref f) = true)
    (hD : 1 + d ≤ D := by decide) (hU : 4 + u ≤ U := by decide)
    (hx : ∀ L, (envOf φ.cn φ.cs L φ.a φ.cd).kindOf x = some .globalImplicit := by intro _; rfl) (hk : φ.cs.kind = .function := by rfl) (hd : (x == ("__debug__" : Str)) = false := by decide)
    (he : ∀ L, starEach [e1, e2] (envOf φ.cn φ.cs L φ.a φ.cd) = [(false, eval e1 (envOf φ.cn φ.cs L φ.a φ.cd)), (false, eval e2 (envOf φ.cn φ.cs L φ.a φ.cd))] := by intro _; rfl)
    (he2 : ∀ L, starEach [e2] (envOf φ.cn φ.cs L φ.a φ.cd) = [(false, eval e2 (envOf φ.cn φ.cs L φ.a φ.cd))] := by intro _; rfl) :
    EvQ prog w φ Z l core (.Call (.Name x p1) [e1, e2] [] p2) post := fun Q E h tk F N hQ => by
  obtain ⟨⟨p, loose, mean, mg, mb, base, B', X', T'⟩, h1, h2⟩ := ok
  refine Call_Name2 (nameX_K F X' (topRead_of T') hg ?_ hk (hx _) hd) (he _)
  have z := he Z.L
  have z2 := he2 Z.L
  have zz : starEach [e1, e2] (Z.env φ) = (false, eval e1 (Z.env φ)) :: starEach [e2] (Z.env φ) := by rw [z2]; exact z
  have c := callWith_K (M := model prog w) (A := Z.A φ) (E := E) (s := Z.s h tk) (Q := Q) (pos := p2) (first := []) (e := e1) (rest := [e2]) (env := Z.env φ) X' hkeep ?_ zz (by rw [z2]; rfl)
  · rw [z] at c; exact c
  refine args_cons (v₁ _ E h tk F N fun a h' tk' pa F' N' => args_cons (v₂ _ E h' tk' F' N' fun a' h2' tk2' pa' F2' N2' => args_nil ⟨X'.keeps F2'.keep, ?_⟩) z2) zz
  refine Spec.use (S a a' pa pa') B' F2' X' N2' T' rfl rfl rfl rfl hk (fun _ q => q) ?_ ?_ fun v core' h2 tk2 hp F2 S2 N2 => hQ v core' h2 tk2 hp F2 N2
  · simp only [depth_deeper]; omega
  · simp only [units_deeper]; omega
end
section
open PySem.Builtin
section
variable {M : Model} {prog : Program} {w : World} {A : Around} {E : Value → Shared → Prop} {s : Shared} {t u : Tok} {b : Array UInt8} {z : Int}
theorem bc_eq (h : 0 ≤ z ∧ z < 256) : «bytes.__contains__» ⟨[.bytes b t, .int z u], []⟩ = pure (.done (.ret (.bool (b.contains z.toNat.toUInt8)))) := by
  have e1 : Bytes.containsIn "bytes.__contains__" (.bytes b t) (.int z u) = pure (b.contains z.toNat.toUInt8) := by
    unfold Bytes.containsIn
    show (Bytes.buffer? _ (.bytes b t) >>= _) = _
    rw [KBy.buffer_eq]
    show (if (decide (z < 0) || decide (z ≥ 256)) = true then _ else _) = _
    rw [if_neg (by simp; omega)]
  unfold «bytes.__contains__»
  show (Bytes.containsIn "bytes.__contains__" (.bytes b t) (.int z u) >>= _) = _
  rw [e1]
  rfl
theorem bc_in {Q : Value → Shared → Prop} (h0 : 0 ≤ z ∧ z < 256) (h : Q (.bool (b.contains z.toNat.toUInt8)) s) : wpAny (model prog w) A (compareOp .In (.int z u) (.bytes b t)) Q E s := by
  show wpAny _ _ (do return .bool (← contains (.bytes b t) (.int z u))) Q E s
  refine wpAny_bind ?_
  unfold contains
  try with_reducible refine wpAny_holding ?_
  have hT : s.TypeIs (.bytes b t) "bytes" := typeIs_bytes _ _ _
  refine wpAny_bind (wpAny_specialOf hT FB.slot_bytes_contains.lookup ?_)
  show wpAny _ _ (if (some (Value.builtin "bytes.__contains__") == some Value.none) = true then _ else _) _ E s
  rw [if_neg (by rw [beq_builtin_none]; exact Bool.false_ne_true)]
  refine wpAny_bind (wpAny_callSpecialUnlessNone?_slot (name := Str.ofString "__contains__") hT FB.slot_bytes_contains
    (wpAny_call_entry FB.slot_bytes_contains hT FB.entry_bytes_contains ?_ (FB.args_bytes_contains_2 _ _)))
  rw [bc_eq h0]
  exact wpAny_pure ⟨_, rfl, wpAny_bind (wpAny_truthy_bool (wpAny_pure (wpAny_pure h)))⟩
theorem bc_in_lit {l : List UInt8} {r : Bool} {Q : Value → Shared → Prop} (h0 : 0 ≤ z ∧ z < 256) (hr : l.contains z.toNat.toUInt8 = r) (h : Q (.bool r) s) : wpAny (model prog w) A (compareOp .In (.int z u) (.bytes l.toArray t)) Q E s :=
  bc_in h0 (by rw [List.contains_toArray, hr]; exact h)
/-- a mask that leaves a small number as it is -/
theorem and_mask {m : Int} {x : Int} {Q : Value → Shared → Prop} (h0 : 0 ≤ x ∧ x < 1000000) (hm : m = 18446744073709551615) (h : Q (.int x s.toks) { s with toks := s.toks + 1 }) : wpAny (model prog w) A (binaryOp .BitAnd (.int x t) (.int m u)) Q E s := by
  refine and_int ?_
  have e : Builtin.bitAnd x m = x := by
    subst hm
    unfold Builtin.bitAnd
    rw [decide_eq_true h0.1, decide_eq_true (show (0 : Int) ≤ 18446744073709551615 by decide)]
    show ((x.toNat &&& (18446744073709551615 : Int).toNat : Nat) : Int) = x
    rw [show (18446744073709551615 : Int).toNat = 2 ^ 64 - 1 by decide, Nat.and_two_pow_sub_one_eq_mod, Nat.mod_eq_of_lt (by omega)]
    omega
  rw [e]
  exact h
end
theorem cont_not {x : Int} {l : List UInt8} (h : ∀ y ∈ l, x ≠ (y.toNat : Int)) (h0 : 0 ≤ x ∧ x < 256) : l.contains x.toNat.toUInt8 = false := by
  rw [List.contains_eq_any_beq, List.any_eq_false]
  intro y hy
  have := h y hy
  intro e
  apply this
  have e' : x.toNat.toUInt8 = y := by simpa using e
  rw [← e']
  have : x.toNat < 256 := by omega
  simp [Nat.mod_eq_of_lt this]
  omega
section
variable {prog : Program} {w : World} {A : Around} {E : Value → Shared → Prop} {s : Shared} {t u : Tok}
theorem shl_lit {a n r : Int} {Q : Value → Shared → Prop} (hn : 0 ≤ n ∧ n ≤ 100) (ha : a.natAbs < 100) (hr : a * 2 ^ n.toNat = r) (h : Q (.int r s.toks) { s with toks := s.toks + 1 }) : wpAny (model prog w) A (binaryOp .LShift (.int a t) (.int n u)) Q E s :=
  lshift_int_small hn.1 (by omega) (by have : (100 : Nat) < 2 ^ 64 := by decide
                                       omega) (by rw [hr]; exact h)
end
section
variable {prog : Program} {w : World} {A : Around} {E : Value → Shared → Prop} {s : Shared} {h₀ : Heap} {L l : Addr} {m : Str → Option Value} {news : List (Addr × Obj)} {its : Array Value} {ns ms : List Int} {n : Nat}
theorem lst_bytes_N {Q : Value → Shared → Prop} (hh : A.handled = none) (F : Fr h₀ L s.heap m) (N : News h₀ L s.heap news) (hm : (l, listOf its n) ∈ news) (hi : IntsAre its.toList ns) (hr : ns.all (fun x => decide (0 ≤ x) && decide (x < 256)) = true) (hz : ns.length ≤ 1000)
    (h : ∀ h' t k, Fr h₀ L h' m → News h₀ L h' news → Q (.bytes (List.toArray (ns.map fun x => x.toNat.toUInt8)) t) { s with heap := h', toks := k }) : wpAny (model prog w) A (call (.type "bytes") [.ref l]) Q E s := by
  have hl : s.heap.IsList l its := News.isList N hm
  have hz' : (1000 : Nat) ≤ sizeLine := by decide +kernel
  refine call_bytes_ints (vs := its.toList) (by simpa using hl) hi (fun x hx => ?_) (by have := hi.length; omega) hh fun h' t k hk => h h' t k (F.keptAll hk) fun q hq => ⟨hk _ _ (N q hq).1, (N q hq).2⟩
  have := List.all_eq_true.mp hr x hx
  simpa using this
end
noncomputable def okL : List Value → Bool
  | [] => true
  | .int _ _ :: r => okL r
  | _ => false
noncomputable def intsL : List Value → List Int
  | [] => []
  | .int n _ :: r => n :: intsL r
  | _ :: r => intsL r
theorem okL_spec : ∀ {l : List Value}, okL l = true → IntsAre l (intsL l)
  | [], _ => .nil
  | .int n t :: r, h => .cons n t (okL_spec (l := r) h)
  | .none :: _, h | .bool _ :: _, h | .str _ _ :: _, h | .bytes _ _ :: _, h | .float _ _ :: _, h | .ref _ :: _, h | .type _ :: _, h | .builtin _ :: _, h => by cases h
end
theorem off_V1 : True := by
  w_top off
  trivial
theorem sg10 {a : UInt8} : sgn [a] 0 = sv a := rfl
theorem sg20 {a b : UInt8} : sgn [a, b] 0 = sv a := rfl
theorem sg21' {a b : UInt8} : sgn [a, b] (0 + 1) = sv b := rfl
theorem sg21 {a b : UInt8} : sgn [a, b] 1 = sv b := rfl
theorem txt_lenL {prog : Program} {w : World} {A : Around} {E : Value → Shared → Prop} {s : Shared} {T : List UInt8} {t : Tok} {z : Int} {Q : Value → Shared → Prop} (hz : (T.length : Int) = z) (hl : T.length ≤ 1000000) (h : ∀ t k, Q (.int z t) { s with toks := k }) :
    wpAny (model prog w) A (call (.builtin "len") [.bytes T.toArray t]) Q E s := txt_len (by omega) (by rw [hz]; exact h)
theorem reg_ac576df4_V1 : True := by
  k_with "q compareOp In int bytes" =>
    (k_here; k_dflt (first
    | (refine' bc_in_lit (r := true) ?zzvca ?zzvcb ?_; (case zzvca => omega); (case zzvcb => decide))
    | (refine' bc_in_lit (r := false) ?zzvca ?zzvcb ?_; (case zzvca => omega); (case zzvcb => first | decide | (refine cont_not ?_ (by omega); (repeat' (first | exact List.forall_mem_nil _ | refine' List.forall_mem_cons.mpr ⟨?_, ?_⟩ | (intro zze; simp at zze; omega))))))))
  trivial
theorem reg_5052a7d9_V1 : True := by
  k_with "q binaryOp BitAnd int int" =>
    (k_here; k_dflt (refine' and_mask ?zzvca ?zzvcb ?_; (case zzvca => omega); (case zzvcb => decide)))
  trivial
theorem reg_8cfcbdd6_V1 : True := by
  k_with "q binaryOp LShift int int" =>
    (k_here; k_dflt (first
    | (refine' shl_lit (r := 18446744073709551616) ?zzvca ?zzvcb ?zzvcc ?_; (case zzvca => decide); (case zzvcb => decide); (case zzvcc => decide))
    | (refine' shl_lit (r := 9223372036854775808) ?zzvca ?zzvcb ?zzvcc ?_; (case zzvca => decide); (case zzvcb => decide); (case zzvcc => decide))))
  trivial
theorem reg_2d209587_V1 : True := by
  k_with "q subscriptTail" =>
    (k_here; (with_reducible show wpAny _ _ (subscriptTail _ _ (Value.bytes (List.toArray (_ :: _)) _) (Value.int _ _)) _ _ _); (refine txt_item (by simp only [List.length_cons, List.length_nil]; omega) (by omega) (by simp only [List.length_cons, List.length_nil]; omega) ?_); intro _ _; (try simp only [sg10, sg20, sg21, sg21']); (try dsimp only))
  trivial
theorem reg_23bb4ace_V1 : True := by
  k_with "q call builtin:len" =>
    (k_here; (with_reducible show wpAny _ _ (call (Value.builtin "len") [Value.bytes (List.toArray (_ :: _)) _]) _ _ _); (first | (refine txt_lenL (z := 1) rfl (by simp only [List.length_cons, List.length_nil]; omega) ?_) | (refine txt_lenL (z := 2) rfl (by simp only [List.length_cons, List.length_nil]; omega) ?_) | (refine txt_lenL (z := 3) rfl (by simp only [List.length_cons, List.length_nil]; omega) ?_)); intro _ _; (try dsimp only))
  trivial
noncomputable abbrev tupOf (zs : List Value) : Obj := { cls := .type "tuple", data := .seq zs.toArray }
section
variable {z : Int} {t u : Tok} {a b : UInt8} {W : List UInt8}
set_option maxHeartbeats 8000000 in
theorem vb_no (prog : Program) (w : World) (h : 0 ≤ z ∧ z < 256) (hz : z ≠ 32 ∧ z ≠ 9 ∧ z ≠ 10 ∧ z ≠ 11 ∧ z ≠ 12 ∧ z ≠ 13) : Spec prog w 110 [.int z t] [] 3 30 (fun v _ => v = .bool false) := by
  intro p loose mean mg mb dp un outer base g s R B' X' T' sub sz hC hdp hun hret
  refine' enter X' T' sub sz hC ?k6 ?k7 ?k8 ?k9 ?kB ?_ ?c5 ?c2 ?c3 ?c4
  (case k6 => k_is)
  (case k7 => k_is)
  (case k8 => exact room0 hdp)
  (case k9 => exact BindsTo.of_eq rfl)
  (case kB => exact locs rfl)
  (case c5 => decide)
  (case c2 => exact rfl)
  (case c3 => exact rfl)
  (case c4 => exact rfl)
  intro L' h' F' N' l1
  (try k_lt l1)
  clear sub sz hC
  (try dsimp only)
  (try k_fold)
  (try dsimp only [LX] at N' l1)
  k_extra "x3"
  all_goals (refine' hret _ _ _ _ (Fr.keep (by assumption)) (fr_size (by assumption)) (has_of (by assumption) (fun _ hq => hq)) rfl)
set_option maxHeartbeats 8000000 in
theorem digit_of_spec (prog : Program) (w : World) (h : 48 ≤ z ∧ z ≤ 57) : Spec prog w 117 [.int z t] [] 3 30 (fun v _ => ∃ u, v = .int (z - 48) u) := by
  intro p loose mean mg mb dp un outer base g s R B' X' T' sub sz hC hdp hun hret
  refine' enter X' T' sub sz hC ?k6 ?k7 ?k8 ?k9 ?kB ?_ ?c5 ?c2 ?c3 ?c4
  (case k6 => k_is)
  (case k7 => k_is)
  (case k8 => exact room0 hdp)
  (case k9 => exact BindsTo.of_eq rfl)
  (case kB => exact locs rfl)
  (case c5 => decide)
  (case c2 => exact rfl)
  (case c3 => exact rfl)
  (case c4 => exact rfl)
  intro L' h' F' N' l1
  (try k_lt l1)
  clear sub sz hC
  (try dsimp only)
  (try k_fold)
  (try dsimp only [LX] at N' l1)
  k_extra "x3"
  all_goals k_extra "x8"
set_option maxHeartbeats 8000000 in
theorem wrap_spec (prog : Program) (w : World) (h : 0 ≤ z ∧ z < 1000) : Spec prog w 103 [.int z t, .int 64 u] [] 3 30 (fun v _ => ∃ u, v = .int z u) := by
  intro p loose mean mg mb dp un outer base g s R B' X' T' sub sz hC hdp hun hret
  refine' enter X' T' sub sz hC ?k6 ?k7 ?k8 ?k9 ?kB ?_ ?c5 ?c2 ?c3 ?c4
  (case k6 => k_is)
  (case k7 => k_is)
  (case k8 => exact room0 hdp)
  (case k9 => exact BindsTo.of_eq rfl)
  (case kB => exact locs rfl)
  (case c5 => decide)
  (case c2 => exact rfl)
  (case c3 => exact rfl)
  (case c4 => exact rfl)
  intro L' h' F' N' l1
  (try k_lt l1)
  clear sub sz hC
  (try dsimp only)
  (try k_fold)
  (try dsimp only [LX] at N' l1)
  k_extra "x3"
  all_goals k_extra "x8"
theorem vb_nod (prog : Program) (w : World) (h : 48 ≤ z ∧ z ≤ 57) : Spec prog w 110 [.int z t] [] 3 30 (fun v _ => v = .bool false) := vb_no prog w (by omega) (by omega)
theorem reg_845ce6df_V1 : True := by
  k_with "q call ref" =>
    (k_here; (with_reducible show wpAny _ _ (call (Value.ref 110) _) _ _ _); (first | (k_dflt ((refine' Spec.use (vb_nod _ _ ?zzh1) ?zzuB ?zzuF ?zzuX ?zzuN ?zzuT ?zzuh ?zzuA ?zzug ?zzuf ?zzuk ?zzus ?zzud ?zzuu ?_); (case zzuF => k_asm); (case zzuA => with_unfolding_all rfl); (case zzuB => k_asm); (case zzuX => k_asm); (case zzuN => k_asm); (case zzuT => k_asm); (case zzuh => with_unfolding_all rfl);  (case zzug => with_unfolding_all rfl); (case zzuf => with_unfolding_all rfl); (case zzuk => with_unfolding_all rfl); (case zzus => (repeat' (first | exact List.forall_mem_nil _ | refine' List.forall_mem_cons.mpr ⟨?_, ?_⟩ | k_mem | (rw [‹LC.chk _ = _›]; k_mem)))); (case zzh1 => (first | assumption | exact le_c (by assumption) rfl | omega | (refine neN ?_; omega) | (constructor <;> omega) | ((try simp only [List.length_append, List.length_cons, List.length_nil, List.length_replicate]); omega) | (constructor <;> (first | assumption | decide | omega)) | rfl | decide)); (case zzud => k_room); (case zzuu => k_units); intro zzv' zzc' zzh' zztk' zzhp' zzF' zzS' zzN'; subst zzhp'; (have zzN' := stays0 zzS' (fun _ hq => nomatch hq)); clear zzS'; (try k_sweep); (try dsimp only))) | (exfalso; (try simp only [Bool.or_eq_true, Bool.and_eq_true, decide_eq_true_eq, beq_iff_eq, Bool.or_eq_false_iff, Bool.and_eq_false_iff, decide_eq_false_iff_not, beq_eq_false_iff_ne] at *); omega)))
  trivial
theorem reg_ecf5c192_V1 : True := by
  k_with "q call ref" =>
    (k_here; (with_reducible show wpAny _ _ (call (Value.ref 117) _) _ _ _); (first | (k_dflt ((refine' Spec.use (digit_of_spec _ _ ?zzh1) ?zzuB ?zzuF ?zzuX ?zzuN ?zzuT ?zzuh ?zzuA ?zzug ?zzuf ?zzuk ?zzus ?zzud ?zzuu ?_); (case zzuF => k_asm); (case zzuA => with_unfolding_all rfl); (case zzuB => k_asm); (case zzuX => k_asm); (case zzuN => k_asm); (case zzuT => k_asm); (case zzuh => with_unfolding_all rfl);  (case zzug => with_unfolding_all rfl); (case zzuf => with_unfolding_all rfl); (case zzuk => with_unfolding_all rfl); (case zzus => (repeat' (first | exact List.forall_mem_nil _ | refine' List.forall_mem_cons.mpr ⟨?_, ?_⟩ | k_mem | (rw [‹LC.chk _ = _›]; k_mem)))); (case zzh1 => (first | assumption | exact le_c (by assumption) rfl | omega | (refine neN ?_; omega) | (constructor <;> omega) | ((try simp only [List.length_append, List.length_cons, List.length_nil, List.length_replicate]); omega) | (constructor <;> (first | assumption | decide | omega)) | rfl | decide)); (case zzud => k_room); (case zzuu => k_units); intro zzv' zzc' zzh' zztk' zzhp' zzF' zzS' zzN'; (refine @opq _ ?_); intro zzG' zzhG'; (obtain ⟨zzt', zze1⟩ := zzhp'); subst zze1; (refine zzhG' ?_); (clear zzhG' zzG'); (have zzN' := stays0 zzS' (fun _ hq => nomatch hq)); clear zzS'; (try k_sweep); (try dsimp only))) | (exfalso; (try simp only [Bool.or_eq_true, Bool.and_eq_true, decide_eq_true_eq, beq_iff_eq, Bool.or_eq_false_iff, Bool.and_eq_false_iff, decide_eq_false_iff_not, beq_eq_false_iff_ne] at *); omega)))
  trivial
/-- what the first figures of a text come to -/
noncomputable def pv (ds : List UInt8) : Nat → Int
  | 0 => 0
  | m + 1 => pv ds m * 10 + (sgn ds m - 48)
/-- one or two figures, and the number that they are -/
inductive Num : List UInt8 → Int → Prop
  | one {x : UInt8} : (48 ≤ sv x ∧ sv x ≤ 57) → Num [x] (sv x - 48)
  | two {x y : UInt8} : (48 ≤ sv x ∧ sv x ≤ 57) → (48 ≤ sv y ∧ sv y ≤ 57) → Num [x, y] (10 * (sv x - 48) + (sv y - 48))
theorem Num.pv {ds : List UInt8} {z : Int} (h : Num ds z) : (∀ m : Nat, m < ds.length → 48 ≤ sgn ds m ∧ sgn ds m ≤ 57) ∧ ds.length ≤ 2 ∧ 0 < ds.length ∧ pv ds ds.length = z := by
  cases h with
  | @one x hx =>
    refine ⟨fun m hm => ?_, Nat.le_succ 1, Nat.zero_lt_one, ?_⟩
    · obtain rfl : m = 0 := by simp at hm; omega
      exact hx
    · show 0 * 10 + (sv x - 48) = _; omega
  | @two x y hx hy =>
    refine ⟨fun m hm => ?_, Nat.le_refl 2, Nat.zero_lt_succ 1, ?_⟩
    · have : m = 0 ∨ m = 1 := by simp at hm; omega
      rcases this with rfl | rfl
      · exact hx
      · exact hy
    · show (0 * 10 + (sv x - 48)) * 10 + (sv y - 48) = _; omega
theorem Num.dig {ds : List UInt8} {z : Int} (h : Num ds z) : (∀ x ∈ ds, 48 ≤ sv x ∧ sv x ≤ 57) ∧ ds.length ≤ 2 := by
  cases h with
  | one hx => exact ⟨fun y hy => by simp at hy; exact hy ▸ hx, Nat.le_succ 1⟩
  | two hx hy => exact ⟨fun z hz => by simp at hz; exact hz.elim (fun e => e ▸ hx) (fun e => e ▸ hy), Nat.le_refl 2⟩
variable {t1 t2 t3 : Tok} {ds : List UInt8}
set_option maxHeartbeats 8000000 in
theorem skip_spec {k : Nat} (prog : Program) (w : World) (hk : k ≤ ds.length) (hl : ds.length ≤ 2) (h : k < ds.length → 48 ≤ sgn ds k ∧ sgn ds k ≤ 57) : Spec prog w 131 [.bytes ds.toArray t, .int k u] [] 7 70 (fun v _ => ∃ u, v = .int k u) := by
  refine' spec_goA [(Str.ofString "at", .int k u), (Str.ofString "text", .bytes ds.toArray t)] ?k6 ?k7 ?k9 ?kB ?kl ?c5 ?c2 ?c3 ?c4 (by decide) fun Z Q ok hr => ?_
  (case k6 => k_is)
  (case k7 => k_is)
  (case k9 => exact fun _ => BindsTo.of_eq rfl)
  (case kB => exact locs rfl)
  (case kl => rfl)
  (case c5 => decide)
  (case c2 => exact rfl)
  (case c3 => exact rfl)
  (case c4 => exact rfl)
  refine GoA.whileF ((EvB.and (r' := false) (EvB.lt (m := ds.length) (EvV.isI EvV.loc) ?e1) fun hc => (EvB.val (EvV.fn1 (P1 := IsI (sgn ds k)) ok (fun a ha => by
    obtain ⟨ta, rfl⟩ := ha
    exact vb_nod prog w (h (Int.ofNat_lt.mp (of_decide_eq_true hc)))) ?e2 (by k_is) (by k_is)))).to (Bool.and_false _)) (GoA.retI (EvV.isI EvV.loc) fun t' => hr _ _ ⟨t', rfl⟩)
  case e1 =>
    k_extra "x9"
    exact hQ _ _ _ ⟨_, rfl⟩ (by assumption) (by assumption)
  case e2 =>
    have hc := of_decide_eq_true hc
    k_extra "x9"
    exact hQ _ _ _ ⟨_, rfl⟩ (by assumption) (by assumption)
set_option maxHeartbeats 8000000 in
theorem rdv_spec {z : Int} (prog : Program) (w : World) (hN : Num ds z) : Spec prog w 124 [.bytes ds.toArray t, .int 0 t1, .int 10 t2, .int 64 t3] [] 7 70
    (fun v e => ∃ D u1 u2, v = .ref D ∧ e = [(D, tupOf [.int z u1, .int ds.length u2])]) := by
  obtain ⟨hd, hl, h0, hz⟩ := hN.pv
  refine' spec_goA [(Str.ofString "width", .int 64 t3), (Str.ofString "base", .int 10 t2), (Str.ofString "at", .int 0 t1), (Str.ofString "text", .bytes ds.toArray t)] ?k6 ?k7 ?k9 ?kB ?kl ?c5 ?c2 ?c3 ?c4 (by decide) fun Z Q ok hr => ?_
  (case k6 => k_is)
  (case k7 => k_is)
  (case k9 => exact fun _ => BindsTo.of_eq rfl)
  (case kB => exact locs rfl)
  (case kl => rfl)
  (case c5 => decide)
  (case c2 => exact rfl)
  (case c3 => exact rfl)
  (case c4 => exact rfl)
  refine GoA.st (ι := Tok × Tok) (fun a => [(Str.ofString "width", .int 64 t3), (Str.ofString "base", .int 10 t2), (Str.ofString "at", .int 0 t1), (Str.ofString "text", .bytes ds.toArray t), (Str.ofString "most", .int 18446744073709551615 a.2), (Str.ofString "found", .int 0 a.1)]) (fun _ => []) (fun _ => True) ?s1 ?_
  case s1 =>
    clear hr hN hd hz
    k_extra "x9"
    rename News _ _ _ _ => NN
    rename Fr _ _ _ _ => FF
    exact hQ (_, _) _ _ trivial (fr_put2 FF rfl) (fun _ q => nomatch q)
  refine cu2 fun tf tm => ?_
  intro _
  dsimp only
  refine GoA.loop (ι := Nat × Tok × Tok × List (Str × Value)) (fun a => ds.length - a.1) (fun a => [(Str.ofString "width", .int 64 t3), (Str.ofString "base", .int 10 t2), (Str.ofString "at", .int a.1 a.2.1), (Str.ofString "text", .bytes ds.toArray t), (Str.ofString "most", .int 18446744073709551615 tm), (Str.ofString "found", .int (pv ds a.1) a.2.2.1)] ++ a.2.2.2) (fun _ => [])
    (fun a => a.1 ≤ ds.length ∧ 0 ≤ pv ds a.1 ∧ (a.1 ≤ 1 → pv ds a.1 ≤ 9)) (0, t1, tf, []) ⟨Nat.zero_le _, Int.le_refl 0, fun _ => (by decide : (0 : Int) ≤ 9)⟩ rfl rfl ?_
  refine cu4 fun m ta tz X => ?_
  rintro ⟨hm, hp0, hp1⟩
  dsimp only at hm hp0 hp1 ⊢
  refine ⟨_, EvB.lt (m := ds.length) (EvV.isI EvV.loc) ?e1, fun hb Q2 hn2 hr2 => ?_, fun hb => ?_⟩
  case e1 =>
    clear hr hN hd hz
    k_extra "x9"
    exact hQ _ _ _ ⟨_, rfl⟩ (by assumption) (by assumption)
  · have hb := Int.ofNat_lt.mp (of_decide_eq_true hb)
    have hs := hd m hb
    refine GoA.asgI (n := sgn ds m - 48) (fun v => [(Str.ofString "width", .int 64 t3), (Str.ofString "base", .int 10 t2), (Str.ofString "at", .int m ta), (Str.ofString "text", .bytes ds.toArray t), (Str.ofString "most", .int 18446744073709551615 tm), (Str.ofString "found", .int (pv ds m) tz)] ++ putl (Str.ofString "digit") (.int (sgn ds m - 48) v) X) (EvV.fn1 (P1 := IsI (sgn ds m)) ok (fun a ha => by
      obtain ⟨tt, rfl⟩ := ha
      exact digit_of_spec prog w hs) ?e2 (by k_is) (by k_is)) fun td => ?_
    case e2 =>
      clear hr hN hd hz hn2 hr2
      k_extra "x9"
      exact hQ _ _ _ ⟨_, rfl⟩ (by assumption) (by assumption)
    have hdg : lk ([(Str.ofString "width", .int 64 t3), (Str.ofString "base", .int 10 t2), (Str.ofString "at", .int m ta), (Str.ofString "text", .bytes ds.toArray t), (Str.ofString "most", .int 18446744073709551615 tm), (Str.ofString "found", .int (pv ds m) tz)] ++ putl (Str.ofString "digit") (.int (sgn ds m - 48) td) X) (Str.ofString "digit") = some (.int (sgn ds m - 48) td) :=
      by
        show lk (putl (Str.ofString "digit") (.int (sgn ds m - 48) td) ([(Str.ofString "width", .int 64 t3), (Str.ofString "base", .int 10 t2), (Str.ofString "at", .int m ta), (Str.ofString "text", .bytes ds.toArray t), (Str.ofString "most", .int 18446744073709551615 tm), (Str.ofString "found", .int (pv ds m) tz)] ++ X)) _ = _
        exact lk_putl _ _ _
    refine GoA.ifr (b := false) ((EvB.or (EvB.lt (EvV.isI (EvV.loc hdg)) EvV.int) fun _ => EvB.ge (EvV.isI (EvV.loc hdg)) (EvV.isI EvV.loc)).to ?e3) (fun hc => nomatch hc) fun _ => ?_
    case e3 => simp only [Bool.or_eq_false_iff, decide_eq_false_iff_not]; omega
    refine GoA.asgI (n := pv ds (m + 1)) (fun v => [(Str.ofString "width", .int 64 t3), (Str.ofString "base", .int 10 t2), (Str.ofString "at", .int m ta), (Str.ofString "text", .bytes ds.toArray t), (Str.ofString "most", .int 18446744073709551615 tm), (Str.ofString "found", .int (pv ds (m + 1)) v)] ++ putl (Str.ofString "digit") (.int (sgn ds m - 48) td) X) ?e4 fun tz2 => ?_
    case e4 =>
      refine EvV.bin (((EvV.isI EvV.loc).mul (EvV.isI EvV.loc) ?m1).add (EvV.isI (EvV.loc hdg))) (EvV.isI EvV.loc) ?m2
      case m1 => exact IntMulOk.of_right (by decide)
      case m2 => exact fun A E s t u Q h => and_mask (by omega) rfl h
    refine GoA.asgI (n := (m : Int) + 1) (fun v => [(Str.ofString "width", .int 64 t3), (Str.ofString "base", .int 10 t2), (Str.ofString "at", .int ((m + 1 : Nat) : Int) v), (Str.ofString "text", .bytes ds.toArray t), (Str.ofString "most", .int 18446744073709551615 tm), (Str.ofString "found", .int (pv ds (m + 1)) tz2)] ++ putl (Str.ofString "digit") (.int (sgn ds m - 48) td) X) ((EvV.isI EvV.loc).add EvV.int) fun ta2 => GoA.nil ?_
    refine hn2 (m + 1, ta2, tz2, _) ?_ ⟨hb, ?_, fun h => ?_⟩
    · show ds.length - (m + 1) < ds.length - m; omega
    · show 0 ≤ pv ds m * 10 + (sgn ds m - 48); omega
    · show pv ds m * 10 + (sgn ds m - 48) ≤ 9
      obtain rfl : m = 0 := by dsimp only at h; omega
      show 0 * 10 + _ ≤ _; omega
  · obtain rfl : m = ds.length := by have := of_decide_eq_false hb; omega
    refine GoA.ret (post := fun v e => ∃ D u1 u2, v = .ref D ∧ e = [(D, tupOf [.int z u1, .int ds.length u2])]) ?e5 hr
    case e5 =>
      clear hr hN hd
      rw [hz]
      k_extra "x9"
      exact hQ _ [(_, tupOf [.int z _, .int ds.length _])] _ _ ⟨_, _, _, rfl, rfl⟩ (by assumption) (by assumption)
theorem skip_0 (prog : Program) (w : World) {z : Int} (hN : Num ds z) : Spec prog w 131 [.bytes ds.toArray t, .int 0 u] [] 7 70 (fun v _ => ∃ u, v = .int 0 u) := skip_spec (k := 0) prog w (Nat.zero_le _) hN.pv.2.1 fun h => hN.pv.1 0 h
theorem skip_e (prog : Program) (w : World) {z : Int} (hN : Num ds z) : Spec prog w 131 [.bytes ds.toArray t, .int ds.length u] [] 7 70 (fun v _ => ∃ u, v = .int ds.length u) := skip_spec (k := ds.length) prog w (Nat.le_refl _) hN.pv.2.1 fun h => absurd h (Nat.lt_irrefl _)
end
theorem reg_6a3f87fc_V1 : True := by
  k_with "q call ref" =>
    (k_here; (with_reducible show wpAny _ _ (call (Value.ref 131) _) _ _ _); (first | (k_dflt ((refine' Spec.use (skip_0 _ _ ?zzh1) ?zzuB ?zzuF ?zzuX ?zzuN ?zzuT ?zzuh ?zzuA ?zzug ?zzuf ?zzuk ?zzus ?zzud ?zzuu ?_); (case zzuF => k_asm); (case zzuA => with_unfolding_all rfl); (case zzuB => k_asm); (case zzuX => k_asm); (case zzuN => k_asm); (case zzuT => k_asm); (case zzuh => with_unfolding_all rfl);  (case zzug => with_unfolding_all rfl); (case zzuf => with_unfolding_all rfl); (case zzuk => with_unfolding_all rfl); (case zzus => (repeat' (first | exact List.forall_mem_nil _ | refine' List.forall_mem_cons.mpr ⟨?_, ?_⟩ | k_mem | (rw [‹LC.chk _ = _›]; k_mem)))); (case zzh1 => (first | assumption | exact le_c (by assumption) rfl | omega | (refine neN ?_; omega) | (constructor <;> omega) | ((try simp only [List.length_append, List.length_cons, List.length_nil, List.length_replicate]); omega) | (constructor <;> (first | assumption | decide | omega)) | rfl | decide)); (case zzud => k_room); (case zzuu => k_units); intro zzv' zzc' zzh' zztk' zzhp' zzF' zzS' zzN'; (refine @opq _ ?_); intro zzG' zzhG'; (obtain ⟨zzt', zze1⟩ := zzhp'); subst zze1; (refine zzhG' ?_); (clear zzhG' zzG'); (have zzN' := stays0 zzS' (fun _ hq => nomatch hq)); clear zzS'; (try k_sweep); (try dsimp only))) | (k_dflt ((refine' Spec.use (skip_e _ _ ?zzh1) ?zzuB ?zzuF ?zzuX ?zzuN ?zzuT ?zzuh ?zzuA ?zzug ?zzuf ?zzuk ?zzus ?zzud ?zzuu ?_); (case zzuF => k_asm); (case zzuA => with_unfolding_all rfl); (case zzuB => k_asm); (case zzuX => k_asm); (case zzuN => k_asm); (case zzuT => k_asm); (case zzuh => with_unfolding_all rfl);  (case zzug => with_unfolding_all rfl); (case zzuf => with_unfolding_all rfl); (case zzuk => with_unfolding_all rfl); (case zzus => (repeat' (first | exact List.forall_mem_nil _ | refine' List.forall_mem_cons.mpr ⟨?_, ?_⟩ | k_mem | (rw [‹LC.chk _ = _›]; k_mem)))); (case zzh1 => (first | assumption | exact le_c (by assumption) rfl | omega | (refine neN ?_; omega) | (constructor <;> omega) | ((try simp only [List.length_append, List.length_cons, List.length_nil, List.length_replicate]); omega) | (constructor <;> (first | assumption | decide | omega)) | rfl | decide)); (case zzud => k_room); (case zzuu => k_units); intro zzv' zzc' zzh' zztk' zzhp' zzF' zzS' zzN'; (refine @opq _ ?_); intro zzG' zzhG'; (obtain ⟨zzt', zze1⟩ := zzhp'); subst zze1; (refine zzhG' ?_); (clear zzhG' zzG'); (have zzN' := stays0 zzS' (fun _ hq => nomatch hq)); clear zzS'; (try k_sweep); (try dsimp only))) | (exfalso; (try simp only [Bool.or_eq_true, Bool.and_eq_true, decide_eq_true_eq, beq_iff_eq, Bool.or_eq_false_iff, Bool.and_eq_false_iff, decide_eq_false_iff_not, beq_eq_false_iff_ne] at *); omega)))
  trivial
theorem reg_143ae421_V1 : True := by
  k_with "q call ref" =>
    (k_here; (with_reducible show wpAny _ _ (call (Value.ref 124) _) _ _ _); (first | (k_dflt ((refine' Spec.use (rdv_spec _ _ ?zzh1) ?zzuB ?zzuF ?zzuX ?zzuN ?zzuT ?zzuh ?zzuA ?zzug ?zzuf ?zzuk ?zzus ?zzud ?zzuu ?_); (case zzuF => k_asm); (case zzuA => with_unfolding_all rfl); (case zzuB => k_asm); (case zzuX => k_asm); (case zzuN => k_asm); (case zzuT => k_asm); (case zzuh => with_unfolding_all rfl);  (case zzug => with_unfolding_all rfl); (case zzuf => with_unfolding_all rfl); (case zzuk => with_unfolding_all rfl); (case zzus => (repeat' (first | exact List.forall_mem_nil _ | refine' List.forall_mem_cons.mpr ⟨?_, ?_⟩ | k_mem | (rw [‹LC.chk _ = _›]; k_mem)))); (case zzh1 => (first | assumption | exact le_c (by assumption) rfl | omega | (refine neN ?_; omega) | (constructor <;> omega) | ((try simp only [List.length_append, List.length_cons, List.length_nil, List.length_replicate]); omega) | (constructor <;> (first | assumption | decide | omega)) | rfl | decide)); (case zzud => k_room); (case zzuu => k_units); intro zzv' zzc' zzh' zztk' zzhp' zzF' zzS' zzN'; (refine @opq _ ?_); intro zzG' zzhG'; (obtain ⟨zzD', zzu1', zzu2', zze1, zze2⟩ := zzhp'); subst zze1; subst zze2; (refine zzhG' ?_); (clear zzhG' zzG'); (have zzN' := news_cons zzN' (stays0 zzS' (fun _ hq => nomatch hq))); clear zzS'; (try dsimp only at zzN'); (try k_sweep); (try dsimp only))) | (exfalso; (try simp only [Bool.or_eq_true, Bool.and_eq_true, decide_eq_true_eq, beq_iff_eq, Bool.or_eq_false_iff, Bool.and_eq_false_iff, decide_eq_false_iff_not, beq_eq_false_iff_ne] at *); omega)))
  trivial
theorem reg_1ea22eec_V1 : True := by
  k_with "q call ref" =>
    (k_here; (with_reducible show wpAny _ _ (call (Value.ref 103) _) _ _ _); (first | (k_dflt ((refine' Spec.use (wrap_spec _ _ ?zzh1) ?zzuB ?zzuF ?zzuX ?zzuN ?zzuT ?zzuh ?zzuA ?zzug ?zzuf ?zzuk ?zzus ?zzud ?zzuu ?_); (case zzuF => k_asm); (case zzuA => with_unfolding_all rfl); (case zzuB => k_asm); (case zzuX => k_asm); (case zzuN => k_asm); (case zzuT => k_asm); (case zzuh => with_unfolding_all rfl);  (case zzug => with_unfolding_all rfl); (case zzuf => with_unfolding_all rfl); (case zzuk => with_unfolding_all rfl); (case zzus => (repeat' (first | exact List.forall_mem_nil _ | refine' List.forall_mem_cons.mpr ⟨?_, ?_⟩ | k_mem | (rw [‹LC.chk _ = _›]; k_mem)))); (case zzh1 => (first | assumption | exact le_c (by assumption) rfl | omega | (refine neN ?_; omega) | (constructor <;> omega) | ((try simp only [List.length_append, List.length_cons, List.length_nil, List.length_replicate]); omega) | (constructor <;> (first | assumption | decide | omega)) | rfl | decide)); (case zzud => k_room); (case zzuu => k_units); intro zzv' zzc' zzh' zztk' zzhp' zzF' zzS' zzN'; (refine @opq _ ?_); intro zzG' zzhG'; (obtain ⟨zzt', zze1⟩ := zzhp'); subst zze1; (refine zzhG' ?_); (clear zzhG' zzG'); (have zzN' := stays0 zzS' (fun _ hq => nomatch hq)); clear zzS'; (try k_sweep); (try dsimp only))) | (exfalso; (try simp only [Bool.or_eq_true, Bool.and_eq_true, decide_eq_true_eq, beq_iff_eq, Bool.or_eq_false_iff, Bool.and_eq_false_iff, decide_eq_false_iff_not, beq_eq_false_iff_ne] at *); omega)))
  trivial
section
variable {t t4 : Tok} {ds : List UInt8} {z : Int} {lm dl : Addr} {kl : HL}
set_option maxHeartbeats 8000000 in
theorem tib_spec (prog : Program) (w : World) (hN : Num ds z) : Spec prog w 145 [.bytes ds.toArray t, .int 0 t4, .ref lm] [(lm, instObj 53 dl), (dl, dictOf (LMD kl) 10)] 14 140
    (fun v e => (∃ u z', v = .int z' u ∧ z' = z) ∧ e = [(lm, instObj 53 dl), (dl, dictOf (LMD kl) 10)]) := by
  obtain ⟨hd, hl, h0, hz⟩ := hN.pv
  have hs0 : 48 ≤ sgn ds 0 ∧ sgn ds 0 ≤ 57 := hd 0 h0
  have hzb : 0 ≤ z ∧ z < 1000 := by
    cases hN with
    | one hx => omega
    | two hx hy => omega
  clear hd hz
  refine' spec_goA [(Str.ofString "limits", .ref lm), (Str.ofString "base", .int 0 t4), (Str.ofString "text", .bytes ds.toArray t)] ?k6 ?k7 ?k9 ?kB ?kl ?c5 ?c2 ?c3 ?c4 (by decide) fun Z Q ok hr => ?_
  (case k6 => k_is)
  (case k7 => k_is)
  (case k9 => exact fun _ => BindsTo.of_eq rfl)
  (case kB => exact locs rfl)
  (case kl => rfl)
  (case c5 => decide)
  (case c2 => exact rfl)
  (case c3 => exact rfl)
  (case c4 => exact rfl)
  refine GoA.st (ι := Tok) (fun a => [(Str.ofString "limits", .ref lm), (Str.ofString "base", .int 0 t4), (Str.ofString "text", .bytes ds.toArray t), (Str.ofString "is_below", .bool false), (Str.ofString "at", .int 0 a)]) (fun _ => [(lm, instObj 53 dl), (dl, dictOf (LMD kl) 10)]) (fun _ => True) ?s1 ?_
  case s1 =>
    clear hr
    k_extra "x9"
    rename News _ _ _ _ => NN
    rename Fr _ _ _ _ => FF
    exact hQ _ _ _ trivial (fr_put2 FF rfl) (news_sub NN fun _ q => .tail _ q)
  intro ta _
  refine GoA.ifr ((EvB.and (r' := false) (EvB.lt (m := ds.length) (EvV.isI EvV.loc) ?e1) fun _ => ?e2).to (Bool.and_false _)) (fun hc => nomatch hc) fun _ => ?_
  case e1 =>
    clear hr
    k_extra "x9"
    exact hQ _ _ _ ⟨_, rfl⟩ (by assumption) (by assumption)
  case e2 =>
    clear hr
    k_extra "x9"
    exact hQ _ _ (by assumption) (by assumption)
  refine GoA.st (ι := Unit) (fun _ => [(Str.ofString "limits", .ref lm), (Str.ofString "base", .int 0 t4), (Str.ofString "text", .bytes ds.toArray t), (Str.ofString "is_below", .bool false), (Str.ofString "at", .int 0 ta), (Str.ofString "is_marked", .bool false)]) (fun _ => [(lm, instObj 53 dl), (dl, dictOf (LMD kl) 10)]) (fun _ => True) ?s2 ?_
  case s2 =>
    clear hr
    k_extra "x9"
    rename News _ _ _ _ => NN
    rename Fr _ _ _ _ => FF
    rw [show decide ((0 : Int) + 2 < ds.length) = false by simp only [decide_eq_false_iff_not]; omega] at FF
    exact hQ () _ _ trivial (fr_put FF rfl) NN
  intro _ _
  refine GoA.ifr (EvB.and (r := false) (r' := false) (EvB.val EvV.loc) fun h => nomatch h) (fun hc => nomatch hc) fun _ => ?_
  refine GoA.st (ι := Tok × Tok) (fun a => [(Str.ofString "limits", .ref lm), (Str.ofString "base", .int 0 t4), (Str.ofString "text", .bytes ds.toArray t), (Str.ofString "is_below", .bool false), (Str.ofString "at", .int 0 ta), (Str.ofString "is_marked", .bool false), (Str.ofString "found", .int z a.1), (Str.ofString "end", .int ds.length a.2)]) (fun _ => [(lm, instObj 53 dl), (dl, dictOf (LMD kl) 10)]) (fun _ => True) ?s3 ?_
  case s3 =>
    clear hr
    k_extra "x9"
    rename News _ _ _ _ => NN
    rename Fr _ _ _ _ => FF
    exact hQ (_, _) _ _ trivial (fr_put2 FF rfl) (news_sub NN fun _ q => .tail _ q)
  refine cu2 fun tf te => ?_
  intro _
  dsimp only
  refine GoA.ifr (b := false) ((EvB.or (r := ((ds.length : Int) == 0)) (r' := ((ds.length : Int) != ds.length)) (EvB.eq (EvV.isI EvV.loc) (EvV.isI EvV.loc)) fun _ => ?e3).to ?e4) (fun hc => nomatch hc) fun _ => ?_
  case e3 =>
    clear hr
    k_extra "x9"
    exact hQ _ _ (by assumption) (by assumption)
  case e4 =>
    simp only [bne_self_eq_false, Bool.or_false, beq_eq_false_iff_ne, ne_eq]; omega
  refine GoA.ret (post := fun v e => (∃ u z', v = .int z' u ∧ z' = z) ∧ e = [(lm, instObj 53 dl), (dl, dictOf (LMD kl) 10)]) ?e5 hr
  case e5 =>
    clear hr
    k_extra "x9"
    exact hQ _ _ _ _ ⟨⟨_, _, rfl, rfl⟩, rfl⟩ (by assumption) (by assumption)
theorem reg_d4ea2664_V1 : True := by
  k_with "q call ref" =>
    (k_here; (with_reducible show wpAny _ _ (call (Value.ref 145) _) _ _ _); (first | (k_dflt ((refine' Spec.use (tib_spec _ _ ?zzh1) ?zzuB ?zzuF ?zzuX ?zzuN ?zzuT ?zzuh ?zzuA ?zzug ?zzuf ?zzuk ?zzus ?zzud ?zzuu ?_); (case zzuF => k_asm); (case zzuA => with_unfolding_all rfl); (case zzuB => k_asm); (case zzuX => k_asm); (case zzuN => k_asm); (case zzuT => k_asm); (case zzuh => with_unfolding_all rfl);  (case zzug => with_unfolding_all rfl); (case zzuf => with_unfolding_all rfl); (case zzuk => with_unfolding_all rfl); (case zzus => (repeat' (first | exact List.forall_mem_nil _ | refine' List.forall_mem_cons.mpr ⟨?_, ?_⟩ | k_mem | (rw [‹LC.chk _ = _›]; k_mem)))); (case zzh1 => (first | assumption | exact le_c (by assumption) rfl | omega | (refine neN ?_; omega) | (constructor <;> omega) | ((try simp only [List.length_append, List.length_cons, List.length_nil, List.length_replicate]); omega) | (constructor <;> (first | assumption | decide | omega)) | rfl | decide)); (case zzud => k_room); (case zzuu => k_units); intro zzv' zzc' zzh' zztk' zzhp' zzF' zzS' zzN'; (refine @opq _ ?_); intro zzG' zzhG'; (obtain ⟨⟨zzu1', zzz', zze1, zzhz'⟩, zze2⟩ := zzhp'); subst zze1; subst zze2; (refine zzhG' ?_); (clear zzhG' zzG'); (have zzN' := stays0 zzS' (fun _ hq => hq)); clear zzS'; (try k_sweep); (try dsimp only))) | (exfalso; (try simp only [Bool.or_eq_true, Bool.and_eq_true, decide_eq_true_eq, beq_iff_eq, Bool.or_eq_false_iff, Bool.and_eq_false_iff, decide_eq_false_iff_not, beq_eq_false_iff_ne] at *); omega)))
  trivial
set_option maxHeartbeats 8000000 in
theorem stn_spec (prog : Program) (w : World) (hN : Num ds z) : Spec prog w 138 [.bytes ds.toArray t, .ref lm] [(lm, instObj 53 dl), (dl, dictOf (LMD kl) 10)] 18 180
    (fun v e => (∃ u z', v = .int z' u ∧ z' = z) ∧ e = [(lm, instObj 53 dl), (dl, dictOf (LMD kl) 10)]) := by
  refine' spec_goA [(Str.ofString "limits", .ref lm), (Str.ofString "text", .bytes ds.toArray t)] ?k6 ?k7 ?k9 ?kB ?kl ?c5 ?c2 ?c3 ?c4 (by decide) fun Z Q ok hr => ?_
  (case k6 => k_is)
  (case k7 => k_is)
  (case k9 => exact fun _ => BindsTo.of_eq rfl)
  (case kB => exact locs rfl)
  (case kl => rfl)
  (case c5 => decide)
  (case c2 => exact rfl)
  (case c3 => exact rfl)
  (case c4 => exact rfl)
  refine GoA.ret (post := fun v e => (∃ u z', v = .int z' u ∧ z' = z) ∧ e = [(lm, instObj 53 dl), (dl, dictOf (LMD kl) 10)]) ?e5 hr
  case e5 =>
    clear hr
    k_extra "x9"
    exact hQ _ _ _ _ ⟨⟨_, _, rfl, by assumption⟩, rfl⟩ (by assumption) (by assumption)
end
theorem off_L9 : True := by
  w_top off
  trivial
theorem reg_f9ddc73b_L9 : True := by
  k_with "q call ref" =>
    (k_here; (with_reducible show wpAny _ _ (call (Value.ref 138) _) _ _ _); (first | (k_dflt ((refine' Spec.use (stn_spec _ _ ?zzh1) ?zzuB ?zzuF ?zzuX ?zzuN ?zzuT ?zzuh ?zzuA ?zzug ?zzuf ?zzuk ?zzus ?zzud ?zzuu ?_); (case zzuF => k_asm); (case zzuA => with_unfolding_all rfl); (case zzuB => k_asm); (case zzuX => k_asm); (case zzuN => k_asm); (case zzuT => k_asm); (case zzuh => with_unfolding_all rfl);  (case zzug => with_unfolding_all rfl); (case zzuf => with_unfolding_all rfl); (case zzuk => with_unfolding_all rfl); (case zzus => (repeat' (first | exact List.forall_mem_nil _ | refine' List.forall_mem_cons.mpr ⟨?_, ?_⟩ | k_mem | (rw [‹LC.chk _ = _›]; k_mem)))); (case zzh1 => (first | assumption | exact le_c (by assumption) rfl | omega | (refine neN ?_; omega) | (constructor <;> omega) | ((try simp only [List.length_append, List.length_cons, List.length_nil, List.length_replicate]); omega) | (constructor <;> (first | assumption | decide | omega)) | rfl | decide)); (case zzud => k_room); (case zzuu => k_units); intro zzv' zzc' zzh' zztk' zzhp' zzF' zzS' zzN'; (refine @opq _ ?_); intro zzG' zzhG'; (obtain ⟨⟨zzu1', zzz', zze1, zzhz'⟩, zze2⟩ := zzhp'); subst zze1; subst zze2; (refine zzhG' ?_); (clear zzhG' zzG'); (have zzN' := stays0 zzS' (fun _ hq => hq)); clear zzS'; (try k_sweep); (try dsimp only))) | (exfalso; (try simp only [Bool.or_eq_true, Bool.and_eq_true, decide_eq_true_eq, beq_iff_eq, Bool.or_eq_false_iff, Bool.and_eq_false_iff, decide_eq_false_iff_not, beq_eq_false_iff_ne] at *); omega)))
  trivial
section
variable {c : LC} {b : Addr} {B W ds : List UInt8} {x y : UInt8} {i sg z : Int} {ti ts t : Tok} {ln ll cur ahd : Value}
set_option maxHeartbeats 8000000 in
theorem rn_spec (prog : Program) (w : World) (hN : Num ds z) (hA : At c.T i (ds ++ W)) (hs : sg = hdv (ds ++ W)) (hW : hdv W = -1 ∨ hdv W = 32) (hT : c.T.length ≤ 80000) :
    SpecP prog w 413 [.ref c.x] (LX c b [] i ti sg ts ln ll cur ahd) 30 300
      (fun v e => ∃ a dx k u1 z' u2 i' t1 t2, v = .ref a ∧ z' = z ∧ At c.T i' W ∧ e = TKL a dx k (.int 284 u1) (.int z' u2) (LX c b ds i' t1 (hdv W) t2 ln ll cur ahd)) := by
  subst hs
  refine' spec_go [(Str.ofString "self", .ref c.x)] ?k6 ?k7 ?k9 ?kB ?kl ?c5 ?c2 ?c3 ?c4 (by decide) fun Z Q ok hr hn' => ?_
  (case k6 => k_is)
  (case k7 => k_is)
  (case k9 => exact fun _ => BindsTo.of_eq rfl)
  (case kB => exact locs rfl)
  (case kl => rfl)
  (case c5 => decide)
  (case c2 => exact rfl)
  (case c3 => exact rfl)
  (case c4 => exact rfl)
  refine Go.loop (ι := List UInt8 × List UInt8 × Int × Tok × Tok) (fun a => a.1.length) (fun a => [(Str.ofString "self", .ref c.x)]) (fun a => LX c b a.2.1 a.2.2.1 a.2.2.2.1 (hdv (a.1 ++ W)) a.2.2.2.2 ln ll cur ahd)
    (fun a => (∀ x ∈ a.1, 48 ≤ sv x ∧ sv x ≤ 57) ∧ a.2.1 ++ a.1 = ds ∧ At c.T a.2.2.1 (a.1 ++ W)) (ds, [], i, ti, ts) ⟨hN.dig.1, rfl, hA⟩ rfl rfl ?_
  clear hA
  refine cu5 fun R1 B1 i1 u1 u2 => ?_
  rintro ⟨hd, hB, hA⟩
  dsimp only at hd hB hA ⊢
  have hBl : B1.length ≤ 2 := by have := congrArg List.length hB; have := hN.dig.2; simp at *; omega
  refine ⟨_, EvB.or (EvB.val (EvV.fn1 (P1 := fun a => a = .int (hdv (R1 ++ W)) u2) ok (fun a ha => ha ▸ is_digit_spec prog w _ _) (EvV.sign (a_sign w) ok) (by k_is) (by k_is))) fun _ => EvB.eq (EvV.sign (a_sign w) ok).isI (EvV.isI (EvV.glob ok (by k_is))), fun hb Q2 hn2 hr2 => ?_, fun hb => ?_⟩
  · cases R1 with
    | nil =>
      simp only [List.nil_append, Bool.or_eq_true, Bool.and_eq_true, decide_eq_true_eq, beq_iff_eq] at hb
      omega
    | cons x R2 =>
      refine Go.m0S (m_km w) ok (km_st prog w hA (by first | exact le_c (by assumption) rfl | omega) rfl (by first | exact le_c (by assumption) rfl | omega)) fun i2 u3 u4 hA2 => Go.nil ?_
      exact hn2 (R2, B1 ++ [x], i2, u3, u4) (Nat.lt_succ_self _) ⟨fun y hy => hd y (.tail _ hy), by rw [← hB]; simp, hA2⟩
  · cases R1 with
    | cons x R2 =>
      have hx := hd x (.head _)
      exact absurd (show (decide (48 ≤ sv x) && decide (sv x ≤ 57) || _) = false from hb) (by rw [decide_eq_true hx.1, decide_eq_true hx.2]; simp)
    | nil =>
      obtain rfl : B1 = ds := by simpa using hB
      have hNS : ¬ ((65 ≤ hdv W ∧ hdv W ≤ 90) ∨ (97 ≤ hdv W ∧ hdv W ≤ 122) ∨ hdv W = 95 ∨ (48 ≤ hdv W ∧ hdv W ≤ 57)) := by omega
      refine Go.ifr (b := false) ?e1 (fun h => nomatch h) fun _ => ?_
      case e1 =>
        have hW1 : hdv W ≠ 69 ∧ hdv W ≠ 101 := by omega
        clear hN hd hB hNS hr hn' hb
        dsimp only [List.nil_append] at hA ⊢
        generalize hdv W = sg at *
        k_extra "x9"
        rename News _ _ _ _ => NN
        exact hQ _ _ (by assumption) (news_sub NN fun _ q => .tail _ q)
      refine Go.whileF ((EvB.val (EvV.fn1 (P1 := fun a => a = .int (hdv W) u2) ok (fun a ha => ha ▸ is_name_sign_spec prog w) (EvV.sign (a_sign w) ok) (by k_is) (by k_is))).to (decide_eq_false hNS)) ?_
      refine Go.st (ι := Tok) (fun a => [(Str.ofString "self", .ref c.x), (Str.ofString "value", .int z a)]) (fun _ => LX c b B1 i1 u1 (hdv W) u2 ln ll cur ahd) ?s1 fun tv => ?_
      case s1 =>
        clear hd hB hNS hr hn' hb
        k_extra "x9"
        rename Fr _ _ _ _ => FF
        rename _ = z => hz
        subst hz
        exact hQ _ _ _ (fr_put FF rfl) (by assumption)
      refine Go.ifr (b := false) ?e2 (fun h => nomatch h) fun _ => ?_
      case e2 =>
        clear hN hd hB hNS hr hn' hb
        k_extra "x9"
        exact hQ _ _ (by assumption) (by assumption)
      refine Go.ret (EvP.token ok (EvV.glob ok (by k_is)) (EvV.p EvV.loc) (by k_is) (by k_is)) fun v c' h => ?_
      obtain ⟨x, dx, k, kv, vv, c2, rfl, ⟨rfl, rfl⟩, rfl, rfl⟩ := h
      exact hr _ _ ⟨x, dx, k, _, z, tv, i1, u1, u2, rfl, rfl, hA, rfl⟩
end
theorem off_L10 : True := by
  w_top off
  trivial
theorem m_rl (w : World) : LxM w (Str.ofString "read_level") 427 := ⟨by k_is, by k_is, by k_is, by k_is, by intros; rfl⟩
theorem ab_sign {inner X : List UInt8} (h : ∀ x ∈ inner, x = 97 ∨ x = 0 ∨ x = 98) : (hdv (inner ++ 93 :: X) ≠ -1 ∧ hdv (inner ++ 93 :: X) ≠ 91) ∧ hdv (inner ++ 93 :: X) ≠ 10 ∧ hdv (inner ++ 93 :: X) ≠ 13 := by
  cases inner with
  | nil => exact (by decide : (sv 93 ≠ -1 ∧ sv 93 ≠ 91) ∧ sv 93 ≠ 10 ∧ sv 93 ≠ 13)
  | cons x r => exact (by rintro x (rfl | rfl | rfl) <;> decide : ∀ x : UInt8, (x = 97 ∨ x = 0 ∨ x = 98) → (sv x ≠ -1 ∧ sv x ≠ 91) ∧ sv x ≠ 10 ∧ sv x ≠ 13) x (h x (.head _))
theorem cut_T {B0 R T : List UInt8} {i j : Nat} (hi : i = B0.length) (hj : j = B0.length + R.length) : cut (B0 ++ R ++ T ++ [93]) i j = R := by
  rw [List.append_assoc (B0 ++ R)]; exact cut_end _ _ _ hi hj
section
variable {c : LC} {b : Addr} {B W : List UInt8} {x y : UInt8} {i sg z : Int} {ti ts t : Tok} {ln ll cur ahd : Value}
set_option maxHeartbeats 8000000 in
theorem rg_spec {n : Nat} {B0 inner : List UInt8} (prog : Program) (w : World) (hn0 : n ≤ 10) (hN : ∀ x ∈ inner, x = 97 ∨ x = 0 ∨ x = 98) (hA : At c.T i (91 :: (inner ++ 93 :: (List.replicate n 61 ++ 93 :: W)))) (hB0 : B0.length ≤ 100) (hT : c.T.length ≤ 80000) (hR : inner.length ≤ 80000) :
    SpecP prog w 434 [.ref c.x, .int n t, .bool true] (LX c b B0 i ti 91 ts ln ll cur ahd) 30 300
      (fun v e => ∃ u i' t1 t2, v = .bytes inner.toArray u ∧ At c.T i' W ∧ e = LX c b (B0 ++ [91] ++ inner ++ 93 :: List.replicate n 61 ++ [93]) i' t1 (hdv W) t2 ln ll cur ahd) := by
  refine' spec_go [(Str.ofString "is_text", .bool true), (Str.ofString "level", .int n t), (Str.ofString "self", .ref c.x)] ?k6 ?k7 ?k9 ?kB ?kl ?c5 ?c2 ?c3 ?c4 (by decide) fun Z Q ok hr hn' => ?_
  (case k6 => k_is)
  (case k7 => k_is)
  (case k9 => exact fun _ => BindsTo.of_eq rfl)
  (case kB => exact locs rfl)
  (case kl => rfl)
  (case c5 => decide)
  (case c2 => exact rfl)
  (case c3 => exact rfl)
  (case c4 => exact rfl)
  refine Go.m0S (m_km w) ok (km_st prog w hA (by first | exact le_c (by assumption) rfl | omega) rfl (by first | exact le_c (by assumption) rfl | omega)) fun i1 u1 u2 hA1 => ?_
  refine Go.ifr ((EvB.val (EvV.fn1 (P1 := fun a => a = .int (hdv (inner ++ 93 :: (List.replicate n 61 ++ 93 :: W))) u2) ok (fun a ha => ha ▸ is_newline_spec prog w _ _) (EvV.sign (a_sign w) ok) (by k_is) (by k_is))).to (nl_no (ab_sign hN).2)) (fun hc => nomatch hc) fun _ => ?_
  refine Go.asgI (n := ((B0 ++ [91]).length : Nat)) (fun tb => [(Str.ofString "is_text", .bool true), (Str.ofString "level", .int n t), (Str.ofString "self", .ref c.x), (Str.ofString "begin", .int ((B0 ++ [91]).length : Nat) tb)]) ?e1 fun tb => ?_
  case e1 =>
    k_extra "x9"
    exact hQ _ _ _ ⟨_, rfl⟩ (by assumption) (by assumption)
  refine Go.loop (ι := List UInt8 × List UInt8 × Int × Tok × Tok) (fun a => a.1.length) (fun a => [(Str.ofString "is_text", .bool true), (Str.ofString "level", .int n t), (Str.ofString "self", .ref c.x), (Str.ofString "begin", .int ((B0 ++ [91]).length : Nat) tb)])
    (fun a => LX c b (B0 ++ [91] ++ a.2.1) a.2.2.1 a.2.2.2.1 (hdv (a.1 ++ 93 :: (List.replicate n 61 ++ 93 :: W))) a.2.2.2.2 ln ll cur ahd)
    (fun a => (∀ x ∈ a.1, x = 97 ∨ x = 0 ∨ x = 98) ∧ a.2.1 ++ a.1 = inner ∧ At c.T a.2.2.1 (a.1 ++ 93 :: (List.replicate n 61 ++ 93 :: W))) (inner, [], i1, u1, u2) ⟨hN, rfl, hA1⟩ rfl (by simp) ?_
  clear hA1 hA hN
  refine cu5 fun R1 B1 i1 u1 u2 => ?_
  rintro ⟨hN, hB, hA⟩
  dsimp only at hN hB hA ⊢
  have hBl : B1.length ≤ 80000 := by rw [← hB, List.length_append] at hR; omega
  refine ⟨true, EvB.val EvV.bool, fun _ Q2 hn2 hr2 => ?_, fun hb => nomatch hb⟩
  have hsg := ab_sign (X := List.replicate n 61 ++ 93 :: W) hN
  refine Go.ifl (EvB.eq (EvV.sign (a_sign w) ok).isI (EvV.isI (EvV.glob ok (by k_is)))) (fun hc => absurd (beq_iff_eq.mp hc) hsg.1.1) fun _ => ?_
  refine Go.ifl (EvB.eq (EvV.sign (a_sign w) ok).isI (EvV.isI (EvV.glob ok (by k_is)))) (fun hc => absurd (beq_iff_eq.mp hc) hsg.1.2) fun _ => ?_
  refine Go.ifl (EvB.eq (EvV.sign (a_sign w) ok).isI (EvV.isI (EvV.glob ok (by k_is)))) (fun hc => ?_) fun hc => ?_
  · cases R1 with
    | cons x r => exact absurd (beq_iff_eq.mp hc) ((by rintro x (rfl | rfl | rfl) <;> decide : ∀ x : UInt8, (x = 97 ∨ x = 0 ∨ x = 98) → sv x ≠ 93) x (hN x (.head _)))
    | nil =>
      obtain rfl : B1 = inner := by simpa using hB
      refine Go.iflC (EvC.eqP (EvP.m0 (m_rl w) ok (rl_spec (n := n) prog w hA rfl (by decide) (by first | exact le_c (by assumption) rfl | omega) (by simp; omega))) fun c' h => EvV.isI EvV.loc) (fun c' h => ?_) fun c' h => absurd h.1 (by simp)
      obtain ⟨-, i2, u3, u4, hA2, rfl⟩ := h
      refine Go.m0S (m_km w) ok (km_st prog w hA2 (by first | exact le_c (by assumption) rfl | omega) rfl (by simp; omega)) fun i3 u5 u6 hA3 => ?_
      refine Go.ret (EvV.p (P := fun v => ∃ t, v = .bytes B1.toArray t) ?e2) fun v c' h => ?_
      case e2 =>
        clear hr hn' hn2 hr2
        generalize hT1 : (93 : UInt8) :: List.replicate n 61 = T1
        have hT2 : T1.length = n + 1 := by rw [← hT1]; simp
        have hL : (B0 ++ [91] ++ B1 ++ T1 ++ [93]).length = B0.length + B1.length + n + 3 := by simp only [List.length_append, List.length_cons, List.length_nil]; omega
        k_extra "x9"
        rename News _ _ _ _ => NN
        rw [hL, cut_T (B0 := B0 ++ [91]) (R := B1) (T := T1) (Int.toNat_natCast _) (by rw [List.length_append, List.length_singleton]; omega)]
        exact hQ _ _ _ ⟨_, rfl⟩ (by assumption) (news_sub NN fun _ q => .tail _ q)
      obtain ⟨⟨t, rfl⟩, rfl⟩ := h
      exact hr2 _ _ (hr _ _ ⟨t, i3, u5, u6, rfl, hA3, rfl⟩)
  · cases R1 with
    | nil => exact absurd (show (sv 93 == 93) = false from hc) (by decide)
    | cons x r =>
      refine Go.ifl ((EvB.val (EvV.fn1 (P1 := fun a => a = .int (hdv (x :: r ++ 93 :: (List.replicate n 61 ++ 93 :: W))) u2) ok (fun a ha => ha ▸ is_newline_spec prog w _ _) (EvV.sign (a_sign w) ok) (by k_is) (by k_is))).to (nl_no hsg.2)) (fun hc => nomatch hc) fun _ => ?_
      refine Go.ifl (b := true) (EvB.val EvV.loc) (fun _ => ?_) fun hc => nomatch hc
      refine Go.m0S (m_km w) ok (km_st prog w hA (by first | exact le_c (by assumption) rfl | omega) rfl (by simp; omega)) fun i2 u3 u4 hA2 => Go.nil ?_
      rw [List.append_assoc]
      exact hn2 (r, B1 ++ [x], i2, u3, u4) (Nat.lt_succ_self _) ⟨fun y hy => hN y (.tail _ hy), by rw [← hB]; simp, hA2⟩
theorem rg_0 {inner : List UInt8} (prog : Program) (w : World) (hN : ∀ x ∈ inner, x = 97 ∨ x = 0 ∨ x = 98) (hA : At c.T i (91 :: (inner ++ 93 :: 93 :: W))) (hT : c.T.length ≤ 80000) (hR : inner.length ≤ 80000) :
    SpecP prog w 434 [.ref c.x, .int 0 t, .bool true] (LX c b [91] i ti 91 ts ln ll cur ahd) 30 300
      (fun v e => ∃ u i' t1 t2, v = .bytes inner.toArray u ∧ At c.T i' W ∧ e = LX c b ([91, 91] ++ inner ++ [93] ++ [93]) i' t1 (hdv W) t2 ln ll cur ahd) := rg_spec (n := 0) prog w (by decide) hN hA (by decide) hT hR
theorem rg_1 {inner : List UInt8} (prog : Program) (w : World) (hN : ∀ x ∈ inner, x = 97 ∨ x = 0 ∨ x = 98) (hA : At c.T i (91 :: (inner ++ 93 :: 61 :: 93 :: W))) (hT : c.T.length ≤ 80000) (hR : inner.length ≤ 80000) :
    SpecP prog w 434 [.ref c.x, .int 1 t, .bool true] (LX c b [91, 61] i ti 91 ts ln ll cur ahd) 30 300
      (fun v e => ∃ u i' t1 t2, v = .bytes inner.toArray u ∧ At c.T i' W ∧ e = LX c b ([91, 61, 91] ++ inner ++ [93] ++ [61] ++ [93]) i' t1 (hdv W) t2 ln ll cur ahd) := by
  have h := rg_spec (n := 1) (b := b) (ti := ti) (ts := ts) (t := t) (ln := ln) (ll := ll) (cur := cur) (ahd := ahd) (B0 := [91, 61]) prog w (by decide) hN hA (by decide) hT hR
  rw [show [91, 61] ++ [91] ++ inner ++ 93 :: List.replicate 1 61 ++ [93] = [91, 61, 91] ++ inner ++ [93] ++ [61] ++ [93] by simp [List.replicate]] at h
  exact h
end
theorem m_rg (w : World) : LxM w (Str.ofString "read_long") 434 := ⟨by k_is, by k_is, by k_is, by k_is, by intros; rfl⟩
section
variable {c : LC} {b : Addr} {B W : List UInt8} {x y : UInt8} {i sg z : Int} {ti ts t : Tok} {ln ll cur ahd : Value}
set_option maxHeartbeats 8000000 in
theorem rb_spec {n : Nat} {inner : List UInt8} (prog : Program) (w : World) (hn0 : n ≤ 10) (hN : ∀ x ∈ inner, x = 97 ∨ x = 0 ∨ x = 98) (hA : At c.T i (91 :: (List.replicate n 61 ++ 91 :: (inner ++ 93 :: (List.replicate n 61 ++ 93 :: W))))) (hT : c.T.length ≤ 80000) (hR : inner.length ≤ 80000) :
    SpecP prog w 420 [.ref c.x] (LX c b [] i ti 91 ts ln ll cur ahd) 40 400
      (fun v e => ∃ x dx k u1 u2 i' t1 t2, v = .ref x ∧ At c.T i' W ∧ e = TKL x dx k (.int 286 u1) (.bytes inner.toArray u2) (LX c b (91 :: List.replicate n 61 ++ [91] ++ inner ++ 93 :: List.replicate n 61 ++ [93]) i' t1 (hdv W) t2 ln ll cur ahd)) := by
  refine' spec_go [(Str.ofString "self", .ref c.x)] ?k6 ?k7 ?k9 ?kB ?kl ?c5 ?c2 ?c3 ?c4 (by decide) fun Z Q ok hr hn' => ?_
  (case k6 => k_is)
  (case k7 => k_is)
  (case k9 => exact fun _ => BindsTo.of_eq rfl)
  (case kB => exact locs rfl)
  (case kl => rfl)
  (case c5 => decide)
  (case c2 => exact rfl)
  (case c3 => exact rfl)
  (case c4 => exact rfl)
  refine Go.asg (fun v => [(Str.ofString "self", .ref c.x), (Str.ofString "level", v)]) (EvP.m0 (m_rl w) ok (rl_spec (n := n) prog w hA rfl (by decide) (by first | exact le_c (by assumption) rfl | omega) (by simp; omega))) fun v c' h => ?_
  obtain ⟨⟨tl, rfl⟩, i1, u1, u2, hA1, rfl⟩ := h
  rw [if_pos rfl]
  refine Go.ifr (EvB.ge (EvV.isI EvV.loc) EvV.int) (fun _ => ?_) fun hc => absurd (Int.natCast_nonneg n) (of_decide_eq_false hc)
  refine Go.ret (EvP.token ok (EvV.glob ok (by k_is)) (EvP.m2 (P1 := fun a => a = .int n tl) (P2 := fun a => a = .bool true) (m_rg w) ok EvV.loc EvV.bool (fun a a' ha ha' => ha ▸ ha' ▸ rg_spec (n := n) prog w hn0 hN hA1 (by simp; omega) hT hR)) (by k_is) (by k_is)) fun v c' h => ?_
  obtain ⟨x, dx, k, kv, vv, c2, rfl, ⟨u, i', t1, t2, rfl, hA2, rfl⟩, rfl, rfl⟩ := h
  exact hr _ _ ⟨x, dx, k, _, u, i', t1, t2, rfl, hA2, rfl⟩
theorem rb_0 {inner : List UInt8} (prog : Program) (w : World) (hN : ∀ x ∈ inner, x = 97 ∨ x = 0 ∨ x = 98) (hA : At c.T i (91 :: 91 :: (inner ++ 93 :: 93 :: W))) (hT : c.T.length ≤ 80000) (hR : inner.length ≤ 80000) :
    SpecP prog w 420 [.ref c.x] (LX c b [] i ti 91 ts ln ll cur ahd) 40 400
      (fun v e => ∃ x dx k u1 u2 i' t1 t2, v = .ref x ∧ At c.T i' W ∧ e = TKL x dx k (.int 286 u1) (.bytes inner.toArray u2) (LX c b ([91, 91] ++ inner ++ [93] ++ [93]) i' t1 (hdv W) t2 ln ll cur ahd)) := rb_spec (n := 0) prog w (by decide) hN hA hT hR
theorem rb_1 {inner : List UInt8} (prog : Program) (w : World) (hN : ∀ x ∈ inner, x = 97 ∨ x = 0 ∨ x = 98) (hA : At c.T i (91 :: 61 :: 91 :: (inner ++ 93 :: 61 :: 93 :: W))) (hT : c.T.length ≤ 80000) (hR : inner.length ≤ 80000) :
    SpecP prog w 420 [.ref c.x] (LX c b [] i ti 91 ts ln ll cur ahd) 40 400
      (fun v e => ∃ x dx k u1 u2 i' t1 t2, v = .ref x ∧ At c.T i' W ∧ e = TKL x dx k (.int 286 u1) (.bytes inner.toArray u2) (LX c b ([91, 61, 91] ++ inner ++ [93] ++ [61] ++ [93]) i' t1 (hdv W) t2 ln ll cur ahd)) := by
  have h := rb_spec (n := 1) (b := b) (ti := ti) (ts := ts) (ln := ln) (ll := ll) (cur := cur) (ahd := ahd) prog w (by decide) hN hA hT hR
  rw [show 91 :: List.replicate 1 61 ++ [91] ++ inner ++ 93 :: List.replicate 1 61 ++ [93] = [91, 61, 91] ++ inner ++ [93] ++ [61] ++ [93] by simp [List.replicate]] at h
  exact h
end
theorem off_L12 : True := by
  w_top off
  trivial
/-- a token's value, as data -/
inductive TV
  | b (l : List UInt8)
  | i (z : Int)
  | n
noncomputable def TV.is : TV → Value → Prop
  | .b l, v => ∃ t, v = .bytes l.toArray t
  | .i z, v => ∃ t, v = .int z t
  | .n, v => v = .none
/-- what a reading hands back -/
noncomputable def RET (c : LC) (kind : Int) (tv : TV) (Bf W : List UInt8) (ln ll cur ahd v : Value) (e : List (Addr × Obj)) : Prop :=
  ∃ x dx k u1 vv b' i' t1 t2, v = .ref x ∧ tv.is vv ∧ At c.T i' W ∧ e = TKL x dx k (.int kind u1) vv (LX c b' Bf i' t1 (hdv W) t2 ln ll cur ahd)
/-- what stands behind a token: a blank, or nothing -/
noncomputable def Sep (W : List UInt8) : Prop := W = [] ∨ ∃ V, W = 32 :: V
theorem Sep.ns {W : List UInt8} (h : Sep W) : ¬ NS (hdv W) := by rcases h with rfl | ⟨V, rfl⟩ <;> (unfold NS; simp only [hdv_nil, hdv_cons, sv_32]; decide)
/-- a token as it is laid, what is left behind it, its kind, its value, and what the buffer bears behind it -/
inductive Tokn : List UInt8 → List UInt8 → Int → TV → List UInt8 → Prop
  | q (q : UInt8) (V0 R0 W : List UInt8) : (q = 34 ∨ q = 39) → Inn (q :: W) V0 R0 → R0.length ≤ 80000 → Tokn (q :: V0) W 286 (.b R0) (q :: R0 ++ [q])
  | b (n : Nat) (inner W : List UInt8) : n ≤ 10 → (∀ x ∈ inner, x = 97 ∨ x = 0 ∨ x = 98) → inner.length ≤ 80000 →
    Tokn (91 :: (List.replicate n 61 ++ 91 :: (inner ++ 93 :: (List.replicate n 61 ++ 93 :: W)))) W 286 (.b inner) (91 :: List.replicate n 61 ++ [91] ++ inner ++ 93 :: List.replicate n 61 ++ [93])
  | w (x : UInt8) (r W : List UInt8) : Sep W → ((65 ≤ sv x ∧ sv x ≤ 90) ∨ (97 ≤ sv x ∧ sv x ≤ 122) ∨ sv x = 95) → (∀ y ∈ x :: r, NS (sv y)) → RWS.all (fun q => q != x :: r) = true → (x :: r).length ≤ 80000 → Tokn (x :: (r ++ W)) W 285 (.b (x :: r)) (x :: r)
  | n (ds : List UInt8) (z : Int) (W : List UInt8) : Sep W → Num ds z → Tokn (ds ++ W) W 284 (.i z) ds
  | o (x : UInt8) (W : List UInt8) : (sv x < 9 ∨ (13 < sv x ∧ sv x < 32) ∨ sv x = 127) → Tokn (x :: W) W (sv x) .n []
/-- which way a sign goes -/
noncomputable def cl (s : Int) : Nat := if s = 34 ∨ s = 39 then 1 else if s = 91 then 2 else if 48 ≤ s ∧ s ≤ 57 then 3 else if (65 ≤ s ∧ s ≤ 90) ∨ (97 ≤ s ∧ s ≤ 122) ∨ s = 95 then 4 else if (0 ≤ s ∧ s < 9) ∨ (13 < s ∧ s < 32) ∨ s = 127 then 5 else 0
theorem cl_3 {s : Int} (h : 48 ≤ s ∧ s ≤ 57) : cl s = 3 := by unfold cl; rw [if_neg (by omega), if_neg (by omega), if_pos h]
theorem cl_4 {s : Int} (h : (65 ≤ s ∧ s ≤ 90) ∨ (97 ≤ s ∧ s ≤ 122) ∨ s = 95) : cl s = 4 := by unfold cl; rw [if_neg (by omega), if_neg (by omega), if_neg (by omega), if_pos h]
theorem cl_5 {s : Int} (h : (0 ≤ s ∧ s < 9) ∨ (13 < s ∧ s < 32) ∨ s = 127) : cl s = 5 := by unfold cl; rw [if_neg (by omega), if_neg (by omega), if_neg (by omega), if_neg (by omega), if_pos h]
theorem cl_of {s : Int} : (cl s = 1 → s = 34 ∨ s = 39) ∧ (cl s = 2 → s = 91) ∧ (cl s = 3 → 48 ≤ s ∧ s ≤ 57) ∧ (cl s = 4 → (65 ≤ s ∧ s ≤ 90) ∨ (97 ≤ s ∧ s ≤ 122) ∨ s = 95) := by
  unfold cl
  by_cases h1 : s = 34 ∨ s = 39
  · rw [if_pos h1]; exact ⟨fun _ => h1, fun h => absurd h (by decide), fun h => absurd h (by decide), fun h => absurd h (by decide)⟩
  rw [if_neg h1]
  by_cases h2 : s = 91
  · rw [if_pos h2]; exact ⟨fun h => absurd h (by decide), fun _ => h2, fun h => absurd h (by decide), fun h => absurd h (by decide)⟩
  rw [if_neg h2]
  by_cases h3 : 48 ≤ s ∧ s ≤ 57
  · rw [if_pos h3]; exact ⟨fun h => absurd h (by decide), fun h => absurd h (by decide), fun _ => h3, fun h => absurd h (by decide)⟩
  rw [if_neg h3]
  by_cases h4 : (65 ≤ s ∧ s ≤ 90) ∨ (97 ≤ s ∧ s ≤ 122) ∨ s = 95
  · rw [if_pos h4]; exact ⟨fun h => absurd h (by decide), fun h => absurd h (by decide), fun h => absurd h (by decide), fun _ => h4⟩
  rw [if_neg h4]
  split <;> exact ⟨fun h => absurd h (by decide), fun h => absurd h (by decide), fun h => absurd h (by decide), fun h => absurd h (by decide)⟩
theorem cl_ok {s : Int} (h : cl s ≠ 0) : s ≠ -1 ∧ s ≠ 10 ∧ s ≠ 13 ∧ s ≠ 32 ∧ (s < 9 ∨ 13 < s) ∧ s ≠ 45 := by
  refine ⟨?_, ?_, ?_, ?_, ?_, ?_⟩
  · rintro rfl; exact h (by decide)
  · rintro rfl; exact h (by decide)
  · rintro rfl; exact h (by decide)
  · rintro rfl; exact h (by decide)
  · refine Decidable.byContradiction fun hn => ?_
    obtain rfl | rfl | rfl | rfl | rfl : s = 9 ∨ s = 10 ∨ s = 11 ∨ s = 12 ∨ s = 13 := by omega
    all_goals exact h (by decide)
  · rintro rfl; exact h (by decide)
theorem Num.hd {ds W : List UInt8} {z : Int} (h : Num ds z) : cl (hdv (ds ++ W)) = 3 := by
  cases h with
  | one hx => exact cl_3 hx
  | two hx hy => exact cl_3 hx
theorem q_cl {q : UInt8} (h : q = 34 ∨ q = 39) : cl (sv q) = 1 := by rcases h with rfl | rfl <;> decide
theorem Tokn.cl {V W Bf : List UInt8} {kind : Int} {tv : TV} (h : Tokn V W kind tv Bf) : cl (hdv V) = 1 ∨ cl (hdv V) = 2 ∨ cl (hdv V) = 3 ∨ cl (hdv V) = 4 ∨ cl (hdv V) = 5 := by
  cases h with
  | q _ _ _ _ hq => exact .inl (q_cl hq)
  | b => exact .inr (.inl (by decide : Mine.cl (sv 91) = 2))
  | w x _ _ _ hx => exact .inr (.inr (.inr (.inl (cl_4 hx))))
  | n _ _ _ _ hN => exact .inr (.inr (.inl hN.hd))
  | o x _ hx => exact .inr (.inr (.inr (.inr (cl_5 (s := sv x) (by have := sv_lt x; omega)))))
theorem Tokn.ok {V W Bf : List UInt8} {kind : Int} {tv : TV} (h : Tokn V W kind tv Bf) : hdv V ≠ -1 ∧ hdv V ≠ 10 ∧ hdv V ≠ 13 ∧ hdv V ≠ 32 ∧ (hdv V < 9 ∨ 13 < hdv V) ∧ hdv V ≠ 45 := cl_ok (by rcases h.cl with e | e | e | e | e <;> (rw [e]; decide))
theorem ret_b {c : LC} {b : Addr} {kind : Int} {l Bf W : List UInt8} {ln ll cur ahd v : Value} {e : List (Addr × Obj)}
    (h : ∃ x dx k u1 u2 i' t1 t2, v = .ref x ∧ At c.T i' W ∧ e = TKL x dx k (.int kind u1) (.bytes l.toArray u2) (LX c b Bf i' t1 (hdv W) t2 ln ll cur ahd)) : RET c kind (.b l) Bf W ln ll cur ahd v e := by
  obtain ⟨x, dx, k, u1, u2, i', t1, t2, h1, h2, h3⟩ := h
  exact ⟨x, dx, k, u1, _, b, i', t1, t2, h1, ⟨u2, rfl⟩, h2, h3⟩
theorem ret_i {c : LC} {b : Addr} {kind z : Int} {Bf W : List UInt8} {ln ll cur ahd v : Value} {e : List (Addr × Obj)}
    (h : ∃ a dx k u1 z' u2 i' t1 t2, v = .ref a ∧ z' = z ∧ At c.T i' W ∧ e = TKL a dx k (.int kind u1) (.int z' u2) (LX c b Bf i' t1 (hdv W) t2 ln ll cur ahd)) : RET c kind (.i z) Bf W ln ll cur ahd v e := by
  obtain ⟨x, dx, k, u1, z', u2, i', t1, t2, h1, h0, h2, h3⟩ := h
  exact ⟨x, dx, k, u1, _, b, i', t1, t2, h1, ⟨u2, by rw [h0]⟩, h2, h3⟩
theorem Sep.or {W : List UInt8} (h : Sep W) : hdv W = -1 ∨ hdv W = 32 := h.elim (fun e => .inl (e ▸ rfl)) fun ⟨_, e⟩ => .inr (e ▸ rfl)
theorem no_cl {a : Nat} {s : Int} {P : Prop} {b : Nat} (h : cl s = a) (g : cl s = b) (hn : Nat.beq a b = false) : P := absurd (h.symm.trans g) (Nat.ne_of_beq_eq_false hn)
section
variable {c : LC} {b : Addr} {B V W Bf : List UInt8} {i kind : Int} {ti ts t : Tok} {ln ll cur ahd : Value} {tv : TV}
/-- what the law's tokens call for, by the way that their sign goes -/
noncomputable def TkAll (prog : Program) (w : World) (c : LC) (V W : List UInt8) (kind : Int) (tv : TV) (Bf : List UInt8) : Prop :=
  (cl (hdv V) = 1 ∧ ∀ b i ti ts t ln ll cur ahd, At c.T i V → SpecP prog w 448 [.ref c.x, .int (hdv V) t] (LX c b [] i ti (hdv V) ts ln ll cur ahd) 30 300 (RET c kind tv Bf W ln ll cur ahd)) ∨
  (cl (hdv V) = 2 ∧ ∀ b i ti ts ln ll cur ahd, At c.T i V → SpecP prog w 420 [.ref c.x] (LX c b [] i ti (hdv V) ts ln ll cur ahd) 40 400 (RET c kind tv Bf W ln ll cur ahd)) ∨
  (cl (hdv V) = 3 ∧ ∀ b i ti ts ln ll cur ahd, At c.T i V → SpecP prog w 413 [.ref c.x] (LX c b [] i ti (hdv V) ts ln ll cur ahd) 30 300 (RET c kind tv Bf W ln ll cur ahd)) ∨
  (cl (hdv V) = 4 ∧ ∀ b i ti ts ln ll cur ahd, At c.T i V → SpecP prog w 406 [.ref c.x] (LX c b [] i ti (hdv V) ts ln ll cur ahd) 30 300 (RET c kind tv Bf W ln ll cur ahd)) ∨
  (cl (hdv V) = 5 ∧ V = kind.toNat.toUInt8 :: W ∧ kind = hdv V ∧ tv = .n ∧ Bf = [])
theorem tk_all (prog : Program) (w : World) (hF : Tokn V W kind tv Bf) (hK : KF w c.kn c.kd) (hT : c.T.length ≤ 80000) : TkAll prog w c V W kind tv Bf := by
  cases hF with
  | q q V0 R0 _ hq hQ hR => exact .inl ⟨q_cl hq, fun b i ti ts t ln ll cur ahd hA => (rs_spec prog w hq hQ hA hT hR).mono fun _ _ => ret_b⟩
  | b n inner _ hn hN hR => exact .inr (.inl ⟨(by decide : cl (sv 91) = 2), fun b i ti ts ln ll cur ahd hA => (rb_spec prog w hn hN hA hT hR).mono fun _ _ => ret_b⟩)
  | n ds z _ hW hN => exact .inr (.inr (.inl ⟨hN.hd, fun b i ti ts ln ll cur ahd hA => (rn_spec prog w hN hA rfl hW.or hT).mono fun _ _ => ret_i⟩))
  | w x r _ hW hx hN hno hR => exact .inr (.inr (.inr (.inl ⟨cl_4 hx, fun b i ti ts ln ll cur ahd hA => (rw_spec (word := x :: r) prog w hA rfl hN hW.ns hK hno hT hR).mono fun _ _ => ret_b⟩)))
  | o x _ hx => exact .inr (.inr (.inr (.inr ⟨cl_5 (s := sv x) (by have := sv_lt x; omega), by rw [sv_back], rfl, rfl, rfl⟩)))
end
theorem m_clear (w : World) : LxM w (Str.ofString "clear") 350 := ⟨by k_is, by k_is, by k_is, by k_is, by intros; rfl⟩
theorem m_sb (w : World) : LxM w (Str.ofString "skip_blank") 371 := ⟨by k_is, by k_is, by k_is, by k_is, by intros; rfl⟩
theorem m_rs (w : World) : LxM w (Str.ofString "read_string") 448 := ⟨by k_is, by k_is, by k_is, by k_is, by intros; rfl⟩
theorem m_rb (w : World) : LxM w (Str.ofString "read_bracket") 420 := ⟨by k_is, by k_is, by k_is, by k_is, by intros; rfl⟩
theorem m_rn (w : World) : LxM w (Str.ofString "read_numeral") 413 := ⟨by k_is, by k_is, by k_is, by k_is, by intros; rfl⟩
theorem m_rw (w : World) : LxM w (Str.ofString "read_word") 406 := ⟨by k_is, by k_is, by k_is, by k_is, by intros; rfl⟩
section
variable {c : LC} {b : Addr} {B W : List UInt8} {x y : UInt8} {i sg z : Int} {ti ts t : Tok} {ln ll cur ahd : Value}
set_option maxHeartbeats 8000000 in
theorem read_spec {P V Bf : List UInt8} {kind : Int} {tv : TV} (prog : Program) (w : World) (hP : P = [] ∨ P = [32]) (hF : Tokn V W kind tv Bf) (hK : KF w c.kn c.kd) (hA : At c.T i (P ++ V)) (hs : sg = hdv (P ++ V)) (hT : c.T.length ≤ 80000) :
    SpecP prog w 364 [.ref c.x] (LX c b B i ti sg ts ln ll cur ahd) 60 600 (RET c kind tv Bf W ln ll cur ahd) := by
  subst hs
  refine' spec_go [(Str.ofString "self", .ref c.x)] ?k6 ?k7 ?k9 ?kB ?kl ?c5 ?c2 ?c3 ?c4 (by decide) fun Z Q ok hr hn' => ?_
  (case k6 => k_is)
  (case k7 => k_is)
  (case k9 => exact fun _ => BindsTo.of_eq rfl)
  (case kB => exact locs rfl)
  (case kl => rfl)
  (case c5 => decide)
  (case c2 => exact rfl)
  (case c3 => exact rfl)
  (case c4 => exact rfl)
  refine Go.expr (EvP.m0 (m_clear w) ok (clear_spec prog w)) fun v c' h => ?_
  obtain ⟨rfl, b', rfl⟩ := h
  refine ⟨rfl, ?_⟩
  refine Go.loopC (ι := List UInt8 × Int × Tok × Tok) (fun a => a.1.length) (fun a => [(Str.ofString "self", .ref c.x)]) (fun a => LX c b' [] a.2.1 a.2.2.1 (hdv (a.1 ++ V)) a.2.2.2 ln ll cur ahd) (fun a => (a.1 = [] ∨ a.1 = [32]) ∧ At c.T a.2.1 (a.1 ++ V)) (P, i, ti, ts) ⟨hP, hA⟩ rfl rfl ?_
  clear hP hA
  refine cu4 fun P i ti ts => ?_
  rintro ⟨hP, hA⟩
  dsimp only at hP hA ⊢
  rcases hP with rfl | rfl
  rotate_left
  · refine ⟨fun b c' => b = true ∧ ∃ i' t1 t2, At c.T i' V ∧ c' = LX c b' [] i' t1 (hdv V) t2 ln ll cur ahd, EvC.val (EvP.m0 (m_sb w) ok (sb_32 prog w hA (by first | exact le_c (by assumption) rfl | omega))) fun v c' h => ⟨true, h.1, rfl, h.2⟩, fun c' h Q2 hn2 hr2 => ?_, fun c' h => Bool.noConfusion h.1⟩
    obtain ⟨-, i', t1, t2, hA', rfl⟩ := h
    exact Go.pass (Go.nil (hn2 ([], i', t1, t2) Nat.zero_lt_one ⟨.inl rfl, hA'⟩))
  refine ⟨fun b c' => b = false ∧ c' = LX c b' [] i ti (hdv V) ts ln ll cur ahd, EvC.val (EvP.m0 (m_sb w) ok (sb_no prog w hF.ok.2)) fun v c' h => ⟨false, h.1, rfl, h.2⟩, fun c' h => Bool.noConfusion h.1, fun c' h => ?_⟩
  obtain ⟨-, rfl⟩ := h
  refine Go.asgE [(Str.ofString "self", .ref c.x), (Str.ofString "sign", .int (hdv V) ts)] (EvV.sign (a_sign w) ok) ?_
  have hpos := hF.ok.1
  have hcl := hF.cl
  have hall := tk_all prog w hF hK hT
  generalize hg : hdv V = s at *
  refine Go.ifr (EvB.eq (EvV.isI EvV.loc) (EvV.isI (EvV.glob ok (by k_is)))) (fun hc => absurd (beq_iff_eq.mp hc) hpos) fun _ => ?_
  refine Go.ifr (b := [34, 39].any fun x => x == s) ?e1 (fun hc => ?_) fun h1 => ?_
  case e1 =>
    clear hr hn' hF hK hA hpos hcl hg
    k_extra "x9"
    rename News _ _ _ _ => NN
    exact hQ _ _ (by assumption) (news_sub NN fun _ q => .tail _ q)
  · have hc : cl s = 1 := by
      simp only [List.any_cons, List.any_nil, Bool.or_eq_true, beq_iff_eq, Bool.or_false] at hc
      exact if_pos (by omega)
    subst hg
    rcases hall with ⟨-, g⟩ | ⟨e, -⟩ | ⟨e, -⟩ | ⟨e, -⟩ | ⟨e, -⟩
    · exact Go.ret (EvP.m1 (P1 := fun a => a = .int (hdv V) ts) (m_rs w) ok EvV.loc fun a ha => ha ▸ g _ _ _ _ _ _ _ _ _ hA) fun v c' h => hr v c' h
    all_goals exact no_cl e hc rfl
  refine Go.ifr (EvB.eq (EvV.isI EvV.loc) (EvV.isI (EvV.glob ok (by k_is)))) (fun hc => ?_) fun h2 => ?_
  · have hc : cl s = 2 := by rw [beq_iff_eq.mp hc]; decide
    subst hg
    rcases hall with ⟨e, -⟩ | ⟨-, g⟩ | ⟨e, -⟩ | ⟨e, -⟩ | ⟨e, -⟩
    · exact no_cl e hc rfl
    · exact Go.ret (EvP.m0 (m_rb w) ok (g _ _ _ _ _ _ _ _ hA)) fun v c' h => hr v c' h
    · exact no_cl e hc rfl
    · exact no_cl e hc rfl
    · exact no_cl e hc rfl
  refine Go.ifr (EvB.eq (EvV.isI EvV.loc) (EvV.isI (EvV.glob ok (by k_is)))) (fun hc => absurd hcl (by rw [beq_iff_eq.mp hc]; decide)) fun _ => ?_
  refine Go.ifr (EvB.val (EvV.fn1 (P1 := fun a => a = .int s ts) ok (fun a ha => ha ▸ is_digit_spec prog w _ _) EvV.loc (by k_is) (by k_is))) (fun hc => ?_) fun h3 => ?_
  · have hc : cl s = 3 := by
      simp only [Bool.and_eq_true, decide_eq_true_eq] at hc
      exact cl_3 hc
    subst hg
    rcases hall with ⟨e, -⟩ | ⟨e, -⟩ | ⟨-, g⟩ | ⟨e, -⟩ | ⟨e, -⟩
    · exact no_cl e hc rfl
    · exact no_cl e hc rfl
    · exact Go.ret (EvP.m0 (m_rn w) ok (g _ _ _ _ _ _ _ _ hA)) fun v c' h => hr v c' h
    · exact no_cl e hc rfl
    · exact no_cl e hc rfl
  refine Go.ifr (EvB.val (EvV.fn1 (P1 := fun a => a = .int s ts) ok (fun a ha => ha ▸ is_letter_spec prog w _ _) EvV.loc (by k_is) (by k_is))) (fun hc => ?_) fun h4 => ?_
  · have hc : cl s = 4 := by
      simp only [Bool.or_eq_true, Bool.and_eq_true, decide_eq_true_eq, beq_iff_eq] at hc
      exact cl_4 (by omega)
    subst hg
    rcases hall with ⟨e, -⟩ | ⟨e, -⟩ | ⟨e, -⟩ | ⟨-, g⟩ | ⟨e, -⟩
    · exact no_cl e hc rfl
    · exact no_cl e hc rfl
    · exact no_cl e hc rfl
    · exact Go.ret (EvP.m0 (m_rw w) ok (g _ _ _ _ _ _ _ _ hA)) fun v c' h => hr v c' h
    · exact no_cl e hc rfl
  refine Go.ifr (EvB.eq (EvV.isI EvV.loc) (EvV.isI (EvV.glob ok (by k_is)))) (fun hc => absurd hcl (by rw [beq_iff_eq.mp hc]; decide)) fun _ => ?_
  refine Go.ifr (b := [61, 60, 62, 126].any fun x => x == s) ?e2 (fun hc => absurd hcl ?_) fun _ => ?_
  case e2 =>
    clear hr hn' hF hK hA hpos hcl hg h1 h2 h3 h4
    k_extra "x9"
    rename News _ _ _ _ => NN
    exact hQ _ _ (by assumption) (news_sub NN fun _ q => .tail _ q)
  · simp only [List.any_cons, List.any_nil, Bool.or_eq_true, beq_iff_eq, Bool.or_false] at hc
    rcases hc with rfl | rfl | rfl | rfl <;> decide
  subst hg
  rcases hall with ⟨e, -⟩ | ⟨e, -⟩ | ⟨e, -⟩ | ⟨e, -⟩ | ⟨-, hV, rfl, rfl, rfl⟩
  · exact absurd h1 (by rcases cl_of.1 e with e | e <;> (rw [e]; decide))
  · exact absurd h2 (by rw [cl_of.2.1 e]; decide)
  · have := cl_of.2.2.1 e; exact absurd h3 (by simp only [Bool.not_eq_false, Bool.and_eq_true, decide_eq_true_eq]; exact this)
  · have := cl_of.2.2.2 e; exact absurd h4 (by simp only [Bool.not_eq_false, Bool.or_eq_true, Bool.and_eq_true, decide_eq_true_eq, beq_iff_eq]; omega)
  rw [hV] at hA
  refine Go.m0S (m_go w) ok (go_st prog w hA (by first | exact le_c (by assumption) rfl | omega)).lift fun i1 u1 u2 hA1 => ?_
  refine Go.ret (EvP.token ok EvV.loc EvV.none.p (by k_is) (by k_is)) fun v c' h => ?_
  obtain ⟨x, dx, k, kv, vv, c2, rfl, ⟨rfl, rfl⟩, rfl, rfl⟩ := h
  exact hr _ _ ⟨x, dx, k, _, _, b', i1, u1, u2, rfl, rfl, hA1, rfl⟩
end
theorem reg_8acf96fa_L13 : True := by
  k_with "q POSTR" =>
    (intro v' c' h' tk' hp' F' S' N'; (obtain ⟨x', dx', k', u1', vv', b', i', t1, t2, e1, htv', hA', e2⟩ := hp'); subst e1; subst e2; clear S'; (try dsimp only [LX, hdv_cons, hdv_nil, sv_0, sv_1, sv_8, sv_9, sv_10, sv_31, sv_32, sv_34, sv_39, sv_48, sv_49, sv_50, sv_51, sv_52, sv_53, sv_54, sv_55, sv_56, sv_57, sv_61, sv_65, sv_91, sv_92, sv_93, sv_95, sv_97, sv_98, sv_100, sv_101, sv_110, sv_116, sv_120, sv_127] at N'); (try k_sweep); (try dsimp only))
  trivial
/-- what a call of next hands back -/
noncomputable def RETN (c : LC) (kind : Int) (tv : TV) (Bf W : List UInt8) (ln v : Value) (e : List (Addr × Obj)) : Prop :=
  ∃ x dx k u1 vv b' i' t1 t2, v = .ref x ∧ tv.is vv ∧ At c.T i' W ∧ e = TKL x dx k (.int kind u1) vv (LX c b' Bf i' t1 (hdv W) t2 ln ln (.ref x) .none)
section
variable {c : LC} {b : Addr} {B W : List UInt8} {x y : UInt8} {i sg z : Int} {ti ts t tl : Tok} {ln ll cur ahd : Value}
set_option maxHeartbeats 8000000 in
theorem next_spec {P V Bf : List UInt8} {kind : Int} {tv : TV} (prog : Program) (w : World) (hP : P = [] ∨ P = [32]) (hF : Tokn V W kind tv Bf) (hK : KF w c.kn c.kd) (hA : At c.T i (P ++ V)) (hs : sg = hdv (P ++ V)) (hT : c.T.length ≤ 80000) :
    SpecP prog w 287 [.ref c.x] (LX c b B i ti sg ts (.int 1 tl) ll cur .none) 70 700 (RETN c kind tv Bf W (.int 1 tl)) := by
  rintro p loose mean mg mb dp un outer base g ⟨hs0, gs0, ds0, tk0, os0⟩ R B' X' T' sub sz hC hdp hun hret
  refine' enterP X' T' sub sz hC ?k6 ?k7 ?k8 ?k9 ?kB ?_ ?c5 ?c2 ?c3 ?c4
  (case k6 => k_is)
  (case k7 => k_is)
  (case k8 => exact room0 hdp)
  (case k9 => exact BindsTo.of_eq rfl)
  (case kB => exact locs rfl)
  (case c5 => decide)
  (case c2 => exact rfl)
  (case c3 => exact rfl)
  (case c4 => exact rfl)
  intro L' h' F' N' l1
  (try k_lt l1)
  clear sub sz hC
  (try dsimp only)
  (try k_fold)
  (try dsimp only [LX] at N' l1)
  (first | refine W_start fun Q0 E0 k1 k2 k3 hPO => ?_ | refine P_start fun Q0 E0 k1 k2 k3 hPO => ?_)
  (repeat' (first 
    | ((with_reducible show wpP _ _ (call (Value.ref 364) _) _ _ _); (first | (refine' SpecP.use (read_spec _ _ ?h1 ?h2 ?h3 ?h4 ?h5 ?h6) ?uB ?uF ?uX ?uN ?uT ?uh ?uA ?ug ?uf ?uk ?us ?ud ?uu ?_; walk_at "close"; (case h1 => walk_at "side"); (case h2 => walk_at "side"); (case h3 => walk_at "side"); (case h4 => walk_at "side"); (case h5 => walk_at "side"); (case h6 => walk_at "side"); (case ud => k_room); (case uu => k_units); walk_at "POSTR") | walk_at "contra"))
    | walk_at "pstep"))
  all_goals (refine' hret _ (TKL ?tx_1 ?dtx_1 ⟨?ta_1, ?tb_1, ?tc_1, ?td_1⟩ (.int kind ?u1_1) ?vv_1 (LX c ?bb Bf ?i3_1 ?u3_1 (hdv W) ?u4_1 (.int 1 tl) (.int 1 tl) (.ref ?tx2_1) .none)) _ _ (Fr.keep (by assumption)) (fr_size (by assumption)) ?dH_1 ⟨_, _, _, _, _, _, _, _, _, rfl, ?htv_1, by assumption, rfl⟩; (case dH_1 => exact has_of (by assumption) (by (repeat' (first | exact List.forall_mem_nil _ | refine' List.forall_mem_cons.mpr ⟨?_, ?_⟩ | k_mem | (rw [‹LC.chk _ = _›]; k_mem))))); (case htv_1 => assumption))
end
section
open PySem.Builtin
theorem up0_at : ∀ {B : List UInt8}, B.contains 0 = true → B[(up0 B).length]? = some 0 ∧ ∀ j, j < (up0 B).length → ∃ x, B[j]? = some x ∧ x ≠ 0
  | [], h => by cases h
  | x :: r, h => by
    by_cases hx : x = 0
    · subst hx
      have e : up0 (0 :: r) = [] := rfl
      rw [e]
      exact ⟨rfl, fun j hj => absurd hj (Nat.not_lt_zero _)⟩
    · have e : up0 (x :: r) = x :: up0 r := by
        unfold up0
        rw [List.takeWhile_cons_of_pos (p := fun x => x != 0) (by simpa using hx)]
      have h' : r.contains 0 = true := by
        rw [List.contains_cons] at h
        rcases Bool.or_eq_true_iff.mp h with q | q
        · exact absurd (beq_iff_eq.mp q).symm hx
        · exact q
      obtain ⟨a, b⟩ := up0_at h'
      rw [e]
      refine ⟨by simpa using a, fun j hj => ?_⟩
      cases j with
      | zero => exact ⟨x, rfl, hx⟩
      | succ j => simpa using b j (by simpa using hj)
theorem up0_none : ∀ {B : List UInt8}, B.contains 0 = false → up0 B = B
  | [], _ => rfl
  | x :: r, h => by
    rw [List.contains_cons] at h
    obtain ⟨h1, h2⟩ := Bool.or_eq_false_iff.mp h
    have hx : x ≠ 0 := fun q => by subst q; simp at h1
    unfold up0
    rw [List.takeWhile_cons_of_pos (p := fun x => x != 0) (by simpa using hx)]
    exact congrArg (x :: ·) (up0_none h2)
theorem up0_take (B : List UInt8) : B.take (up0 B).length = up0 B := by
  have h : up0 B <+: B := List.takeWhile_prefix _
  exact (List.prefix_iff_eq_take.mp h).symm
theorem find_up0 {B : List UInt8} (h : B.contains 0 = true) : Bytes.find? B.toArray #[0] 0 B.toArray.size = some (up0 B).length := by
  obtain ⟨a, b⟩ := up0_at h
  have hl : (up0 B).length < B.length := by
    rcases Nat.lt_or_ge (up0 B).length B.length with q | q
    · exact q
    · rw [List.getElem?_eq_none q] at a; cases a
  have ext : ∀ i x, B[i]? = some x → B.toArray.extract i (i + (#[0] : Array UInt8).size) = #[x] := fun i x hx => by
    have hi : i < B.length := by
      rcases Nat.lt_or_ge i B.length with q | q
      · exact q
      · rw [List.getElem?_eq_none q] at hx; cases hx
    apply Array.toList_inj.mp
    simp only [List.extract_toArray, List.extract_eq_take_drop, List.size_toArray, List.length_cons, List.length_nil]
    rw [show i + (0 + 1) - i = 1 by omega, List.drop_eq_getElem_cons hi]
    rw [List.getElem?_eq_getElem hi] at hx
    rw [Option.some.inj hx]
    rfl
  unfold Bytes.find?
  rw [show (fun x : Nat => x + 0) = _root_.id from rfl, List.map_id, List.find?_range_eq_some]
  refine ⟨?_, ?_, fun j hj => ?_⟩
  · rw [ext _ _ a]; decide
  · rw [List.mem_range, List.size_toArray]; simp; omega
  · obtain ⟨x, hx, hne⟩ := b j hj
    rw [ext _ _ hx]
    simpa using hne
end
theorem reg_90936557_W2 : True := by
  k_with "q subscriptTail" =>
    (k_here; (with_reducible show wpAny _ _ (subscriptTail _ (PySem.Expr.Slice _ _ none _) (Value.bytes (List.toArray _) _) (Value.ref _)) _ _ _); k_dflt (refine' txt_upto (s := ⟨_, _, _, _, _⟩) ?zztuF ?zztuN ?zztua ?zztub ?_ ?zztuc ?zztud; (case zztuF => k_asm); (case zztuN => first | k_asm | exact News.nil); (case zztua => omega); (case zztub => omega); (case zztuc => with_unfolding_all rfl); (case zztud => intro _; with_unfolding_all rfl)); intro zzh' zzt' zztk' zzF' zzN'; (try k_sweep))
  trivial
theorem reg_d07ccf89_W2 : True := by
  k_with "q compareOp In int bytes" =>
    (k_here; k_dflt (refine' bc_in ?zzvca ?_; (case zzvca => omega)); (try simp only [List.contains_toArray]))
  trivial
theorem reg_ac7abfd2_W2 : True := by
  k_with "q getMethod bytes" =>
    (k_here; (with_reducible show wpAny _ _ (getMethod (Value.bytes _ _) (PySem.Str.ofString "index") _) _ _ _); k_dflt (refine bf_getMethod_index ?_); (try dsimp only))
  trivial
theorem reg_26cc998d_W2 : True := by
  k_with "q call builtin:bytes.index" =>
    (k_here; k_dflt (refine bf_index (find_up0 (by assumption)) ?_); intro _ _; (try dsimp only))
  trivial
theorem up0_len (B : List UInt8) : (up0 B).length ≤ B.length := (List.takeWhile_sublist _).length_le
section
variable {B : List UInt8} {t : Tok}
set_option maxHeartbeats 8000000 in
theorem near_spec (prog : Program) (w : World) (hB : B.length ≤ 100000) : Spec prog w 483 [.bytes B.toArray t] [] 4 40 (fun v _ => ∃ u, v = .bytes (List.toArray (up0 B)) u) := by
  have hlen := up0_len B
  rintro p loose mean mg mb dp un outer base g ⟨hs0, gs0, ds0, tk0, os0⟩ R B' X' T' sub sz hC hdp hun hret
  refine' enter X' T' sub sz hC ?k6 ?k7 ?k8 ?k9 ?kB ?_ ?c5 ?c2 ?c3 ?c4
  (case k6 => k_is)
  (case k7 => k_is)
  (case k8 => exact room0 hdp)
  (case k9 => exact BindsTo.of_eq rfl)
  (case kB => exact locs rfl)
  (case c5 => decide)
  (case c2 => exact rfl)
  (case c3 => exact rfl)
  (case c4 => exact rfl)
  intro L' h' F' N' l1
  (try k_lt l1)
  clear sub sz hC
  (try dsimp only)
  (try k_fold)
  (try dsimp only [LX] at N' l1)
  (first | refine W_start fun Q0 E0 k1 k2 k3 hPO => ?_ | refine P_start fun Q0 E0 k1 k2 k3 hPO => ?_)
  (repeat' (first 
    | walk_at "astep"))
  · (refine' hret _ _ _ _ (Fr.keep (by assumption)) (fr_size (by assumption)) (has_of (by assumption) (fun _ hq => hq)) ⟨_, by rw [Int.toNat_natCast, up0_take]⟩)
  · (refine' hret _ _ _ _ (Fr.keep (by assumption)) (fr_size (by assumption)) (has_of (by assumption) (fun _ hq => hq)) ⟨_, by rw [up0_none (by first | assumption | exact Bool.eq_false_iff.mpr (by assumption) | exact Bool.not_eq_true _ ▸ (by assumption))]⟩)
end
section
open PySem.Builtin PySem.Builtin._codecs
noncomputable def dg (z : Nat) : List UInt8 := if z < 10 then [(48 + z).toUInt8] else if z < 100 then [(48 + z / 10).toUInt8, (48 + z % 10).toUInt8] else [(48 + z / 100).toUInt8, (48 + z / 10 % 10).toUInt8, (48 + z % 10).toUInt8]
theorem enc_127 (t : Tok) : encodeNarrow "str.encode" utf8Codec none (.str (Str.ofString (toString (127 : Int))) t) (Str.ofString (toString (127 : Int))) = pure [49, 50, 55].toArray := by kernel_rfl
theorem enc_nat (t : Tok) (z : Nat) (hz : z < 90) : encodeNarrow "str.encode" utf8Codec none (.str (Str.ofString (toString ((z : Nat) : Int))) t) (Str.ofString (toString ((z : Nat) : Int))) = pure (dg z).toArray :=
  List.map_inj_left.mp (show (List.range 90).map (fun z => encodeNarrow "str.encode" utf8Codec none (.str (Str.ofString (toString ((z : Nat) : Int))) t) (Str.ofString (toString ((z : Nat) : Int)))) = (List.range 90).map fun z => pure (dg z).toArray by kernel_rfl) z (List.mem_range.mpr hz)
section
variable {M : Model} {prog : Program} {w : World} {A : Around} {E : Value → Shared → Prop} {s : Shared} {x : Str} {t : Tok} {b : List UInt8} {pl : Sem Bool}
theorem en_getMethod {Q : Value × List Value → Shared → Prop} (h : Q (.builtin "str.encode", [.str x t]) s) : wpAny M A (getMethod (.str x t) "encode" pl) Q E s :=
  by with_reducible exact GM.of (.str x t) (typeIs_str _ _ _) F.slot_str_encode F.type_str_encode GM.noRef h
theorem en_call {Q : Value → Shared → Prop} (e : encodeNarrow "str.encode" utf8Codec none (.str x t) x = pure b.toArray) (hz : b.length ≤ 100) (h : ∀ t' k, Q (.bytes b.toArray t') { s with toks := k }) :
    wpAny (model prog w) A (call (.builtin "str.encode") [.str x t]) Q E s :=
  wpAny_call_entry F.slot_str_encode (typeIs_str _ _ _) F.entry_str_encode (by
    rw [encode_tree, encodeRoad_utf8, e]
    exact wpAny_bind (wpAny_bind (wpAny_pure (wpAny_mkBytes (hb := by rw [List.size_toArray]; exact Nat.le_trans hz (by decide +kernel)) (wpAny_pure ⟨_, rfl, h _ _⟩))))) (F.args_str_encode_1 _)
theorem en_num {z : Int} {Q : Value → Shared → Prop} (h0 : 0 ≤ z) (h1 : z < 90) (h : ∀ t' k, Q (.bytes (dg z.toNat).toArray t') { s with toks := k }) :
    wpAny (model prog w) A (call (.builtin "str.encode") [.str (Str.ofString (toString z)) t]) Q E s := by
  have hz : z = ((z.toNat : Nat) : Int) := (Int.toNat_of_nonneg h0).symm
  have e := enc_nat t z.toNat (by omega)
  rw [← hz] at e
  exact en_call e (by unfold dg; split <;> (try split) <;> simp) h
end
end
theorem off_LT : True := by
  w_top off
  trivial
theorem reg_57009d55_LT : True := by
  k_with "q call ref" =>
    (k_here; (with_reducible show wpAny _ _ (call (Value.ref 476) _) _ _ _); (first | (k_dflt ((refine' Spec.use (law_next_spec _ _ (by assumption) (by assumption) ?zzh1 ?zzh2 ?zzh3) ?zzuB ?zzuF ?zzuX ?zzuN ?zzuT ?zzuh ?zzuA ?zzug ?zzuf ?zzuk ?zzus ?zzud ?zzuu ?_); (case zzuF => k_asm); (case zzuA => with_unfolding_all rfl); (case zzuB => k_asm); (case zzuX => k_asm); (case zzuN => k_asm); (case zzuT => k_asm); (case zzuh => with_unfolding_all rfl);  (case zzug => with_unfolding_all rfl); (case zzuf => with_unfolding_all rfl); (case zzuk => with_unfolding_all rfl); (case zzus => (repeat' (first | exact List.forall_mem_nil _ | refine' List.forall_mem_cons.mpr ⟨?_, ?_⟩ | k_mem | (rw [‹LC.chk _ = _›]; k_mem)))); (case zzh1 => (first | assumption | exact le_c (by assumption) rfl | omega | (refine neN ?_; omega) | (constructor <;> omega) | ((try simp only [List.length_append, List.length_cons, List.length_nil, List.length_replicate]); omega) | (constructor <;> (first | assumption | decide | omega)) | rfl | decide)); (case zzh2 => (first | assumption | exact le_c (by assumption) rfl | omega | (refine neN ?_; omega) | (constructor <;> omega) | ((try simp only [List.length_append, List.length_cons, List.length_nil, List.length_replicate]); omega) | (constructor <;> (first | assumption | decide | omega)) | rfl | decide)); (case zzh3 => (first | assumption | exact le_c (by assumption) rfl | omega | (refine neN ?_; omega) | (constructor <;> omega) | ((try simp only [List.length_append, List.length_cons, List.length_nil, List.length_replicate]); omega) | (constructor <;> (first | assumption | decide | omega)) | rfl | decide)); (case zzud => k_room); (case zzuu => k_units); intro zzv' zzc' zzh' zztk' zzhp' zzF' zzS' zzN'; (refine @opq _ ?_); intro zzG' zzhG'; (obtain ⟨⟨zzz', zzu', zze1, zzhz1, zzhz2⟩, zzu2, zzn2, zze2⟩ := zzhp'); subst zze1; subst zze2; (refine zzhG' ?_); (clear zzhG' zzG'); (have zzN' := stays_c1 zzS' zzN' (by k_upd)); clear zzS'; (try k_sweep); (try dsimp only); (first | ((have q : zzz' = 0 ∨ zzz' = 1 := by omega); clear zzhz1 zzhz2; rcases q with q | q <;> subst q) | ((have q : zzz' = 0 ∨ zzz' = 1 ∨ zzz' = 2 := by omega); clear zzhz1 zzhz2; rcases q with q | q | q <;> subst q) | ((have q : zzz' = 0 ∨ zzz' = 1 ∨ zzz' = 2 ∨ zzz' = 3 := by omega); clear zzhz1 zzhz2; rcases q with q | q | q | q <;> subst q) | ((have q : zzz' = 0 ∨ zzz' = 1 ∨ zzz' = 2 ∨ zzz' = 3 ∨ zzz' = 4 ∨ zzz' = 5 ∨ zzz' = 6 := by omega); clear zzhz1 zzhz2; rcases q with q | q | q | q | q | q | q <;> subst q) | skip))) | (exfalso; (try simp only [Bool.or_eq_true, Bool.and_eq_true, decide_eq_true_eq, beq_iff_eq, Bool.or_eq_false_iff, Bool.and_eq_false_iff, decide_eq_false_iff_not, beq_eq_false_iff_ne] at *); omega)))
  trivial
theorem reg_793d9349_LT : True := by
  k_with "q call ref" =>
    (k_here; (with_reducible show wpAny _ _ (call (Value.ref 490) _) _ _ _); (first | (k_dflt ((refine' Spec.use (law_inner_spec _ _ (by assumption) (by assumption) ?zzh1 ?zzh2) ?zzuB ?zzuF ?zzuX ?zzuN ?zzuT ?zzuh ?zzuA ?zzug ?zzuf ?zzuk ?zzus ?zzud ?zzuu ?_); (case zzuF => k_asm); (case zzuA => with_unfolding_all rfl); (case zzuB => k_asm); (case zzuX => k_asm); (case zzuN => k_asm); (case zzuT => k_asm); (case zzuh => with_unfolding_all rfl);  (case zzug => with_unfolding_all rfl); (case zzuf => with_unfolding_all rfl); (case zzuk => with_unfolding_all rfl); (case zzus => (repeat' (first | exact List.forall_mem_nil _ | refine' List.forall_mem_cons.mpr ⟨?_, ?_⟩ | k_mem | (rw [‹LC.chk _ = _›]; k_mem)))); (case zzh1 => (first | assumption | exact le_c (by assumption) rfl | omega | (refine neN ?_; omega) | (constructor <;> omega) | ((try simp only [List.length_append, List.length_cons, List.length_nil, List.length_replicate]); omega) | (constructor <;> (first | assumption | decide | omega)) | rfl | decide)); (case zzh2 => (first | assumption | exact le_c (by assumption) rfl | omega | (refine neN ?_; omega) | (constructor <;> omega) | ((try simp only [List.length_append, List.length_cons, List.length_nil, List.length_replicate]); omega) | (constructor <;> (first | assumption | decide | omega)) | rfl | decide)); (case zzud => k_room); (case zzuu => k_units); intro zzv' zzc' zzh' zztk' zzhp' zzF' zzS' zzN'; (refine @opq _ ?_); intro zzG' zzhG'; (obtain ⟨zzD', zzL1, zzR1, zztl', zztr', zzkk', zzu', zzn', zze1, zzhP', zzhL', zzhR', zzhk1, zzhk2, zze2⟩ := zzhp'); subst zze1; subst zze2; (refine zzhG' ?_); (clear zzhG' zzG'); (have zzN' := news_cons (news_sub zzN' (by (repeat' (first | exact List.forall_mem_nil _ | refine' List.forall_mem_cons.mpr ⟨?_, ?_⟩ | k_mem | (rw [‹LC.chk _ = _›]; k_mem))))) (stays1 zzS' zzN' (by k_upd) (.tail _ (.head _)) (by (refine' List.forall_mem_cons.mpr ⟨Or.inl rfl, List.forall_mem_cons.mpr ⟨Or.inr (.tail _ (.tail _ (.head _))), List.forall_mem_nil _⟩⟩)))); clear zzS'; (try k_sweep); (try dsimp only))) | (exfalso; (try simp only [Bool.or_eq_true, Bool.and_eq_true, decide_eq_true_eq, beq_iff_eq, Bool.or_eq_false_iff, Bool.and_eq_false_iff, decide_eq_false_iff_not, beq_eq_false_iff_ne] at *); omega)))
  trivial
theorem reg_d610220b_LT : True := by
  k_with "q call ref" =>
    (k_here; (with_reducible show wpAny _ _ (call (Value.ref 483) _) _ _ _); (first | (k_dflt ((refine' Spec.use (near_spec _ _ ?zzh1) ?zzuB ?zzuF ?zzuX ?zzuN ?zzuT ?zzuh ?zzuA ?zzug ?zzuf ?zzuk ?zzus ?zzud ?zzuu ?_); (case zzuF => k_asm); (case zzuA => with_unfolding_all rfl); (case zzuB => k_asm); (case zzuX => k_asm); (case zzuN => k_asm); (case zzuT => k_asm); (case zzuh => with_unfolding_all rfl);  (case zzug => with_unfolding_all rfl); (case zzuf => with_unfolding_all rfl); (case zzuk => with_unfolding_all rfl); (case zzus => (repeat' (first | exact List.forall_mem_nil _ | refine' List.forall_mem_cons.mpr ⟨?_, ?_⟩ | k_mem | (rw [‹LC.chk _ = _›]; k_mem)))); (case zzh1 => (first | assumption | exact le_c (by assumption) rfl | omega | (refine neN ?_; omega) | (constructor <;> omega) | ((try simp only [List.length_append, List.length_cons, List.length_nil, List.length_replicate]); omega) | (constructor <;> (first | assumption | decide | omega)) | rfl | decide)); (case zzud => k_room); (case zzuu => k_units); intro zzv' zzc' zzh' zztk' zzhp' zzF' zzS' zzN'; (refine @opq _ ?_); intro zzG' zzhG'; (obtain ⟨zzu', zze1⟩ := zzhp'); subst zze1; (refine zzhG' ?_); (clear zzhG' zzG'); (have zzN' := stays0 zzS' (fun _ hq => nomatch hq)); clear zzS'; (try k_sweep); (try dsimp only))) | (exfalso; (try simp only [Bool.or_eq_true, Bool.and_eq_true, decide_eq_true_eq, beq_iff_eq, Bool.or_eq_false_iff, Bool.and_eq_false_iff, decide_eq_false_iff_not, beq_eq_false_iff_ne] at *); omega)))
  trivial
theorem dg_1 : dg (Int.toNat 1) = [49] := rfl
theorem dg_8 : dg (Int.toNat 8) = [56] := rfl
theorem dg_31 : dg (Int.toNat 31) = [51, 49] := rfl
theorem reg_15988608_LT : True := by
  k_with "q getMethod str" =>
    (k_here; (with_reducible show wpAny _ _ (getMethod (Value.str _ _) (PySem.Str.ofString "encode") _) _ _ _); k_dflt (refine en_getMethod ?_); (try dsimp only))
  trivial
theorem reg_b97a3f05_LT : True := by
  k_with "q call builtin:str.encode" =>
    (k_here; k_dflt (first | (refine en_num (by assumption) (by assumption) ?_) | (refine en_num (by decide) (by decide) ?_) | (refine en_call (enc_127 _) (by decide) ?_)); intro _ _; (try simp only [dg_1, dg_8, dg_31]); (try dsimp only))
  trivial
/-- an octet by itself, and what a refusal at it tells -/
noncomputable def OC (x : UInt8) (near : Option (List UInt8)) : Prop := (x = 0 ∧ near = none) ∨ (x = 1 ∧ near = some [99, 104, 97, 114, 40, 49, 41]) ∨ (x = 8 ∧ near = some [99, 104, 97, 114, 40, 56, 41]) ∨ (x = 31 ∧ near = some [99, 104, 97, 114, 40, 51, 49, 41]) ∨ (x = 127 ∧ near = some [99, 104, 97, 114, 40, 49, 50, 55, 41])
/-- a token of the law: what is laid, its kind, its value, what a refusal at it tells -/
inductive TK : List UInt8 → Int → TV → Option (List UInt8) → Prop
  | q (q : UInt8) (L R) : (q = 34 ∨ q = 39) → InP L R → L.length ≤ 16 → R.length ≤ 8 → TK (q :: (L ++ [q])) 286 (.b R) (some (up0 (q :: (R ++ [q]))))
  | b (lv inner) : (lv = [] ∨ lv = [61]) → (inner = [] ∨ inner = [97] ∨ inner = [0] ∨ inner = [97, 0, 98]) → TK (91 :: (lv ++ 91 :: (inner ++ 93 :: (lv ++ [93])))) 286 (.b inner) (some (up0 (91 :: (lv ++ 91 :: (inner ++ 93 :: (lv ++ [93]))))))
  | w (name) : (name = [120] ∨ name = [101, 110, 100, 49] ∨ name = [95]) → TK name 285 (.b name) (some name)
  | n (ds z) : Num ds z → TK ds 284 (.i z) (some ds)
  | o (x near) : OC x near → TK [x] (sv x) .n near
noncomputable def nearV (o : Option (List UInt8)) (v : Value) : Prop := match o with
  | none => v = .none
  | some l => ∃ t, v = .bytes l.toArray t
theorem sv_digit (n : Nat) (h : n < 200) : sv n.toUInt8 = n := by
  show ((n.toUInt8.toNat : Nat) : Int) = n
  rw [UInt8.toNat_ofNat']
  omega
theorem tk_num {z : Int} (h0 : 0 ≤ z) (h1 : z < 90) : TK (dg z.toNat) 284 (.i z) (some (dg z.toNat)) := by
  have hz : z = ((z.toNat : Nat) : Int) := (Int.toNat_of_nonneg h0).symm
  generalize z.toNat = n at hz
  subst hz
  unfold dg
  by_cases hn : n < 10
  · rw [if_pos hn]
    have e := sv_digit (48 + n) (by omega)
    have q := TK.n _ _ (Num.one (x := (48 + n).toUInt8) (by rw [e]; omega))
    rw [e] at q
    rw [show ((48 + n : Nat) : Int) - 48 = (n : Int) by omega] at q
    exact q
  · rw [if_neg hn, if_pos (by omega)]
    have e1 := sv_digit (48 + n / 10) (by omega)
    have e2 := sv_digit (48 + n % 10) (by omega)
    have q := TK.n _ _ (Num.two (x := (48 + n / 10).toUInt8) (y := (48 + n % 10).toUInt8) (by rw [e1]; omega) (by rw [e2]; omega))
    rw [e1, e2] at q
    rw [show 10 * (((48 + n / 10 : Nat) : Int) - 48) + (((48 + n % 10 : Nat) : Int) - 48) = (n : Int) by omega] at q
    exact q
section
variable {r sl : Addr} {vs : List Value} {ns : List Int} {k : Int} {t1 t2 t : Tok} {n : Nat}
set_option maxHeartbeats 8000000 in
theorem law_token_spec (prog : Program) (w : World) (hne : sl ≠ r) (hI : IntsAre vs ns) (hl : ns.length ≤ 40) (hk : 0 ≤ k ∧ k ≤ 80000) :
    Spec prog w 497 [.ref r] [(r, listOf #[.ref sl, .int k t1] n), (sl, listOf vs.toArray 0)] 14 140
      (fun v e => ∃ D laid kind tv near tl tk vv nv kk u n', v = .ref D ∧ TK laid kind tv near ∧ tv.is vv ∧ nearV near nv ∧ 0 ≤ kk ∧ kk ≤ k + 10 ∧
        e = [(D, tupObj #[.bytes (List.toArray laid) tl, .int kind tk, vv, nv]), (r, listOf #[.ref sl, .int kk u] n'), (sl, listOf vs.toArray 0)]) := by
  refine' spec_goA [(Str.ofString "rope", .ref r)] ?k6 ?k7 ?k9 ?kB ?kl ?c5 ?c2 ?c3 ?c4 (by decide) fun Z Q ok hr => ?_
  (case k6 => k_is)
  (case k7 => k_is)
  (case k9 => exact fun _ => BindsTo.of_eq rfl)
  (case kB => exact locs rfl)
  (case kl => rfl)
  (case c5 => decide)
  (case c2 => exact rfl)
  (case c3 => exact rfl)
  (case c4 => exact rfl)
  refine GoA.asgQ (fun v => [(Str.ofString "rope", .ref r), (Str.ofString "form", v)]) (EvQ.fn2 (P1 := fun a => a = .ref r) (P2 := IsI 7) ok (fun a a' ha ha' => by
    obtain ⟨t7, rfl⟩ := ha'
    exact ha ▸ law_next_spec prog w hne hI hl ⟨hk.1, by omega⟩ (by decide)) EvV.loc EvV.int (by k_is) (by k_is)) fun v c' h => ?_
  obtain ⟨⟨z, u, rfl, hz0, hz1⟩, u1, n1, rfl⟩ := h
  refine GoA.ifr (EvB.lt (EvV.isI EvV.loc) EvV.int) (fun hc => ?_) fun h2 => ?_
  · have hz2 := of_decide_eq_true hc
    clear hc hz1
    refine GoA.st (ι := UInt8 × Tok) (fun a => [(Str.ofString "rope", .ref r), (Str.ofString "form", .int z u), (Str.ofString "mark", .bytes (List.toArray [a.1]) a.2)]) (fun _ => [(r, listOf #[.ref sl, .int (k + 1) u1] n1), (sl, listOf vs.toArray 0)]) (fun a => a.1 = 34 ∨ a.1 = 39) ?s2 ?_
    case s2 =>
      clear hr
      k_extra "x9"
      all_goals
        rename News _ _ _ _ => NN
        rename Fr _ _ _ _ => FF
        exact hQ (_, _) _ _ (by first | exact .inl rfl | exact .inr rfl) (fr_put FF rfl) (news_sub NN fun _ q => .tail _ q)
    refine cu2 fun q tq => ?_
    intro hq
    dsimp only at hq ⊢
    clear hz0 hz2
    refine GoA.st (ι := List UInt8 × List UInt8 × Tok × Tok × Int × Tok × Nat) (fun a => [(Str.ofString "rope", .ref r), (Str.ofString "form", .int z u), (Str.ofString "mark", .bytes (List.toArray [q]) tq), (Str.ofString "laid", .bytes (List.toArray a.1) a.2.2.1), (Str.ofString "read", .bytes (List.toArray a.2.1) a.2.2.2.1)])
      (fun a => [(r, listOf #[.ref sl, .int a.2.2.2.2.1 a.2.2.2.2.2.1] a.2.2.2.2.2.2), (sl, listOf vs.toArray 0)]) (fun a => InP a.1 a.2.1 ∧ a.1.length ≤ 16 ∧ a.2.1.length ≤ 8 ∧ 0 ≤ a.2.2.2.2.1 ∧ a.2.2.2.2.1 ≤ k + 6) ?s3 ?_
    case s3 =>
      clear hr hq
      k_extra "x9"
      rename News _ _ _ _ => NN
      rename Fr _ _ _ _ => FF
      refine' hQ (_, _, _, _, _, _, _) _ _ ?pp1 (fr_put2 FF rfl) (news_sub NN fun _ q => .tail _ q)
      case pp1 => exact ⟨by assumption, by assumption, by assumption, by assumption, by dsimp only; omega⟩
    refine cu7 fun L R tl tr kk u2 n2 => ?_
    intro hZq
    refine @opq _ ?_
    intro Gq hGq
    obtain ⟨hP, hL, hR, hk0, hk1⟩ := hZq
    refine hGq ?_
    clear hGq Gq
    dsimp only at hP hL hR hk0 hk1 ⊢
    refine GoA.ret (post := fun v e => ∃ D laid kind tv near tl tk vv nv kk u n', v = .ref D ∧ TK laid kind tv near ∧ tv.is vv ∧ nearV near nv ∧ 0 ≤ kk ∧ kk ≤ k + 10 ∧
        e = [(D, tupObj #[.bytes (List.toArray laid) tl, .int kind tk, vv, nv]), (r, listOf #[.ref sl, .int kk u] n'), (sl, listOf vs.toArray 0)]) ?s4 hr
    case s4 =>
      clear hr
      k_extra "x9"
      rename News _ _ _ _ => NN
      rename Fr _ _ _ _ => FF
      refine' hQ _ [(_, tupObj #[.bytes (List.toArray _) _, .int _ _, _, _]), (r, W.listOf #[.ref sl, .int _ _] _), (sl, W.listOf vs.toArray 0)] _ _ ?pp2 FF (news_sub NN ?qq2)
      case qq2 => (repeat' (first | exact List.forall_mem_nil _ | refine' List.forall_mem_cons.mpr ⟨?_, ?_⟩ | k_mem | (rw [‹LC.chk _ = _›]; k_mem)))
      case pp2 => exact ei12 _ _ _ _ _ _ _ _ _ _ _ _ ⟨rfl, TK.q q _ _ hq hP hL hR, (by first | exact ⟨_, rfl⟩ | exact rfl), (by first | exact ⟨_, rfl⟩ | exact rfl), (by omega), (by omega), rfl⟩
  refine GoA.ifr (EvB.eq (EvV.isI EvV.loc) EvV.int) (fun hc => ?_) fun h3 => ?_
  · clear hc h2 hz0 hz1
    refine GoA.st (ι := List UInt8 × Tok × Tok × Nat) (fun a => [(Str.ofString "rope", .ref r), (Str.ofString "form", .int z u), (Str.ofString "inner", .bytes (List.toArray a.1) a.2.1)]) (fun a => [(r, listOf #[.ref sl, .int (k + 1 + 1) a.2.2.1] a.2.2.2), (sl, listOf vs.toArray 0)]) (fun a => a.1 = [] ∨ a.1 = [97] ∨ a.1 = [0] ∨ a.1 = [97, 0, 98]) ?s5 ?_
    case s5 =>
      clear hr
      k_extra "x9"
      all_goals
        rename News _ _ _ _ => NN
        rename Fr _ _ _ _ => FF
        exact hQ (_, _, _, _) _ _ (by first | exact .inl rfl | exact .inr (.inl rfl) | exact .inr (.inr (.inl rfl)) | exact .inr (.inr (.inr rfl))) (fr_put FF rfl) (news_sub NN (by (repeat' (first | exact List.forall_mem_nil _ | refine' List.forall_mem_cons.mpr ⟨?_, ?_⟩ | k_mem | (rw [‹LC.chk _ = _›]; k_mem)))))
    refine cu4 fun inner ti u2 n2 => ?_
    intro hin
    dsimp only at hin ⊢
    have hinl : inner.length ≤ 3 := by rcases hin with rfl | rfl | rfl | rfl <;> decide
    refine GoA.st (ι := List UInt8 × Tok × Tok × Nat) (fun a => [(Str.ofString "rope", .ref r), (Str.ofString "form", .int z u), (Str.ofString "inner", .bytes (List.toArray inner) ti), (Str.ofString "level", .bytes (List.toArray a.1) a.2.1)]) (fun a => [(r, listOf #[.ref sl, .int (k + 1 + 1 + 1) a.2.2.1] a.2.2.2), (sl, listOf vs.toArray 0)]) (fun a => a.1 = [] ∨ a.1 = [61]) ?s6 ?_
    case s6 =>
      clear hr hin
      k_extra "x9"
      all_goals
        rename News _ _ _ _ => NN
        rename Fr _ _ _ _ => FF
        exact hQ (_, _, _, _) _ _ (by first | exact .inl rfl | exact .inr rfl) (fr_put FF rfl) (news_sub NN (by (repeat' (first | exact List.forall_mem_nil _ | refine' List.forall_mem_cons.mpr ⟨?_, ?_⟩ | k_mem | (rw [‹LC.chk _ = _›]; k_mem)))))
    refine cu4 fun lv tv u3 n3 => ?_
    intro hlv
    dsimp only at hlv ⊢
    have hlvl : lv.length ≤ 1 := by rcases hlv with rfl | rfl <;> decide
    refine GoA.st (ι := Tok) (fun a => [(Str.ofString "rope", .ref r), (Str.ofString "form", .int z u), (Str.ofString "inner", .bytes (List.toArray inner) ti), (Str.ofString "level", .bytes (List.toArray lv) tv), (Str.ofString "whole", .bytes (List.toArray (91 :: (lv ++ 91 :: (inner ++ 93 :: (lv ++ [93]))))) a)]) (fun _ => [(r, listOf #[.ref sl, .int (k + 1 + 1 + 1) u3] n3), (sl, listOf vs.toArray 0)]) (fun _ => True) ?s7 ?_
    case s7 =>
      clear hr hin hlv
      k_extra "x9"
      rename News _ _ _ _ => NN
      rename Fr _ _ _ _ => FF
      exact hQ _ _ _ trivial (fr_put FF rfl) NN
    intro tw _
    refine GoA.ret (post := fun v e => ∃ D laid kind tv near tl tk vv nv kk u n', v = .ref D ∧ TK laid kind tv near ∧ tv.is vv ∧ nearV near nv ∧ 0 ≤ kk ∧ kk ≤ k + 10 ∧
        e = [(D, tupObj #[.bytes (List.toArray laid) tl, .int kind tk, vv, nv]), (r, listOf #[.ref sl, .int kk u] n'), (sl, listOf vs.toArray 0)]) ?s8 hr
    case s8 =>
      clear hr
      k_extra "x9"
      rename News _ _ _ _ => NN
      rename Fr _ _ _ _ => FF
      refine' hQ _ [(_, tupObj #[.bytes (List.toArray _) _, .int _ _, _, _]), (r, W.listOf #[.ref sl, .int _ _] _), (sl, W.listOf vs.toArray 0)] _ _ ?pp3 FF (news_sub NN ?qq3)
      case qq3 => (repeat' (first | exact List.forall_mem_nil _ | refine' List.forall_mem_cons.mpr ⟨?_, ?_⟩ | k_mem | (rw [‹LC.chk _ = _›]; k_mem)))
      case pp3 => exact ei12 _ _ _ _ _ _ _ _ _ _ _ _ ⟨rfl, TK.b lv inner hlv hin, (by first | exact ⟨_, rfl⟩ | exact rfl), (by first | exact ⟨_, rfl⟩ | exact rfl), (by omega), (by omega), rfl⟩
  refine GoA.ifr (EvB.eq (EvV.isI EvV.loc) EvV.int) (fun hc => ?_) fun h4 => ?_
  · clear hc h2 h3 hz0 hz1
    refine GoA.st (ι := List UInt8 × Tok × Tok × Nat) (fun a => [(Str.ofString "rope", .ref r), (Str.ofString "form", .int z u), (Str.ofString "name", .bytes (List.toArray a.1) a.2.1)]) (fun a => [(r, listOf #[.ref sl, .int (k + 1 + 1) a.2.2.1] a.2.2.2), (sl, listOf vs.toArray 0)]) (fun a => a.1 = [120] ∨ a.1 = [101, 110, 100, 49] ∨ a.1 = [95]) ?s9 ?_
    case s9 =>
      clear hr
      k_extra "x9"
      all_goals
        rename News _ _ _ _ => NN
        rename Fr _ _ _ _ => FF
        exact hQ (_, _, _, _) _ _ (by first | exact .inl rfl | exact .inr (.inl rfl) | exact .inr (.inr rfl)) (fr_put FF rfl) (news_sub NN (by (repeat' (first | exact List.forall_mem_nil _ | refine' List.forall_mem_cons.mpr ⟨?_, ?_⟩ | k_mem | (rw [‹LC.chk _ = _›]; k_mem)))))
    refine cu4 fun name ti u2 n2 => ?_
    intro hin
    dsimp only at hin ⊢
    refine GoA.ret (post := fun v e => ∃ D laid kind tv near tl tk vv nv kk u n', v = .ref D ∧ TK laid kind tv near ∧ tv.is vv ∧ nearV near nv ∧ 0 ≤ kk ∧ kk ≤ k + 10 ∧
        e = [(D, tupObj #[.bytes (List.toArray laid) tl, .int kind tk, vv, nv]), (r, listOf #[.ref sl, .int kk u] n'), (sl, listOf vs.toArray 0)]) ?s10 hr
    case s10 =>
      clear hr
      k_extra "x9"
      rename News _ _ _ _ => NN
      rename Fr _ _ _ _ => FF
      refine' hQ _ [(_, tupObj #[.bytes (List.toArray _) _, .int _ _, _, _]), (r, W.listOf #[.ref sl, .int _ _] _), (sl, W.listOf vs.toArray 0)] _ _ ?pp4 FF (news_sub NN ?qq4)
      case qq4 => (repeat' (first | exact List.forall_mem_nil _ | refine' List.forall_mem_cons.mpr ⟨?_, ?_⟩ | k_mem | (rw [‹LC.chk _ = _›]; k_mem)))
      case pp4 => exact ei12 _ _ _ _ _ _ _ _ _ _ _ _ ⟨rfl, (.w name hin), (by first | exact ⟨_, rfl⟩ | exact rfl), (by first | exact ⟨_, rfl⟩ | exact rfl), (by omega), (by omega), rfl⟩
  refine GoA.ifr (EvB.eq (EvV.isI EvV.loc) EvV.int) (fun hc => ?_) fun h5 => ?_
  · clear hc h2 h3 h4 hz0 hz1
    refine GoA.asgQ (fun v => [(Str.ofString "rope", .ref r), (Str.ofString "form", .int z u), (Str.ofString "number", v)]) (EvQ.fn2 (P1 := fun a => a = .ref r) (P2 := IsI 90) ok (fun a a' ha ha' => by
      obtain ⟨t7, rfl⟩ := ha'
      exact ha ▸ law_next_spec prog w hne hI hl ⟨by omega, by omega⟩ (by decide)) EvV.loc EvV.int (by k_is) (by k_is)) fun v c' h => ?_
    obtain ⟨⟨y, u2, rfl, hy0, hy1⟩, u3, n3, rfl⟩ := h
    refine GoA.st (ι := Tok) (fun a => [(Str.ofString "rope", .ref r), (Str.ofString "form", .int z u), (Str.ofString "number", .int y u2), (Str.ofString "told", .bytes (List.toArray (dg y.toNat)) a)]) (fun _ => [(r, listOf #[.ref sl, .int (k + 1 + 1) u3] n3), (sl, listOf vs.toArray 0)]) (fun _ => True) ?s11 ?_
    case s11 =>
      clear hr
      k_extra "x9"
      rename News _ _ _ _ => NN
      rename Fr _ _ _ _ => FF
      exact hQ _ _ _ trivial (fr_put FF rfl) NN
    intro tw _
    refine GoA.ret (post := fun v e => ∃ D laid kind tv near tl tk vv nv kk u n', v = .ref D ∧ TK laid kind tv near ∧ tv.is vv ∧ nearV near nv ∧ 0 ≤ kk ∧ kk ≤ k + 10 ∧
        e = [(D, tupObj #[.bytes (List.toArray laid) tl, .int kind tk, vv, nv]), (r, listOf #[.ref sl, .int kk u] n'), (sl, listOf vs.toArray 0)]) ?s12 hr
    case s12 =>
      clear hr
      k_extra "x9"
      rename News _ _ _ _ => NN
      rename Fr _ _ _ _ => FF
      refine' hQ _ [(_, tupObj #[.bytes (List.toArray _) _, .int _ _, _, _]), (r, W.listOf #[.ref sl, .int _ _] _), (sl, W.listOf vs.toArray 0)] _ _ ?pp5 FF (news_sub NN ?qq5)
      case qq5 => (repeat' (first | exact List.forall_mem_nil _ | refine' List.forall_mem_cons.mpr ⟨?_, ?_⟩ | k_mem | (rw [‹LC.chk _ = _›]; k_mem)))
      case pp5 => exact ei12 _ _ _ _ _ _ _ _ _ _ _ _ ⟨rfl, (tk_num hy0 hy1), (by first | exact ⟨_, rfl⟩ | exact rfl), (by first | exact ⟨_, rfl⟩ | exact rfl), (by omega), (by omega), rfl⟩
  refine GoA.ifr (EvB.eq (EvV.isI EvV.loc) EvV.int) (fun hc => ?_) fun h6 => ?_
  · clear hc h2 h3 h4 h5 hz0 hz1
    refine GoA.ret (post := fun v e => ∃ D laid kind tv near tl tk vv nv kk u n', v = .ref D ∧ TK laid kind tv near ∧ tv.is vv ∧ nearV near nv ∧ 0 ≤ kk ∧ kk ≤ k + 10 ∧
        e = [(D, tupObj #[.bytes (List.toArray laid) tl, .int kind tk, vv, nv]), (r, listOf #[.ref sl, .int kk u] n'), (sl, listOf vs.toArray 0)]) ?s13 hr
    case s13 =>
      clear hr
      k_extra "x9"
      rename News _ _ _ _ => NN
      rename Fr _ _ _ _ => FF
      refine' hQ _ [(_, tupObj #[.bytes (List.toArray _) _, .int _ _, _, _]), (r, W.listOf #[.ref sl, .int _ _] _), (sl, W.listOf vs.toArray 0)] _ _ ?pp6 FF (news_sub NN ?qq6)
      case qq6 => (repeat' (first | exact List.forall_mem_nil _ | refine' List.forall_mem_cons.mpr ⟨?_, ?_⟩ | k_mem | (rw [‹LC.chk _ = _›]; k_mem)))
      case pp6 => exact ei12 _ _ _ _ _ _ _ _ _ _ _ _ ⟨rfl, .o 0 none (.inl ⟨rfl, rfl⟩), (by first | exact ⟨_, rfl⟩ | exact rfl), (by first | exact ⟨_, rfl⟩ | exact rfl), (by omega), (by omega), rfl⟩
  clear h2 h3 h4 h5 h6 hz0 hz1
  refine GoA.st (ι := Int × Tok × Tok × Nat) (fun a => [(Str.ofString "rope", .ref r), (Str.ofString "form", .int z u), (Str.ofString "octet", .int a.1 a.2.1)]) (fun a => [(r, listOf #[.ref sl, .int (k + 1 + 1) a.2.2.1] a.2.2.2), (sl, listOf vs.toArray 0)]) (fun a => a.1 = 1 ∨ a.1 = 8 ∨ a.1 = 31 ∨ a.1 = 127) ?s14 ?_
  case s14 =>
    clear hr
    k_extra "x9"
    all_goals
      rename News _ _ _ _ => NN
      rename Fr _ _ _ _ => FF
      exact hQ (_, _, _, _) _ _ (by first | exact .inl rfl | exact .inr (.inl rfl) | exact .inr (.inr (.inl rfl)) | exact .inr (.inr (.inr rfl))) (fr_put FF rfl) (news_sub NN (by (repeat' (first | exact List.forall_mem_nil _ | refine' List.forall_mem_cons.mpr ⟨?_, ?_⟩ | k_mem | (rw [‹LC.chk _ = _›]; k_mem)))))
  refine cu4 fun o ti u2 n2 => ?_
  intro ho
  dsimp only at ho ⊢
  refine GoA.ret (post := fun v e => ∃ D laid kind tv near tl tk vv nv kk u n', v = .ref D ∧ TK laid kind tv near ∧ tv.is vv ∧ nearV near nv ∧ 0 ≤ kk ∧ kk ≤ k + 10 ∧
        e = [(D, tupObj #[.bytes (List.toArray laid) tl, .int kind tk, vv, nv]), (r, listOf #[.ref sl, .int kk u] n'), (sl, listOf vs.toArray 0)]) ?s15 hr
  case s15 =>
    clear hr
    rcases ho with rfl | rfl | rfl | rfl
    · k_extra "x9"
      rename News _ _ _ _ => NN
      rename Fr _ _ _ _ => FF
      refine' hQ _ [(_, tupObj #[.bytes (List.toArray _) _, .int _ _, _, _]), (r, W.listOf #[.ref sl, .int _ _] _), (sl, W.listOf vs.toArray 0)] _ _ ?pp7 FF (news_sub NN ?qq7)
      case qq7 => (repeat' (first | exact List.forall_mem_nil _ | refine' List.forall_mem_cons.mpr ⟨?_, ?_⟩ | k_mem | (rw [‹LC.chk _ = _›]; k_mem)))
      case pp7 => exact ei12 _ _ _ _ _ _ _ _ _ _ _ _ ⟨rfl, (by first | exact .o 1 _ (.inr (.inl ⟨rfl, rfl⟩)) | exact .o 8 _ (.inr (.inr (.inl ⟨rfl, rfl⟩))) | exact .o 31 _ (.inr (.inr (.inr (.inl ⟨rfl, rfl⟩)))) | exact .o 127 _ (.inr (.inr (.inr (.inr ⟨rfl, rfl⟩))))), (by first | exact ⟨_, rfl⟩ | exact rfl), (by first | exact ⟨_, rfl⟩ | exact rfl), (by omega), (by omega), rfl⟩
    · k_extra "x9"
      rename News _ _ _ _ => NN
      rename Fr _ _ _ _ => FF
      refine' hQ _ [(_, tupObj #[.bytes (List.toArray _) _, .int _ _, _, _]), (r, W.listOf #[.ref sl, .int _ _] _), (sl, W.listOf vs.toArray 0)] _ _ ?pp8 FF (news_sub NN ?qq8)
      case qq8 => (repeat' (first | exact List.forall_mem_nil _ | refine' List.forall_mem_cons.mpr ⟨?_, ?_⟩ | k_mem | (rw [‹LC.chk _ = _›]; k_mem)))
      case pp8 => exact ei12 _ _ _ _ _ _ _ _ _ _ _ _ ⟨rfl, (by first | exact .o 1 _ (.inr (.inl ⟨rfl, rfl⟩)) | exact .o 8 _ (.inr (.inr (.inl ⟨rfl, rfl⟩))) | exact .o 31 _ (.inr (.inr (.inr (.inl ⟨rfl, rfl⟩)))) | exact .o 127 _ (.inr (.inr (.inr (.inr ⟨rfl, rfl⟩))))), (by first | exact ⟨_, rfl⟩ | exact rfl), (by first | exact ⟨_, rfl⟩ | exact rfl), (by omega), (by omega), rfl⟩
    · k_extra "x9"
      rename News _ _ _ _ => NN
      rename Fr _ _ _ _ => FF
      refine' hQ _ [(_, tupObj #[.bytes (List.toArray _) _, .int _ _, _, _]), (r, W.listOf #[.ref sl, .int _ _] _), (sl, W.listOf vs.toArray 0)] _ _ ?pp9 FF (news_sub NN ?qq9)
      case qq9 => (repeat' (first | exact List.forall_mem_nil _ | refine' List.forall_mem_cons.mpr ⟨?_, ?_⟩ | k_mem | (rw [‹LC.chk _ = _›]; k_mem)))
      case pp9 => exact ei12 _ _ _ _ _ _ _ _ _ _ _ _ ⟨rfl, (by first | exact .o 1 _ (.inr (.inl ⟨rfl, rfl⟩)) | exact .o 8 _ (.inr (.inr (.inl ⟨rfl, rfl⟩))) | exact .o 31 _ (.inr (.inr (.inr (.inl ⟨rfl, rfl⟩)))) | exact .o 127 _ (.inr (.inr (.inr (.inr ⟨rfl, rfl⟩))))), (by first | exact ⟨_, rfl⟩ | exact rfl), (by first | exact ⟨_, rfl⟩ | exact rfl), (by omega), (by omega), rfl⟩
    · k_extra "x9"
      rename News _ _ _ _ => NN
      rename Fr _ _ _ _ => FF
      refine' hQ _ [(_, tupObj #[.bytes (List.toArray _) _, .int _ _, _, _]), (r, W.listOf #[.ref sl, .int _ _] _), (sl, W.listOf vs.toArray 0)] _ _ ?pp10 FF (news_sub NN ?qq10)
      case qq10 => (repeat' (first | exact List.forall_mem_nil _ | refine' List.forall_mem_cons.mpr ⟨?_, ?_⟩ | k_mem | (rw [‹LC.chk _ = _›]; k_mem)))
      case pp10 => exact ei12 _ _ _ _ _ _ _ _ _ _ _ _ ⟨rfl, (by first | exact .o 1 _ (.inr (.inl ⟨rfl, rfl⟩)) | exact .o 8 _ (.inr (.inr (.inl ⟨rfl, rfl⟩))) | exact .o 31 _ (.inr (.inr (.inr (.inl ⟨rfl, rfl⟩)))) | exact .o 127 _ (.inr (.inr (.inr (.inr ⟨rfl, rfl⟩))))), (by first | exact ⟨_, rfl⟩ | exact rfl), (by first | exact ⟨_, rfl⟩ | exact rfl), (by omega), (by omega), rfl⟩
end
theorem CompEnd_mono {h₀ : Heap} {L I C D : Addr} {m : Str → Option Value} {s₁ : Shared} {oI oC oD : Obj} {S : List (Addr × Obj) → Prop} {r r' : Value → List (Addr × Obj) → Prop} {y : Value} {s₂ : Shared} (h : ∀ y n, r y n → r' y n)
    (x : LCg.CompEnd h₀ L m s₁ I oI C oC D oD S r y s₂) : LCg.CompEnd h₀ L m s₁ I oI C oC D oD S r' y s₂ :=
  Exists.imp (fun _ => Exists.imp fun _ => Exists.imp fun _ => And.imp_right (And.imp_right (And.imp_right (And.imp_right (And.imp_right (h _ _)))))) x
section
variable {prog : Program} {w : World} {A : Around} {h₀ : Heap} {L : Addr} {m : Str → Option Value} {env : Env} {elt : PySem.Expr} {x : Str} {scope : Scope} {cl : List (Str × Addr)} {s : Shared} {S : List (Addr × Obj) → Prop} {P : Nat → Value → Prop} {Fin : List Value → List (Addr × Obj) → Prop}
/-- the turns of a comprehension -/
theorem comp_ind (J : Nat → Nat → List Value → List (Addr × Obj) → Prop)
    (step : ∀ k i ys news, J (k + 1) i ys news → ∀ v I oI C oC D m₂ h tk (E' : Value → Shared → Prop), P i v → LCg.NsObj oC m₂ → m₂ x = some v → Fr h₀ L h m → News h₀ L h ((I, oI) :: (C, oC) :: (D, LCg.lst ys) :: news) → LCg.Off3 I C D news → ((@Ne Nat I C) ∧ (@Ne Nat I D) ∧ (@Ne Nat C D)) →
      wpAny (model prog w) A (eval elt (compEnvC scope cl C env)) (LCg.CompEnd h₀ L m { s with heap := h, toks := tk } I oI C oC D (LCg.lst ys) S (fun y news' => J k (i + 1) (ys ++ [y]) news')) E' { s with heap := h, toks := tk })
    (fin : ∀ i ys news, J 0 i ys news → Fin ys news) : ∀ k i ys news, J k i ys news → LCg.CompRest prog w A h₀ L m env elt x scope cl s S P Fin k i ys news
  | 0, i, ys, news, hJ => LCg.CompRest.zero (fin i ys news hJ)
  | k + 1, i, ys, news, hJ => LCg.CompRest.succ fun v I oI C oC D m₂ h tk E' hp hn hx F N off ne =>
      wpAny_mono (step k i ys news hJ v I oI C oC D m₂ h tk E' hp hn hx F N off ne) (fun _ _ z => CompEnd_mono (fun y n q => comp_ind J step fin k (i + 1) (ys ++ [y]) n q) z) fun _ _ e => e
end
theorem Off3_of_apart {I C D : Addr} {oI oC oD : Obj} {news : List (Addr × Obj)} (h : Apart [(I, oI), (C, oC), (D, oD)] news) : LCg.Off3 I C D news :=
  LCg.Off3.of fun p hp => ⟨(h _ (.head _) p hp).symm, (h _ (.tail _ (.head _)) p hp).symm, (h _ (.tail _ (.tail _ (.head _))) p hp).symm⟩
theorem apart_of_Off3 {I C D : Addr} {oI oC oD : Obj} {news : List (Addr × Obj)} (h : LCg.Off3 I C D news) : Apart [(I, oI), (C, oC), (D, oD)] news :=
  Apart.cons (fun r hr => (h.mem r hr).1.symm) (Apart.cons (fun r hr => (h.mem r hr).2.1.symm) (Apart.cons (fun r hr => (h.mem r hr).2.2.symm) Apart.nil))
set_option genInjectivity false in
set_option genSizeOf false in
/-- a token as it lies in the ledger -/
structure Tk1 where
  laid : List UInt8
  kind : Int
  tv : TV
  near : Option (List UInt8)
  D : Addr
  tl : Tok
  tk : Tok
  vv : Value
  nv : Value
noncomputable def Tk1.ok (x : Tk1) : Prop := TK x.laid x.kind x.tv x.near ∧ x.tv.is x.vv ∧ nearV x.near x.nv
noncomputable abbrev Tk1.obj (x : Tk1) : Addr × Obj := (x.D, tupObj #[.bytes (List.toArray x.laid) x.tl, .int x.kind x.tk, x.vv, x.nv])
noncomputable abbrev Tk1.ref (x : Tk1) : Value := .ref x.D
/-- the rope's part of the ledger -/
noncomputable abbrev ropeL (r sl : Addr) (vs : List Value) (k : Int) (t : Tok) (n : Nat) : List (Addr × Obj) := [(r, listOf #[.ref sl, .int k t] n), (sl, listOf vs.toArray 0)]
section
variable {prog : Program} {w : World} {A : Around} {E : Value → Shared → Prop} {h₀ : Heap} {L : Addr} {m : Str → Option Value} {env : Env} {elt : PySem.Expr} {x : Str} {scope : Scope} {cl : List (Str × Addr)} {s : Shared} {Fin : Shared → List Value → List (Addr × Obj) → Prop} {news all : List (Addr × Obj)}
/-- a comprehension over range(1 + z), z below 4 -/
theorem range_comp {z : Int} {t : Tok} (h1 : 0 ≤ z) (h2 : z < 4) (hh : A.handled = none) (F : Fr h₀ L s.heap m) (N : News h₀ L s.heap all) (hs : ∀ q ∈ news, q ∈ all)
    (k : ∀ j, j ≤ 3 → ∀ g' tk, LCg.CompRest prog w A h₀ L m env elt x scope cl { s with heap := g', toks := tk } (fun _ => True) (fun i v => ∃ t, v = .int (0 + (i : Int)) t) (Fin { s with heap := g', toks := tk }) (j + 1) 0 [] news) :
    wpAny (model prog w) A (call (.type "range") [.int (1 + z) t]) (LCg.CompSrc prog w A h₀ L m env elt x scope cl Fin) E s := by
  refine call_range_1 ?_
  have hsm : Builtin.Range.small 0 (1 + z) 1 = true := small_one (by omega) (by omega) (by omega) (by omega)
  refine LCg.CompSrc.range hh (F.push _) ((news_sub N hs).grown fun _ _ e => Heap.get?_push_of_some _ e) (Heap.get?_push_size _ rfl) hsm (n := z.toNat + 1) ?_ ?_ fun g => k z.toNat (by omega) g _
  · have e : (1 + z) = ((z.toNat + 1 : Nat) : Int) := by omega
    rw [e, rangeSize_nat]
    omega
  · have : z.toNat + 1 ≤ 4 := by omega
    exact Nat.le_trans this (by decide +kernel)
end
section
open PySem.Builtin PySem.Builtin.Bytes
theorem jn_slot : Slot "bytes" "join" "bytes.join" :=
  .of (owner := "bytes") (n := "join") (by rw [typeLookup_type, builtinLookup_eq_fast]; kernel_rfl) (by decide +kernel) (by decide +kernel) (by decide +kernel)
    (by first | exact .inl (by decide +kernel) | exact .inr (by decide +kernel)) (by rw [isSubtype_type]; kernel_rfl)
theorem jn_type : typeOf (.builtin "bytes.join") = pure (.type "method_descriptor") := by show builtinType _ = _; rw [builtinType_eq_fast]; kernel_rfl
theorem jn_entry : entryFor table "bytes.join" = some Builtin.«bytes.join» := by first | exact entryFor_of_fast (by kernel_rfl) | exact entryFor_of_tree (by kernel_rfl)
theorem jn_args (a b : Value) : argsOk "bytes.join" ⟨[a, b], []⟩ := by unfold argsOk; kernel_rfl
theorem jn_take (b : Array UInt8) (t : Tok) : takeBufferQuiet? "bytes.join" (.bytes b t) 0 = pure (some (b, none)) := by
  unfold takeBufferQuiet? takeBuffer?
  rw [KBy.special_eq KBy.look_buffer, KBy.own_buffer]
  have e : Bytes.buffer? "bytes.join" (.bytes b t) ((0 : Int) == fullReadOnly) = pure (some b) := KBy.buffer_eq
  rw [e]
  rfl
/-- what join glues -/
noncomputable def joinB : List (List UInt8) → List UInt8
  | [] => []
  | [b] => b
  | b :: r => b ++ 32 :: joinB r
theorem jn_fold : ∀ (bs : List (List UInt8)) (k : Nat) (acc : Array UInt8), 0 < k →
    ((bs.map List.toArray).zipIdx k).foldl (fun out (p, i) => (if i > 0 then out ++ #[32] else out) ++ p) acc = acc ++ (bs.flatMap fun b => 32 :: b).toArray
  | [], _, acc, _ => by simp
  | b :: r, k, acc, hk => by
    rw [List.map_cons, List.zipIdx_cons, List.foldl_cons]
    dsimp only
    rw [if_pos hk, jn_fold r (k + 1) _ (Nat.succ_pos _)]
    apply Array.toList_inj.mp
    simp
theorem jn_joinB : ∀ (b : List UInt8) (r : List (List UInt8)), joinB (b :: r) = b ++ r.flatMap fun b => 32 :: b
  | b, [] => by simp [joinB]
  | b, c :: r => by
    show b ++ 32 :: joinB (c :: r) = _
    rw [jn_joinB c r]
    simp
theorem jn_joined : ∀ (bs : List (List UInt8)), joined #[32] (bs.map List.toArray) = (joinB bs).toArray
  | [] => rfl
  | b :: r => by
    unfold joined
    rw [List.map_cons, List.zipIdx_cons, List.foldl_cons]
    dsimp only
    rw [if_neg (Nat.lt_irrefl 0), jn_fold r 1 _ Nat.one_pos, jn_joinB]
    apply Array.toList_inj.mp
    simp
section
variable {M : Model} {A : Around} {E : Value → Shared → Prop} {s : Shared}
theorem wp_range_loop {σ : Type} {f : Nat → σ → Sem (ForInStep σ)} {n : Nat} {st : Nat → σ} {Q : σ → Shared → Prop}
    (hstep : ∀ i, i < n → ∀ Q' : ForInStep σ → Shared → Prop, Q' (.yield (st (i + 1))) s → wpAny M A (f i (st i)) Q' E s) (h : Q (st n) s) : wpAny M A (forIn [0:n] (st 0) f) Q E s := by
  rw [Std.Legacy.Range.forIn_eq_forIn_range']
  have go : ∀ k i, i + k = n → wpAny M A (forIn (List.range' i k) (st i) f) Q E s := by
    intro k
    induction k with
    | zero =>
      intro i hi
      have e : i = n := by omega
      subst e
      rw [List.range'_zero, List.forIn_nil]
      exact wpAny_pure h
    | succ k ih =>
      intro i hi
      rw [List.range'_succ, List.forIn_cons]
      exact wpAny_bind (hstep i (by omega) _ (ih (i + 1) (by omega)))
  simpa [Std.Legacy.Range.size] using go n 0 (by omega)
theorem wp_letGo {Q : Unit → Shared → Prop} : ∀ (removed keep : List Value), Q () s → wpAny M A (letGo removed keep) Q E s
  | [], _, h => wpAny_pure h
  | _ :: rest, keep, h => by
    unfold letGo
    exact wpAny_bind (wpAny_holding (wpAny_point (wp_letGo rest keep h)))
theorem wp_joinLetGo {Q : Unit → Shared → Prop} : ∀ (vs : List Value) (keep : List Value), Q () s → wpAny M A (joinLetGo (vs.map fun v => (v, none)) keep) Q E s
  | [], _, h => wpAny_pure h
  | v :: rest, keep, h => by
    show wpAny M A (joinLetGo ((v, none) :: rest.map fun v => (v, none)) keep) Q E s
    unfold joinLetGo
    exact wpAny_bind (wp_letGo _ _ (wp_joinLetGo rest keep h))
end
section
variable {M : Model} {prog : Program} {w : World} {A : Around} {E : Value → Shared → Prop} {s : Shared} {t : Tok} {pl : Sem Bool} {a : Addr}
theorem jn_getMethod {b : Array UInt8} {Q : Value × List Value → Shared → Prop} (h : Q (.builtin "bytes.join", [.bytes b t]) s) : wpAny M A (getMethod (.bytes b t) "join" pl) Q E s :=
  by with_reducible exact KBd.method_of (.bytes b t) (typeIs_bytes _ _ _) jn_slot jn_type KBd.noRef h
/-- the values are these octets -/
inductive BAre : List Value → List (List UInt8) → Prop
  | nil : BAre [] []
  | cons (b : List UInt8) (t : Tok) (vs bs) : BAre vs bs → BAre (.bytes b.toArray t :: vs) (b :: bs)
theorem BAre.len {vs bs} (h : BAre vs bs) : vs.length = bs.length := by
  induction h with
  | nil => rfl
  | cons _ _ _ _ _ ih => exact congrArg Nat.succ ih
theorem BAre.at {vs bs} (h : BAre vs bs) : ∀ i, i < vs.length → ∃ b t, vs[i]? = some (.bytes (List.toArray b) t) ∧ bs[i]? = some b := by
  induction h with
  | nil => exact fun i h => absurd h (Nat.not_lt_zero _)
  | cons b t _ _ _ ih =>
    intro i hi
    cases i with
    | zero => exact ⟨b, t, rfl, rfl⟩
    | succ i => exact ih i (Nat.lt_of_succ_lt_succ hi)
theorem BAre.noHeap {vs bs} (h : BAre vs bs) : ∀ i, ((vs.take i).map fun v => (v, (none : Option Value))).any (·.1.onHeap) = false := by
  induction h with
  | nil => exact fun i => by rw [List.take_nil]; rfl
  | cons b t vs bs _ ih =>
    intro i
    cases i with
    | zero => rfl
    | succ i => exact ih i
theorem jn_sum : ∀ (bs : List (List UInt8)) (k : Nat), (bs.map List.toArray).foldl (fun x y => x + y.size) k = k + (bs.map List.length).sum
  | [], k => by simp
  | b :: r, k => by
    rw [List.map_cons, List.foldl_cons, jn_sum r]
    simp
    omega
theorem jn_len : ∀ (b : List UInt8) (r : List (List UInt8)), (joinB (b :: r)).length = b.length + (r.map List.length).sum + r.length
  | b, [] => by simp [joinB]
  | b, c :: r => by
    show (b ++ 32 :: joinB (c :: r)).length = _
    rw [List.length_append, List.length_cons, jn_len c r]
    simp
    omega
theorem jn_short (bs : List (List UInt8)) (hne : bs ≠ []) (hz : (joinB bs).length ≤ 100000) :
    ¬ tooLong (Array.foldl (fun x y => x + y.size) ((#[32] : Array UInt8).size * (((bs.map List.toArray).toArray).size - 1)) (bs.map List.toArray).toArray) = true := by
  cases bs with
  | nil => exact absurd rfl hne
  | cons b r =>
    rw [List.foldl_toArray, jn_sum]
    rw [jn_len] at hz
    simp only [tooLong, decide_eq_true_eq, List.size_toArray, List.length_map, List.length_cons, List.length_nil, List.map_cons, List.sum_cons]
    have : (100000 : Nat) < sizeLine := by decide +kernel
    omega
theorem jn_box {p : Prop} (h : p) : p := h
theorem jn_call {vs : List Value} {bs : List (List UInt8)} {Q : Value → Shared → Prop} (hl : s.heap.IsList a vs.toArray) (hv : BAre vs bs) (hn : bs ≠ []) (hz : (joinB bs).length ≤ 100000)
    (h : ∀ t' k, Q (.bytes (joinB bs).toArray t') { s with toks := k }) :
    wpAny (model prog w) A (call (.builtin "bytes.join") [.bytes #[32] t, .ref a]) Q E s := by
  obtain ⟨o, ho, hc, n, hd⟩ := id hl
  have hty := hl.typeIs
  clear hl
  cases hv with
  | nil => exact absurd rfl hn
  | cons b t2 vs2 bs2 hv2 =>
  cases hv2 with
  | nil =>
    refine wpAny_call_entry jn_slot (typeIs_bytes _ _ _) jn_entry ?_ (jn_args _ _)
    show wpAny _ _ (joinM .bytes ⟨[.bytes #[32] t, .ref a], []⟩) _ _ _
    unfold joinM
    refine wpAny_bind (wpAny_pure ?_)
    dsimp only
    rw [if_pos (show (Kind.bytes == Kind.bytes) = true from rfl)]
    unfold joinItems
    refine wpAny_bind (wpAny_bind (wpAny_typeOf hty ?_))
    refine wpAny_pure ?_
    refine wpAny_bind (wpAny_seqItems ho hd ?_)
    dsimp only
    rw [if_pos (show (Kind.bytes == Kind.bytes) = true from rfl)]
    refine wpAny_bind (wpAny_typeOf (typeIs_bytes _ _ _) ?_)
    rw [if_pos (by rfl)]
    refine wpAny_bind (wpAny_rule ?_)
    exact wpAny_pure ⟨_, rfl, h _ _⟩
  | cons b3 t3 vs3 bs3 hv3 =>
    have hv := BAre.cons b t2 _ _ (BAre.cons b3 t3 _ _ hv3)
    clear hv3
    refine wpAny_call_entry jn_slot (typeIs_bytes _ _ _) jn_entry ?_ (jn_args _ _)
    show wpAny _ _ (joinM .bytes ⟨[.bytes #[32] t, .ref a], []⟩) _ _ _
    unfold joinM
    refine wpAny_bind (wpAny_pure ?_)
    dsimp only
    rw [if_pos (show (Kind.bytes == Kind.bytes) = true from rfl)]
    unfold joinItems
    refine wpAny_bind (wpAny_bind (wpAny_typeOf hty ?_))
    refine wpAny_pure ?_
    refine wpAny_bind (wpAny_seqItems ho hd ?_)
    dsimp only
    rw [if_pos (show (Kind.bytes == Kind.bytes) = true from rfl)]
    refine wpAny_bind ?_
    clear hty
    generalize Value.bytes b.toArray t2 :: Value.bytes b3.toArray t3 :: vs3 = vs at *
    generalize b :: b3 :: bs3 = bs at *
    revert vs bs
    refine jn_box ?_
    intro vs hd bs hn hz h hv
    refine wp_range_loop (n := vs.toArray.size) (st := fun i => (((bs.take i).map List.toArray).toArray, (vs.take i).map fun v => (v, (none : Option Value)))) ?_ ?_
    · intro i hi Q' hQ'
      have hi' : i < vs.length := by simpa using hi
      obtain ⟨b', t', e1, e2⟩ := hv.at i hi'
      have eg : vs.toArray.getD i .none = .bytes b'.toArray t' := by rw [Array.getD_eq_getD_getElem?, List.getElem?_toArray, e1]; rfl
      refine wpAny_bind (wpAny_seqItems ho hd ?_)
      dsimp only
      rw [eg, if_neg (by rw [hv.noHeap i]; decide)]
      refine wpAny_bind (wpAny_holding ?_)
      show wpAny _ _ (takeBufferQuiet? "bytes.join" _ 0) _ _ _
      rw [jn_take]
      refine wpAny_pure ?_
      dsimp only
      refine wpAny_bind (wpAny_seqItems ho hd ?_)
      dsimp only
      rw [if_neg (by simp)]
      refine wpAny_pure ?_
      (try dsimp only at hQ')
      have q1 : ((bs.take (i + 1)).map List.toArray).toArray = ((bs.take i).map List.toArray).toArray.push b'.toArray := by
        rw [List.take_add_one, e2]
        simp
      have q2 : (vs.take (i + 1)).map (fun v => (v, (none : Option Value))) = (vs.take i).map (fun v => (v, (none : Option Value))) ++ [(.bytes b'.toArray t', none)] := by
        rw [List.take_add_one, e1]
        simp
      rw [q1, q2] at hQ'
      exact hQ'
    · dsimp only
      have hlen := hv.len
      rw [List.take_of_length_le (show vs.length ≤ vs.toArray.size by simp), List.take_of_length_le (show bs.length ≤ vs.toArray.size by simp [hlen])]
      refine wpAny_bind (wpAny_pure ?_)
      rw [jn_joined]
      rw [if_neg (jn_short bs hn hz)]
      refine wpAny_bind (wpAny_mkBytes (hb := by rw [List.size_toArray]; exact Nat.le_trans hz (by decide +kernel)) ?_)
      refine wpAny_bind (wpAny_holding (wpAny_point ?_))
      exact wpAny_bind (wp_joinLetGo _ _ (wpAny_pure ⟨_, rfl, h _ _⟩))
end
end
theorem off_V2 : True := by
  w_top off
  trivial
section
variable {t : Tok}
theorem said_16 : True := by
  k_with "x15" =>
    (repeat' (first | ((with_reducible show wpAny _ _ (call (Value.type "bytes") [Value.ref _]) _ _ _); (refine' lst_bytes_N ?lbh ?lbF ?lbN ?lbm ?lbi ?lbr ?lbz ?_; (case lbh => with_unfolding_all rfl); (case lbF => k_asm); (case lbN => k_asm); (case lbm => k_mem); (case lbi => exact okL_spec rfl); (case lbr => rfl); (case lbz => exact Nat.le_of_ble_eq_true rfl)); intro h' t' k' F' N'; (try k_sweep); (try dsimp only)) | ((with_reducible show wpAny _ _ (execs _ _) _ _ _); dsimp only) | (k_unfold; (try dsimp only)) | walk1 | (dsimp only; walk1) | fail "no step"))
  trivial
set_option maxHeartbeats 8000000 in
theorem tt_1 (prog : Program) (w : World) : Spec prog w 159 [.int 1 t] [] 9 90 (fun v _ => ∃ u, v = .bytes (List.toArray [49]) u) := by
  intro p loose mean mg mb dp un outer base g s R B' X' T' sub sz hC hdp hun hret
  refine' enter X' T' sub sz hC ?k6 ?k7 ?k8 ?k9 ?kB ?_ ?c5 ?c2 ?c3 ?c4
  (case k6 => k_is)
  (case k7 => k_is)
  (case k8 => exact room0 hdp)
  (case k9 => exact BindsTo.of_eq rfl)
  (case kB => exact locs rfl)
  (case c5 => decide)
  (case c2 => exact rfl)
  (case c3 => exact rfl)
  (case c4 => exact rfl)
  intro L' h' F' N' l1
  (try k_lt l1)
  clear sub sz hC
  (try dsimp only)
  (try k_fold)
  (try dsimp only [LX] at N' l1)
  k_extra "x15"
  all_goals k_extra "x8"
set_option maxHeartbeats 8000000 in
theorem tt_8 (prog : Program) (w : World) : Spec prog w 159 [.int 8 t] [] 9 90 (fun v _ => ∃ u, v = .bytes (List.toArray [56]) u) := by
  intro p loose mean mg mb dp un outer base g s R B' X' T' sub sz hC hdp hun hret
  refine' enter X' T' sub sz hC ?k6 ?k7 ?k8 ?k9 ?kB ?_ ?c5 ?c2 ?c3 ?c4
  (case k6 => k_is)
  (case k7 => k_is)
  (case k8 => exact room0 hdp)
  (case k9 => exact BindsTo.of_eq rfl)
  (case kB => exact locs rfl)
  (case c5 => decide)
  (case c2 => exact rfl)
  (case c3 => exact rfl)
  (case c4 => exact rfl)
  intro L' h' F' N' l1
  (try k_lt l1)
  clear sub sz hC
  (try dsimp only)
  (try k_fold)
  (try dsimp only [LX] at N' l1)
  k_extra "x15"
  all_goals k_extra "x8"
set_option maxHeartbeats 8000000 in
theorem tt_31 (prog : Program) (w : World) : Spec prog w 159 [.int 31 t] [] 9 90 (fun v _ => ∃ u, v = .bytes (List.toArray [51, 49]) u) := by
  intro p loose mean mg mb dp un outer base g s R B' X' T' sub sz hC hdp hun hret
  refine' enter X' T' sub sz hC ?k6 ?k7 ?k8 ?k9 ?kB ?_ ?c5 ?c2 ?c3 ?c4
  (case k6 => k_is)
  (case k7 => k_is)
  (case k8 => exact room0 hdp)
  (case k9 => exact BindsTo.of_eq rfl)
  (case kB => exact locs rfl)
  (case c5 => decide)
  (case c2 => exact rfl)
  (case c3 => exact rfl)
  (case c4 => exact rfl)
  intro L' h' F' N' l1
  (try k_lt l1)
  clear sub sz hC
  (try dsimp only)
  (try k_fold)
  (try dsimp only [LX] at N' l1)
  k_extra "x15"
  all_goals k_extra "x8"
set_option maxHeartbeats 8000000 in
theorem tt_127 (prog : Program) (w : World) : Spec prog w 159 [.int 127 t] [] 9 90 (fun v _ => ∃ u, v = .bytes (List.toArray [49, 50, 55]) u) := by
  intro p loose mean mg mb dp un outer base g s R B' X' T' sub sz hC hdp hun hret
  refine' enter X' T' sub sz hC ?k6 ?k7 ?k8 ?k9 ?kB ?_ ?c5 ?c2 ?c3 ?c4
  (case k6 => k_is)
  (case k7 => k_is)
  (case k8 => exact room0 hdp)
  (case k9 => exact BindsTo.of_eq rfl)
  (case kB => exact locs rfl)
  (case c5 => decide)
  (case c2 => exact rfl)
  (case c3 => exact rfl)
  (case c4 => exact rfl)
  intro L' h' F' N' l1
  (try k_lt l1)
  clear sub sz hC
  (try dsimp only)
  (try k_fold)
  (try dsimp only [LX] at N' l1)
  k_extra "x15"
  all_goals k_extra "x8"
end
section
variable {t u : Tok} {B : List UInt8}
theorem said_17 : True := by
  k_with "x16" =>
    (repeat' ((fail_if_success (with_reducible show ∃ n' : Nat, n' < _ ∧ _)); (fail_if_success (with_reducible show codeAny _ _ (Code.whileLoop _ _ _ _) _ _)); first | ((with_reducible show wpAny _ _ (exec (Stmt.While _ _ _ _) _) _ _ _); refine A_While ?_) | ((with_reducible show ite _ _ _); (first | refine ite_neg (by first | decide | ((try simp only [List.any_cons, List.any_nil, bne_iff_ne, ne_eq, Bool.not_eq_true, bne_eq_false_iff_eq, decide_eq_true_eq, Bool.or_eq_true, Bool.and_eq_true, beq_iff_eq, Bool.or_false, Bool.false_or, Bool.not_eq_true', decide_eq_false_iff_not, Bool.or_eq_false_iff, Bool.and_eq_false_iff, beq_eq_false_iff_ne]); omega)) ?_ | refine ite_pos (by first | decide | ((try simp only [List.any_cons, List.any_nil, bne_iff_ne, ne_eq, Bool.not_eq_true, bne_eq_false_iff_eq, decide_eq_true_eq, Bool.or_eq_true, Bool.and_eq_true, beq_iff_eq, Bool.or_false, Bool.false_or, Bool.not_eq_true', decide_eq_false_iff_not, Bool.or_eq_false_iff, Bool.and_eq_false_iff, beq_eq_false_iff_ne]); omega)) ?_))  | walk_at "astep"))
  trivial
set_option maxHeartbeats 8000000 in
theorem c_text_spec (prog : Program) (w : World) (hB : B.length ≤ 100000) : Spec prog w 166 [.bytes B.toArray t] [] 3 30 (fun v _ => ∃ u, v = .bytes (List.toArray (up0 B)) u) := by
  rintro p loose mean mg mb dp un outer base g ⟨hs0, gs0, ds0, tk0, os0⟩ R B' X' T' sub sz hC hdp hun hret
  refine' enter X' T' sub sz hC ?k6 ?k7 ?k8 ?k9 ?kB ?_ ?c5 ?c2 ?c3 ?c4
  (case k6 => k_is)
  (case k7 => k_is)
  (case k8 => exact room0 hdp)
  (case k9 => exact BindsTo.of_eq rfl)
  (case kB => exact locs rfl)
  (case c5 => decide)
  (case c2 => exact rfl)
  (case c3 => exact rfl)
  (case c4 => exact rfl)
  intro L' h' F' N' l1
  (try k_lt l1)
  clear sub sz hC
  (try dsimp only)
  (try k_fold)
  (try dsimp only [LX] at N' l1)
  (first | refine W_start fun Q0 E0 k1 k2 k3 hPO => ?_ | refine P_start fun Q0 E0 k1 k2 k3 hPO => ?_)
  k_extra "x16"
  refine' A_loopN (N0 := B.length) (fun k => (0 ≤ k ∧ k ≤ B.length) ∧ up0 B = B.take k.toNat ++ up0 (B.drop k.toNat)) ?lF ?lp (fun k p => p.1) ?step
  (case lF => k_asm)
  (case lp => exact ⟨⟨by decide, by omega⟩, rfl⟩)
  (try clear F')
  rintro k t1 h' tk F' ⟨hk, hup⟩
  k_extra "x16"
  · dsimp only
    refine' ⟨((B.length : Int) - (k + 1)).toNat, by omega, k + 1, _, _, _, rfl, ?mF, ⟨⟨by omega, by omega⟩, up0_next hk.1 (by assumption) hup (by assumption)⟩, rfl⟩
    (case mF => exact fr_over (by assumption))
  · (refine' hret _ _ _ _ (Fr.keep (by assumption)) (fr_size (by assumption)) (has_of (by assumption) (fun _ hq => hq)) ⟨_, by rw [up0_stop hk.1 hup (.inr (by assumption))]⟩)
  · (refine' hret _ _ _ _ (Fr.keep (by assumption)) (fr_size (by assumption)) (has_of (by assumption) (fun _ hq => hq)) ⟨_, by rw [up0_stop hk.1 hup (.inl (by assumption))]⟩)
end
theorem reg_fd6f17cc_I1 : True := by
  k_with "q POSTB1" =>
    (intro v' c' h' tk' hp' F' S' N'; (obtain ⟨u', e1⟩ := hp'); subst e1; (have N' := stays0 S' (fun _ hq => nomatch hq)); clear S'; (try k_sweep); (try dsimp only))
  trivial
theorem ct_q (prog : Program) (w : World) {t : Tok} : Spec prog w 166 [.bytes (List.toArray [61, 113]) t] [] 3 30 (fun v _ => ∃ u, v = .bytes (List.toArray [61, 113]) u) :=
  c_text_spec prog w (by decide)
section
variable {t u : Tok}
set_option maxHeartbeats 8000000 in
theorem chunk_spec (prog : Program) (w : World) : Spec prog w 180 [.bytes (List.toArray [61, 113]) t, .int 80 u] [] 7 70 (fun v _ => ∃ u, v = .bytes (List.toArray [113]) u) := by
  rintro p loose mean mg mb dp un outer base g ⟨hs0, gs0, ds0, tk0, os0⟩ R B' X' T' sub sz hC hdp hun hret
  refine' enter X' T' sub sz hC ?k6 ?k7 ?k8 ?k9 ?kB ?_ ?c5 ?c2 ?c3 ?c4
  (case k6 => k_is)
  (case k7 => k_is)
  (case k8 => exact room0 hdp)
  (case k9 => exact BindsTo.of_eq rfl)
  (case kB => exact locs rfl)
  (case c5 => decide)
  (case c2 => exact rfl)
  (case c3 => exact rfl)
  (case c4 => exact rfl)
  intro L' h' F' N' l1
  (try k_lt l1)
  clear sub sz hC
  (try dsimp only)
  (try k_fold)
  (try dsimp only [LX] at N' l1)
  (first | refine W_start fun Q0 E0 k1 k2 k3 hPO => ?_ | refine P_start fun Q0 E0 k1 k2 k3 hPO => ?_)
  (repeat' (first 
    | ((with_reducible show wpAny _ _ (call (Value.ref 166) _) _ _ _); (first | (refine' Spec.use (ct_q _ _) ?uB ?uF ?uX ?uN ?uT ?uh ?uA ?ug ?uf ?uk ?us ?ud ?uu ?_; walk_at "close"; (case ud => k_room); (case uu => k_units); walk_at "POSTB1") | walk_at "contra"))
    | walk_at "astep"))
  all_goals k_extra "x8"
end
/-! An object whose attributes are laid one by one. -/
section
variable {prog : Program} {w : World} {φ : Fn} {Z : Zc} {l : List (Str × Value)} {core : List (Addr × Obj)} {Q : Flow → Shared → Prop} {D U d u : Nat} {f : Addr} {post : Value → List (Addr × Obj) → Prop}
  {rest : List Stmt} {t e e1 e2 : PySem.Expr} {pos p1 p2 p3 : Pos} {P P1 P2 : Value → Prop} {x dx : Addr} {es : List DictEntry} {n : Nat} {name fx : Str} {R : List (Addr × Obj)}
theorem Go.fact {Pf : Prop} {ss : List Stmt} (hP : ∀ h, News Z.g Z.L h core → Pf) (k : Pf → Go prog w φ Z l core ss Q) : Go prog w φ Z l core ss Q := fun E h tk F N => k (hP h N) E h tk F N
theorem EvP.mono {post' : Value → List (Addr × Obj) → Prop} (v₁ : EvP prog w φ Z l core e post) (h : ∀ v c', post v c' → post' v c') : EvP prog w φ Z l core e post' := fun Q E hp tk F N hQ => v₁ Q E hp tk F N fun v c' h' tk' p => hQ v c' h' tk' (h v c' p)
theorem Go.setC {PN : Value → List (Addr × Obj) → Prop} (ok : OK w Z D U) (hs : findIn (hd.heap_1 w.params) (.ref 465) "__setattr__" = some (some (.builtin "object.__setattr__"))) (hp : plainOver (hd.heap_1 w.params) 465 = true) (ht : takerIn (hd.heap_1 w.params) 465 name = some none) (hh : hasDictIn (hd.heap_1 w.params) 465 = true)
    (hg : getL name es = some none) (hap : ∀ p ∈ R, p.1 ≠ dx)
    (v₁ : EvP prog w φ Z l ((x, instObj 465 dx) :: (dx, dictOf es n) :: R) e (fun v c' => ∃ N1, c' = N1 ++ (x, instObj 465 dx) :: (dx, dictOf es n) :: R ∧ PN v N1))
    (hN : ∀ v N1, PN v N1 → ∀ h, News Z.g Z.L h (N1 ++ (x, instObj 465 dx) :: (dx, dictOf es n) :: R) → ∀ p ∈ N1, p.1 ≠ dx)
    (k : ∀ v N1, PN v N1 → (∀ p ∈ N1, p.1 ≠ dx) → ∀ a z, Go prog w φ Z l ((x, instObj 465 dx) :: (dx, dictOf (es ++ [⟨a, .str name z, v⟩]) (n + 1)) :: (N1 ++ R)) rest Q)
    (hz : Nat.ble es.length 900 = true := by rfl) (hput : ∀ a k v, putL name a k v es = es ++ [⟨a, k, v⟩] := by intros; rfl) (hputn : putN name es n = n + 1 := by rfl)
    (hself : lk l (Str.ofString "self") = some (.ref x) := by rfl) (hx : ∀ L, (envOf φ.cn φ.cs L φ.a φ.cd).kindOf (Str.ofString "self") = some .local := by intro _; rfl) (hk : φ.cs.kind = .function := by rfl)
    (hw : ∀ L, swapsWith e (some (.Attribute (.Name (Str.ofString "self") p1) name p2)) pos.line (envOf φ.cn φ.cs L φ.a φ.cd) = pure false := by intro _; rfl) :
    Go prog w φ Z l ((x, instObj 465 dx) :: (dx, dictOf es n) :: R) (.Assign [.Attribute (.Name (Str.ofString "self") p1) name p2] e pos :: rest) Q := fun E h tk F N => by
  obtain ⟨⟨p, loose, mean, mg, mb, base, B', X', T'⟩, h1, h2⟩ := ok
  refine P_execs_cons (P_Assign_Attr (v₁ _ E h tk F N fun v c' h' tk' pv F' N' => nameX_L F' hself ?_ hk (hx _) (by decide)) (hw _))
  obtain ⟨N1, rfl, pn⟩ := pv
  have h3 := hN v N1 pn h' N'
  have N2 : News Z.g Z.L h' ((x, instObj 465 dx) :: (dx, dictOf es n) :: (N1 ++ R)) := fun q hq => N' q (by
    rcases List.mem_cons.mp hq with rfl | hq
    · exact List.mem_append_right _ (.head _)
    · rcases List.mem_cons.mp hq with rfl | hq
      · exact List.mem_append_right _ (.tail _ (.head _))
      · rcases List.mem_append.mp hq with hq | hq
        · exact List.mem_append_left _ hq
        · exact List.mem_append_right _ (.tail _ (.tail _ hq)))
  have hne : x ≠ dx := fun e => by
    subst e
    have a := (N2 _ (.head _)).1
    rw [(N2 _ (.tail _ (.head _))).1] at a
    exact absurd (congrArg (fun o => o.map fun o => o.cls) a) (by simp [dictOf, instObj])
  refine set_dict F' X' N2 (InstAt.of_news N2 (.head _) (.tail _ (.head _))) rfl hs hp ht hh (by rw [hg]; rfl) (by rw [hput, hputn]) (Upd.tail hne (Upd.head fun q hq => (List.mem_append.mp hq).elim (h3 q) (hap q))) (by have := Nat.le_of_ble_eq_true hz; rw [List.length_append]; simp; omega) fun h4 F4 N4 => ?_
  exact k v N1 pn h3 _ _ E h4 _ F4 N4
theorem Go.setP (ok : OK w Z D U) (hs : findIn (hd.heap_1 w.params) (.ref 465) "__setattr__" = some (some (.builtin "object.__setattr__"))) (hp : plainOver (hd.heap_1 w.params) 465 = true) (ht : takerIn (hd.heap_1 w.params) 465 name = some none) (hh : hasDictIn (hd.heap_1 w.params) 465 = true)
    (hg : getL name es = some none) (hap : ∀ p ∈ R, p.1 ≠ dx)
    (v₁ : EvV prog w φ Z l ((x, instObj 465 dx) :: (dx, dictOf es n) :: R) e P)
    (k : ∀ v, P v → ∀ a z, Go prog w φ Z l ((x, instObj 465 dx) :: (dx, dictOf (es ++ [⟨a, .str name z, v⟩]) (n + 1)) :: R) rest Q)
    (hz : Nat.ble es.length 900 = true := by rfl) (hput : ∀ a k v, putL name a k v es = es ++ [⟨a, k, v⟩] := by intros; rfl) (hputn : putN name es n = n + 1 := by rfl)
    (hself : lk l (Str.ofString "self") = some (.ref x) := by rfl) (hx : ∀ L, (envOf φ.cn φ.cs L φ.a φ.cd).kindOf (Str.ofString "self") = some .local := by intro _; rfl) (hk : φ.cs.kind = .function := by rfl)
    (hw : ∀ L, swapsWith e (some (.Attribute (.Name (Str.ofString "self") p1) name p2)) pos.line (envOf φ.cn φ.cs L φ.a φ.cd) = pure false := by intro _; rfl) :
    Go prog w φ Z l ((x, instObj 465 dx) :: (dx, dictOf es n) :: R) (.Assign [.Attribute (.Name (Str.ofString "self") p1) name p2] e pos :: rest) Q :=
  Go.setC (PN := fun v N1 => N1 = [] ∧ P v) ok hs hp ht hh hg hap (fun Q E h tk F N hQ => P_lift (v₁ Q E h tk F N fun v h' tk' pv F' N' => hQ v _ h' tk' ⟨[], rfl, rfl, pv⟩ F' N'))
    (fun v N1 h => by obtain ⟨rfl, -⟩ := h; exact fun _ _ p hp => nomatch hp) (fun v N1 h _ a z => by obtain ⟨rfl, pv⟩ := h; exact k v pv a z) hz hput hputn hself hx hk hw
/-- a call of a def with two arguments that leaves all as it is -/
theorem EvV.fn2 (ok : OK w Z D U) (S : ∀ a a', P1 a → P2 a' → Spec prog w f [a, a'] [] d u (fun v _ => P v)) (v₁ : EvV prog w φ Z l core e1 P1) (v₂ : EvV prog w φ Z l core e2 P2) (hg : nsIn (hd.heap_1 w.params) mainGlobals fx = some (some (.ref f))) (hkeep : keepIn (hd.heap_1 w.params) (.ref f) = true)
    (hD : 1 + d ≤ D := by decide) (hU : 4 + u ≤ U := by decide)
    (hx : ∀ L, (envOf φ.cn φ.cs L φ.a φ.cd).kindOf fx = some .globalImplicit := by intro _; rfl) (hk : φ.cs.kind = .function := by rfl) (hd : (fx == ("__debug__" : Str)) = false := by decide)
    (he : ∀ L, starEach [e1, e2] (envOf φ.cn φ.cs L φ.a φ.cd) = [(false, eval e1 (envOf φ.cn φ.cs L φ.a φ.cd)), (false, eval e2 (envOf φ.cn φ.cs L φ.a φ.cd))] := by intro _; rfl)
    (he2 : ∀ L, starEach [e2] (envOf φ.cn φ.cs L φ.a φ.cd) = [(false, eval e2 (envOf φ.cn φ.cs L φ.a φ.cd))] := by intro _; rfl) :
    EvV prog w φ Z l core (.Call (.Name fx p1) [e1, e2] [] p2) P := fun Q E h tk F N hQ => by
  obtain ⟨⟨p, loose, mean, mg, mb, base, B', X', T'⟩, h1, h2⟩ := ok
  refine Call_Name2 (nameX_K F X' (topRead_of T') hg ?_ hk (hx _) hd) (he _)
  have z := he Z.L
  have z2 := he2 Z.L
  have zz : starEach [e1, e2] (Z.env φ) = (false, eval e1 (Z.env φ)) :: starEach [e2] (Z.env φ) := by rw [z2]; exact z
  have c := callWith_K (M := model prog w) (A := Z.A φ) (E := E) (s := Z.s h tk) (Q := Q) (pos := p2) (first := []) (e := e1) (rest := [e2]) (env := Z.env φ) X' hkeep ?_ zz (by rw [z2]; rfl)
  · rw [z] at c; exact c
  refine args_cons (v₁ _ E h tk F N fun a h' tk' pa F' N' => args_cons (v₂ _ E h' tk' F' N' fun a' h2' tk2' pa' F2' N2' => args_nil ⟨X'.keeps F2'.keep, ?_⟩) z2) zz
  refine Spec.use (S a a' pa pa') B' F2' X' N2' T' rfl rfl rfl rfl hk (fun _ q => nomatch q) ?_ ?_ fun v core' h2 tk2 hp F2 S2 N2 => hQ v h2 tk2 hp F2 (stays0 S2 fun _ q => nomatch q)
  · simp only [depth_deeper]; omega
  · simp only [units_deeper]; omega
/-- a call of a def without arguments, which makes something new -/
theorem EvP.fn0 (ok : OK w Z D U) (S : SpecP prog w f [] [] d u post) (hg : nsIn (hd.heap_1 w.params) mainGlobals fx = some (some (.ref f))) (hkeep : keepIn (hd.heap_1 w.params) (.ref f) = true)
    (hD : 1 + d ≤ D := by decide) (hU : 4 + u ≤ U := by decide)
    (hx : ∀ L, (envOf φ.cn φ.cs L φ.a φ.cd).kindOf fx = some .globalImplicit := by intro _; rfl) (hk : φ.cs.kind = .function := by rfl) (hd : (fx == ("__debug__" : Str)) = false := by decide)
    (hc : ∀ L, eval (.Call (.Name fx p1) [] [] p2) (envOf φ.cn φ.cs L φ.a φ.cd) = (do callWith p2 (← eval (.Name fx p1) (envOf φ.cn φ.cs L φ.a φ.cd)) [] (backTo p2 (starEach [] (envOf φ.cn φ.cs L φ.a φ.cd))) (backToKw p2 (keywordEach [] (envOf φ.cn φ.cs L φ.a φ.cd)))) := by intro _; rfl) :
    EvP prog w φ Z l core (.Call (.Name fx p1) [] [] p2) (fun v c' => ∃ N1, c' = N1 ++ core ∧ post v N1) := fun Q E h tk F N hQ => by
  obtain ⟨⟨p, loose, mean, mg, mb, base, B', X', T'⟩, h1, h2⟩ := ok
  refine P_Call (nameX_K F X' (topRead_of T') hg ?_ hk (hx _) hd) (hc _)
  refine P_callWith_K0 (X'.keeps F.keep) hkeep ?_
  refine SpecP.use S B' F X' N T' rfl rfl rfl rfl hk (fun _ q => nomatch q) ?_ ?_ fun v core' h2 tk2 hp F2 S2 N2 => hQ v (core' ++ core) h2 tk2 ⟨core', rfl, hp⟩ F2 fun q hq => (List.mem_append.mp hq).elim (N2 q) (stays0 S2 (fun _ q => nomatch q) q)
  · simp only [depth_deeper]; omega
  · simp only [units_deeper]; omega
end
theorem off_I3 : True := by
  w_top off
  trivial
theorem osa (w : World) : findIn (hd.heap_1 w.params) (.ref 465) "__setattr__" = some (some (.builtin "object.__setattr__")) := by k_is
theorem pov (w : World) : plainOver (hd.heap_1 w.params) 465 = true := by k_is
theorem hdi (w : World) : hasDictIn (hd.heap_1 w.params) 465 = true := by k_is
section
variable {x dx lm dl : Addr} {kl : HL} {T : List UInt8} {y : UInt8} {tT tc : Tok} {dk uk : Nat}
theorem said_42 : True := by
  k_with "x17" =>
    ((with_reducible show wpP _ _ (execs [] _) _ _ _); (refine P_execs_nil ?_); (try dsimp only))
  k_with "x18" =>
    ((with_reducible show wpP _ _ (execs (Stmt.Return (some (PySem.Expr.Call (PySem.Expr.Name _ _) [_, PySem.Expr.Call (PySem.Expr.Attribute _ _ _) _ _ _] [] _)) _ :: _) _) _ _ _); refine P_execs_cons (P_Return (P_Call ?_)))
  k_with "x19" =>
    ((with_reducible show wpP _ _ (callWith _ (Value.ref _) _ (backTo _ (starEach [_, PySem.Expr.Call (PySem.Expr.Attribute _ _ _) _ _ _] _)) _) _ _ _); (refine' P_callWith_KP ?k1 ?k2 ?_; (case k1 => k_asm); (case k2 => k_is)); (try dsimp only [List.nil_append, List.cons_append]))
  k_with "x20" =>
    ((with_reducible show wpP _ _ (spliced (backTo _ (starEach (PySem.Expr.Call (PySem.Expr.Attribute _ _ _) _ [] _ :: _) _))) _ _ _); refine P_spliced_e (P_methodCall0 ?_))
  k_with "x21" =>
    ((with_reducible show wpP _ _ (spliced (backTo _ (starEach (_ :: _) _))) _ _ _); refine P_spliced_e (P_lift ?_))
  k_with "x22" =>
    ((with_reducible show wpP _ _ (spliced (backTo _ (starEach [] _))) _ _ _); refine P_spliced_e0 ?_)
  k_with "x23" =>
    ((with_reducible show wpP _ _ (execs (Stmt.Expr (PySem.Expr.Call (PySem.Expr.Attribute _ _ _) _ [] _) _ :: _) _) _ _ _); refine P_execs_cons (P_Expr (P_methodCall0 ?_)))
  k_with "x24" =>
    ((with_reducible show wpP _ _ (execs (Stmt.Return (some (PySem.Expr.Call (PySem.Expr.Attribute _ _ _) _ [] _)) _ :: _) _) _ _ _); refine P_execs_cons (P_Return (P_methodCall0 ?_)))
  k_with "x25" =>
    ((with_reducible show wpP _ _ (execs (Stmt.If (PySem.Expr.Compare (PySem.Expr.Call (PySem.Expr.Attribute _ (PySem.Str.ofString "read_level") _) _ [] _) _ _ _) _ _ _ :: _) _) _ _ _); refine P_execs_cons (P_If (P_isTrue_Compare1 (P_methodCall0 ?_))))
  k_with "x26" =>
    ((with_reducible show wpP _ _ (execs (Stmt.If _ _ _ _ :: _) _) _ _ _); refine P_execs_cons (P_IfA ?_))
  k_with "x27" =>
    ((with_reducible show wpP _ _ (execs (Stmt.Assign [PySem.Expr.Name _ _] (PySem.Expr.Call (PySem.Expr.Attribute _ _ _) _ [] _) _ :: _) _) _ _ _); refine P_execs_cons (P_Assign_Name (P_methodCall0 ?_)))
  k_with "x28" =>
    ((with_reducible show wpP _ _ (execs (Stmt.Assign [PySem.Expr.Attribute _ _ _] (PySem.Expr.Call (PySem.Expr.Attribute _ _ _) _ [] _) _ :: _) _) _ _ _); refine P_execs_cons (P_Assign_Attr (P_methodCall0 ?_)))
  k_with "x29" =>
    ((with_reducible show wpP _ _ (execs (Stmt.Assign [PySem.Expr.Attribute _ _ _] (PySem.Expr.Call (PySem.Expr.Name _ _) _ [] _) _ :: _) _) _ _ _); refine P_execs_cons (P_Assign_Attr (P_Call ?_)))
  k_with "x30" =>
    ((with_reducible show wpP _ _ (execs (Stmt.While _ _ _ _ :: _) _) _ _ _); refine P_execs_cons (P_While ?_))
  k_with "x31" =>
    ((with_reducible show wpP _ _ (execs (_ :: _) _) _ _ _); refine P_stmt ?_)
  k_with "x32" =>
    ((with_reducible show wpP _ _ (callWith _ (Value.builtin _) _ _ _) _ _ _); refine P_callWith_b1 ?_)
  k_with "x33" =>
    ((with_reducible show wpP _ _ (callWith _ (Value.type _) _ _ _) _ _ _); refine P_callWith_t0 ?_)
  k_with "x34" =>
    ((with_reducible show wpP _ _ (callWith _ (Value.ref _) _ _ _) _ _ _); (first | (refine' P_callWith_K0 ?k1 ?k2 ?_; (case k1 => k_in); (case k2 => k_is)) | (refine' P_callWith_K ?k1 ?k2 ?_; (case k1 => k_asm); (case k2 => k_is))); (try dsimp only [List.nil_append, List.cons_append]))
  k_with "x35" =>
    ((with_reducible show wpP _ _ (call (Value.type "bytearray") _) _ _ _); (refine' ba_make_N rfl ?uF ?uN ?_; (case uF => k_asm); (case uN => k_asm)); intro b' h' F' N' l1; (try k_lt l1); (try k_sweep))
  k_with "x36" =>
    ((with_reducible show wpP _ _ (call (Value.builtin "bytearray.append") _) _ _ _); (refine' ba_append_N rfl ?uF ?uN ?um ?uc ?us ?uU ?_; (case uF => k_asm); (case uN => k_asm); (case um => k_mem); (case uc => first | assumption | (constructor <;> omega)); (case us => first | omega | (simp only [List.length_append, List.length_cons, List.length_nil]; omega)); (case uU => k_upd)); intro h' F' N'; (try k_sweep))
  k_with "x37" =>
    ((with_reducible show wpP _ _ (call (Value.ref _) _) _ _ _); refine P_lift ?_)
  k_with "x38" =>
    ((with_reducible show wpP _ _ (call (Value.builtin _) _) _ _ _); refine P_lift ?_)
  k_with "x39" =>
    ((with_reducible show wpP _ _ (call (Value.type _) _) _ _ _); refine P_lift ?_)
  k_with "x40" =>
    ((with_reducible show (_ = Value.none) ∧ _); refine ⟨rfl, ?_⟩; (try dsimp only))
  k_with "x41" =>
    ((with_reducible show ite _ _ _); (first | refine ite_neg (by first | decide | ((try simp only [List.any_cons, List.any_nil, bne_iff_ne, ne_eq, Bool.not_eq_true, bne_eq_false_iff_eq, decide_eq_true_eq, Bool.or_eq_true, Bool.and_eq_true, beq_iff_eq, Bool.or_false, Bool.false_or, Bool.not_eq_true', decide_eq_false_iff_not, Bool.or_eq_false_iff, Bool.and_eq_false_iff, beq_eq_false_iff_ne]); omega)) ?_ | refine ite_pos (by first | decide | ((try simp only [List.any_cons, List.any_nil, bne_iff_ne, ne_eq, Bool.not_eq_true, bne_eq_false_iff_eq, decide_eq_true_eq, Bool.or_eq_true, Bool.and_eq_true, beq_iff_eq, Bool.or_false, Bool.false_or, Bool.not_eq_true', decide_eq_false_iff_not, Bool.or_eq_false_iff, Bool.and_eq_false_iff, beq_eq_false_iff_ne]); omega)) ?_))
  trivial
set_option maxHeartbeats 8000000 in
theorem lexer_init_spec (prog : Program) (w : World) (rk : Spec prog w 238 [] [] 10 100 (fun v e => ∃ kd kn, v = .ref kd ∧ KF w kn kd ∧ e = [(kd, dictOf kn 21)])) (hne : dx ≠ dl) (hT : (y :: T).length ≤ 80000) :
    SpecP prog w 280 [.ref x, .bytes (List.toArray (y :: T)) tT, .bytes (List.toArray [61, 113]) tc, .ref lm] ((x, instObj 465 dx) :: (dx, emptyDict) :: [(lm, instObj 53 dl), (dl, dictOf (LMD kl) 10)]) 20 200
      (fun v e => v = .none ∧ ∃ k kd kn tq src b ti ts t1 t2 tk, KF w kn kd ∧ e = LX ⟨k, kl, x, dx, lm, dl, kd, y :: T, tT, src, .bytes #[113] tq, kn⟩ b [] 0 ti (sgn (y :: T) 0) ts (.int 1 t1) (.int 1 t2) (.ref tk) .none) := by
  refine' spec_go [(Str.ofString "limits", .ref lm), (Str.ofString "chunk", .bytes (List.toArray [61, 113]) tc), (Str.ofString "text", .bytes (List.toArray (y :: T)) tT), (Str.ofString "self", .ref x)] ?k6 ?k7 ?k9 ?kB ?kl ?c5 ?c2 ?c3 ?c4 (by decide) fun Z Q ok hr hn' => ?_
  (case k6 => k_is)
  (case k7 => k_is)
  (case k9 => exact fun _ => BindsTo.of_eq rfl)
  (case kB => exact locs rfl)
  (case kl => rfl)
  (case c5 => decide)
  (case c2 => exact rfl)
  (case c3 => exact rfl)
  (case c4 => exact rfl)
  show Go prog w _ Z _ ((x, instObj 465 dx) :: (dx, dictOf [] 0) :: [(lm, instObj 53 dl), (dl, dictOf (LMD kl) 10)]) _ Q
  refine Go.fact (Pf := lm ≠ dx) (fun h N => news_ne N (.tail _ (.tail _ (.head _))) (.tail _ (.head _)) rfl) fun h1 => ?_
  have hap : ∀ p ∈ [(lm, instObj 53 dl), (dl, dictOf (LMD kl) 10)], p.1 ≠ dx := List.forall_mem_cons.mpr ⟨h1, List.forall_mem_cons.mpr ⟨hne.symm, List.forall_mem_nil _⟩⟩
  clear h1
  refine Go.setP ok (osa w) (pov w) (by k_is) (hdi w) rfl hap EvV.loc fun v hv a0 z0 => ?_
  subst hv
  refine Go.setP ok (osa w) (pov w) (by k_is) (hdi w) rfl hap EvV.loc fun v hv a1 z1 => ?_
  subst hv
  refine Go.setP ok (osa w) (pov w) (by k_is) (hdi w) rfl hap (EvV.fn2 (P1 := fun a => a = .bytes (List.toArray [61, 113]) tc) (P2 := fun a => ∃ u, a = .int 80 u) (P := fun v => ∃ u, v = .bytes (List.toArray [113]) u) ok (fun a a' ha ha' => by
    obtain ⟨u, rfl⟩ := ha'
    exact ha ▸ chunk_spec prog w) EvV.loc (EvV.isI (EvV.glob ok (by k_is))) (by k_is) (by k_is)) fun v hv a2 z2 => ?_
  obtain ⟨tq, rfl⟩ := hv
  refine Go.setP ok (osa w) (pov w) (by k_is) (hdi w) rfl hap EvV.loc fun v hv a3 z3 => ?_
  subst hv
  refine Go.setC ok (osa w) (pov w) (by k_is) (hdi w) rfl hap (EvP.fn0 ok rk.lift (by k_is) (by k_is)) (fun v N1 h hp N p hm => ?a4) fun v N1 h hn a4 z4 => ?_
  case a4 =>
    obtain ⟨kd, kn, rfl, -, rfl⟩ := h
    rw [List.mem_singleton.mp hm]
    exact news_ne N (.head _) (.tail _ (.tail _ (.head _))) rfl
  obtain ⟨kd, kn, rfl, hKF, rfl⟩ := h
  replace hap : ∀ p ∈ [(kd, dictOf kn 21), (lm, instObj 53 dl), (dl, dictOf (LMD kl) 10)], p.1 ≠ dx := fun p hp => (List.mem_cons.mp hp).elim (fun e => e ▸ hn _ (.head _)) (hap p)
  clear hn
  refine Go.setP ok (osa w) (pov w) (by k_is) (hdi w) rfl hap EvV.int fun v hv a5 z5 => ?_
  obtain ⟨ti, rfl⟩ := hv
  refine Go.setP (P := IsI (sgn (y :: T) 0)) ok (osa w) (pov w) (by k_is) (hdi w) rfl hap ?e1 fun v hv a6 z6 => ?_
  case e1 =>
    clear hr hn' rk hKF hap
    have hT2 := hT
    simp only [List.length_cons] at hT2
    have hT3 : (0 : Int) < ((y :: T).length : Nat) := by simp only [List.length_cons]; omega
    k_extra "x9"
    exact hQ _ _ _ ⟨_, rfl⟩ (by assumption) (by assumption)
  obtain ⟨ts, rfl⟩ := hv
  refine Go.setP ok (osa w) (pov w) (by k_is) (hdi w) rfl hap EvV.int fun v hv a7 z7 => ?_
  obtain ⟨t1, rfl⟩ := hv
  refine Go.setP ok (osa w) (pov w) (by k_is) (hdi w) rfl hap EvV.int fun v hv a8 z8 => ?_
  obtain ⟨t2, rfl⟩ := hv
  refine Go.setC (PN := fun v N1 => ∃ b, v = .ref b ∧ N1 = [(b, baO [])]) ok (osa w) (pov w) (by k_is) (hdi w) rfl hap ?e2 (fun v N1 h hp N p hm => ?a9) fun v N1 h hn a9 z9 => ?_
  case e2 =>
    clear hr hn' rk hKF hap
    intro Q E h0 tk0 F' N' hQ
    obtain ⟨⟨p, loose, mean, mg, mb, base, B', X', T'⟩, hdp, hun⟩ := ok
    dsimp only [Zc.env, Zc.A, Zc.s]
    refine P_Call ?_
    (repeat' ((fail_if_success (with_reducible show ∃ n' : Nat, n' < _ ∧ _)); first
    | k_extra "x17"
    | k_extra "x18"
    | k_extra "x19"
    | k_extra "x20"
    | k_extra "x21"
    | k_extra "x22"
    | k_extra "x23"
    | k_extra "x24"
    | k_extra "x25"
    | k_extra "x26"
    | k_extra "x27"
    | k_extra "x28"
    | k_extra "x29"
    | k_extra "x30"
    | ((with_reducible show wpP _ _ (isTrue _ _ _) _ _ _); refine P_lift ?_)
    | k_extra "x31"
    | k_extra "x32"
    | k_extra "x33"
    | k_extra "x34"
    | k_extra "x35"
    | k_extra "x36"
    
    | k_extra "x37"
    | k_extra "x38"
    | k_extra "x39"
    | k_extra "x40"
    | ((with_reducible show wpAny _ _ (execs _ _) _ _ _); dsimp only)
    | k_extra "x41"
    | (k_unfold; (try dsimp only))
    | walk1
    | (dsimp only; walk1)
    | (dsimp only; (with_reducible show wpP _ _ _ _ _ _))
    | fail "no step"))
    exact hQ _ _ _ _ ⟨[(_, baO [])], rfl, _, rfl, rfl⟩ (by assumption) (by assumption)
  case a9 =>
    obtain ⟨b, rfl, rfl⟩ := h
    rw [List.mem_singleton.mp hm]
    exact news_ne N (.head _) (.tail _ (.tail _ (.head _))) rfl
  obtain ⟨b, rfl, rfl⟩ := h
  replace hap : ∀ p ∈ [(b, baO []), (kd, dictOf kn 21), (lm, instObj 53 dl), (dl, dictOf (LMD kl) 10)], p.1 ≠ dx := fun p hp => (List.mem_cons.mp hp).elim (fun e => e ▸ hn _ (.head _)) (hap p)
  clear hn
  refine Go.setC (PN := fun v N1 => ∃ x' dx' kk kv, v = .ref x' ∧ N1 = TKL x' dx' kk kv .none []) ok (osa w) (pov w) (by k_is) (hdi w) rfl hap (EvP.mono (EvP.token ok (EvV.glob ok (by k_is)) (EvV.p EvV.none) (by k_is) (by k_is)) fun v c' h => ?b1) (fun v N1 h hp N p hm => ?b2) fun v N1 h hn a10 z10 => ?_
  case b1 =>
    obtain ⟨x', dx', kk, kv, vv, c2, -, ⟨rfl, rfl⟩, rfl, rfl⟩ := h
    exact ⟨TKL x' dx' kk kv .none [], rfl, x', dx', kk, kv, rfl, rfl⟩
  case b2 =>
    obtain ⟨x', dx', kk, kv, rfl, rfl⟩ := h
    rcases List.mem_cons.mp hm with rfl | hm
    · exact news_ne N (.head _) (.tail _ (.tail _ (.tail _ (.head _)))) rfl
    · rw [List.mem_singleton.mp hm]
      exact news_ne N (.tail _ (.head _)) (.tail _ (.tail _ (.tail _ (.head _)))) rfl
  obtain ⟨x', dx', kk, kv, rfl, rfl⟩ := h
  refine Go.setP ok (osa w) (pov w) (by k_is) (hdi w) rfl (fun p hp => (List.mem_append.mp hp).elim (hn p) (hap p)) EvV.none fun v hv a11 z11 => ?_
  subst hv
  refine Go.nil fun h tk F N => hn' (LX ⟨⟨a0, a1, a2, a3, a4, a5, a6, a7, a8, a9, a10, a11, z0, z1, z2, z3, z4, z5, z6, z7, z8, z9, z10, z11⟩, kl, x, dx, lm, dl, kd, y :: T, tT, .bytes (List.toArray [61, 113]) tc, .bytes #[113] tq, kn⟩ b [] 0 ti (sgn (y :: T) 0) ts (.int 1 t1) (.int 1 t2) (.ref x') .none)
    ⟨rfl, _, kd, kn, tq, _, b, ti, ts, t1, t2, x', hKF, rfl⟩ _ h tk F (news_sub N ?_)
  (repeat' (first | exact List.forall_mem_nil _ | refine' List.forall_mem_cons.mpr ⟨?_, ?_⟩ | k_mem | (rw [‹LC.chk _ = _›]; k_mem)))
end
section
open PySem.Builtin
section
variable {M : Model} {A : Around} {E : Value → Shared → Prop} {s : Shared} {e : Addr}
theorem ex_matches {Q : Bool → Shared → Prop} {oe : Obj} (x : Cls s.heap) (he : s.heap.get? e = some oe) (hc : oe.cls = .ref 87) (h : Q true s) : wpAny M A (excMatches (.ref e) (.ref 87)) Q E s := by
  obtain ⟨_, _, _, _, _, _, _, _, _, _, _, _, _, _, hC, _⟩ := x
  have hcB : (Value.ref 87 :: mro87).contains (.type "BaseException") = true := by decide
  have hcS : (Value.ref 87 :: mro87).contains (.ref 87) = true := by decide
  obtain ⟨hp, g, d, t, os⟩ := s
  unfold excMatches
  repeat (first | (with_reducible refine wpAny_loadPart_at he ?_; (try rw [hc])) | with_reducible refine wpAny_loadPart_at hC ?_ | (with_reducible refine wpAny_isSubtype_exc hC ?_; first | rw [hcB] | rw [hcS]) | wp_step)
  refine wpAny_of_eq (a := false) (by show isSubtype (.type "type") (.type "tuple") = _; rw [isSubtype_type]; kernel_rfl) ?_
  repeat (first | (with_reducible refine wpAny_loadPart_at he ?_; (try rw [hc])) | with_reducible refine wpAny_loadPart_at hC ?_ | (with_reducible refine wpAny_isSubtype_exc hC ?_; first | rw [hcB] | rw [hcS]) | wp_step)
  exact h
theorem P_Try_except {prog : Program} {w : World} {env : Env} {body orelse : List Stmt} {h₀ : ExceptHandler} {hs : List ExceptHandler} {pos : Pos} {Q : Flow → Shared → Prop}
    (h : wpP (model prog w) A (execs body env) (fun f s₁ => match f with | .next => wpP (model prog w) A (execs orelse env) Q E s₁ | f => Q f s₁)
      (fun e s₁ => wpAny (model prog w) A (noteFrame e env) (fun _ s₂ => wpAny (model prog w) A (setFlight e none) (fun _ s₃ => wpAny (model prog w) A (handleBy e env (h₀ :: hs)) Q E s₃) E s₂) E s₁) s) :
    wpP (model prog w) A (exec (.Try body (h₀ :: hs) orelse [] pos) env) Q E s := by
  rw [arm_exec_Try]
  refine P_bind (P_standAt ?_)
  unfold tryStmt
  simp only [List.isEmpty_nil, if_true, List.isEmpty_cons, Bool.false_and, Bool.false_eq_true, if_false]
  refine P_bind (P_attempt (P_mono h (fun f s₁ h₁ => ?_) fun e s₁ h₁ => ?_))
  · cases f <;> first | exact h₁ | exact P_pure h₁
  · exact P_bindA (wpAny_mono h₁ (fun _ _ h₂ => P_bindA (wpAny_mono h₂ (fun _ _ h₃ => P_lift h₃) fun _ _ x => x)) fun _ _ x => x)
end
section
variable {prog : Program} {w : World} {A : Around} {E : Value → Shared → Prop} {s : Shared} {X H : Heap} {env : Env} {outer : List Env} {L e d : Addr} {t : PySem.Expr} {n : Str} {b₀ : Stmt} {suite : List Stmt} {pos : Pos} {rest : List ExceptHandler} {Q : Flow → Shared → Prop}
/-- an own exception is caught -/
theorem ex_catch (hfr : A.frames = some (env :: outer)) (hf : env.frame = some L) (x : Ex X H (env :: outer) (.ref 87) e d (some .none) s.heap) (hcls : Cls X)
    (hn : ∀ h' E1, Ex X H (env :: outer) (.ref 87) e d (some .none) h' → wpAny (model prog w) (A.mark (some (.ref e))) (eval t env) (fun c s₁ => c = .ref 87 ∧ ∃ tk, s₁ = { s with heap := h', toks := tk }) E1 { s with heap := h' })
    (k : ∀ h' tk E1 E2, Ex X H (env :: outer) (.ref 87) e d (some .none) h' → wpAny (model prog w) (A.mark (some (.ref e))) (storeName env n (.ref e)) (fun _ s₃ => wpAny (model prog w) (A.mark (some (.ref e))) (execs (b₀ :: suite) env)
      (fun f s₄ => wpAny (model prog w) A (do bindName env n .none; unbindBehindTheSuite env n pos) (fun _ s₅ => Q f s₅) E s₄) E2 s₃) E1 { s with heap := h', toks := tk }) :
    wpAny (model prog w) A (noteFrame (.ref e) env) (fun _ s₂ => wpAny (model prog w) A (setFlight (.ref e) none) (fun _ s₃ => wpAny (model prog w) A (handleBy (.ref e) env (.ExceptHandler (some t) (some n) (b₀ :: suite) pos :: rest)) Q E s₃) E s₂) E s := by
  refine ex_note hfr hf (.inr x) fun h₁ x₁ => ?_
  refine ex_flight (s := { s with heap := h₁ }) x₁ fun h₂ x₂ => ?_
  refine wpAny_handleBy_cons (codeAny_handlers_test (wpAny_mono (hn h₂ _ x₂) (fun c s₁ h₁ => ?_) fun _ _ x => x)) (by intro q; cases q)
  obtain ⟨rfl, tk, rfl⟩ := h₁
  have x₂' := x₂
  obtain ⟨y1, y2, y3, y4, oe, vs, he, hc, _⟩ := x₂
  refine ex_matches (s := { s with heap := h₂, toks := tk }) (hcls.keeps y1) he hc ?_
  refine codeAny_handlers_suite_as ?_
  refine ex_flight (s := { s with heap := h₂, toks := tk }) x₂' fun h₃ x₃ => ?_
  exact k h₃ tk _ _ x₃
end
end
section
open PySem.Builtin
section
variable {prog : Program} {w : World} {A : Around} {E : Value → Shared → Prop} {s : Shared} {e : Addr} {oe : Obj} {od : Option Obj} {name : Str} {v : Value} {expr : Bool} {Q : Value → Shared → Prop}
theorem ex_get (X : (hd.heap_1 w.params).In s.heap) (I : InstAt s.heap e oe 87 od) (hga : findIn (hd.heap_1 w.params) (.ref 87) "__getattribute__" = some (some (.builtin "BaseException.__getattribute__")))
    (hna : findIn (hd.heap_1 w.params) (.ref 87) "__getattr__" = some none) (hbase : mroIn (hd.heap_1 w.params) 87 (.type "BaseException") = some true)
    (hf : findObj (hd.heap_1 w.params) 87 od name = some (.value v)) (hh : handedIn v = true) (h : Q v { s with toks := s.toks + 1 }) : wpAny (model prog w) A (getAttr (.ref e) name expr) Q E s := by
  obtain ⟨hp, g, d, t, os⟩ := s
  have L0 := I.type (M := model prog w)
  have L1 := looks_findIn (M := model prog w) X hga
  have L2 := looks_findIn (M := model prog w) X hna
  have f3 := PySem.F.excAttr_ValueError.ga.bind (.ref e)
  unfold getAttr getAttrBy
  refine wpAny_bind (wpAny_mkText (wpAny_holding (wpAny_bind (L0.at (wpAny_bind (L1.at ?_))))))
  have hx2 : (Value.builtin "BaseException.__getattribute__" == Value.builtin "object.__getattribute__") = false := by decide +kernel
  dsimp only
  rw [hx2, Bool.and_false, if_neg Bool.false_ne_true]
  unfold getAttrByItsOwn
  have hx0 : (expr && onTheHeap (Value.builtin "BaseException.__getattribute__")) = false := by cases expr <;> rfl
  have Lh : Looks (model prog w) hp (hookBefore (.ref 87)) none := by
    unfold hookBefore
    rw [if_pos (show onTheHeap (.ref 87) = true from rfl)]
    exact L2
  refine wpAny_bind (Lh.at (wpAny_bind (wpAny_attempt (wpAny_holding ?_))))
  unfold callGetattribute
  rw [hx0, if_neg Bool.false_ne_true]
  unfold boundAndCalled
  have hk : builtinKind "BaseException.__getattribute__" = some .slot := by decide +kernel
  have hsp : splitId "BaseException.__getattribute__" = some ("BaseException", "__getattribute__") := by decide +kernel
  have sub : Looks (model prog w) hp (isInstance (.ref e) (.type "BaseException")) true := L0.andThen (looks_mroIn X hbase)
  have L3 := looks_find (M := model prog w) X I hf
  refine wpAny_bind (wpAny_of_eq f3 ?_)
  refine wpAny_call (codeAny_call_builtin PySem.F.excAttr_ValueError.ga.plain PySem.F.entry_bexc_ga (@check_slot (model prog w) _ _ _ "BaseException.__getattribute__" "BaseException" "__getattribute__" (.ref e) [.str name t] [] _ hk hsp sub (PySem.F.args_bexc_ga _ _) ?_))
  refine wpAny_bind (wpAny_pure (wpAny_bind (wpAny_pure (wpAny_bind (L0.at (wpAny_bind (L3.at ?_)))))))
  refine wpAny_pure ?_
  show wpAny _ _ (handedOut v) _ _ _
  rw [handedOut_of hh]
  exact wpAny_pure h
end
theorem base_in {A : Around} {base g Y : Heap} {outer : List Env} (B : Below A base outer g) (st : Stood g Y outer) : ∀ b o, base.get? b = some o → Y.get? b = some o := fun b o hb =>
  st b o (B.stays b o hb) fun hm => by rw [(frames_in B.frames b hm).2] at hb; cases hb
theorem ex_fr {A : Around} {base g Y h2 h3 hh : Heap} {outer l : List Env} {L e d : Addr} {m : Str → Option Value} {c : Value} {fl : Option Value} (B : Below A base outer g) (F : Fr g L hh m) (hbg : base.objs.size ≤ g.objs.size) (st : Stood g Y outer) (ns : h2.Ns L m)
    (x : Ex Y h2 l c e d fl h3) : Fr base L h3 m := ⟨x.up.ns ns, fun b o hb => x.stays b o (base_in B st b o hb), Nat.le_trans hbg F.above⟩
theorem Ex.rebase {Y H h : Heap} {l : List Env} {c : Value} {e d : Addr} {fl : Option Value} (x : Ex Y H l c e d fl h) : Ex Y h l c e d fl h := ⟨x.stays, x.new, x.frames, Heap.UpToSlots.refl h, x.tr⟩
end
theorem off_H1 : True := by
  w_top off
  trivial
/-- the contract of a helper that catches: the frames beneath are kept up to their slots -/
noncomputable def SpecT (prog : Program) (w : World) (f : Addr) (args : List Value) (core : List (Addr × Obj)) (d u : Nat) (post : Value → List (Addr × Obj) → Prop) : Prop :=
  ∀ (p : Program) (loose : List Str) (mean : ExcName → Option Value) (mg mb : Str → Option Value) (dp un : Nat) (outer : List Env) (base g : Heap) (s : Shared) (R : Result → Shared → Prop),
    Below (amb dp un outer) base outer g → (hd.heap_1 w.params).In base → Top p loose mean mg mb base → base.objs.size ≤ g.objs.size → (hd.heap_1 w.params).In g → Top p loose mean mg mb g → Sub g s.heap → g.objs.size ≤ s.heap.objs.size → Has g s.heap core →
    dp + d < recursionLimit → un + u < cLine →
    (∀ v Y core' h' tk', Stood g Y outer → Y.StaysIn h' → (∀ q ∈ core', Y.get? q.1 = some q.2 ∧ g.get? q.1 = none) → g.UpToSlots h' → post v core' → R (.ok (.ret v)) { s with heap := h', toks := tk' }) →
    codeP (model prog w) (amb dp un outer) (.call (.ref f) ⟨args, []⟩) R s
section
variable {wk : Addr} {core : List (Addr × Obj)} {dW uW : Nat} {M : Array UInt8} {postC : List (Addr × Obj) → Prop}
set_option maxHeartbeats 8000000 in
theorem heard_spec (prog : Program) (w : World) (S : SpecEP prog w wk [] core dW uW (fun d e => ∃ k tm cr, postC cr ∧ e = (d, dictOf (XD k (.bytes M tm)) 3) :: cr))
    (hkeep : ∀ h : Heap, ((hd.heap_1 w.params).In h ∧ ∀ q ∈ core, h.get? q.1 = some q.2) → ∃ k, (k = Keeper.frame ∨ k = Keeper.machine ∨ k = Keeper.boundFrame) ∧ Looks (model prog w) h (keeperOf (.ref wk)) k) :
    SpecT prog w 504 [.ref wk] core (dW + 10) (uW + 100) (fun v c => (∃ tm, v = .bytes M tm) ∧ postC c) := by
  intro p loose mean mg mb dp un outer base g s R B' XB TB hbg X' T' sub sz hC hdp hun hret
  refine' enterP X' T' sub sz hC ?k6 ?k7 ?k8 ?k9 ?kB ?_ ?c5 ?c2 ?c3 ?c4
  (case k6 => k_is)
  (case k7 => k_is)
  (case k8 => omega)
  (case k9 => exact BindsTo.of_eq rfl)
  (case kB => exact locs rfl)
  (case c5 => decide)
  (case c2 => exact rfl)
  (case c3 => exact rfl)
  (case c4 => exact rfl)
  intro L' h' F' N' l1
  clear sub sz hC
  (try dsimp only)
  (try k_fold)
  refine P_execs_cons (P_Try_except ?_)
  refine P_execs_cons (P_Expr (P_Call ?_))
  k_extra "x3"
  refine P_callWith (P := fun h => (hd.heap_1 w.params).In h ∧ ∀ q ∈ core, h.get? q.1 = some q.2) rfl hkeep (P_evalArgs_nil ⟨⟨X'.keeps F'.keep, fun q hq => (N' q hq).1⟩, ?_⟩)
  show wpP _ _ (call (.ref wk) []) _ _ _
  refine SpecEP.use S B' F' X' N' T' rfl rfl rfl rfl rfl (fun q h => h) (by k_room) (by k_units) fun Y e dd core' h2 tk2 hp W => ?_
  obtain ⟨k, tm, cr, hcr, rfl⟩ := hp
  dsimp only
  refine ex_catch (H := h2) rfl rfl W.ex.rebase ((cls_of XB).keeps (base_in B' W.stood)) ?hn ?hk
  case hn =>
    intro h3 E1 x3
    have F3 := ex_fr B' F' hbg W.stood W.ns x3
    clear F' N' X' T'
    k_extra "x3"
  case hk =>
    intro h3 tk3 E1 E2 x3
    have F3 := ex_fr B' F' hbg W.stood W.ns x3
    obtain ⟨y1, y2, y3, y4, oe, vs, he, hc, hdc, hdd, hsz, hfl⟩ := x3
    have yL : Y.get? L' = none := by
      obtain ⟨_, ⟨L2, _, e1, e2, _⟩, _⟩ := y3
      obtain rfl : L' = L2 := Option.some.inj e1
      exact e2
    have neL : ∀ b o, Y.get? b = some o → b ≠ L' := fun b o hb q => by rw [q, yL] at hb; cases hb
    have eL : e ≠ L' := fun q => by
      obtain ⟨_, ⟨L2, oL, e1, _, e3, e4⟩, _⟩ := y3
      obtain rfl : L' = L2 := Option.some.inj e1
      rw [← q, he] at e3
      obtain rfl : oe = oL := Option.some.inj e3
      exact e4 _ hdd
    have gL : ∀ b o, g.get? b = some o → b ≠ L' := fun b o hb q => by subst q; exact absurd (Heap.lt_size hb) (Nat.not_lt.mpr F'.above)
    refine wpAny_storeName_local rfl F3.ns (fun h4 n4 s4 => ?_) rfl
    have F4 : Fr base L' h4 _ := ⟨n4, fun b o hb => (s4.2 b (neL b o (base_in B' W.stood b o hb))).trans (F3.keep b o hb), F3.above⟩
    have dy := W.core _ (.head _)
    have hd4 : h4.get? dd = some (dictOf (XD k (.bytes M tm)) 3) := (s4.2 dd (neL _ _ dy.1)).trans (y1 _ _ dy.1)
    have he4 : h4.get? e = some oe := (s4.2 e eL).trans he
    have I4 : InstAt h4 e oe 87 (some (dictOf (XD k (.bytes M tm)) 3)) := ⟨he4, hc, by unfold notCls; rw [hdd], by rw [hdc]; exact hd4⟩
    clear F3 F' N' X' T' hfl
    k_extra "x3"
    refine' ex_get (XB.keeps F4.keep) I4 ?g1 ?g2 ?g3 ?g4 ?g5 ?_
    (case g1 => k_is)
    (case g2 => k_is)
    (case g3 => k_is)
    (case g4 => exact findObj_own (attr := none) (by k_is) (by k_is) rfl rfl)
    (case g5 => rfl)
    dsimp only
    refine wpAny_nameGoes rfl n4 rfl fun h5 m5 n5 s5 => ?_
    have same : ∀ b, b ≠ L' → h5.get? b = h3.get? b := fun b hb => (s5.2 b hb).trans (s4.2 b hb)
    dsimp only
    refine hret _ Y cr h5 _ W.stood (fun b o hb => (same b (neL b o hb)).trans (y1 b o hb)) (fun q hq => W.core q (.tail _ hq)) (fun b o hb hno => ?_) ⟨⟨_, rfl⟩, hcr⟩
    obtain ⟨sl, hsl⟩ := (W.ex.up.trans y4) b o hb hno
    exact ⟨sl, (same b (gL b o hb)).trans hsl⟩
end
theorem off_N1 : True := by
  w_top off
  trivial
theorem reg_3abca7fd_N1 : True := by
  k_with "q call ref" =>
    (k_here; (with_reducible show wpAny _ _ (call (Value.ref 217) _) _ _ _); (first | (k_dflt ((refine' Spec.use (is_control_spec _ _ _ _) ?zzuB ?zzuF ?zzuX ?zzuN ?zzuT ?zzuh ?zzuA ?zzug ?zzuf ?zzuk ?zzus ?zzud ?zzuu ?_); (case zzuF => k_asm); (case zzuA => with_unfolding_all rfl); (case zzuB => k_asm); (case zzuX => k_asm); (case zzuN => k_asm); (case zzuT => k_asm); (case zzuh => with_unfolding_all rfl);  (case zzug => with_unfolding_all rfl); (case zzuf => with_unfolding_all rfl); (case zzuk => with_unfolding_all rfl); (case zzus => (repeat' (first | exact List.forall_mem_nil _ | refine' List.forall_mem_cons.mpr ⟨?_, ?_⟩ | k_mem | (rw [‹LC.chk _ = _›]; k_mem))));  (case zzud => k_room); (case zzuu => k_units); intro zzv' zzc' zzh' zztk' zzhp' zzF' zzS' zzN'; subst zzhp'; (have zzN' := stays0 zzS' (fun _ hq => nomatch hq)); clear zzS'; (try k_sweep); (try dsimp only))) | (exfalso; (try simp only [Bool.or_eq_true, Bool.and_eq_true, decide_eq_true_eq, beq_iff_eq, Bool.or_eq_false_iff, Bool.and_eq_false_iff, decide_eq_false_iff_not, beq_eq_false_iff_ne] at *); omega)))
  trivial
theorem reg_915bc8ee_N1 : True := by
  k_with "q call ref" =>
    (k_here; (with_reducible show wpAny _ _ (call (Value.ref 166) _) _ _ _); (first | (k_dflt ((refine' Spec.use (c_text_spec _ _ ?zzh1) ?zzuB ?zzuF ?zzuX ?zzuN ?zzuT ?zzuh ?zzuA ?zzug ?zzuf ?zzuk ?zzus ?zzud ?zzuu ?_); (case zzuF => k_asm); (case zzuA => with_unfolding_all rfl); (case zzuB => k_asm); (case zzuX => k_asm); (case zzuN => k_asm); (case zzuT => k_asm); (case zzuh => with_unfolding_all rfl);  (case zzug => with_unfolding_all rfl); (case zzuf => with_unfolding_all rfl); (case zzuk => with_unfolding_all rfl); (case zzus => (repeat' (first | exact List.forall_mem_nil _ | refine' List.forall_mem_cons.mpr ⟨?_, ?_⟩ | k_mem | (rw [‹LC.chk _ = _›]; k_mem)))); (case zzh1 => (first | assumption | exact le_c (by assumption) rfl | omega | (refine neN ?_; omega) | (constructor <;> omega) | ((try simp only [List.length_append, List.length_cons, List.length_nil, List.length_replicate]); omega) | (constructor <;> (first | assumption | decide | omega)) | rfl | decide)); (case zzud => k_room); (case zzuu => k_units); intro zzv' zzc' zzh' zztk' zzhp' zzF' zzS' zzN'; (refine @opq _ ?_); intro zzG' zzhG'; (obtain ⟨zzu', zze1⟩ := zzhp'); subst zze1; (refine zzhG' ?_); (clear zzhG' zzG'); (have zzN' := stays0 zzS' (fun _ hq => nomatch hq)); clear zzS'; (try k_sweep); (try dsimp only))) | (exfalso; (try simp only [Bool.or_eq_true, Bool.and_eq_true, decide_eq_true_eq, beq_iff_eq, Bool.or_eq_false_iff, Bool.and_eq_false_iff, decide_eq_false_iff_not, beq_eq_false_iff_ne] at *); omega)))
  trivial
section
variable {c : LC} {b : Addr} {B W : List UInt8} {i sg z : Int} {ti ts t : Tok} {ln ll cur ahd : Value}
theorem reg_f90f5219_N1 : True := by
  k_with "q call ref" =>
    (k_here; (with_reducible show wpAny _ _ (call (Value.ref 159) _) _ _ _); (first | (k_dflt ((refine' Spec.use (tt_1 _ _) ?zzuB ?zzuF ?zzuX ?zzuN ?zzuT ?zzuh ?zzuA ?zzug ?zzuf ?zzuk ?zzus ?zzud ?zzuu ?_); (case zzuF => k_asm); (case zzuA => with_unfolding_all rfl); (case zzuB => k_asm); (case zzuX => k_asm); (case zzuN => k_asm); (case zzuT => k_asm); (case zzuh => with_unfolding_all rfl);  (case zzug => with_unfolding_all rfl); (case zzuf => with_unfolding_all rfl); (case zzuk => with_unfolding_all rfl); (case zzus => (repeat' (first | exact List.forall_mem_nil _ | refine' List.forall_mem_cons.mpr ⟨?_, ?_⟩ | k_mem | (rw [‹LC.chk _ = _›]; k_mem))));  (case zzud => k_room); (case zzuu => k_units); intro zzv' zzc' zzh' zztk' zzhp' zzF' zzS' zzN'; (refine @opq _ ?_); intro zzG' zzhG'; (obtain ⟨zzu', zze1⟩ := zzhp'); subst zze1; (refine zzhG' ?_); (clear zzhG' zzG'); (have zzN' := stays0 zzS' (fun _ hq => nomatch hq)); clear zzS'; (try k_sweep); (try dsimp only))) | (exfalso; (try simp only [Bool.or_eq_true, Bool.and_eq_true, decide_eq_true_eq, beq_iff_eq, Bool.or_eq_false_iff, Bool.and_eq_false_iff, decide_eq_false_iff_not, beq_eq_false_iff_ne] at *); omega)))
  trivial
set_option maxHeartbeats 8000000 in
theorem tkt_1 (prog : Program) (w : World) : Spec prog w 245 [.int 1 t] [] 14 140 (fun v _ => ∃ u, v = .bytes (List.toArray [99, 104, 97, 114, 40, 49, 41]) u) := by
  intro p loose mean mg mb dp un outer base g s R B' X' T' sub sz hC hdp hun hret
  refine' enter X' T' sub sz hC ?k6 ?k7 ?k8 ?k9 ?kB ?_ ?c5 ?c2 ?c3 ?c4
  (case k6 => k_is)
  (case k7 => k_is)
  (case k8 => exact room0 hdp)
  (case k9 => exact BindsTo.of_eq rfl)
  (case kB => exact locs rfl)
  (case c5 => decide)
  (case c2 => exact rfl)
  (case c3 => exact rfl)
  (case c4 => exact rfl)
  intro L' h' F' N' l1
  (try k_lt l1)
  clear sub sz hC
  (try dsimp only)
  (try k_fold)
  (try dsimp only [LX] at N' l1)
  k_extra "x3"
  all_goals k_extra "x8"
theorem reg_2e840b02_N1 : True := by
  k_with "q call ref" =>
    (k_here; (with_reducible show wpAny _ _ (call (Value.ref 245) _) _ _ _); (first | (k_dflt ((refine' Spec.use (tkt_1 _ _) ?zzuB ?zzuF ?zzuX ?zzuN ?zzuT ?zzuh ?zzuA ?zzug ?zzuf ?zzuk ?zzus ?zzud ?zzuu ?_); (case zzuF => k_asm); (case zzuA => with_unfolding_all rfl); (case zzuB => k_asm); (case zzuX => k_asm); (case zzuN => k_asm); (case zzuT => k_asm); (case zzuh => with_unfolding_all rfl);  (case zzug => with_unfolding_all rfl); (case zzuf => with_unfolding_all rfl); (case zzuk => with_unfolding_all rfl); (case zzus => (repeat' (first | exact List.forall_mem_nil _ | refine' List.forall_mem_cons.mpr ⟨?_, ?_⟩ | k_mem | (rw [‹LC.chk _ = _›]; k_mem))));  (case zzud => k_room); (case zzuu => k_units); intro zzv' zzc' zzh' zztk' zzhp' zzF' zzS' zzN'; (refine @opq _ ?_); intro zzG' zzhG'; (obtain ⟨zzu', zze1⟩ := zzhp'); subst zze1; (refine zzhG' ?_); (clear zzhG' zzG'); (have zzN' := stays0 zzS' (fun _ hq => nomatch hq)); clear zzS'; (try k_sweep); (try dsimp only))) | (exfalso; (try simp only [Bool.or_eq_true, Bool.and_eq_true, decide_eq_true_eq, beq_iff_eq, Bool.or_eq_false_iff, Bool.and_eq_false_iff, decide_eq_false_iff_not, beq_eq_false_iff_ne] at *); omega)))
  trivial
set_option maxHeartbeats 8000000 in
theorem nt_1 (prog : Program) (w : World) : Spec prog w 315 [.ref c.x, .int 1 t] (LX c b B i ti sg ts ln ll cur ahd) 20 200
    (fun v e => (∃ u, v = .bytes (List.toArray [99, 104, 97, 114, 40, 49, 41]) u) ∧ e = LX c b B i ti sg ts ln ll cur ahd) := by
  intro p loose mean mg mb dp un outer base g s R B' X' T' sub sz hC hdp hun hret
  refine' enter X' T' sub sz hC ?k6 ?k7 ?k8 ?k9 ?kB ?_ ?c5 ?c2 ?c3 ?c4
  (case k6 => k_is)
  (case k7 => k_is)
  (case k8 => exact room0 hdp)
  (case k9 => exact BindsTo.of_eq rfl)
  (case kB => exact locs rfl)
  (case c5 => decide)
  (case c2 => exact rfl)
  (case c3 => exact rfl)
  (case c4 => exact rfl)
  intro L' h' F' N' l1
  (try k_lt l1)
  clear sub sz hC
  (try dsimp only)
  (try k_fold)
  (try dsimp only [LX] at N' l1)
  k_extra "x3"
  all_goals (refine' hret _ (LX c b B i ti sg ts ln ll cur ahd) _ _ (Fr.keep (by assumption)) (fr_size (by assumption)) ?dH_1 ⟨⟨_, rfl⟩, rfl⟩; (case dH_1 => exact has_of (by assumption) (by (repeat' (first | exact List.forall_mem_nil _ | refine' List.forall_mem_cons.mpr ⟨?_, ?_⟩ | k_mem | (rw [‹LC.chk _ = _›]; k_mem))))))
theorem reg_45ac11d2_N1 : True := by
  k_with "q call ref" =>
    (k_here; (with_reducible show wpAny _ _ (call (Value.ref 159) _) _ _ _); (first | (k_dflt ((refine' Spec.use (tt_8 _ _) ?zzuB ?zzuF ?zzuX ?zzuN ?zzuT ?zzuh ?zzuA ?zzug ?zzuf ?zzuk ?zzus ?zzud ?zzuu ?_); (case zzuF => k_asm); (case zzuA => with_unfolding_all rfl); (case zzuB => k_asm); (case zzuX => k_asm); (case zzuN => k_asm); (case zzuT => k_asm); (case zzuh => with_unfolding_all rfl);  (case zzug => with_unfolding_all rfl); (case zzuf => with_unfolding_all rfl); (case zzuk => with_unfolding_all rfl); (case zzus => (repeat' (first | exact List.forall_mem_nil _ | refine' List.forall_mem_cons.mpr ⟨?_, ?_⟩ | k_mem | (rw [‹LC.chk _ = _›]; k_mem))));  (case zzud => k_room); (case zzuu => k_units); intro zzv' zzc' zzh' zztk' zzhp' zzF' zzS' zzN'; (refine @opq _ ?_); intro zzG' zzhG'; (obtain ⟨zzu', zze1⟩ := zzhp'); subst zze1; (refine zzhG' ?_); (clear zzhG' zzG'); (have zzN' := stays0 zzS' (fun _ hq => nomatch hq)); clear zzS'; (try k_sweep); (try dsimp only))) | (exfalso; (try simp only [Bool.or_eq_true, Bool.and_eq_true, decide_eq_true_eq, beq_iff_eq, Bool.or_eq_false_iff, Bool.and_eq_false_iff, decide_eq_false_iff_not, beq_eq_false_iff_ne] at *); omega)))
  trivial
set_option maxHeartbeats 8000000 in
theorem tkt_8 (prog : Program) (w : World) : Spec prog w 245 [.int 8 t] [] 14 140 (fun v _ => ∃ u, v = .bytes (List.toArray [99, 104, 97, 114, 40, 56, 41]) u) := by
  intro p loose mean mg mb dp un outer base g s R B' X' T' sub sz hC hdp hun hret
  refine' enter X' T' sub sz hC ?k6 ?k7 ?k8 ?k9 ?kB ?_ ?c5 ?c2 ?c3 ?c4
  (case k6 => k_is)
  (case k7 => k_is)
  (case k8 => exact room0 hdp)
  (case k9 => exact BindsTo.of_eq rfl)
  (case kB => exact locs rfl)
  (case c5 => decide)
  (case c2 => exact rfl)
  (case c3 => exact rfl)
  (case c4 => exact rfl)
  intro L' h' F' N' l1
  (try k_lt l1)
  clear sub sz hC
  (try dsimp only)
  (try k_fold)
  (try dsimp only [LX] at N' l1)
  k_extra "x3"
  all_goals k_extra "x8"
theorem reg_71c9f927_N1 : True := by
  k_with "q call ref" =>
    (k_here; (with_reducible show wpAny _ _ (call (Value.ref 245) _) _ _ _); (first | (k_dflt ((refine' Spec.use (tkt_8 _ _) ?zzuB ?zzuF ?zzuX ?zzuN ?zzuT ?zzuh ?zzuA ?zzug ?zzuf ?zzuk ?zzus ?zzud ?zzuu ?_); (case zzuF => k_asm); (case zzuA => with_unfolding_all rfl); (case zzuB => k_asm); (case zzuX => k_asm); (case zzuN => k_asm); (case zzuT => k_asm); (case zzuh => with_unfolding_all rfl);  (case zzug => with_unfolding_all rfl); (case zzuf => with_unfolding_all rfl); (case zzuk => with_unfolding_all rfl); (case zzus => (repeat' (first | exact List.forall_mem_nil _ | refine' List.forall_mem_cons.mpr ⟨?_, ?_⟩ | k_mem | (rw [‹LC.chk _ = _›]; k_mem))));  (case zzud => k_room); (case zzuu => k_units); intro zzv' zzc' zzh' zztk' zzhp' zzF' zzS' zzN'; (refine @opq _ ?_); intro zzG' zzhG'; (obtain ⟨zzu', zze1⟩ := zzhp'); subst zze1; (refine zzhG' ?_); (clear zzhG' zzG'); (have zzN' := stays0 zzS' (fun _ hq => nomatch hq)); clear zzS'; (try k_sweep); (try dsimp only))) | (exfalso; (try simp only [Bool.or_eq_true, Bool.and_eq_true, decide_eq_true_eq, beq_iff_eq, Bool.or_eq_false_iff, Bool.and_eq_false_iff, decide_eq_false_iff_not, beq_eq_false_iff_ne] at *); omega)))
  trivial
set_option maxHeartbeats 8000000 in
theorem nt_8 (prog : Program) (w : World) : Spec prog w 315 [.ref c.x, .int 8 t] (LX c b B i ti sg ts ln ll cur ahd) 20 200
    (fun v e => (∃ u, v = .bytes (List.toArray [99, 104, 97, 114, 40, 56, 41]) u) ∧ e = LX c b B i ti sg ts ln ll cur ahd) := by
  intro p loose mean mg mb dp un outer base g s R B' X' T' sub sz hC hdp hun hret
  refine' enter X' T' sub sz hC ?k6 ?k7 ?k8 ?k9 ?kB ?_ ?c5 ?c2 ?c3 ?c4
  (case k6 => k_is)
  (case k7 => k_is)
  (case k8 => exact room0 hdp)
  (case k9 => exact BindsTo.of_eq rfl)
  (case kB => exact locs rfl)
  (case c5 => decide)
  (case c2 => exact rfl)
  (case c3 => exact rfl)
  (case c4 => exact rfl)
  intro L' h' F' N' l1
  (try k_lt l1)
  clear sub sz hC
  (try dsimp only)
  (try k_fold)
  (try dsimp only [LX] at N' l1)
  k_extra "x3"
  all_goals (refine' hret _ (LX c b B i ti sg ts ln ll cur ahd) _ _ (Fr.keep (by assumption)) (fr_size (by assumption)) ?dH_2 ⟨⟨_, rfl⟩, rfl⟩; (case dH_2 => exact has_of (by assumption) (by (repeat' (first | exact List.forall_mem_nil _ | refine' List.forall_mem_cons.mpr ⟨?_, ?_⟩ | k_mem | (rw [‹LC.chk _ = _›]; k_mem))))))
theorem reg_270972b1_N1 : True := by
  k_with "q call ref" =>
    (k_here; (with_reducible show wpAny _ _ (call (Value.ref 159) _) _ _ _); (first | (k_dflt ((refine' Spec.use (tt_31 _ _) ?zzuB ?zzuF ?zzuX ?zzuN ?zzuT ?zzuh ?zzuA ?zzug ?zzuf ?zzuk ?zzus ?zzud ?zzuu ?_); (case zzuF => k_asm); (case zzuA => with_unfolding_all rfl); (case zzuB => k_asm); (case zzuX => k_asm); (case zzuN => k_asm); (case zzuT => k_asm); (case zzuh => with_unfolding_all rfl);  (case zzug => with_unfolding_all rfl); (case zzuf => with_unfolding_all rfl); (case zzuk => with_unfolding_all rfl); (case zzus => (repeat' (first | exact List.forall_mem_nil _ | refine' List.forall_mem_cons.mpr ⟨?_, ?_⟩ | k_mem | (rw [‹LC.chk _ = _›]; k_mem))));  (case zzud => k_room); (case zzuu => k_units); intro zzv' zzc' zzh' zztk' zzhp' zzF' zzS' zzN'; (refine @opq _ ?_); intro zzG' zzhG'; (obtain ⟨zzu', zze1⟩ := zzhp'); subst zze1; (refine zzhG' ?_); (clear zzhG' zzG'); (have zzN' := stays0 zzS' (fun _ hq => nomatch hq)); clear zzS'; (try k_sweep); (try dsimp only))) | (exfalso; (try simp only [Bool.or_eq_true, Bool.and_eq_true, decide_eq_true_eq, beq_iff_eq, Bool.or_eq_false_iff, Bool.and_eq_false_iff, decide_eq_false_iff_not, beq_eq_false_iff_ne] at *); omega)))
  trivial
set_option maxHeartbeats 8000000 in
theorem tkt_31 (prog : Program) (w : World) : Spec prog w 245 [.int 31 t] [] 14 140 (fun v _ => ∃ u, v = .bytes (List.toArray [99, 104, 97, 114, 40, 51, 49, 41]) u) := by
  intro p loose mean mg mb dp un outer base g s R B' X' T' sub sz hC hdp hun hret
  refine' enter X' T' sub sz hC ?k6 ?k7 ?k8 ?k9 ?kB ?_ ?c5 ?c2 ?c3 ?c4
  (case k6 => k_is)
  (case k7 => k_is)
  (case k8 => exact room0 hdp)
  (case k9 => exact BindsTo.of_eq rfl)
  (case kB => exact locs rfl)
  (case c5 => decide)
  (case c2 => exact rfl)
  (case c3 => exact rfl)
  (case c4 => exact rfl)
  intro L' h' F' N' l1
  (try k_lt l1)
  clear sub sz hC
  (try dsimp only)
  (try k_fold)
  (try dsimp only [LX] at N' l1)
  k_extra "x3"
  all_goals k_extra "x8"
theorem reg_3a1c65b0_N1 : True := by
  k_with "q call ref" =>
    (k_here; (with_reducible show wpAny _ _ (call (Value.ref 245) _) _ _ _); (first | (k_dflt ((refine' Spec.use (tkt_31 _ _) ?zzuB ?zzuF ?zzuX ?zzuN ?zzuT ?zzuh ?zzuA ?zzug ?zzuf ?zzuk ?zzus ?zzud ?zzuu ?_); (case zzuF => k_asm); (case zzuA => with_unfolding_all rfl); (case zzuB => k_asm); (case zzuX => k_asm); (case zzuN => k_asm); (case zzuT => k_asm); (case zzuh => with_unfolding_all rfl);  (case zzug => with_unfolding_all rfl); (case zzuf => with_unfolding_all rfl); (case zzuk => with_unfolding_all rfl); (case zzus => (repeat' (first | exact List.forall_mem_nil _ | refine' List.forall_mem_cons.mpr ⟨?_, ?_⟩ | k_mem | (rw [‹LC.chk _ = _›]; k_mem))));  (case zzud => k_room); (case zzuu => k_units); intro zzv' zzc' zzh' zztk' zzhp' zzF' zzS' zzN'; (refine @opq _ ?_); intro zzG' zzhG'; (obtain ⟨zzu', zze1⟩ := zzhp'); subst zze1; (refine zzhG' ?_); (clear zzhG' zzG'); (have zzN' := stays0 zzS' (fun _ hq => nomatch hq)); clear zzS'; (try k_sweep); (try dsimp only))) | (exfalso; (try simp only [Bool.or_eq_true, Bool.and_eq_true, decide_eq_true_eq, beq_iff_eq, Bool.or_eq_false_iff, Bool.and_eq_false_iff, decide_eq_false_iff_not, beq_eq_false_iff_ne] at *); omega)))
  trivial
set_option maxHeartbeats 8000000 in
theorem nt_31 (prog : Program) (w : World) : Spec prog w 315 [.ref c.x, .int 31 t] (LX c b B i ti sg ts ln ll cur ahd) 20 200
    (fun v e => (∃ u, v = .bytes (List.toArray [99, 104, 97, 114, 40, 51, 49, 41]) u) ∧ e = LX c b B i ti sg ts ln ll cur ahd) := by
  intro p loose mean mg mb dp un outer base g s R B' X' T' sub sz hC hdp hun hret
  refine' enter X' T' sub sz hC ?k6 ?k7 ?k8 ?k9 ?kB ?_ ?c5 ?c2 ?c3 ?c4
  (case k6 => k_is)
  (case k7 => k_is)
  (case k8 => exact room0 hdp)
  (case k9 => exact BindsTo.of_eq rfl)
  (case kB => exact locs rfl)
  (case c5 => decide)
  (case c2 => exact rfl)
  (case c3 => exact rfl)
  (case c4 => exact rfl)
  intro L' h' F' N' l1
  (try k_lt l1)
  clear sub sz hC
  (try dsimp only)
  (try k_fold)
  (try dsimp only [LX] at N' l1)
  k_extra "x3"
  all_goals (refine' hret _ (LX c b B i ti sg ts ln ll cur ahd) _ _ (Fr.keep (by assumption)) (fr_size (by assumption)) ?dH_3 ⟨⟨_, rfl⟩, rfl⟩; (case dH_3 => exact has_of (by assumption) (by (repeat' (first | exact List.forall_mem_nil _ | refine' List.forall_mem_cons.mpr ⟨?_, ?_⟩ | k_mem | (rw [‹LC.chk _ = _›]; k_mem))))))
theorem reg_c1437023_N1 : True := by
  k_with "q call ref" =>
    (k_here; (with_reducible show wpAny _ _ (call (Value.ref 159) _) _ _ _); (first | (k_dflt ((refine' Spec.use (tt_127 _ _) ?zzuB ?zzuF ?zzuX ?zzuN ?zzuT ?zzuh ?zzuA ?zzug ?zzuf ?zzuk ?zzus ?zzud ?zzuu ?_); (case zzuF => k_asm); (case zzuA => with_unfolding_all rfl); (case zzuB => k_asm); (case zzuX => k_asm); (case zzuN => k_asm); (case zzuT => k_asm); (case zzuh => with_unfolding_all rfl);  (case zzug => with_unfolding_all rfl); (case zzuf => with_unfolding_all rfl); (case zzuk => with_unfolding_all rfl); (case zzus => (repeat' (first | exact List.forall_mem_nil _ | refine' List.forall_mem_cons.mpr ⟨?_, ?_⟩ | k_mem | (rw [‹LC.chk _ = _›]; k_mem))));  (case zzud => k_room); (case zzuu => k_units); intro zzv' zzc' zzh' zztk' zzhp' zzF' zzS' zzN'; (refine @opq _ ?_); intro zzG' zzhG'; (obtain ⟨zzu', zze1⟩ := zzhp'); subst zze1; (refine zzhG' ?_); (clear zzhG' zzG'); (have zzN' := stays0 zzS' (fun _ hq => nomatch hq)); clear zzS'; (try k_sweep); (try dsimp only))) | (exfalso; (try simp only [Bool.or_eq_true, Bool.and_eq_true, decide_eq_true_eq, beq_iff_eq, Bool.or_eq_false_iff, Bool.and_eq_false_iff, decide_eq_false_iff_not, beq_eq_false_iff_ne] at *); omega)))
  trivial
set_option maxHeartbeats 8000000 in
theorem tkt_127 (prog : Program) (w : World) : Spec prog w 245 [.int 127 t] [] 14 140 (fun v _ => ∃ u, v = .bytes (List.toArray [99, 104, 97, 114, 40, 49, 50, 55, 41]) u) := by
  intro p loose mean mg mb dp un outer base g s R B' X' T' sub sz hC hdp hun hret
  refine' enter X' T' sub sz hC ?k6 ?k7 ?k8 ?k9 ?kB ?_ ?c5 ?c2 ?c3 ?c4
  (case k6 => k_is)
  (case k7 => k_is)
  (case k8 => exact room0 hdp)
  (case k9 => exact BindsTo.of_eq rfl)
  (case kB => exact locs rfl)
  (case c5 => decide)
  (case c2 => exact rfl)
  (case c3 => exact rfl)
  (case c4 => exact rfl)
  intro L' h' F' N' l1
  (try k_lt l1)
  clear sub sz hC
  (try dsimp only)
  (try k_fold)
  (try dsimp only [LX] at N' l1)
  k_extra "x3"
  all_goals k_extra "x8"
theorem reg_6dba611c_N1 : True := by
  k_with "q call ref" =>
    (k_here; (with_reducible show wpAny _ _ (call (Value.ref 245) _) _ _ _); (first | (k_dflt ((refine' Spec.use (tkt_127 _ _) ?zzuB ?zzuF ?zzuX ?zzuN ?zzuT ?zzuh ?zzuA ?zzug ?zzuf ?zzuk ?zzus ?zzud ?zzuu ?_); (case zzuF => k_asm); (case zzuA => with_unfolding_all rfl); (case zzuB => k_asm); (case zzuX => k_asm); (case zzuN => k_asm); (case zzuT => k_asm); (case zzuh => with_unfolding_all rfl);  (case zzug => with_unfolding_all rfl); (case zzuf => with_unfolding_all rfl); (case zzuk => with_unfolding_all rfl); (case zzus => (repeat' (first | exact List.forall_mem_nil _ | refine' List.forall_mem_cons.mpr ⟨?_, ?_⟩ | k_mem | (rw [‹LC.chk _ = _›]; k_mem))));  (case zzud => k_room); (case zzuu => k_units); intro zzv' zzc' zzh' zztk' zzhp' zzF' zzS' zzN'; (refine @opq _ ?_); intro zzG' zzhG'; (obtain ⟨zzu', zze1⟩ := zzhp'); subst zze1; (refine zzhG' ?_); (clear zzhG' zzG'); (have zzN' := stays0 zzS' (fun _ hq => nomatch hq)); clear zzS'; (try k_sweep); (try dsimp only))) | (exfalso; (try simp only [Bool.or_eq_true, Bool.and_eq_true, decide_eq_true_eq, beq_iff_eq, Bool.or_eq_false_iff, Bool.and_eq_false_iff, decide_eq_false_iff_not, beq_eq_false_iff_ne] at *); omega)))
  trivial
set_option maxHeartbeats 8000000 in
theorem nt_127 (prog : Program) (w : World) : Spec prog w 315 [.ref c.x, .int 127 t] (LX c b B i ti sg ts ln ll cur ahd) 20 200
    (fun v e => (∃ u, v = .bytes (List.toArray [99, 104, 97, 114, 40, 49, 50, 55, 41]) u) ∧ e = LX c b B i ti sg ts ln ll cur ahd) := by
  intro p loose mean mg mb dp un outer base g s R B' X' T' sub sz hC hdp hun hret
  refine' enter X' T' sub sz hC ?k6 ?k7 ?k8 ?k9 ?kB ?_ ?c5 ?c2 ?c3 ?c4
  (case k6 => k_is)
  (case k7 => k_is)
  (case k8 => exact room0 hdp)
  (case k9 => exact BindsTo.of_eq rfl)
  (case kB => exact locs rfl)
  (case c5 => decide)
  (case c2 => exact rfl)
  (case c3 => exact rfl)
  (case c4 => exact rfl)
  intro L' h' F' N' l1
  (try k_lt l1)
  clear sub sz hC
  (try dsimp only)
  (try k_fold)
  (try dsimp only [LX] at N' l1)
  k_extra "x3"
  all_goals (refine' hret _ (LX c b B i ti sg ts ln ll cur ahd) _ _ (Fr.keep (by assumption)) (fr_size (by assumption)) ?dH_4 ⟨⟨_, rfl⟩, rfl⟩; (case dH_4 => exact has_of (by assumption) (by (repeat' (first | exact List.forall_mem_nil _ | refine' List.forall_mem_cons.mpr ⟨?_, ?_⟩ | k_mem | (rw [‹LC.chk _ = _›]; k_mem))))))
set_option maxHeartbeats 8000000 in
theorem nt_284 (prog : Program) (w : World) (hB : B.length ≤ 100000) : Spec prog w 315 [.ref c.x, .int 284 t] (LX c b B i ti sg ts ln ll cur ahd) 20 200
    (fun v e => (∃ u, v = .bytes (List.toArray (up0 B)) u) ∧ e = LX c b B i ti sg ts ln ll cur ahd) := by
  intro p loose mean mg mb dp un outer base g s R B' X' T' sub sz hC hdp hun hret
  refine' enter X' T' sub sz hC ?k6 ?k7 ?k8 ?k9 ?kB ?_ ?c5 ?c2 ?c3 ?c4
  (case k6 => k_is)
  (case k7 => k_is)
  (case k8 => exact room0 hdp)
  (case k9 => exact BindsTo.of_eq rfl)
  (case kB => exact locs rfl)
  (case c5 => decide)
  (case c2 => exact rfl)
  (case c3 => exact rfl)
  (case c4 => exact rfl)
  intro L' h' F' N' l1
  (try k_lt l1)
  clear sub sz hC
  (try dsimp only)
  (try k_fold)
  (try dsimp only [LX] at N' l1)
  k_extra "x3"
  all_goals (refine' hret _ (LX c b B i ti sg ts ln ll cur ahd) _ _ (Fr.keep (by assumption)) (fr_size (by assumption)) ?dH_5 ⟨⟨_, rfl⟩, rfl⟩; (case dH_5 => exact has_of (by assumption) (by (repeat' (first | exact List.forall_mem_nil _ | refine' List.forall_mem_cons.mpr ⟨?_, ?_⟩ | k_mem | (rw [‹LC.chk _ = _›]; k_mem))))))
set_option maxHeartbeats 8000000 in
theorem nt_285 (prog : Program) (w : World) (hB : B.length ≤ 100000) : Spec prog w 315 [.ref c.x, .int 285 t] (LX c b B i ti sg ts ln ll cur ahd) 20 200
    (fun v e => (∃ u, v = .bytes (List.toArray (up0 B)) u) ∧ e = LX c b B i ti sg ts ln ll cur ahd) := by
  intro p loose mean mg mb dp un outer base g s R B' X' T' sub sz hC hdp hun hret
  refine' enter X' T' sub sz hC ?k6 ?k7 ?k8 ?k9 ?kB ?_ ?c5 ?c2 ?c3 ?c4
  (case k6 => k_is)
  (case k7 => k_is)
  (case k8 => exact room0 hdp)
  (case k9 => exact BindsTo.of_eq rfl)
  (case kB => exact locs rfl)
  (case c5 => decide)
  (case c2 => exact rfl)
  (case c3 => exact rfl)
  (case c4 => exact rfl)
  intro L' h' F' N' l1
  (try k_lt l1)
  clear sub sz hC
  (try dsimp only)
  (try k_fold)
  (try dsimp only [LX] at N' l1)
  k_extra "x3"
  all_goals (refine' hret _ (LX c b B i ti sg ts ln ll cur ahd) _ _ (Fr.keep (by assumption)) (fr_size (by assumption)) ?dH_6 ⟨⟨_, rfl⟩, rfl⟩; (case dH_6 => exact has_of (by assumption) (by (repeat' (first | exact List.forall_mem_nil _ | refine' List.forall_mem_cons.mpr ⟨?_, ?_⟩ | k_mem | (rw [‹LC.chk _ = _›]; k_mem))))))
set_option maxHeartbeats 8000000 in
theorem nt_286 (prog : Program) (w : World) (hB : B.length ≤ 100000) : Spec prog w 315 [.ref c.x, .int 286 t] (LX c b B i ti sg ts ln ll cur ahd) 20 200
    (fun v e => (∃ u, v = .bytes (List.toArray (up0 B)) u) ∧ e = LX c b B i ti sg ts ln ll cur ahd) := by
  intro p loose mean mg mb dp un outer base g s R B' X' T' sub sz hC hdp hun hret
  refine' enter X' T' sub sz hC ?k6 ?k7 ?k8 ?k9 ?kB ?_ ?c5 ?c2 ?c3 ?c4
  (case k6 => k_is)
  (case k7 => k_is)
  (case k8 => exact room0 hdp)
  (case k9 => exact BindsTo.of_eq rfl)
  (case kB => exact locs rfl)
  (case c5 => decide)
  (case c2 => exact rfl)
  (case c3 => exact rfl)
  (case c4 => exact rfl)
  intro L' h' F' N' l1
  (try k_lt l1)
  clear sub sz hC
  (try dsimp only)
  (try k_fold)
  (try dsimp only [LX] at N' l1)
  k_extra "x3"
  all_goals (refine' hret _ (LX c b B i ti sg ts ln ll cur ahd) _ _ (Fr.keep (by assumption)) (fr_size (by assumption)) ?dH_7 ⟨⟨_, rfl⟩, rfl⟩; (case dH_7 => exact has_of (by assumption) (by (repeat' (first | exact List.forall_mem_nil _ | refine' List.forall_mem_cons.mpr ⟨?_, ?_⟩ | k_mem | (rw [‹LC.chk _ = _›]; k_mem))))))
end
theorem off_N2 : True := by
  w_top off
  trivial
section
variable {c : LC} {b : Addr} {B W TX : List UInt8} {i sg z : Int} {ti ts t tq tl tt : Tok} {ln ll cur ahd : Value}
theorem said_43 : True := by
  k_with "x42" =>
    (repeat' ((fail_if_success (with_reducible show ∃ e t d, _ = Value.ref e ∧ _)); (fail_if_success (with_reducible show wpAny _ _ (leaving _ _) _ _ _)); first | ((with_reducible show wpAny _ _ (exec (Stmt.Raise (some _) none _) _) _ _ _); refine ex_Raise rfl ?_) | ((with_reducible show wpAny _ _ (call (Value.ref 87) [Value.bytes _ _]) _ _ _); (refine' ex_make_N ?mB ?mF ?mX ?mN ?mT ?mh ?mA ?mg ?mf ?mk ?md ?mu ?m1 ?m2 ?m3 ?m4 ?m5 ?_; (case mF => k_asm); (case mA => rfl); (case mB => k_asm); (case mX => k_asm); (case mN => k_asm); (case mT => k_asm); (case mh => rfl); (case mg => rfl); (case mf => rfl); (case mk => rfl); (case md => k_room); (case mu => k_units); (case m1 => k_is); (case m2 => k_is); (case m3 => k_is); (case m4 => k_is); (case m5 => k_is)); intro e' t' d' k' h' tk' F' N' far'; (try k_sweep); (try dsimp only)) | ((with_reducible show ite _ _ _); (first | refine ite_neg (by first | decide | ((try simp only [List.any_cons, List.any_nil, bne_iff_ne, ne_eq, Bool.not_eq_true, bne_eq_false_iff_eq, decide_eq_true_eq, Bool.or_eq_true, Bool.and_eq_true, beq_iff_eq, Bool.or_false, Bool.false_or, Bool.not_eq_true', decide_eq_false_iff_not, Bool.or_eq_false_iff, Bool.and_eq_false_iff, beq_eq_false_iff_ne]); omega)) ?_ | refine ite_pos (by first | decide | ((try simp only [List.any_cons, List.any_nil, bne_iff_ne, ne_eq, Bool.not_eq_true, bne_eq_false_iff_eq, decide_eq_true_eq, Bool.or_eq_true, Bool.and_eq_true, beq_iff_eq, Bool.or_false, Bool.false_or, Bool.not_eq_true', decide_eq_false_iff_not, Bool.or_eq_false_iff, Bool.and_eq_false_iff, beq_eq_false_iff_ne]); omega)) ?_)) | ((with_reducible show wpAny _ _ (execs _ _) _ _ _); dsimp only) | (k_unfold; (try dsimp only)) | walk1 | (dsimp only; walk1) | fail "no step"))
  trivial
set_option maxHeartbeats 8000000 in
theorem err_0 (prog : Program) (w : World) (hq : c.chk = .bytes #[113] tq) (hB : B.length ≤ 100000) (hX : TX.length ≤ 1000) :
    SpecE prog w 301 [.ref c.x, .bytes TX.toArray tt, .int 0 t] (LX c b B i ti sg ts (.int 1 tl) ll cur ahd) 30 300
      (fun d e => ∃ k M tm, M = List.toArray ([113, 58, 49, 58, 32] ++ TX) ∧ e = (d, dictOf (XD k (.bytes M tm)) 3) :: LX c b B i ti sg ts (.int 1 tl) ll cur ahd) := by
  obtain ⟨ck, ckl, cx, cdx, clm, cdl, ckd, cT, ctT, csrc, cchk, ckn⟩ := c
  dsimp only at hq
  subst hq
  intro p loose mean mg mb dp un outer base g s R B' X' T' sub sz hC hdp hun hret
  refine' enter X' T' sub sz hC ?k6 ?k7 ?k8 ?k9 ?kB ?_ ?c5 ?c2 ?c3 ?c4
  (case k6 => k_is)
  (case k7 => k_is)
  (case k8 => exact room0 hdp)
  (case k9 => exact BindsTo.of_eq rfl)
  (case kB => exact locs rfl)
  (case c5 => decide)
  (case c2 => exact rfl)
  (case c3 => exact rfl)
  (case c4 => exact rfl)
  intro L' h' F' N' l1
  (try k_lt l1)
  clear sub sz hC
  (try dsimp only)
  (try k_fold)
  (try dsimp only [LX] at N' l1)
  (try dsimp only at N')
  k_extra "x42"
  refine ⟨_, _, _, rfl, cls_of (X'.keeps F'.keep), (N' _ (.head _)).1, ?_⟩
  refine' ex_go B' F' N' (.head _) fun X0 st0 nw0 h'' x'' => hret X0 _ _ ((_, dictOf (XD k' (.bytes _ _)) 3) :: LX ⟨ck, ckl, cx, cdx, clm, cdl, ckd, cT, ctT, csrc, .bytes #[113] tq, ckn⟩ b B i ti sg ts (.int 1 tl) ll cur ahd) h'' _ st0 ?cc x'' ?pp
  (case cc =>
    (try dsimp only [LX])
    (try simp only [hq])
    (repeat' (first | exact List.forall_mem_nil _ | refine' List.forall_mem_cons.mpr ⟨?_, ?_⟩ | (refine nw0 _ (by k_mem) ?_; exact news_ne N' (by k_mem) (.head _) rfl))))
  (case pp => exact ⟨_, _, _, by simp, rfl⟩)
end
/-- what is told near a kind of token -/
noncomputable def nearOf (z : Int) (B : List UInt8) : List UInt8 :=
  if z = 1 then [99, 104, 97, 114, 40, 49, 41] else if z = 8 then [99, 104, 97, 114, 40, 56, 41] else if z = 31 then [99, 104, 97, 114, 40, 51, 49, 41] else if z = 127 then [99, 104, 97, 114, 40, 49, 50, 55, 41] else up0 B
theorem nearOf_len {z : Int} {B : List UInt8} : (nearOf z B).length ≤ B.length + 9 := by
  unfold nearOf
  split
  · simp
  · split
    · simp
    · split
      · simp
      · split
        · simp
        · exact Nat.le_trans (List.takeWhile_sublist _).length_le (Nat.le_add_right _ _)
noncomputable def NK (z : Int) : Prop := z = 1 ∨ z = 8 ∨ z = 31 ∨ z = 127 ∨ z = 284 ∨ z = 285 ∨ z = 286
section
variable {c : LC} {b : Addr} {B W TX : List UInt8} {i sg z : Int} {ti ts t tq tl tt : Tok} {ln ll cur ahd : Value}
theorem nt_spec (prog : Program) (w : World) (hz : NK z) (hB : B.length ≤ 100000) : Spec prog w 315 [.ref c.x, .int z t] (LX c b B i ti sg ts ln ll cur ahd) 20 200
    (fun v e => (∃ u, v = .bytes (List.toArray (nearOf z B)) u) ∧ e = LX c b B i ti sg ts ln ll cur ahd) := by
  rcases hz with rfl | rfl | rfl | rfl | rfl | rfl | rfl
  · exact nt_1 prog w
  · exact nt_8 prog w
  · exact nt_31 prog w
  · exact nt_127 prog w
  · exact nt_284 prog w hB
  · exact nt_285 prog w hB
  · exact nt_286 prog w hB
theorem reg_06731de6_N2 : True := by
  k_with "q call ref" =>
    (k_here; (with_reducible show wpAny _ _ (call (Value.ref 315) _) _ _ _); (first | (k_dflt ((refine' Spec.use (nt_spec _ _ ?zzh1 ?zzh2) ?zzuB ?zzuF ?zzuX ?zzuN ?zzuT ?zzuh ?zzuA ?zzug ?zzuf ?zzuk ?zzus ?zzud ?zzuu ?_); (case zzuF => k_asm); (case zzuA => with_unfolding_all rfl); (case zzuB => k_asm); (case zzuX => k_asm); (case zzuN => k_asm); (case zzuT => k_asm); (case zzuh => with_unfolding_all rfl);  (case zzug => with_unfolding_all rfl); (case zzuf => with_unfolding_all rfl); (case zzuk => with_unfolding_all rfl); (case zzus => (repeat' (first | exact List.forall_mem_nil _ | refine' List.forall_mem_cons.mpr ⟨?_, ?_⟩ | k_mem | (rw [‹LC.chk _ = _›]; k_mem)))); (case zzh1 => (first | assumption | exact le_c (by assumption) rfl | omega | (refine neN ?_; omega) | (constructor <;> omega) | ((try simp only [List.length_append, List.length_cons, List.length_nil, List.length_replicate]); omega) | (constructor <;> (first | assumption | decide | omega)) | rfl | decide)); (case zzh2 => (first | assumption | exact le_c (by assumption) rfl | omega | (refine neN ?_; omega) | (constructor <;> omega) | ((try simp only [List.length_append, List.length_cons, List.length_nil, List.length_replicate]); omega) | (constructor <;> (first | assumption | decide | omega)) | rfl | decide)); (case zzud => k_room); (case zzuu => k_units); intro zzv' zzc' zzh' zztk' zzhp' zzF' zzS' zzN'; (refine @opq _ ?_); intro zzG' zzhG'; (obtain ⟨⟨zzu', zze1⟩, zze2⟩ := zzhp'); subst zze1; subst zze2; (refine zzhG' ?_); (clear zzhG' zzG'); (have zzN' := stays0 zzS' (fun _ hq => hq)); clear zzS'; (try k_sweep); (try dsimp only))) | (exfalso; (try simp only [Bool.or_eq_true, Bool.and_eq_true, decide_eq_true_eq, beq_iff_eq, Bool.or_eq_false_iff, Bool.and_eq_false_iff, decide_eq_false_iff_not, beq_eq_false_iff_ne] at *); omega)))
  trivial
set_option maxHeartbeats 8000000 in
theorem err_z (prog : Program) (w : World) (hq : c.chk = .bytes #[113] tq) (hz : NK z) (hB : B.length ≤ 100000) (hX : TX.length ≤ 1000) :
    SpecE prog w 301 [.ref c.x, .bytes TX.toArray tt, .int z t] (LX c b B i ti sg ts (.int 1 tl) ll cur ahd) 30 300
      (fun d e => ∃ k M tm, M = List.toArray ([113, 58, 49, 58, 32] ++ TX ++ [32, 110, 101, 97, 114, 32, 39] ++ nearOf z B ++ [39]) ∧ e = (d, dictOf (XD k (.bytes M tm)) 3) :: LX c b B i ti sg ts (.int 1 tl) ll cur ahd) := by
  have hz0 : z ≠ 0 := by rcases hz with rfl | rfl | rfl | rfl | rfl | rfl | rfl <;> decide
  have hnl := nearOf_len (z := z) (B := B)
  intro p loose mean mg mb dp un outer base g s R B' X' T' sub sz hC hdp hun hret
  refine' enter X' T' sub sz hC ?k6 ?k7 ?k8 ?k9 ?kB ?_ ?c5 ?c2 ?c3 ?c4
  (case k6 => k_is)
  (case k7 => k_is)
  (case k8 => exact room0 hdp)
  (case k9 => exact BindsTo.of_eq rfl)
  (case kB => exact locs rfl)
  (case c5 => decide)
  (case c2 => exact rfl)
  (case c3 => exact rfl)
  (case c4 => exact rfl)
  intro L' h' F' N' l1
  (try k_lt l1)
  clear sub sz hC
  (try dsimp only)
  (try k_fold)
  (try dsimp only [LX] at N' l1)
  rw [hq] at N'
  k_extra "x42"
  refine ⟨_, _, _, rfl, cls_of (X'.keeps F'.keep), (N' _ (.head _)).1, ?_⟩
  refine' ex_go B' F' N' (.head _) fun X0 st0 nw0 h'' x'' => hret X0 _ _ ((_, dictOf (XD k' (.bytes _ _)) 3) :: LX c b B i ti sg ts (.int 1 tl) ll cur ahd) h'' _ st0 ?cc x'' ?pp
  (case cc =>
    (try dsimp only [LX])
    (try simp only [hq])
    (repeat' (first | exact List.forall_mem_nil _ | refine' List.forall_mem_cons.mpr ⟨?_, ?_⟩ | (refine nw0 _ (by k_mem) ?_; exact news_ne N' (by k_mem) (.head _) rfl))))
  (case pp => exact ⟨_, _, _, by simp, rfl⟩)
end
/-! A walk that may end in an exception of our own. -/
noncomputable def Ld (φ : Fn) (Z : Zc) (PE : Addr → List (Addr × Obj) → Prop) (E : Value → Shared → Prop) : Prop := ∀ Y e dd core' h' tk' tr, (tr = some .none ∨ tr = some (rawInt Z.L)) → PE dd core' → Stood Z.g Y Z.outer → (∀ q ∈ core', Y.get? q.1 = some q.2 ∧ Z.g.get? q.1 = none) →
  Ex Y Z.g (Z.env φ :: Z.outer) (.ref 87) e dd tr h' → E (.ref e) (Z.s h' tk')
section
variable (prog : Program) (w : World) (φ : Fn) (Z : Zc) (l : List (Str × Value)) (core : List (Addr × Obj))
noncomputable def GoM (ss : List Stmt) (Q : Flow → Shared → Prop) (PE : Addr → List (Addr × Obj) → Prop) : Prop := ∀ E h tk, Fr Z.g Z.L h (lk l) → News Z.g Z.L h core → Ld φ Z PE E → wpP (model prog w) (Z.A φ) (execs ss (Z.env φ)) Q E (Z.s h tk)
/-- an expression that raises -/
noncomputable def EvX (e : PySem.Expr) (PE : Addr → List (Addr × Obj) → Prop) : Prop := ∀ Q E h tk, Fr Z.g Z.L h (lk l) → News Z.g Z.L h core → Ld φ Z PE E → wpP (model prog w) (Z.A φ) (eval e (Z.env φ)) Q E (Z.s h tk)
end
section
variable {prog : Program} {w : World} {φ : Fn} {Z : Zc} {l : List (Str × Value)} {core : List (Addr × Obj)} {Q : Flow → Shared → Prop} {D U d u : Nat} {f : Addr} {args : List Value} {post : Value → List (Addr × Obj) → Prop} {postB : Bool → List (Addr × Obj) → Prop}
  {PE : Addr → List (Addr × Obj) → Prop} {rest body orelse : List Stmt} {t e e1 e2 : PySem.Expr} {pos p1 p2 p3 : Pos} {b : Bool} {P P1 P2 : Value → Prop} {x : Str} {v : Value}
theorem spec_goX {name qual : Str} {params : Arguments} {scope : Scope} {dV kV doc pm cdv ct oc : Value} {an od : Option Addr} {osl : Array (Option Value)} {binds : List (Str × Value)} (l : List (Str × Value))
    (ho : (hd.heap_1 w.params).lookup f = some ⟨oc, od, .func (fnOf name qual params body scope dV kV doc pm an cdv ct), osl⟩) (hcd : codeIn (hd.heap_1 w.params) cdv qual = true)
    (hbind : ∀ s, BindsTo s (fnOf name qual params body scope dV kV doc pm an cdv ct) ⟨args, []⟩ binds) (hloc : ∀ y ∈ binds, scope.names.lookup y.1 = some .local) (hl : (fun y => binds.reverse.lookup y) = lk l)
    (hcell : ∀ x ∈ scope.names, x.2 ≠ .cell) (hco : scope.isCoroutine = false) (hgen : scope.isGenerator = false) (hk : scope.kind = .function) (h1 : 1 ≤ d)
    (k : ∀ Z, OK w Z d u → ∀ Q, GoM prog w ⟨qual, scope, f, cdv⟩ Z l core body Q PE) : SpecEP prog w f args core d u PE := by
  intro p loose mean mg mb dp un outer base g s R B X T sub sz hC hdp hun hret
  refine enterP X T sub sz hC ho hcd (by omega) (hbind _) hloc ?_ hcell hco hgen hk
  intro L h F N _
  rw [hl] at F
  refine k ⟨dp, un, outer, g, L, s.gens, s.drawn, s.os⟩ ⟨⟨p, loose, mean, mg, mb, base, B, X, T⟩, hdp, hun⟩ _ _ h _ F N ?_
  intro Y e dd core' h' tk' tr htr hp st co x
  rcases htr with rfl | rfl
  · exact ex_leaving rfl rfl (.inr (.inl x)) fun h3 x3 => hret Y e dd core' h3 tk' st co x3 hp
  · exact ex_leaving rfl rfl (.inr (.inr x)) fun h3 x3 => hret Y e dd core' h3 tk' st co x3 hp
theorem GoM.of (g : Go prog w φ Z l core rest Q) : GoM prog w φ Z l core rest Q PE := fun E h tk F N _ => g E h tk F N
theorem GoM.nil (k : Nx Z l core Q) : GoM prog w φ Z l core [] Q PE := .of (.nil k)
theorem GoM.raise (v₁ : EvX prog w φ Z l core e PE) (hi : ∀ L, interactive (envOf φ.cn φ.cs L φ.a φ.cd) = false := by intro _; rfl) (hs : ∀ L, swapsWith e none pos.line (envOf φ.cn φ.cs L φ.a φ.cd) = pure false := by intro _; rfl) :
    GoM prog w φ Z l core (.Expr e pos :: rest) Q PE := fun E h tk F N hE => P_execs_cons (P_Expr (v₁ _ E h tk F N hE) (hi _) (hs _))
theorem GoM.retX (v₁ : EvX prog w φ Z l core e PE) : GoM prog w φ Z l core (.Return (some e) pos :: rest) Q PE := fun E h tk F N hE => P_execs_cons (P_Return (v₁ _ E h tk F N hE))
theorem GoM.expr (v₁ : EvP prog w φ Z l core e post) (k : ∀ v core', post v core' → v = .none ∧ GoM prog w φ Z l core' rest Q PE)
    (hi : ∀ L, interactive (envOf φ.cn φ.cs L φ.a φ.cd) = false := by intro _; rfl) (hs : ∀ L, swapsWith e none pos.line (envOf φ.cn φ.cs L φ.a φ.cd) = pure false := by intro _; rfl) : GoM prog w φ Z l core (.Expr e pos :: rest) Q PE := fun E h tk F N hE =>
  P_execs_cons (P_Expr (v₁ _ E h tk F N fun v core' h' tk' p F' N' => ⟨(k v core' p).1, (k v core' p).2 E h' tk' F' N' hE⟩) (hi _) (hs _))
theorem GoM.asgE (l' : List (Str × Value)) (v₁ : EvV prog w φ Z l core e (fun a => a = v)) (k : GoM prog w φ Z l' core rest Q PE) (hl : putl x v l = l' := by rfl) (hk : φ.cs.kind = .function := by rfl) (hx : ∀ L, (envOf φ.cn φ.cs L φ.a φ.cd).kindOf x = some .local := by intro _; rfl)
    (hs : ∀ L, swapsWith e (some (.Name x p1)) pos.line (envOf φ.cn φ.cs L φ.a φ.cd) = pure false := by intro _; rfl) : GoM prog w φ Z l core (.Assign [.Name x p1] e pos :: rest) Q PE := fun E h tk F N hE =>
  P_execs_cons (P_Assign_Name (v₁.p _ E h tk F N fun a core' h' tk' p F' N' => by
    obtain ⟨rfl, rfl⟩ := p
    exact storeX_L F' N' (fun h2 F2 N2 => k E h2 _ (fr_put F2 hl) N2 hE) hk (hx _)) (hs _))
theorem GoM.ifr (t₁ : EvB prog w φ Z l core t b) (kt : b = true → GoM prog w φ Z l core body (noN Q) PE) (kf : b = false → GoM prog w φ Z l core rest Q PE) : GoM prog w φ Z l core (.If t body [] pos :: rest) Q PE := fun E h tk F N hE =>
  P_execs_cons (P_IfA (t₁ _ E h tk F N fun h' tk' F' N' => by
    cases b with
    | true => exact P_mono (kt rfl E h' tk' F' N' hE) (fun f s x => by cases f <;> first | exact x | exact x.elim) fun _ _ x => x
    | false => exact P_execs_nil (kf rfl E h' tk' F' N' hE)))
theorem GoM.ifl (t₁ : EvB prog w φ Z l core t b) (kt : b = true → GoM prog w φ Z l core body Q PE) (kf : b = false → GoM prog w φ Z l core orelse Q PE) : GoM prog w φ Z l core [.If t body orelse pos] Q PE := fun E h tk F N hE =>
  P_execs_cons (P_IfA (t₁ _ E h tk F N fun h' tk' F' N' => by
    cases b with
    | true => exact P_mono (kt rfl E h' tk' F' N' hE) (fun f s x => by cases f <;> first | exact P_execs_nil x | exact x) fun _ _ x => x
    | false => exact P_mono (kf rfl E h' tk' F' N' hE) (fun f s x => by cases f <;> first | exact P_execs_nil x | exact x) fun _ _ x => x))
/-- an if that is not taken, whose other way raises -/
theorem GoM.ifX (t₁ : EvB prog w φ Z l core t false) (k : ∀ Q', GoM prog w φ Z l core orelse Q' PE) : GoM prog w φ Z l core (.If t body orelse pos :: rest) Q PE := fun E h tk F N hE =>
  P_execs_cons (P_IfA (t₁ _ E h tk F N fun h' tk' F' N' => k _ E h' tk' F' N' hE))
theorem GoM.asgAX {o : PySem.Expr} {attr : Str} (v₁ : EvX prog w φ Z l core e PE)
    (hs : ∀ L, swapsWith e (some (.Attribute o attr p1)) pos.line (envOf φ.cn φ.cs L φ.a φ.cd) = pure false := by intro _; rfl) : GoM prog w φ Z l core (.Assign [.Attribute o attr p1] e pos :: rest) Q PE := fun E h tk F N hE =>
  P_execs_cons (P_Assign_Attr (v₁ _ E h tk F N hE) (hs _))
theorem GoM.st {ι : Type} {st : Stmt} (l' : ι → List (Str × Value)) (core' : ι → List (Addr × Obj)) (s : StA prog w φ Z l core st l' core') (k : ∀ a, GoM prog w φ Z (l' a) (core' a) rest Q PE) : GoM prog w φ Z l core (st :: rest) Q PE := fun E h tk F N hE =>
  P_stmt (s _ E h tk F N fun a h' tk' F' N' => k a E h' tk' F' N' hE)
theorem Ld.loop {E : Value → Shared → Prop} (hE : Ld φ Z PE E) : Ld φ Z PE (notedBy (model prog w) (Z.A φ) (Z.env φ) fun x s => cameBackBy (model prog w) (Z.A φ) (Z.env φ) E x s) := by
  intro Y e dd core' h' tk' tr htr hp st co x
  have fin : ∀ h1, Ex Y Z.g (Z.env φ :: Z.outer) (.ref 87) e dd (some (rawInt Z.L)) h1 → cameBackBy (model prog w) (Z.A φ) (Z.env φ) E (.ref e) (Z.s h1 tk') := fun h1 x1 =>
    ex_back rfl x1 fun h2 x2 => hE Y e dd core' h2 tk' _ (.inr rfl) hp st co x2
  show wpAny _ _ (noteFrame (.ref e) (Z.env φ)) _ _ _
  rcases htr with rfl | rfl
  · exact ex_note rfl rfl (.inr x) fun h1 x1 => fin h1 x1
  · exact ex_noted rfl x (fin _ x)
/-- a while with a measure, which may raise -/
theorem GoM.loopC {ι : Type} (μ : ι → Nat) (lf : ι → List (Str × Value)) (cf : ι → List (Addr × Obj)) (Pr : ι → Prop) (a : ι) (pa : Pr a) (hl : l = lf a) (hc : core = cf a)
    (step : ∀ a, Pr a → ∃ postB, EvC prog w φ Z (lf a) (cf a) t postB ∧
      (∀ c', postB true c' → ∀ Q2, (∀ a', μ a' < μ a → Pr a' → Nx Z (lf a') (cf a') Q2) → GoM prog w φ Z (lf a) c' body Q2 PE) ∧
      (∀ c', postB false c' → GoM prog w φ Z (lf a) c' rest Q PE)) : GoM prog w φ Z l core (.While t body [] pos :: rest) Q PE := fun E h tk F N hE => by
  subst hl hc
  refine P_execs_cons (P_While (P_loop (fun n s => ∃ h tk a, s = Z.s h tk ∧ Fr Z.g Z.L h (lk (lf a)) ∧ News Z.g Z.L h (cf a) ∧ Pr a ∧ μ a = n) ?_ (μ a) _ ⟨h, tk, a, rfl, F, N, pa, rfl⟩))
  rintro n _ ⟨h, tk, a, rfl, F, N, pa, rfl⟩
  obtain ⟨pB, hc, ht, hf⟩ := step a pa
  refine hc _ _ h tk F N fun b core' h' tk' p F' N' => ?_
  cases b with
  | true =>
    refine P_mono (ht core' p (fun fl s₃ => match fl with
        | .next | .cont => ∃ n', n' < μ a ∧ ∃ h tk a, s₃ = Z.s h tk ∧ Fr Z.g Z.L h (lk (lf a)) ∧ News Z.g Z.L h (cf a) ∧ Pr a ∧ μ a = n'
        | .brk => False
        | .ret v => False) (fun a' hn i' h2 tk2 F2 N2 => ⟨μ a', hn, h2, tk2, a', rfl, F2, N2, i', rfl⟩) _ h' tk' F' N' hE.loop) (fun fl s x => ?_) fun _ _ x => x
    cases fl <;> first | exact x | exact x.elim
  | false => exact hf core' p _ h' tk' F' N' hE
theorem GoM.whileF (t₁ : EvC prog w φ Z l core t postB) (hb : ∀ c', ¬ postB true c') (k : ∀ c', postB false c' → GoM prog w φ Z l c' rest Q PE) : GoM prog w φ Z l core (.While t body [] pos :: rest) Q PE :=
  GoM.loopC (ι := Unit) (fun _ => 0) (fun _ => l) (fun _ => core) (fun _ => True) () trivial rfl rfl fun _ _ => ⟨postB, t₁, fun c' h => absurd h (hb c'), k⟩
end
section
variable {prog : Program} {w : World} {φ : Fn} {Z : Zc} {l : List (Str × Value)} {Q : Flow → Shared → Prop} {D U d u : Nat} {f : Addr} {PE : Addr → List (Addr × Obj) → Prop} {rest : List Stmt} {e e1 e2 : PySem.Expr} {pos p1 p2 p3 : Pos} {name : Str} {P1 P2 : Value → Prop}
  {c : LC} {b : Addr} {B : List UInt8} {i sg : Int} {ti ts : Tok} {ln ll cur ahd : Value}
theorem GoM.m0S {W B' : List UInt8} (M : LxM w name f) (ok : OK w Z D U) (S : SpecP prog w f [.ref c.x] (LX c b B i ti sg ts ln ll cur ahd) d u (fun v e => v = .none ∧ ∃ i' t1 t2, At c.T i' W ∧ e = LX c b B' i' t1 (hdv W) t2 ln ll cur ahd))
    (k : ∀ i' t1 t2, At c.T i' W → GoM prog w φ Z l (LX c b B' i' t1 (hdv W) t2 ln ll cur ahd) rest Q PE) (hD : 1 + d ≤ D := by decide) (hU : 4 + u ≤ U := by decide)
    (hs : lk l (Str.ofString "self") = some (.ref c.x) := by rfl) (hx : ∀ L, (envOf φ.cn φ.cs L φ.a φ.cd).kindOf (Str.ofString "self") = some .local := by intro _; rfl) (hk : φ.cs.kind = .function := by rfl)
    (he : ∀ L, MethAt (envOf φ.cn φ.cs L φ.a φ.cd) (Str.ofString "self") name p1 p2 p3 [] := by intro _; rfl) (hi : ∀ L, interactive (envOf φ.cn φ.cs L φ.a φ.cd) = false := by intro _; rfl)
    (hw : ∀ L, swapsWith (.Call (.Attribute (.Name (Str.ofString "self") p1) name p2) [] [] p3) none pos.line (envOf φ.cn φ.cs L φ.a φ.cd) = pure false := by intro _; rfl) :
    GoM prog w φ Z l (LX c b B i ti sg ts ln ll cur ahd) (.Expr (.Call (.Attribute (.Name (Str.ofString "self") p1) name p2) [] [] p3) pos :: rest) Q PE :=
  GoM.expr (EvP.m0 M ok S hD hU hs hx hk he) (fun v c' h => by obtain ⟨rfl, i', t1, t2, hA, rfl⟩ := h; exact ⟨rfl, k i' t1 t2 hA⟩) hi hw
theorem EvX.m0 (M : LxM w name f) (ok : OK w Z D U) (S : SpecEP prog w f [.ref c.x] (LX c b B i ti sg ts ln ll cur ahd) d u PE) (hD : 1 + d ≤ D := by decide) (hU : 4 + u ≤ U := by decide)
    (hs : lk l (Str.ofString "self") = some (.ref c.x) := by rfl) (hx : ∀ L, (envOf φ.cn φ.cs L φ.a φ.cd).kindOf (Str.ofString "self") = some .local := by intro _; rfl) (hk : φ.cs.kind = .function := by rfl)
    (he : ∀ L, MethAt (envOf φ.cn φ.cs L φ.a φ.cd) (Str.ofString "self") name p1 p2 p3 [] := by intro _; rfl) :
    EvX prog w φ Z l (LX c b B i ti sg ts ln ll cur ahd) (.Call (.Attribute (.Name (Str.ofString "self") p1) name p2) [] [] p3) PE := fun Q E h tk F N hE => by
  obtain ⟨⟨p, loose, mean, mg, mb, base, B', X', T'⟩, h1, h2⟩ := ok
  refine P_methodCall0 (nameX_L F hs (method_inst F X' (lx_inst N) M.get M.fn M.isf (M.none ..) ?_) hk (hx _) (by decide)) (he _)
  refine P_callWith_K0 (X'.keeps F.keep) M.keep ?_
  refine SpecEP.use S B' F X' N T' rfl rfl rfl rfl hk (fun _ q => q) ?_ ?_ fun Y e dd core' h' tk' hp W => hE Y e dd core' h' tk' _ (.inl rfl) hp W.stood W.core W.ex
  · simp only [depth_deeper]; omega
  · simp only [units_deeper]; omega
theorem EvX.m1 (M : LxM w name f) (ok : OK w Z D U) (v₁ : EvV prog w φ Z l (LX c b B i ti sg ts ln ll cur ahd) e P1) (S : ∀ a, P1 a → SpecEP prog w f [.ref c.x, a] (LX c b B i ti sg ts ln ll cur ahd) d u PE) (hD : 1 + d ≤ D := by decide) (hU : 4 + u ≤ U := by decide)
    (hs : lk l (Str.ofString "self") = some (.ref c.x) := by rfl) (hx : ∀ L, (envOf φ.cn φ.cs L φ.a φ.cd).kindOf (Str.ofString "self") = some .local := by intro _; rfl) (hk : φ.cs.kind = .function := by rfl)
    (he : ∀ L, MethAt (envOf φ.cn φ.cs L φ.a φ.cd) (Str.ofString "self") name p1 p2 p3 [e] := by intro _; rfl) (ha : ∀ L, starEach [e] (envOf φ.cn φ.cs L φ.a φ.cd) = (false, eval e (envOf φ.cn φ.cs L φ.a φ.cd)) :: starEach [] (envOf φ.cn φ.cs L φ.a φ.cd) := by intro _; rfl) :
    EvX prog w φ Z l (LX c b B i ti sg ts ln ll cur ahd) (.Call (.Attribute (.Name (Str.ofString "self") p1) name p2) [e] [] p3) PE := fun Q E h tk F N hE => by
  obtain ⟨⟨p, loose, mean, mg, mb, base, B', X', T'⟩, h1, h2⟩ := ok
  refine P_methodCall0 (nameX_L F hs (method_inst F X' (lx_inst N) M.get M.fn M.isf (M.none ..) ?_) hk (hx _) (by decide)) (he _)
  refine P_callWith_K X' M.keep (args_cons (v₁ _ E h tk F N fun a h' tk' pa F' N' => args_nil ⟨X'.keeps F'.keep, ?_⟩) (ha _)) (ha _) rfl
  refine SpecEP.use (S a pa) B' F' X' N' T' rfl rfl rfl rfl hk (fun _ q => q) ?_ ?_ fun Y e dd core' h' tk' hp W => hE Y e dd core' h' tk' _ (.inl rfl) hp W.stood W.core W.ex
  · simp only [depth_deeper]; omega
  · simp only [units_deeper]; omega
theorem EvX.m2 (M : LxM w name f) (ok : OK w Z D U) (v₁ : EvV prog w φ Z l (LX c b B i ti sg ts ln ll cur ahd) e1 P1) (v₂ : EvV prog w φ Z l (LX c b B i ti sg ts ln ll cur ahd) e2 P2)
    (S : ∀ a a', P1 a → P2 a' → SpecEP prog w f [.ref c.x, a, a'] (LX c b B i ti sg ts ln ll cur ahd) d u PE) (hD : 1 + d ≤ D := by decide) (hU : 4 + u ≤ U := by decide)
    (hs : lk l (Str.ofString "self") = some (.ref c.x) := by rfl) (hx : ∀ L, (envOf φ.cn φ.cs L φ.a φ.cd).kindOf (Str.ofString "self") = some .local := by intro _; rfl) (hk : φ.cs.kind = .function := by rfl)
    (he : ∀ L, MethAt (envOf φ.cn φ.cs L φ.a φ.cd) (Str.ofString "self") name p1 p2 p3 [e1, e2] := by intro _; rfl)
    (ha : ∀ L, starEach [e1, e2] (envOf φ.cn φ.cs L φ.a φ.cd) = (false, eval e1 (envOf φ.cn φ.cs L φ.a φ.cd)) :: starEach [e2] (envOf φ.cn φ.cs L φ.a φ.cd) := by intro _; rfl)
    (ha2 : ∀ L, starEach [e2] (envOf φ.cn φ.cs L φ.a φ.cd) = (false, eval e2 (envOf φ.cn φ.cs L φ.a φ.cd)) :: starEach [] (envOf φ.cn φ.cs L φ.a φ.cd) := by intro _; rfl) :
    EvX prog w φ Z l (LX c b B i ti sg ts ln ll cur ahd) (.Call (.Attribute (.Name (Str.ofString "self") p1) name p2) [e1, e2] [] p3) PE := fun Q E h tk F N hE => by
  obtain ⟨⟨p, loose, mean, mg, mb, base, B', X', T'⟩, h1, h2⟩ := ok
  refine P_methodCall0 (nameX_L F hs (method_inst F X' (lx_inst N) M.get M.fn M.isf (M.none ..) ?_) hk (hx _) (by decide)) (he _)
  refine P_callWith_K X' M.keep (args_cons (v₁ _ E h tk F N fun a h' tk' pa F' N' => args_cons (v₂ _ E h' tk' F' N' fun a' h2' tk2' pa' F2' N2' => args_nil ⟨X'.keeps F2'.keep, ?_⟩) (ha2 _)) (ha _)) (ha _) (by show (backTo p3 (starEach [e2] (Z.env φ))).any (·.1) = false; rw [ha2]; rfl)
  refine SpecEP.use (S a a' pa pa') B' F2' X' N2' T' rfl rfl rfl rfl hk (fun _ q => q) ?_ ?_ fun Y e dd core' h' tk' hp W => hE Y e dd core' h' tk' _ (.inl rfl) hp W.stood W.core W.ex
  · simp only [depth_deeper]; omega
  · simp only [units_deeper]; omega
end
/-- the words of a text without an end -/
noncomputable abbrev UNF : List UInt8 := [117, 110, 102, 105, 110, 105, 115, 104, 101, 100, 32, 115, 116, 114, 105, 110, 103]
theorem err_unf {c : LC} {b : Addr} {B : List UInt8} {i sg : Int} {ti ts t tq tl tt : Tok} {ll cur ahd : Value} (prog : Program) (w : World) (hq : c.chk = .bytes #[113] tq) (hB : B.length ≤ 100000) :
    SpecEP prog w 301 [.ref c.x, .bytes (List.toArray UNF) tt, .int 286 t] (LX c b B i ti sg ts (.int 1 tl) ll cur ahd) 30 300
      (fun d e => ∃ k M tm, M = List.toArray ([113, 58, 49, 58, 32] ++ UNF ++ [32, 110, 101, 97, 114, 32, 39] ++ nearOf 286 B ++ [39]) ∧ e = (d, dictOf (XD k (.bytes M tm)) 3) :: LX c b B i ti sg ts (.int 1 tl) ll cur ahd) :=
  SpecGE.lift (err_z prog w hq (by unfold NK; omega) hB (by decide))
theorem SpecGE.mono {C : Around → Code → (Result → Shared → Prop) → Shared → Prop} {w : World} {f : Addr} {args : List Value} {core : List (Addr × Obj)} {d u : Nat} {post post' : Addr → List (Addr × Obj) → Prop}
    (S : SpecGE C w f args core d u post) (h : ∀ v e, post v e → post' v e) : SpecGE C w f args core d u post' :=
  fun p loose mean mg mb dp un outer base g s R hC X T sub sz N hdp hun hret => S p loose mean mg mb dp un outer base g s R hC X T sub sz N hdp hun fun X e dd core' h' tk' a b c p => hret X e dd core' h' tk' a b c (h _ _ p)
theorem m_err (w : World) : LxM w (Str.ofString "error") 301 := ⟨by k_is, by k_is, by k_is, by k_is, by intros; rfl⟩
theorem q_sign {x q : UInt8} (hq : q = 34 ∨ q = 39) (h : x = 97 ∨ x = 32 ∨ x = 98 ∨ x = 0) : sv x ≠ sv q := by exact hq.elim (fun e => by rw [e]; exact (ch_sign h).2.2.1) fun e => by rw [e]; exact (ch_sign h).2.2.2
section
variable {c : LC} {b : Addr} {B W : List UInt8} {x : UInt8} {i sg z : Int} {ti ts t tq tl : Tok} {ln ll cur ahd : Value}
set_option maxHeartbeats 8000000 in
theorem rsx_spec {q : UInt8} {V R0 : List UInt8} (prog : Program) (w : World) (hqq : q = 34 ∨ q = 39) (hq : c.chk = .bytes #[113] tq) (hQ : Inn (10 :: W) V R0) (hA : At c.T i (q :: V)) (hT : c.T.length ≤ 80000) (hR : R0.length ≤ 80000) :
    SpecEP prog w 448 [.ref c.x, .int (sv q) t] (LX c b [] i ti (sv q) ts (.int 1 tl) ll cur ahd) 60 600
      (fun d e => ∃ k M tm i' t1 t2, M = List.toArray ([113, 58, 49, 58, 32] ++ UNF ++ [32, 110, 101, 97, 114, 32, 39] ++ nearOf 286 (q :: R0) ++ [39]) ∧ e = (d, dictOf (XD k (.bytes M tm)) 3) :: LX c b (q :: R0) i' t1 10 t2 (.int 1 tl) ll cur ahd) := by
  refine' spec_goX [(Str.ofString "quote", .int (sv q) t), (Str.ofString "self", .ref c.x)] ?k6 ?k7 ?k9 ?kB ?kl ?c5 ?c2 ?c3 ?c4 (by decide) fun Z ok Q => ?_
  (case k6 => k_is)
  (case k7 => k_is)
  (case k9 => exact fun _ => BindsTo.of_eq rfl)
  (case kB => exact locs rfl)
  (case kl => rfl)
  (case c5 => decide)
  (case c2 => exact rfl)
  (case c3 => exact rfl)
  (case c4 => exact rfl)
  refine GoM.m0S (m_km w) ok (km_st prog w hA (by first | exact le_c (by assumption) rfl | omega) rfl (by simp)) fun i1 u1 u2 hA1 => ?_
  refine GoM.loopC (ι := List UInt8 × List UInt8 × List UInt8 × Int × Tok × Tok) (fun a => a.1.length) (fun a => [(Str.ofString "quote", .int (sv q) t), (Str.ofString "self", .ref c.x)]) (fun a => LX c b (q :: a.2.1) a.2.2.2.1 a.2.2.2.2.1 (hdv a.1) a.2.2.2.2.2 (.int 1 tl) ll cur ahd)
    (fun a => Inn (10 :: W) a.1 a.2.2.1 ∧ a.2.1 ++ a.2.2.1 = R0 ∧ At c.T a.2.2.2.1 a.1) (V, [], R0, i1, u1, u2) ⟨hQ, rfl, hA1⟩ rfl rfl ?_
  clear hQ hA1 hA
  refine cu6 fun V R1 R2 i1 u1 u2 => ?_
  rintro ⟨hI, hR0, hA⟩
  dsimp only at hI hR0 hA ⊢
  have hlen : R1.length ≤ 80000 := by rw [← hR0, List.length_append] at hR; omega
  have hne : hdv V ≠ sv q := by
    cases hI with
    | nil => rcases hqq with rfl | rfl <;> (show sv 10 ≠ sv _; decide)
    | ch x W' R hx _ => exact q_sign hqq hx
    | esc => rcases hqq with rfl | rfl <;> (show sv 92 ≠ sv _; decide)
  have hm1 : hdv V ≠ -1 := by
    cases hI with
    | nil => exact (by decide : sv 10 ≠ -1)
    | ch x W' R hx _ => exact (ch_sign hx).1.1
    | esc => exact (by decide : sv 92 ≠ -1)
  refine ⟨_, ((EvB.ne (EvV.sign (a_sign w) ok).isI (EvV.isI EvV.loc)).to (bne_iff_ne.mpr hne)).c, fun c' h Q2 hn2 => ?_, fun c' h => Bool.noConfusion h.1⟩
  obtain ⟨-, rfl⟩ := h
  refine GoM.ifl (EvB.eq (EvV.sign (a_sign w) ok).isI (EvV.isI (EvV.glob ok (by k_is)))) (fun hc => absurd (beq_iff_eq.mp hc) hm1) fun _ => ?_
  refine GoM.ifl (EvB.val (EvV.fn1 (P1 := fun a => a = .int (hdv V) u2) ok (fun a ha => ha ▸ is_newline_spec prog w _ _) (EvV.sign (a_sign w) ok) (by k_is) (by k_is))) (fun hc => ?_) fun hc => ?_
  · cases hI with
    | nil =>
      obtain rfl : R1 = R0 := by simpa using hR0
      exact GoM.raise (EvX.m2 (P1 := fun a => ∃ t, a = .bytes (List.toArray UNF) t) (m_err w) ok EvV.bytes (EvV.glob ok (by k_is)) fun a a' ha ha' => by
        obtain ⟨tt, rfl⟩ := ha
        subst ha'
        exact SpecGE.mono (err_unf prog w hq (by simp; omega)) fun d e h => by
          obtain ⟨k, M, tm, h1, h2⟩ := h
          exact ⟨k, M, tm, i1, u1, u2, h1, h2⟩)
    | ch x W' R hx _ => exact absurd hc (by rw [hdv_cons, nl_no (ch_sign hx).1.2]; decide)
    | esc => exact absurd (show (sv 92 == 10 || sv 92 == 13) = true from hc) (by decide)
  · refine GoM.of (Go.ifl (EvB.eq (EvV.sign (a_sign w) ok).isI (EvV.isI (EvV.glob ok (by k_is)))) (fun hd => ?_) fun hd => ?_)
    · have hd : hdv V = 92 := beq_iff_eq.mp hd
      cases hI with
      | nil => exact absurd (show sv 10 = 92 from hd) (by decide)
      | ch x W' R hx _ => exact absurd hd (ch_sign hx).2.1
      | esc V' r W' R hE hI' =>
        refine Go.m0S (m_go w) ok (go_st prog w hA (by first | exact le_c (by assumption) rfl | omega)).lift fun i2 u3 u4 hA2 => ?_
        refine Go.m0S (m_esc w) ok (re_spec prog w hE hA2 rfl (by first | exact le_c (by assumption) rfl | omega) (by simp; omega)) fun i3 u5 u6 hA3 => Go.nil ?_
        exact hn2 (W', R1 ++ [r], R, i3, u5, u6) (Nat.lt_succ_of_lt hE.len) ⟨hI', by rw [← hR0]; simp, hA3⟩
    · cases hI with
      | nil => exact absurd (show (sv 10 == 10 || sv 10 == 13) = false from hc) (by decide)
      | ch x W' R hx hI' =>
        refine Go.m0S (m_km w) ok (km_st prog w hA (by first | exact le_c (by assumption) rfl | omega) rfl (by simp; omega)) fun i2 u3 u4 hA2 => Go.nil ?_
        exact hn2 (W', R1 ++ [x], R, i2, u3, u4) (Nat.lt_succ_self _) ⟨hI', by rw [← hR0]; simp, hA2⟩
      | esc => exact absurd (show (sv 92 == 92) = false from hd) (by decide)
end
theorem off_L15 : True := by
  w_top off
  trivial
section
variable {c : LC} {b : Addr} {B W : List UInt8} {x : UInt8} {i sg z : Int} {ti ts t tq tl : Tok} {ln ll cur ahd : Value}
set_option maxHeartbeats 8000000 in
theorem rdx_spec {q : UInt8} {V R0 : List UInt8} (prog : Program) (w : World) (hqq : q = 34 ∨ q = 39) (hq : c.chk = .bytes #[113] tq) (hQ : Inn (10 :: W) V R0) (hA : At c.T i (q :: V)) (hT : c.T.length ≤ 80000) (hR : R0.length ≤ 80000) :
    SpecEP prog w 364 [.ref c.x] (LX c b B i ti (sv q) ts (.int 1 tl) ll cur ahd) 70 700
      (fun d e => ∃ k M tm b' i' t1 t2, M = List.toArray ([113, 58, 49, 58, 32] ++ UNF ++ [32, 110, 101, 97, 114, 32, 39] ++ nearOf 286 (q :: R0) ++ [39]) ∧ e = (d, dictOf (XD k (.bytes M tm)) 3) :: LX c b' (q :: R0) i' t1 10 t2 (.int 1 tl) ll cur ahd) := by
  refine' spec_goX [(Str.ofString "self", .ref c.x)] ?k6 ?k7 ?k9 ?kB ?kl ?c5 ?c2 ?c3 ?c4 (by decide) fun Z ok Q => ?_
  (case k6 => k_is)
  (case k7 => k_is)
  (case k9 => exact fun _ => BindsTo.of_eq rfl)
  (case kB => exact locs rfl)
  (case kl => rfl)
  (case c5 => decide)
  (case c2 => exact rfl)
  (case c3 => exact rfl)
  (case c4 => exact rfl)
  refine GoM.expr (EvP.m0 (m_clear w) ok (clear_spec prog w)) fun v c' h => ?_
  obtain ⟨rfl, b', rfl⟩ := h
  refine ⟨rfl, GoM.whileF (postB := fun b c' => b = false ∧ c' = LX c b' [] i ti (sv q) ts (.int 1 tl) ll cur ahd) (EvC.val (EvP.m0 (m_sb w) ok (sb_no prog w (by rcases hqq with rfl | rfl <;> decide))) fun v c' h => ⟨false, h.1, rfl, h.2⟩) (fun c' h => Bool.noConfusion h.1) fun c' h => ?_⟩
  obtain ⟨-, rfl⟩ := h
  refine GoM.asgE [(Str.ofString "self", .ref c.x), (Str.ofString "sign", .int (sv q) ts)] (EvV.sign (a_sign w) ok) ?_
  refine GoM.ifr (EvB.eq (EvV.isI EvV.loc) (EvV.isI (EvV.glob ok (by k_is)))) (fun hc => absurd (beq_iff_eq.mp hc) (by rcases hqq with rfl | rfl <;> decide)) fun _ => ?_
  refine GoM.ifr (b := [34, 39].any fun x => x == sv q) ?e1 (fun hc => ?_) fun h1 => absurd h1 (by rcases hqq with rfl | rfl <;> decide)
  case e1 =>
    clear hqq hQ hA
    k_extra "x9"
    rename News _ _ _ _ => NN
    exact hQ _ _ (by assumption) (news_sub NN fun _ q => .tail _ q)
  exact GoM.retX (EvX.m1 (P1 := fun a => a = .int (sv q) ts) (m_rs w) ok EvV.loc fun a ha => ha ▸ SpecGE.mono (rsx_spec prog w hqq hq hQ hA hT hR) fun d e h => by
    obtain ⟨k, M, tm, i', t1, t2, h1, h2⟩ := h
    exact ⟨k, M, tm, b', i', t1, t2, h1, h2⟩)
end
theorem off_L16 : True := by
  w_top off
  trivial
theorem m_read (w : World) : LxM w (Str.ofString "read") 364 := ⟨by k_is, by k_is, by k_is, by k_is, by intros; rfl⟩
section
variable {c : LC} {b : Addr} {B W : List UInt8} {x : UInt8} {i sg z : Int} {ti ts t tq tl : Tok} {ln ll cur ahd : Value}
set_option maxHeartbeats 8000000 in
theorem nxx_spec {q : UInt8} {V R0 : List UInt8} (prog : Program) (w : World) (hqq : q = 34 ∨ q = 39) (hq : c.chk = .bytes #[113] tq) (hQ : Inn (10 :: W) V R0) (hA : At c.T i (q :: V)) (hT : c.T.length ≤ 80000) (hR : R0.length ≤ 80000) :
    SpecEP prog w 287 [.ref c.x] (LX c b B i ti (sv q) ts (.int 1 tl) ll cur .none) 80 800
      (fun d e => ∃ k M tm b' i' t1 t2, M = List.toArray ([113, 58, 49, 58, 32] ++ UNF ++ [32, 110, 101, 97, 114, 32, 39] ++ nearOf 286 (q :: R0) ++ [39]) ∧ e = (d, dictOf (XD k (.bytes M tm)) 3) :: LX c b' (q :: R0) i' t1 10 t2 (.int 1 tl) (.int 1 tl) cur .none) := by
  refine' spec_goX [(Str.ofString "self", .ref c.x)] ?k6 ?k7 ?k9 ?kB ?kl ?c5 ?c2 ?c3 ?c4 (by decide) fun Z ok Q => ?_
  (case k6 => k_is)
  (case k7 => k_is)
  (case k9 => exact fun _ => BindsTo.of_eq rfl)
  (case kB => exact locs rfl)
  (case kl => rfl)
  (case c5 => decide)
  (case c2 => exact rfl)
  (case c3 => exact rfl)
  (case c4 => exact rfl)
  refine GoM.st (ι := Unit) (fun _ => [(Str.ofString "self", .ref c.x)]) (fun _ => LX c b B i ti (sv q) ts (.int 1 tl) (.int 1 tl) cur .none) ?s1 fun _ => ?_
  case s1 =>
    clear hqq hQ hA
    k_extra "x9"
    exact hQ () _ _ (by assumption) (by assumption)
  refine GoM.ifX ?e1 fun Q' => ?_
  case e1 =>
    clear hqq hQ hA
    k_extra "x9"
    exact hQ _ _ (by assumption) (by assumption)
  exact GoM.asgAX (EvX.m0 (m_read w) ok (rdx_spec prog w hqq hq hQ hA hT hR))
theorem nxx_34 {V R0 : List UInt8} (prog : Program) (w : World) (hq : c.chk = .bytes #[113] tq) (hQ : Inn (10 :: W) V R0) (hA : At c.T i (34 :: V)) (hT : c.T.length ≤ 80000) (hR : R0.length ≤ 80000) :
    SpecEP prog w 287 [.ref c.x] (LX c b B i ti 34 ts (.int 1 tl) ll cur .none) 80 800
      (fun d e => ∃ k M tm b' i' t1 t2, M = List.toArray ([113, 58, 49, 58, 32] ++ UNF ++ [32, 110, 101, 97, 114, 32, 39] ++ nearOf 286 (34 :: R0) ++ [39]) ∧ e = (d, dictOf (XD k (.bytes M tm)) 3) :: LX c b' (34 :: R0) i' t1 10 t2 (.int 1 tl) (.int 1 tl) cur .none) := nxx_spec prog w (.inl rfl) hq hQ hA hT hR
theorem nxx_39 {V R0 : List UInt8} (prog : Program) (w : World) (hq : c.chk = .bytes #[113] tq) (hQ : Inn (10 :: W) V R0) (hA : At c.T i (39 :: V)) (hT : c.T.length ≤ 80000) (hR : R0.length ≤ 80000) :
    SpecEP prog w 287 [.ref c.x] (LX c b B i ti 39 ts (.int 1 tl) ll cur .none) 80 800
      (fun d e => ∃ k M tm b' i' t1 t2, M = List.toArray ([113, 58, 49, 58, 32] ++ UNF ++ [32, 110, 101, 97, 114, 32, 39] ++ nearOf 286 (39 :: R0) ++ [39]) ∧ e = (d, dictOf (XD k (.bytes M tm)) 3) :: LX c b' (39 :: R0) i' t1 10 t2 (.int 1 tl) (.int 1 tl) cur .none) := nxx_spec prog w (.inr rfl) hq hQ hA hT hR
end
section
variable {c : LC} {b : Addr} {B W TX : List UInt8} {i sg z : Int} {ti ts t tq tl tt u1 : Tok} {ln ll cur ahd vv : Value} {tx dtx : Addr} {kk : HK}
theorem said_44 : True := by
  k_with "x43" =>
    (repeat' ((fail_if_success (with_reducible show ∃ e t d, _ = Value.ref e ∧ _)); (fail_if_success (with_reducible show wpAny _ _ (leaving _ _) _ _ _)); first | ((with_reducible show wpAny _ _ (exec (Stmt.Raise (some _) none _) _) _ _ _); refine ex_Raise rfl ?_) | ((with_reducible show wpAny _ _ (call (Value.ref 87) [Value.bytes _ _]) _ _ _); (refine' ex_make_N ?mB ?mF ?mX ?mN ?mT ?mh ?mA ?mg ?mf ?mk ?md ?mu ?m1 ?m2 ?m3 ?m4 ?m5 ?_; (case mF => k_asm); (case mA => rfl); (case mB => k_asm); (case mX => k_asm); (case mN => k_asm); (case mT => k_asm); (case mh => rfl); (case mg => rfl); (case mf => rfl); (case mk => rfl); (case md => k_room); (case mu => k_units); (case m1 => k_is); (case m2 => k_is); (case m3 => k_is); (case m4 => k_is); (case m5 => k_is)); intro e' t' d' k' h' tk' F' N' far'; (try k_sweep); (try dsimp only)) | ((with_reducible show ite _ _ _); (first | refine ite_neg (by first | decide | ((try simp only [List.any_cons, List.any_nil, bne_iff_ne, ne_eq, Bool.not_eq_true, bne_eq_false_iff_eq, decide_eq_true_eq, Bool.or_eq_true, Bool.and_eq_true, beq_iff_eq, Bool.or_false, Bool.false_or, Bool.not_eq_true', decide_eq_false_iff_not, Bool.or_eq_false_iff, Bool.and_eq_false_iff, beq_eq_false_iff_ne]); omega)) ?_ | refine ite_pos (by first | decide | ((try simp only [List.any_cons, List.any_nil, bne_iff_ne, ne_eq, Bool.not_eq_true, bne_eq_false_iff_eq, decide_eq_true_eq, Bool.or_eq_true, Bool.and_eq_true, beq_iff_eq, Bool.or_false, Bool.false_or, Bool.not_eq_true', decide_eq_false_iff_not, Bool.or_eq_false_iff, Bool.and_eq_false_iff, beq_eq_false_iff_ne]); omega)) ?_)) | ((with_reducible show wpAny _ _ (call (Value.ref 301) _) _ _ _); (first | (refine' SpecE.use (err_0 _ _ ?h1 ?h2 ?h3) ?uB ?uF ?uX ?uN ?uT ?uh ?uA ?ug ?uf ?uk ?us ?ud ?uu ?_; (case uF => k_asm); (case uA => rfl); (case uB => k_asm); (case uX => k_asm); (case uN => k_asm); (case uT => k_asm); (case uh => rfl); (case ug => rfl); (case uf => rfl); (case uk => rfl); (case us => walk_at "subs"); (case h1 => walk_at "side"); (case h2 => walk_at "side"); (case h3 => walk_at "side"); (case ud => k_room); (case uu => k_units); intro Y e dd core' h' tk' hp' W') | (refine' SpecE.use (err_z _ _ ?h1 ?h2 ?h3 ?h4) ?uB ?uF ?uX ?uN ?uT ?uh ?uA ?ug ?uf ?uk ?us ?ud ?uu ?_; (case uF => k_asm); (case uA => rfl); (case uB => k_asm); (case uX => k_asm); (case uN => k_asm); (case uT => k_asm); (case uh => rfl); (case ug => rfl); (case uf => rfl); (case uk => rfl); (case us => walk_at "subs"); (case h1 => walk_at "side"); (case h2 => walk_at "side"); (case h3 => walk_at "side"); (case h4 => walk_at "side"); (case ud => k_room); (case uu => k_units); intro Y e dd core' h' tk' hp' W'))) | walk_at "astep"))
  trivial
set_option maxHeartbeats 8000000 in
theorem sy_0 (prog : Program) (w : World) (hq : c.chk = .bytes #[113] tq) (hB : B.length ≤ 100000) (hX : TX.length ≤ 1000) :
    SpecE prog w 308 [.ref c.x, .bytes TX.toArray tt] (TKL tx dtx kk (.int 0 u1) vv (LX c b B i ti sg ts (.int 1 tl) ll (.ref tx) ahd)) 34 340
      (fun d e => ∃ k M tm, M = List.toArray ([113, 58, 49, 58, 32] ++ TX) ∧ e = (d, dictOf (XD k (.bytes M tm)) 3) :: LX c b B i ti sg ts (.int 1 tl) ll (.ref tx) ahd) := by
  rintro p loose mean mg mb dp un outer base g ⟨hs0, gs0, ds0, tk0, os0⟩ R B' X' T' sub sz hC hdp hun hret
  refine' enter X' T' sub sz hC ?k6 ?k7 ?k8 ?k9 ?kB ?_ ?c5 ?c2 ?c3 ?c4
  (case k6 => k_is)
  (case k7 => k_is)
  (case k8 => exact room0 hdp)
  (case k9 => exact BindsTo.of_eq rfl)
  (case kB => exact locs rfl)
  (case c5 => decide)
  (case c2 => exact rfl)
  (case c3 => exact rfl)
  (case c4 => exact rfl)
  intro L' h' F' N' l1
  (try k_lt l1)
  clear sub sz hC
  (try dsimp only)
  (try k_fold)
  (try dsimp only [LX] at N' l1)
  (first | refine W_start fun Q0 E0 k1 k2 k3 hPO => ?_ | refine P_start fun Q0 E0 k1 k2 k3 hPO => ?_)
  k_extra "x43"
  all_goals (first | exact ex_leaving rfl rfl (.inr (.inl W'.ex)) fun h'' x'' => hret Y e dd _ h'' tk' W'.stood W'.core x'' hp' | exact ex_leaving rfl rfl (.inr (.inr W'.ex)) fun h'' x'' => hret Y e dd _ h'' tk' W'.stood W'.core x'' hp')
set_option maxHeartbeats 8000000 in
theorem sy_z (prog : Program) (w : World) (hq : c.chk = .bytes #[113] tq) (hz : NK z) (hB : B.length ≤ 100000) (hX : TX.length ≤ 1000) :
    SpecE prog w 308 [.ref c.x, .bytes TX.toArray tt] (TKL tx dtx kk (.int z u1) vv (LX c b B i ti sg ts (.int 1 tl) ll (.ref tx) ahd)) 34 340
      (fun d e => ∃ k M tm, M = List.toArray ([113, 58, 49, 58, 32] ++ TX ++ [32, 110, 101, 97, 114, 32, 39] ++ nearOf z B ++ [39]) ∧ e = (d, dictOf (XD k (.bytes M tm)) 3) :: LX c b B i ti sg ts (.int 1 tl) ll (.ref tx) ahd) := by
  rintro p loose mean mg mb dp un outer base g ⟨hs0, gs0, ds0, tk0, os0⟩ R B' X' T' sub sz hC hdp hun hret
  refine' enter X' T' sub sz hC ?k6 ?k7 ?k8 ?k9 ?kB ?_ ?c5 ?c2 ?c3 ?c4
  (case k6 => k_is)
  (case k7 => k_is)
  (case k8 => exact room0 hdp)
  (case k9 => exact BindsTo.of_eq rfl)
  (case kB => exact locs rfl)
  (case c5 => decide)
  (case c2 => exact rfl)
  (case c3 => exact rfl)
  (case c4 => exact rfl)
  intro L' h' F' N' l1
  (try k_lt l1)
  clear sub sz hC
  (try dsimp only)
  (try k_fold)
  (try dsimp only [LX] at N' l1)
  (first | refine W_start fun Q0 E0 k1 k2 k3 hPO => ?_ | refine P_start fun Q0 E0 k1 k2 k3 hPO => ?_)
  k_extra "x43"
  all_goals (first | exact ex_leaving rfl rfl (.inr (.inl W'.ex)) fun h'' x'' => hret Y e dd _ h'' tk' W'.stood W'.core x'' hp' | exact ex_leaving rfl rfl (.inr (.inr W'.ex)) fun h'' x'' => hret Y e dd _ h'' tk' W'.stood W'.core x'' hp')
end
theorem off_LM : True := by
  w_top off
  trivial
section
variable {x dx : Addr}
set_option maxHeartbeats 8000000 in
theorem limits_init_spec (prog : Program) (w : World) :
    Spec prog w 36 [.ref x] [(x, instObj 53 dx), (dx, emptyDict)] 5 50 (fun v e => v = .none ∧ ∃ kl, e = [(x, instObj 53 dx), (dx, dictOf (LMD kl) 10)]) := by
  intro p loose mean mg mb dp un outer base g s R B' X' T' sub sz hC hdp hun hret
  refine' enter (binds := [(Str.ofString "self", Value.ref x), (Str.ofString "width", Value.int 64 210), (Str.ofString "registers", Value.int 250 211), (Str.ofString "upvalues", Value.int 60 212), (Str.ofString "local_names", Value.int 200 213), (Str.ofString "ccalls", Value.int 40 214), (Str.ofString "frames", Value.int 200 215), (Str.ofString "stack", Value.int 2000 216), (Str.ofString "flush", Value.int 50 217), (Str.ofString "steps", Value.int 1000000000 218), (Str.ofString "text", Value.int 1000000 219)]) X' T' sub sz hC ?k6 ?k7 ?k8 ?k9 ?kB ?_ ?c5 ?c2 ?c3 ?c4
  (case k6 => k_is)
  (case k7 => k_is)
  (case k8 => exact room0 hdp)
  (case k9 => exact binds_K (X'.keeps sub) rfl (by k_is) rfl rfl rfl)
  (case kB => exact locs rfl)
  (case c5 => decide)
  (case c2 => exact rfl)
  (case c3 => exact rfl)
  (case c4 => exact rfl)
  intro L' h' F' N' l1
  (try k_lt l1)
  clear sub sz hC
  (try dsimp only)
  (try k_fold)
  (try dsimp only [LX] at N' l1)
  k_extra "x3"
  (refine' hret _ ([(x, instObj 53 dx), (dx, dictOf (LMD ⟨?a0_1, ?a1_1, ?a2_1, ?a3_1, ?a4_1, ?a5_1, ?a6_1, ?a7_1, ?a8_1, ?a9_1, ?z0_1, ?z1_1, ?z2_1, ?z3_1, ?z4_1, ?z5_1, ?z6_1, ?z7_1, ?z8_1, ?z9_1, ?t0_1, ?t1_1, ?t2_1, ?t3_1, ?t4_1, ?t5_1, ?t6_1, ?t7_1, ?t8_1, ?t9_1⟩) 10)]) _ _ (Fr.keep (by assumption)) (fr_size (by assumption)) ?dH_1 ⟨rfl, _, rfl⟩; (case dH_1 => exact has_of (by assumption) (by (repeat' (first | exact List.forall_mem_nil _ | refine' List.forall_mem_cons.mpr ⟨?_, ?_⟩ | k_mem | (rw [‹LC.chk _ = _›]; k_mem))))))
end
noncomputable def lm0 (sa : Addr) (y : Str) : Option Value := if y = Str.ofString "script" then some (.ref sa) else none
noncomputable def otherL (LL : Addr) (oX oR : Obj) (xs : List Tk1) : List (Addr × Obj) := [(LL + 1 + 1, oX), (LL + 1, oR), (506, tabObj #[])] ++ xs.map Tk1.obj
theorem mem3 {α : Type} {a b c q : α} {l : List α} (h : q ∈ a :: b :: c :: l) : q ∈ [a, b, c] ∨ q ∈ l := by
  rw [show a :: b :: c :: l = [a, b, c] ++ l from rfl] at h
  exact List.mem_append.mp h
theorem mem_otherL {LL : Addr} {oX oR : Obj} {xs : List Tk1} {x : Tk1} {q : Addr × Obj} (h : q ∈ otherL LL oX oR (xs ++ [x])) : q ∈ otherL LL oX oR xs ∨ q = x.obj := by
  unfold otherL at h ⊢
  rw [List.map_append] at h
  rcases List.mem_append.mp h with h | h
  · exact .inl (List.mem_append_left _ h)
  · rcases List.mem_append.mp h with h | h
    · exact .inl (List.mem_append_right _ h)
    · exact .inr (List.mem_singleton.mp h)
theorem tup_apart {h₀ h : Heap} {L D r sl : Addr} {vs : List Value} {ws : Array Value} {k : Int} {t : Tok} {n : Nat} (N : News h₀ L h ((D, tupObj ws) :: ropeL r sl vs k t n)) {q : Addr × Obj} (hq : q ∈ ropeL r sl vs k t n) : D ≠ q.1 := fun e => by
  have a := (N _ (.head _)).1
  have b := (N q (.tail _ hq)).1
  rw [← e] at b
  have c : tupObj ws = q.2 := Option.some.inj (a.symm.trans b)
  have d : q.2.cls = .type "list" := by
    rcases List.mem_cons.mp hq with rfl | hq
    · rfl
    · rw [List.mem_singleton.mp hq]
  rw [← c] at d
  exact absurd d (by simp)
/-- what is so behind the second statement -/
noncomputable def Cut2 (gg : Heap) (LL sa r sl : Addr) (vs : List Value) (oX oR : Obj) (s₁ : Shared) (f : Flow) (s' : Shared) : Prop :=
  f = .next ∧ ∃ h' tk D xs kk u n', s' = { s₁ with heap := h', toks := tk } ∧ xs ≠ [] ∧ xs.length ≤ 4 ∧ (∀ x ∈ xs, Tk1.ok x) ∧ 0 ≤ kk ∧ kk ≤ 60 ∧
    Fr gg LL h' (fun y => if y = Str.ofString "tokens" then some (.ref D) else lm0 sa y) ∧ News gg LL h' ((D, LCg.lst (xs.map Tk1.ref)) :: (ropeL r sl vs kk u n' ++ otherL LL oX oR xs)) ∧
    LCg.Off1 D (ropeL r sl vs kk u n' ++ otherL LL oX oR xs) ∧ Apart (otherL LL oX oR xs) (ropeL r sl vs kk u n')
noncomputable def J2 (LL r sl : Addr) (vs : List Value) (oX oR : Obj) (N : Nat) (k i : Nat) (ys : List Value) (news : List (Addr × Obj)) : Prop :=
  ∃ xs kk u n', k + i = N ∧ ys = xs.map Tk1.ref ∧ xs.length = i ∧ (∀ x ∈ xs, Tk1.ok x) ∧ 0 ≤ kk ∧ kk ≤ 1 + 10 * (i : Int) ∧ news = ropeL r sl vs kk u n' ++ otherL LL oX oR xs ∧ Apart (otherL LL oX oR xs) (ropeL r sl vs kk u n')
/-- what is so behind the joined text -/
noncomputable def CutJ (gg : Heap) (LL : Addr) (m : Str → Option Value) (news : List (Addr × Obj)) (T : List UInt8) (s₁ : Shared) (v : Value) (s' : Shared) : Prop :=
  ∃ t h tk, v = .bytes (List.toArray T) t ∧ s' = { s₁ with heap := h, toks := tk } ∧ Fr gg LL h m ∧ News gg LL h news
noncomputable def J3 (NN : List (Addr × Obj)) (xs : List Tk1) (k i : Nat) (ys : List Value) (news : List (Addr × Obj)) : Prop := news = NN ∧ k + i = xs.length ∧ BAre ys ((xs.take i).map (·.laid))
theorem BAre.snoc {b : List UInt8} {t : Tok} : ∀ {vs bs}, BAre vs bs → BAre (vs ++ [.bytes b.toArray t]) (bs ++ [b])
  | _, _, .nil => .cons b t _ _ .nil
  | _, _, .cons b2 t2 _ _ h => .cons b2 t2 _ _ h.snoc
theorem TK.small {laid : List UInt8} {kind : Int} {tv : TV} {near : Option (List UInt8)} (h : TK laid kind tv near) : laid.length ≤ 20 := by
  cases h with
  | q q L R _ h1 h2 h3 => simp; omega
  | b lv inner hl h =>
    have h1 : lv.length ≤ 1 := by rcases hl with rfl | rfl <;> decide
    have h2 : inner.length ≤ 3 := by rcases h with rfl | rfl | rfl | rfl <;> decide
    simp; omega
  | w name h => rcases h with rfl | rfl | rfl <;> decide
  | n ds z h => exact Nat.le_trans h.pv.2.1 (by decide)
  | o => simp
theorem join_small : ∀ (xs : List Tk1), (∀ x ∈ xs, Tk1.ok x) → (joinB (xs.map (·.laid))).length ≤ 21 * xs.length
  | [], _ => Nat.zero_le _
  | [x], h => by
    have := (h x (.head _)).1.small
    simp [joinB]; omega
  | x :: y :: r, h => by
    have h1 := (h x (.head _)).1.small
    have h2 := join_small (y :: r) fun z hz => h z (.tail _ hz)
    show (x.laid ++ 32 :: joinB ((y :: r).map (·.laid))).length ≤ _
    simp only [List.length_append, List.length_cons] at h2 ⊢
    omega
theorem TK.cons {laid : List UInt8} {kind : Int} {tv : TV} {near : Option (List UInt8)} (h : TK laid kind tv near) : ∃ y T, laid = y :: T := by
  cases h with
  | w name h => rcases h with rfl | rfl | rfl <;> exact ⟨_, _, rfl⟩
  | n ds z h => cases h <;> exact ⟨_, _, rfl⟩
  | _ => exact ⟨_, _, rfl⟩
theorem join_cons : ∀ {xs : List Tk1}, (∀ x ∈ xs, Tk1.ok x) → xs ≠ [] → ∃ y T, joinB (xs.map (·.laid)) = y :: T
  | [], _, h => absurd rfl h
  | [x], h, _ => (h x (.head _)).1.cons
  | x :: z :: r, h, _ => by
    obtain ⟨y, T, e⟩ := (h x (.head _)).1.cons
    refine ⟨y, T ++ 32 :: joinB ((z :: r).map (·.laid)), ?_⟩
    show x.laid ++ 32 :: joinB ((z :: r).map (·.laid)) = _
    rw [e]; rfl
section
variable {M : Model} {A : Around} {E : Value → Shared → Prop} {s : Shared} {h₀ : Heap} {L a : Addr} {m : Str → Option Value} {cn : Str} {cs : Scope} {ccd : Value} {cl : List (Str × Addr)} {x : Str} {v : Value} {Q : Unit → Shared → Prop} {rest : List (Addr × Obj)} {c : Addr} {o : Obj} {v₀ : Option Value}
/-- a cell is stored into; what lies apart stays -/
theorem st_cell (F : Fr h₀ L s.heap m) (N : News h₀ L s.heap ((c, o) :: rest)) (ap : ∀ q ∈ rest, q.1 ≠ c) (hc : cl.lookup x = some c) (hd : o.data = .cell v₀)
    (h : ∀ h' o', Fr h₀ L h' m → News h₀ L h' ((c, o') :: rest) → o'.data = .cell (some v) → Q () { s with heap := h' })
    (hk : cs.kind = .function := by rfl) (hx : (envX cn cs L a ccd cl).kindOf x = some .cell := by rfl) : wpAny M A (storeName (envX cn cs L a ccd cl) x v) Q E s := by
  have hmem := N (c, o) (.head _)
  refine wpAny_storeName_cell hk hx hc ⟨o, hmem.1, hd⟩ fun h' hv hs => ?_
  obtain ⟨o', ho', hd'⟩ := hv
  refine h h' o' ⟨F.ns.sameBut hs (Ne.symm hmem.2.1), fun b ob e => (hs.2 b (fun q => ?_)).trans (F.keep b ob e), F.above⟩ (fun q hq => ?_) hd'
  · rw [q, hmem.2.2] at e; cases e
  · rcases List.mem_cons.mp hq with rfl | hq
    · exact ⟨ho', hmem.2⟩
    · exact ⟨(hs.2 q.1 (ap q hq)).trans (N q (.tail _ hq)).1, (N q (.tail _ hq)).2⟩
end
/-- what the loop over the tokens leaves alone -/
noncomputable def restC (LL D r sl : Addr) (vs : List Value) (kk : Int) (u : Tok) (n' : Nat) (oR : Obj) (xs : List Tk1) : List (Addr × Obj) :=
  (D, LCg.lst (xs.map Tk1.ref)) :: (ropeL r sl vs kk u n' ++ (LL + 1, oR) :: xs.map Tk1.obj)
noncomputable def mapT (sa D : Addr) (y : Str) : Option Value := if y = Str.ofString "tokens" then some (.ref D) else lm0 sa y
/-- what is so behind the third statement -/
noncomputable def Cut3 (w : World) (gg : Heap) (LL sa D r sl : Addr) (vs : List Value) (kk : Int) (u : Tok) (n' : Nat) (oR : Obj) (xs : List Tk1) (s₁ : Shared) (f : Flow) (s' : Shared) : Prop :=
  f = .next ∧ ∃ h tk c b ti ts t1 t2 tk0 tq oX, s' = { s₁ with heap := h, toks := tk } ∧ Fr gg LL h (mapT sa D) ∧ oX.data = .cell (some (.ref c.x)) ∧ c.T = joinB (xs.map (·.laid)) ∧ c.chk = .bytes #[113] tq ∧ KF w c.kn c.kd ∧
    News gg LL h (LX c b [] 0 ti (hdv c.T) ts (.int 1 t1) (.int 1 t2) (.ref tk0) .none) ∧ News gg LL h ((LL + 1 + 1, oX) :: (506, tabObj #[]) :: restC LL D r sl vs kk u n' oR xs) ∧
    Apart ((LL + 1 + 1, oX) :: (506, tabObj #[]) :: restC LL D r sl vs kk u n' oR xs) (LX c b [] 0 ti (hdv c.T) ts (.int 1 t1) (.int 1 t2) (.ref tk0) .none) ∧ (∀ q ∈ restC LL D r sl vs kk u n' oR xs, q.1 ≠ LL + 1 + 1 ∧ q.1 ≠ 506)
theorem restC_sub {LL D r sl : Addr} {vs : List Value} {kk : Int} {u : Tok} {n' : Nat} {oX oR : Obj} {xs : List Tk1} : ∀ q ∈ (LL + 1 + 1, oX) :: (506, tabObj #[]) :: restC LL D r sl vs kk u n' oR xs, q ∈ (D, LCg.lst (xs.map Tk1.ref)) :: (ropeL r sl vs kk u n' ++ otherL LL oX oR xs) := by
  intro q hq
  simp only [restC, otherL, List.mem_cons, List.mem_append, List.not_mem_nil, or_false] at hq ⊢
  rcases hq with h | h | h | h | h | h <;> simp [h]
theorem off1_at {D : Addr} {l : List (Addr × Obj)} (h : LCg.Off1 D l) : ∀ p ∈ l, p.1 ≠ D := by
  induction l with
  | nil => exact fun _ h => nomatch h
  | cons q r ih =>
    intro p hp
    rcases List.mem_cons.mp hp with rfl | hp
    · exact h.1
    · exact ih h.2 p hp
theorem data_ne {h₀ h : Heap} {L a b : Addr} {o o' : Obj} {l : List (Addr × Obj)} (N : News h₀ L h l) (h1 : (a, o) ∈ l) (h2 : (b, o') ∈ l) (hd : o.data ≠ o'.data) : a ≠ b := fun e => by
  have x := (N _ h1).1
  have y := (N _ h2).1
  dsimp only at x y
  rw [e, y] at x
  exact hd (congrArg Obj.data (Option.some.inj x)).symm
theorem rest_apart {h₀ h : Heap} {L LL D r sl : Addr} {vs : List Value} {kk : Int} {u : Tok} {n' : Nat} {oX oR : Obj} {xs : List Tk1} {v0 : Option Value} (N : News h₀ L h ((D, LCg.lst (xs.map Tk1.ref)) :: (ropeL r sl vs kk u n' ++ otherL LL oX oR xs)))
    (o2 : LCg.Off1 D (ropeL r sl vs kk u n' ++ otherL LL oX oR xs)) (hap : Apart (otherL LL oX oR xs) (ropeL r sl vs kk u n')) (hX : oX.data = .cell v0) (hLL : @LT.lt Nat _ 506 LL) :
    ∀ q ∈ restC LL D r sl vs kk u n' oR xs, q.1 ≠ LL + 1 + 1 ∧ q.1 ≠ 506 := by
  have m1 : (LL + 1 + 1, oX) ∈ otherL LL oX oR xs := .head _
  have m2 : (506, tabObj #[]) ∈ otherL LL oX oR xs := .tail _ (.tail _ (.head _))
  have w1 := List.mem_cons_of_mem (D, LCg.lst (xs.map Tk1.ref)) (List.mem_append_right (ropeL r sl vs kk u n') m1)
  have w2 := List.mem_cons_of_mem (D, LCg.lst (xs.map Tk1.ref)) (List.mem_append_right (ropeL r sl vs kk u n') m2)
  intro q hq
  unfold restC at hq
  rcases List.mem_cons.mp hq with rfl | hq
  · exact ⟨(off1_at o2 _ (List.mem_append_right _ m1)).symm, (off1_at o2 _ (List.mem_append_right _ m2)).symm⟩
  · rcases List.mem_append.mp hq with hq | hq
    · exact ⟨(hap _ m1 q hq).symm, (hap _ m2 q hq).symm⟩
    · rcases List.mem_cons.mp hq with rfl | hq
      · exact ⟨Nat.ne_of_lt (Nat.lt_succ_self _), Nat.ne_of_gt (Nat.lt_succ_of_lt hLL)⟩
      · have mq : q ∈ (D, LCg.lst (xs.map Tk1.ref)) :: (ropeL r sl vs kk u n' ++ otherL LL oX oR xs) := .tail _ (List.mem_append_right _ (List.mem_append_right _ hq))
        obtain ⟨x, _, rfl⟩ := List.mem_map.mp hq
        exact ⟨data_ne N mq w1 (by rw [hX]; nofun), data_ne N mq w2 (by nofun)⟩
theorem reg_fe2a345c_LH : True := by
  k_with "q eval Name" =>
    (k_here; k_dflt (refine' nameX_F ?zzN ?zzc ?zzm ?zzd ?_ ?zza ?zzb; (case zza => rfl); (case zzb => rfl); (case zzN => k_asm); (case zzc => rfl); (case zzm => k_mem); (case zzd => assumption)); (try dsimp only))
  trivial
noncomputable abbrev noPar : Arguments := ⟨[], [], none, [], [], none, []⟩
noncomputable abbrev lamScope : Scope := { kind := .function, names := [(Str.ofString "lexer", .free)], isGenerator := false, isCoroutine := false }
noncomputable abbrev lamBody : PySem.Expr := .Call (.Attribute (.Name (Str.ofString "lexer") ⟨484, 30, 484, 35⟩) (Str.ofString "syntax_error") ⟨484, 30, 484, 48⟩) [.Constant (.bytes [115, 111]) 0 ⟨484, 49, 484, 54⟩] [] ⟨484, 30, 484, 55⟩
/-- the table of the law's code: empty, or one code in it -/
noncomputable def LamTab (ps : Array Value) (codes : List (Addr × Obj)) (p1 p2 : Value) (qual : Str) : Prop :=
  (ps = #[] ∧ codes = []) ∨ ∃ c' oc vs t, ps = #[p1, p2, .ref c'] ∧ codes = [(c', oc)] ∧ oc.data = .fields vs ∧ vs[1]? = some (.str qual t)
section
variable {M : Model} {A : Around} {E : Value → Shared → Prop} {s : Shared} {h₀ : Heap} {L a : Addr} {m mg mb : Str → Option Value} {cn : Str} {cs : Scope} {ccd : Value} {cl : List (Str × Addr)} {rest codes : List (Addr × Obj)}
  {p : Program} {loose : List Str} {mean : ExcName → Option Value} {params : Arguments} {body : PySem.Expr} {scope : Scope} {ps : Array Value} {pos : Pos} {clos : List (Str × Addr)} {Q : Value → Shared → Prop}
/-- a lambda is made -/
theorem lam_make (F : Fr h₀ L s.heap m) (N : News h₀ L s.heap ((506, tabObj ps) :: (codes ++ rest))) (h6 : ∀ q ∈ rest, q.1 ≠ 506) (hap : Apart codes rest) (T : Top p loose mean mg mb h₀) (C : CodeHd h₀ 508 506) (hcd : ccd = .ref 508)
    (LT : LamTab ps codes (rawInt pos.line) (rawInt pos.col) ((envX cn cs L a ccd cl).qual ++ "<lambda>")) (hdef : defaultsOf params (envX cn cs L a ccd cl) = ([], [])) (hcl : closureFor scope (envX cn cs L a ccd cl) = pure clos)
    (h : ∀ f c' oc vs t ctv h' tk, Fr h₀ L h' m →
      News h₀ L h' ((f, kla_obj "<lambda>" ((envX cn cs L a ccd cl).qual ++ "<lambda>") params body scope clos ((mg "__name__").getD .none) c' ctv) :: (c', oc) :: (506, tabObj #[rawInt pos.line, rawInt pos.col, .ref c']) :: rest) →
      oc.data = .fields vs → vs[1]? = some (.str ((envX cn cs L a ccd cl).qual ++ "<lambda>") t) → @Ne Nat f c' → @Ne Nat f 506 → @Ne Nat c' 506 → (∀ q ∈ rest, @Ne Nat q.1 f ∧ @Ne Nat q.1 c') → Q (.ref f) { s with heap := h', toks := tk }) :
    wpAny M A (eval (.Lambda params body scope pos) (envX cn cs L a ccd cl)) Q E s := by
  refine kla_eval hdef ?_
  have m6 : News h₀ L s.heap ((506, tabObj ps) :: (codes ++ rest)) := N
  rcases LT with ⟨rfl, rfl⟩ | ⟨c', oc, vs, t, rfl, rfl, hd, hv⟩
  · refine kla_nest F N T C hcd (.head h6) trivial rfl hcl fun f c' oc vs t ctv h' tk F' N' hd hv l1 l2 => ?_
    have l6 := l1 _ (.head _)
    exact h f c' oc vs t ctv h' tk F' N' hd hv (Nat.ne_of_gt l2) (Nat.ne_of_gt (Nat.lt_trans l6 l2)) (Nat.ne_of_gt l6) fun q hq => ⟨Nat.ne_of_lt (Nat.lt_trans (l1 _ (.tail _ hq)) l2), Nat.ne_of_lt (l1 _ (.tail _ hq))⟩
  · have n6 : @Ne Nat c' 506 := fun e => by
      have x := (N _ (.head _)).1
      have y := (N _ (.tail _ (.head _))).1
      dsimp only at x y
      rw [e, x] at y
      have := Option.some.inj y
      rw [← this] at hd
      cases hd
      simp [rawInt] at hv
    refine kla_hit F N T C hcd (.head _) (by simp [TriplesOk, rawInt]) (c' := c') (by simp [codeAmong, rawInt]) hcl fun f ctv h' tk F' N' l1 => ?_
    refine h f c' oc vs t ctv h' tk F' (fun q hq => N' q ?_) hd hv (Nat.ne_of_gt (l1 _ (.tail _ (.head _)))) (Nat.ne_of_gt (l1 _ (.head _))) n6 fun q hq => ⟨Nat.ne_of_lt (l1 _ (.tail _ (.tail _ hq))), fun e => hap _ (.head _) q hq e.symm⟩
    rcases List.mem_cons.mp hq with rfl | hq
    · exact .head _
    · rcases List.mem_cons.mp hq with rfl | hq
      · exact .tail _ (.tail _ (.head _))
      · rcases List.mem_cons.mp hq with rfl | hq
        · exact .tail _ (.head _)
        · exact .tail _ (.tail _ (.tail _ hq))
end
section
variable {prog : Program} {w : World} {dp un : Nat} {outer : List Env} {g : Heap} {p : Program} {loose : List Str} {mean : ExcName → Option Value} {mg mb : Str → Option Value}
  {s : Shared} {core : List (Addr × Obj)} {R : Result → Shared → Prop} {qual : Str} {params : Arguments} {body : PySem.Expr} {scope : Scope} {cl : List (Str × Addr)} {pm ctv : Value} {f c' : Addr} {oc : Obj} {vs : Array Value} {t : Tok}
theorem lam_enter (T : Top p loose mean mg mb g) (sub : Sub g s.heap) (sz : g.objs.size ≤ s.heap.objs.size) (N : Has g s.heap core) (ho : (f, kla_obj "<lambda>" qual params body scope cl pm c' ctv) ∈ core) (hoc : (c', oc) ∈ core)
    (hd : oc.data = .fields vs) (hv : vs[1]? = some (.str qual t)) (hroom : dp < recursionLimit) (hbind : bindArgs (kla_fn "<lambda>" qual params body scope cl pm (.ref c') ctv) ⟨[], []⟩ = pure [])
    (h : ∀ L' h₁, Fr g L' h₁ (fun _ => none) → News g L' h₁ core → (∀ q ∈ core, q.1 < L') →
      wpAny (model prog w) ((amb dp un outer).deeper (envX qual scope L' f (.ref c') cl)) (eval body (envX qual scope L' f (.ref c') cl)) (fun v s' => R (.ok (.ret v)) s')
        (fun e s' => wpAny (model prog w) ((amb dp un outer).deeper (envX qual scope L' f (.ref c') cl)) (leaving (envX qual scope L' f (.ref c') cl) e) (fun _ s'' => R (.error e) s'') (fun e' s'' => R (.error e') s'') s')
        { s with heap := h₁, toks := s.toks })
    (hcell : ∀ x ∈ scope.names, x.2 ≠ .cell) (hco : scope.isCoroutine = false) (hgen : scope.isGenerator = false) (hk : scope.kind = .function) :
    codeAny (model prog w) (amb dp un outer) (.call (.ref f) ⟨[], []⟩) R s := by
  refine kla_callFunE hroom (N _ ho).1 rfl hco hgen rfl ⟨c', oc, vs, t, rfl, (N _ hoc).1, hd, hv⟩ ?_
  rw [hbind]
  refine wpAny_pure (wpAny_newFunctionEnv hcell (fun _ h => nomatch h) (fun h₁ hns hsb => ⟨(T.nolimit.keeps sub).fresh _ hsb, ?_⟩) hk)
  have hk₁ : ∀ b o, s.heap.get? b = some o → h₁.get? b = some o := fun b o e => hsb.extBut b o (Nat.ne_of_lt (Heap.lt_size e)) (Heap.get?_push_of_some _ e)
  exact kla_codeExpr (h s.heap.objs.size h₁ ⟨hns, fun b o e => hk₁ b o (sub b o e), sz⟩ (fun q hq => ⟨hk₁ _ _ (N q hq).1, Nat.ne_of_lt (Heap.lt_size (N q hq).1), (N q hq).2⟩) fun q hq => Heap.lt_size (N q hq).1)
end
section
variable {c : LC} {b : Addr} {B : List UInt8} {i sg z : Int} {ti ts t tl u1 : Tok} {ll ahd vv pm ctv : Value} {tx dtx f c' cx : Addr} {kk : HK} {oc oX : Obj} {M : Array UInt8} {fs : Array Value} {qual : Str}
set_option maxHeartbeats 8000000 in
theorem lam_spec (prog : Program) (w : World)
    (S : ∀ tt, SpecE prog w 308 [.ref c.x, .bytes (List.toArray [115, 111]) tt] (TKL tx dtx kk (.int z u1) vv (LX c b B i ti sg ts (.int 1 tl) ll (.ref tx) ahd)) 34 340
      (fun d e => ∃ k M' tm, M' = M ∧ e = (d, dictOf (XD k (.bytes M' tm)) 3) :: LX c b B i ti sg ts (.int 1 tl) ll (.ref tx) ahd))
    (hX : oX.data = .cell (some (.ref c.x))) (hd : oc.data = .fields fs) (hv : fs[1]? = some (.str qual t))
    (hap : Apart [(c', oc), (cx, oX)] (TKL tx dtx kk (.int z u1) vv (LX c b B i ti sg ts (.int 1 tl) ll (.ref tx) ahd))) :
    SpecE prog w f [] ((f, kla_obj "<lambda>" qual noPar lamBody lamScope [(Str.ofString "lexer", cx)] pm c' ctv) :: (c', oc) :: (cx, oX) ::
        TKL tx dtx kk (.int z u1) vv (LX c b B i ti sg ts (.int 1 tl) ll (.ref tx) ahd)) 40 400
      (fun d e => ∃ k tm, e = (d, dictOf (XD k (.bytes M tm)) 3) :: (c', oc) :: (cx, oX) :: LX c b B i ti sg ts (.int 1 tl) ll (.ref tx) ahd) := by
  intro p loose mean mg mb dp un outer base g s R B' X' T' sub sz hC hdp hun hret
  refine lam_enter T' sub sz hC (.head _) (.tail _ (.head _)) hd hv (by omega) rfl ?_ (by decide) rfl rfl rfl
  intro L' h' F' N' l1
  have NN := N'
  (try dsimp only [TKL, LX] at N')
  (repeat' ((fail_if_success (with_reducible show wpAny _ _ (call (Value.ref 308) _) _ _ _)); first 
    | walk_at "astep"))
  refine' SpecE.use (S _) ?uB ?uF ?uX ?uN ?uT ?uh ?uA ?ug ?uf ?uk ?us ?ud ?uu ?_
  (case uF => k_asm)
  (case uA => rfl)
  (case uB => k_asm)
  (case uX => k_asm)
  (case uN => exact NN)
  (case uT => k_asm)
  (case uh => rfl)
  (case ug => rfl)
  (case uf => rfl)
  (case uk => rfl)
  (case us => exact fun q hq => .tail _ (.tail _ (.tail _ hq)))
  (case ud => k_room)
  (case uu => k_units)
  intro Y e dd core' h2 tk2 hp W'
  obtain ⟨k, M', tm, rfl, rfl⟩ := hp
  refine ex_leaving rfl rfl (.inr (.inl W'.ex)) fun h3 x3 => hret Y e dd _ h3 _ W'.stood (fun q hq => ?_) x3 ⟨k, tm, rfl⟩
  rcases List.mem_cons.mp hq with rfl | hq
  · exact W'.core _ (.head _)
  · rcases List.mem_cons.mp hq with rfl | hq
    · exact W'.rest _ (.tail _ (.head _)) (hap _ (.head _))
    · rcases List.mem_cons.mp hq with rfl | hq
      · exact W'.rest _ (.tail _ (.tail _ (.head _))) (hap _ (.tail _ (.head _)))
      · exact W'.core q (.tail _ hq)
end
theorem inn_pr {E W R a b : List UInt8} (h : Pr a b) (hW : Inn E W R) (hd : hdv W < 48 ∨ 57 < hdv W) : Inn E (a ++ W) (b ++ R) ∧ (hdv (a ++ W) < 48 ∨ 57 < hdv (a ++ W)) := by
  cases h with
  | a => exact ⟨.ch _ _ _ (.inl rfl) hW, .inr (show (57 : Int) < sv _ by decide)⟩
  | b => exact ⟨.ch _ _ _ (.inr (.inl rfl)) (.ch _ _ _ (.inr (.inr (.inl rfl))) hW), .inl (show sv _ < (48 : Int) by decide)⟩
  | z => exact ⟨.ch _ _ _ (.inr (.inr (.inr rfl))) hW, .inl (show sv _ < (48 : Int) by decide)⟩
  | e0 => exact ⟨.esc _ _ _ _ (.d1 _ hd) hW, .inr (show (57 : Int) < sv _ by decide)⟩
  | e000 => exact ⟨.esc _ _ _ _ (.d3 _) hW, .inr (show (57 : Int) < sv _ by decide)⟩
  | t => exact ⟨.esc _ _ _ _ (.t _) hW, .inr (show (57 : Int) < sv _ by decide)⟩
  | n => exact ⟨.esc _ _ _ _ (.d2 _ hd) hW, .inr (show (57 : Int) < sv _ by decide)⟩
theorem inn_InP {E V S : List UInt8} (h : InP V S) : ∀ {W R}, Inn E W R → (hdv W < 48 ∨ 57 < hdv W) → Inn E (V ++ W) (S ++ R) := by
  induction h with
  | nil => intro W R hW _; exact hW
  | snoc L R0 a b hp _ ih =>
    intro W R hW hd
    rw [List.append_assoc, List.append_assoc]
    obtain ⟨h1, h2⟩ := inn_pr hp hW hd
    exact ih h1 h2
theorem inn_all {V S W : List UInt8} {q : UInt8} (h : InP V S) (hq : sv q < 48 ∨ 57 < sv q) : Inn (q :: W) (V ++ q :: W) S := by
  have e := inn_InP h (Inn.nil (E := q :: W)) (by rw [hdv_cons]; exact hq)
  rw [List.append_nil] at e
  exact e
/-- what a refusal tells near a token of this kind -/
noncomputable def NearK (kind : Int) (near : Option (List UInt8)) (Bf : List UInt8) : Prop := (kind = 0 ∧ near = none) ∨ (NK kind ∧ near = some (nearOf kind Bf))
theorem nearOf_big {z : Int} {B : List UInt8} (h : 200 < z) : nearOf z B = up0 B := by
  unfold nearOf
  rw [if_neg (by omega), if_neg (by omega), if_neg (by omega), if_neg (by omega)]
theorem up0_1 {x : UInt8} (h : 48 ≤ sv x) : up0 [x] = [x] := by
  have hx : x ≠ 0 := fun q => by subst q; exact absurd h (by decide)
  unfold up0
  rw [List.takeWhile_cons_of_pos (p := fun x => x != 0) (by simpa using hx)]
  rfl
theorem up0_2 {x y : UInt8} (h : 48 ≤ sv x) (h2 : 48 ≤ sv y) : up0 [x, y] = [x, y] := by
  have hx : x ≠ 0 := fun q => by subst q; exact absurd h (by decide)
  unfold up0
  rw [List.takeWhile_cons_of_pos (p := fun x => x != 0) (by simpa using hx)]
  exact congrArg (x :: ·) (up0_1 h2)
theorem tk_tokn {laid W : List UInt8} {kind : Int} {tv : TV} {near : Option (List UInt8)} (h : TK laid kind tv near) (hW : Sep W) : ∃ Bf, Tokn (laid ++ W) W kind tv Bf ∧ Bf.length ≤ 100 ∧ NearK kind near Bf := by
  cases h with
  | q q L R hq h1 h2 h3 =>
    refine ⟨q :: R ++ [q], ?_, by simp; omega, .inr ⟨by unfold NK; omega, ?_⟩⟩
    · rw [List.cons_append, List.append_assoc]
      exact .q q _ _ _ hq (inn_all h1 (.inl (by rcases hq with rfl | rfl <;> decide))) (by omega)
    · rw [nearOf_big (by decide)]; rfl
  | b lv inner hlv hi =>
    have hb : (∀ x ∈ inner, x = 97 ∨ x = 0 ∨ x = 98) ∧ inner.length ≤ 3 := by rcases hi with rfl | rfl | rfl | rfl <;> simp
    obtain ⟨n, hn, rfl⟩ : ∃ n, n ≤ 1 ∧ lv = List.replicate n 61 := by
      rcases hlv with rfl | rfl
      · exact ⟨0, by decide, rfl⟩
      · exact ⟨1, by decide, rfl⟩
    refine ⟨91 :: List.replicate n 61 ++ [91] ++ inner ++ 93 :: List.replicate n 61 ++ [93], ?_, by simp; omega, .inr ⟨by unfold NK; omega, ?_⟩⟩
    · have e : (91 :: (List.replicate n 61 ++ 91 :: (inner ++ 93 :: (List.replicate n 61 ++ [93])))) ++ W = 91 :: (List.replicate n 61 ++ 91 :: (inner ++ 93 :: (List.replicate n 61 ++ 93 :: W))) := by simp
      rw [e]
      exact .b n _ _ (by omega) hb.1 (by omega)
    · rw [nearOf_big (by decide)]; simp
  | w name hn =>
    rcases hn with rfl | rfl | rfl
    · exact ⟨[120], .w 120 [] W hW (by decide) (by intro y hy; rcases List.mem_cons.mp hy with rfl | hy; · unfold NS; decide
                                                   · cases hy) (by decide) (by decide), by decide, .inr ⟨by unfold NK; omega, by rw [nearOf_big (by decide)]; rfl⟩⟩
    · refine ⟨[101, 110, 100, 49], .w 101 [110, 100, 49] W hW (by decide) (by intro y hy; simp only [List.mem_cons, List.not_mem_nil, or_false] at hy; rcases hy with rfl | rfl | rfl | rfl <;> (unfold NS; decide)) (by decide) (by decide), by decide, .inr ⟨by unfold NK; omega, by rw [nearOf_big (by decide)]; rfl⟩⟩
    · exact ⟨[95], .w 95 [] W hW (by decide) (by intro y hy; rcases List.mem_cons.mp hy with rfl | hy; · unfold NS; decide
                                                 · cases hy) (by decide) (by decide), by decide, .inr ⟨by unfold NK; omega, by rw [nearOf_big (by decide)]; rfl⟩⟩
  | n _ z hN =>
    refine ⟨laid, .n laid z W hW hN, Nat.le_trans hN.pv.2.1 (by decide), .inr ⟨by unfold NK; omega, ?_⟩⟩
    rw [nearOf_big (by decide)]
    cases hN with
    | one hx => rw [up0_1 hx.1]
    | two hx hy => rw [up0_2 hx.1 hy.1]
  | o x near ho =>
    refine ⟨[], .o x W ?_, by decide, ?_⟩
    · rcases ho with ⟨rfl, -⟩ | ⟨rfl, -⟩ | ⟨rfl, -⟩ | ⟨rfl, -⟩ | ⟨rfl, -⟩ <;> decide
    · rcases ho with ⟨rfl, rfl⟩ | ⟨rfl, rfl⟩ | ⟨rfl, rfl⟩ | ⟨rfl, rfl⟩ | ⟨rfl, rfl⟩
      · exact .inl ⟨rfl, rfl⟩
      all_goals exact .inr ⟨by unfold NK; decide, rfl⟩
/-- what lies behind a token -/
noncomputable def tailB : List (List UInt8) → List UInt8
  | [] => []
  | r => 32 :: joinB r
theorem tailB_sep : ∀ (r : List (List UInt8)), Sep (tailB r)
  | [] => .inl rfl
  | _ :: _ => .inr ⟨_, rfl⟩
theorem joinB_tail : ∀ (b : List UInt8) (r : List (List UInt8)), joinB (b :: r) = b ++ tailB r
  | b, [] => (List.append_nil b).symm
  | _, _ :: _ => rfl
/-- the text ahead of the i-th token: a blank or nothing, then the token and what lies behind it -/
noncomputable def headB (i : Nat) : List UInt8 := if i = 0 then [] else [32]
theorem headB_or (i : Nat) : headB i = [] ∨ headB i = [32] := by
  unfold headB
  by_cases h : i = 0
  · exact .inl (if_pos h)
  · exact .inr (if_neg h)
/-- what is left to read ahead of the i-th token -/
noncomputable def leftB (i : Nat) (l : List (List UInt8)) : List UInt8 := if i = 0 then joinB l else tailB (l.drop i)
theorem leftB_at {i : Nat} {l : List (List UInt8)} (h : i < l.length) : leftB i l = headB i ++ (l[i] ++ tailB (l.drop (i + 1))) := by
  have hd : l.drop i = l[i] :: l.drop (i + 1) := List.drop_eq_getElem_cons h
  unfold leftB headB
  by_cases h0 : i = 0
  · subst h0
    rw [if_pos rfl, if_pos rfl, List.nil_append, ← joinB_tail]
    rw [List.drop_zero] at hd
    exact congrArg joinB hd
  · rw [if_neg h0, if_neg h0, hd]
    show 32 :: joinB _ = _
    rw [joinB_tail]
    rfl
theorem leftB_next (i : Nat) (l : List (List UInt8)) : leftB (i + 1) l = tailB (l.drop (i + 1)) := by
  unfold leftB
  rw [if_neg (Nat.succ_ne_zero i)]
theorem P_method {prog : Program} {w : World} {A : Around} {R : Result → Shared → Prop} {s : Shared} {q : Addr} {f self : Value} {pos : List Value} {kw : List (Str × Value)} (ho : s.heap.get? q = some (methodObj f self))
    (h : codeP (model prog w) A (.call f ⟨self :: pos, kw⟩) R s) : codeP (model prog w) A (.call (.ref q) ⟨pos, kw⟩) R s := by
  refine P_of_tree rfl ?_
  show wpP _ A.in1 (callAny (.ref q) ⟨pos, kw⟩) _ _ s
  unfold callAny
  refine P_bindA (wpAny_load ho ?_)
  cases f <;> exact P_pure ⟨rfl, h⟩
/-- what a refusal at a token says -/
noncomputable def dueL : Option (List UInt8) → List UInt8
  | none => [113, 58, 49, 58, 32] ++ [115, 111]
  | some l => [113, 58, 49, 58, 32] ++ [115, 111] ++ [32, 110, 101, 97, 114, 32, 39] ++ l ++ [39]
section
variable {c : LC} {b : Addr} {B : List UInt8} {i sg z : Int} {ti ts t tq tl u1 : Tok} {ll ahd vv pm ctv : Value} {tx dtx f c' cx : Addr} {kk : HK} {oc oX : Obj} {fs : Array Value} {qual : Str} {near : Option (List UInt8)}
theorem sy_near (prog : Program) (w : World) (hn : NearK z near B) (hq : c.chk = .bytes #[113] tq) (hB : B.length ≤ 100000) (tt : Tok) :
    SpecE prog w 308 [.ref c.x, .bytes (List.toArray [115, 111]) tt] (TKL tx dtx kk (.int z u1) vv (LX c b B i ti sg ts (.int 1 tl) ll (.ref tx) ahd)) 34 340
      (fun d e => ∃ k M' tm, M' = List.toArray (dueL near) ∧ e = (d, dictOf (XD k (.bytes M' tm)) 3) :: LX c b B i ti sg ts (.int 1 tl) ll (.ref tx) ahd) := by
  rcases hn with ⟨rfl, rfl⟩ | ⟨hz, rfl⟩
  · exact sy_0 prog w hq hB (by decide)
  · exact sy_z prog w hq hz hB (by decide)
/-- a refusal at a token is heard -/
theorem heard_lam (prog : Program) (w : World) (hn : NearK z near B) (hq : c.chk = .bytes #[113] tq) (hB : B.length ≤ 100000) (hX : oX.data = .cell (some (.ref c.x))) (hd : oc.data = .fields fs) (hv : fs[1]? = some (.str qual t))
    (hap : Apart [(c', oc), (cx, oX)] (TKL tx dtx kk (.int z u1) vv (LX c b B i ti sg ts (.int 1 tl) ll (.ref tx) ahd))) :
    SpecT prog w 504 [.ref f] ((f, kla_obj "<lambda>" qual noPar lamBody lamScope [(Str.ofString "lexer", cx)] pm c' ctv) :: (c', oc) :: (cx, oX) :: TKL tx dtx kk (.int z u1) vv (LX c b B i ti sg ts (.int 1 tl) ll (.ref tx) ahd)) (40 + 10) (400 + 100)
      (fun v e => (∃ tm, v = .bytes (List.toArray (dueL near)) tm) ∧ e = (c', oc) :: (cx, oX) :: LX c b B i ti sg ts (.int 1 tl) ll (.ref tx) ahd) := by
  have S := lam_spec (f := f) (pm := pm) (ctv := ctv) prog w (M := List.toArray (dueL near)) (sy_near (tx := tx) (dtx := dtx) (kk := kk) (vv := vv) (u1 := u1) (i := i) (ti := ti) (sg := sg) (ts := ts) (ll := ll) (ahd := ahd) (tl := tl) (b := b) prog w hn hq hB) hX hd hv hap
  refine heard_spec prog w (fun p loose mean mg mb dp un outer base g s R hC X T sub sz N hdp hun hret => SpecGE.lift S p loose mean mg mb dp un outer base g s R hC X T sub sz N hdp hun ?_) fun h hh => keeps_F h ⟨_, _, _, _, hh.2 _ (.head _)⟩
  rintro Y e dd core' h' tk' a1 a2 a3 ⟨k, tm, rfl⟩
  exact hret Y e dd _ h' tk' a1 a2 a3 ⟨k, tm, _, rfl, rfl⟩
/-- what the refusal of a text without an end says -/
noncomputable def lastL (q : UInt8) (R0 : List UInt8) : List UInt8 := [113, 58, 49, 58, 32] ++ UNF ++ [32, 110, 101, 97, 114, 32, 39] ++ nearOf 286 (q :: R0) ++ [39]
theorem nx_q {V R0 W : List UInt8} {q : UInt8} {cur : Value} (prog : Program) (w : World) (hqq : q = 34 ∨ q = 39) (hq : c.chk = .bytes #[113] tq) (hQ : Inn (10 :: W) V R0) (hA : At c.T i (q :: V)) (hs : sg = sv q) (hT : c.T.length ≤ 80000) (hR : R0.length ≤ 80000) :
    SpecEP prog w 287 [.ref c.x] (LX c b B i ti sg ts (.int 1 tl) ll cur .none) 80 800
      (fun d e => ∃ k M tm b' i' t1 t2, M = List.toArray (lastL q R0) ∧ e = (d, dictOf (XD k (.bytes M tm)) 3) :: LX c b' (q :: R0) i' t1 10 t2 (.int 1 tl) (.int 1 tl) cur .none) := by
  subst hs
  rcases hqq with rfl | rfl
  · exact nxx_34 prog w hq hQ hA hT hR
  · exact nxx_39 prog w hq hQ hA hT hR
/-- a refusal of a text without an end is heard -/
theorem heard_next {V R0 W : List UInt8} {q : UInt8} {cur : Value} (prog : Program) (w : World) (hqq : q = 34 ∨ q = 39) (hq : c.chk = .bytes #[113] tq) (hQ : Inn (10 :: W) V R0) (hA : At c.T i (q :: V)) (hs : sg = sv q) (hT : c.T.length ≤ 80000) (hR : R0.length ≤ 80000) :
    SpecT prog w 504 [.ref f] ((f, methodObj (.ref 287) (.ref c.x)) :: LX c b B i ti sg ts (.int 1 tl) ll cur .none) (80 + 10) (800 + 100)
      (fun v _ => (∃ tm, v = .bytes (List.toArray (lastL q R0)) tm) ∧ True) := by
  have S := nx_q (b := b) (B := B) (ti := ti) (ts := ts) (tl := tl) (ll := ll) (cur := cur) prog w hqq hq hQ hA hs hT hR
  refine heard_spec prog w (fun p loose mean mg mb dp un outer base g s R hC X T sub sz N hdp hun hret => P_method (N _ (.head _)).1 (S p loose mean mg mb dp un outer base g s R hC X T sub sz (fun q hq => N q (.tail _ hq)) hdp hun ?_)) fun h hh => keeps_M (K := hd.heap_1 w.params) (q := f) (f := 287) (self := .ref c.x) (by k_is) h ⟨hh.2 _ (.head _), hh.1⟩
  rintro Y e dd core' h' tk' a1 a2 a3 ⟨k, M, tm, b', i', t1, t2, rfl, rfl⟩
  exact hret Y e dd _ h' tk' a1 a2 a3 ⟨k, tm, _, trivial, rfl⟩
end
theorem P_For {M : Model} {A : Around} {E : Value → Shared → Prop} {s : Shared} {env : Env} {target iter : PySem.Expr} {body orelse : List Stmt} {pos : Pos} {Q : Flow → Shared → Prop}
    (h : wpAny M A (eval iter env) (fun x s₁ => wpAny M A (pyIter x) (fun it s₂ =>
      codeP M A (.forLoop target it body orelse env) (fun r s' => match r with | .ok f => Q f s' | .error e => cameBackBy M A env E e s') s₂) E s₁) E s)
    (hs : ∀ x, foldedSetIterable iter env x = pure x := by intro _; rfl) : wpP M A (exec (.For target iter body orelse pos) env) Q E s := by
  rw [exec_For]
  exact P_bind (P_standAt (P_bindA (wpAny_mono h (fun x s₁ h₁ => P_bindA (wpAny_of_eq (hs x) (P_bind (P_standAt (P_bindA (wpAny_holding (wpAny_mono h₁ (fun it s₂ h₂ => P_runOwn h₂) fun _ _ x => x))))))) fun _ _ x => x)))
section
variable {prog : Program} {w : World} {A : Around} {E : Value → Shared → Prop} {s : Shared} {env : Env} {h₀ : Heap} {L D I : Addr} {elts : List PySem.Expr} {x1 : Nat} {tpos pos : Pos} {body : List Stmt} {ys : List Value}
/-- what a turn of the loop gives -/
noncomputable def TurnEnd (h₀ : Heap) (L I : Addr) (oI : Obj) (s : Shared) (J : (Str → Option Value) → List (Addr × Obj) → Prop) (f : Flow) (s' : Shared) : Prop :=
  f = .next ∧ ∃ h' tk m' n', s' = { s with heap := h', toks := tk } ∧ Fr h₀ L h' m' ∧ News h₀ L h' ((I, oI) :: n') ∧ (∀ q ∈ n', q.1 ≠ I) ∧ J m' n'
/-- a for over a list of tuples, over P -/
theorem P_forLoop_list {R : Result → Shared → Prop} (J : Nat → (Str → Option Value) → List (Addr × Obj) → Prop) (hh : A.handled = none) (hr : ∀ v ∈ ys, ∃ T, v = .ref T)
    (hJ : ∀ i m n, J i m n → (D, LCg.lst ys) ∈ n)
    (step : ∀ i m₁ n₁ T oI h₁ tk₁ (E' : Value → Shared → Prop), J i m₁ n₁ → ys[i]? = some (.ref T) → Fr h₀ L h₁ m₁ → News h₀ L h₁ ((I, oI) :: n₁) → (∀ q ∈ n₁, q.1 ≠ I) →
      wpAny (model prog w) A (assign (.Tuple elts x1 tpos) env (.ref T)) (fun _ s₂ => wpP (model prog w) A (execs body env) (TurnEnd h₀ L I oI { s with heap := h₁, toks := tk₁ } (J (i + 1))) E' s₂) E' { s with heap := h₁, toks := tk₁ })
    (fin : ∀ m n h' tk, J ys.length m n → Fr h₀ L h' m → News h₀ L h' n → R (.ok .next) { s with heap := h', toks := tk }) :
    ∀ k i m n oI h₁ tk₁, k + i = ys.length → J i m n → Fr h₀ L h₁ m → News h₀ L h₁ ((I, oI) :: n) → oI.cls = .type "list_iterator" → oI.data = .fields #[.ref D, .int i 0] → (∀ q ∈ n, q.1 ≠ I) →
      codeP (model prog w) A (.forLoop (.Tuple elts x1 tpos) (.ref I) body [] env) R { s with heap := h₁, toks := tk₁ } := by
  intro k
  induction k with
  | zero =>
    intro i m n oI h₁ tk₁ hk hj F N hc hd hap
    refine P_of_tree rfl ?_
    show wpP _ A ((forTurn (.Tuple elts x1 tpos) (.ref I) body [] env).onRaise (fun x => do noteFrame x env; theTreesLotGoes x)) _ _ _
    refine P_noted ?_
    unfold forTurn
    refine P_bind (P_standAt (P_bindA (wpAny_onRaise (wpAny_pyNext_list_end hh ⟨oI, (N _ (.head _)).1, hc, hd⟩ ⟨_, (N _ (.tail _ (hJ _ _ _ hj))).1, rfl, _, rfl⟩ (by simp; omega) fun h' hx => ?_))))
    refine P_pure ⟨rfl, P_liftC (codeAny_block (wpAny_execs_nil ?_))⟩
    have hI := N _ (.head _)
    have e : i = ys.length := by omega
    subst e
    exact fin m n h' _ hj ⟨F.ns.extBut hx hI.2.1.symm, fun b o e => hx b o (fun q => by rw [q, hI.2.2] at e; cases e) (F.keep b o e), F.above⟩ (fun q hq => ⟨hx _ _ (hap q hq) (N q (.tail _ hq)).1, (N q (.tail _ hq)).2⟩)
  | succ k ih =>
    intro i m n oI h₁ tk₁ hk hj F N hc hd hap
    refine P_of_tree rfl ?_
    show wpP _ A ((forTurn (.Tuple elts x1 tpos) (.ref I) body [] env).onRaise (fun x => do noteFrame x env; theTreesLotGoes x)) _ _ _
    refine P_noted ?_
    unfold forTurn
    have hlt : i < ys.length := by omega
    obtain ⟨T, hT⟩ := hr _ (List.getElem_mem hlt)
    have hy : ys[i]? = some (.ref T) := by rw [List.getElem?_eq_getElem hlt, hT]
    refine P_bind (P_standAt (P_bindA (wpAny_onRaise (wpAny_pyNext_list_item (x := .ref T) ⟨oI, (N _ (.head _)).1, hc, hd⟩ ⟨_, (N _ (.tail _ (hJ _ _ _ hj))).1, rfl, _, rfl⟩ (by rw [List.getElem?_toArray]; exact hy) fun h' hit hx => ?_))))
    have hI := N _ (.head _)
    obtain ⟨oI', ho', hc', hd'⟩ := id hit
    have F' : Fr h₀ L h' m := ⟨F.ns.sameBut hx hI.2.1.symm, fun b o e => (hx.2 b (fun q => by rw [q, hI.2.2] at e; cases e)).trans (F.keep b o e), F.above⟩
    have N' : News h₀ L h' ((I, oI') :: n) := fun q hq => by
      rcases List.mem_cons.mp hq with rfl | hq
      · exact ⟨ho', hI.2⟩
      · exact ⟨(hx.2 _ (hap q hq)).trans (N q (.tail _ hq)).1, (N q (.tail _ hq)).2⟩
    dsimp only
    refine P_bindA (wpAny_letOwnedTupleGo_listiter hit (P_bindA (wpAny_mono (step i m n T oI' h' tk₁ _ hj hy F' N' hap) (fun _ s₂ h₂ => P_bind (P_mono h₂ (fun f s₃ h₃ => ?_) fun _ _ x => x)) fun _ _ x => x)))
    obtain ⟨rfl, h'', tk, m', n', rfl, F2, N2, ap2, hj2⟩ := h₃
    refine P_pure ⟨rfl, ih (i + 1) m' n' oI' h'' tk (by omega) hj2 F2 N2 hc' hd' ap2⟩
theorem P_For_list {x : Str} {xpos : Pos} {m : Str → Option Value} {news : List (Addr × Obj)} {Q : Flow → Shared → Prop} (J : Nat → (Str → Option Value) → List (Addr × Obj) → Prop) (hh : A.handled = none) (hr : ∀ v ∈ ys, ∃ T, v = .ref T)
    (hJ : ∀ i m n, J i m n → (D, LCg.lst ys) ∈ n) (F : Fr h₀ L s.heap m) (N : News h₀ L s.heap news) (h0 : J 0 m news)
    (hx : ∀ Q' : Value → Shared → Prop, Q' (.ref D) s → wpAny (model prog w) A (eval (.Name x xpos) env) Q' E s)
    (step : ∀ I i m₁ n₁ T oI h₁ tk₁ (E' : Value → Shared → Prop), J i m₁ n₁ → ys[i]? = some (.ref T) → Fr h₀ L h₁ m₁ → News h₀ L h₁ ((I, oI) :: n₁) → (∀ q ∈ n₁, q.1 ≠ I) →
      wpAny (model prog w) A (assign (.Tuple elts x1 tpos) env (.ref T)) (fun _ s₂ => wpP (model prog w) A (execs body env) (TurnEnd h₀ L I oI { s with heap := h₁, toks := tk₁ } (J (i + 1))) E' s₂) E' { s with heap := h₁, toks := tk₁ })
    (fin : ∀ m n h' tk, J ys.length m n → Fr h₀ L h' m → News h₀ L h' n → Q .next { s with heap := h', toks := tk })
    (hs : ∀ v, foldedSetIterable (.Name x xpos) env v = pure v := by intro _; rfl) :
    wpP (model prog w) A (exec (.For (.Tuple elts x1 tpos) (.Name x xpos) body [] pos) env) Q E s := by
  refine P_For (hx _ (wpAny_pyIter_list ⟨_, (N _ (hJ _ _ _ h0)).1, rfl, _, rfl⟩ ?_)) hs
  have N2 := N.push F { cls := .type "list_iterator", data := .fields #[.ref D, .int 0 0] }
  refine P_forLoop_list (D := D) J hh hr hJ (step s.heap.objs.size) fin ys.length 0 m news _ _ _ (Nat.add_zero _) h0 (F.push _) N2 rfl rfl fun q hq => Nat.ne_of_lt (Heap.lt_size (N q hq).1)
end
section
variable {prog : Program} {w : World} {A A₀ : Around} {env : Env} {base h₀ : Heap} {L : Addr} {m : Str → Option Value} {p : Program} {loose : List Str} {mean : ExcName → Option Value} {mg mb : Str → Option Value}
  {s : Shared} {core rest : List (Addr × Obj)} {d u : Nat} {f : Addr} {vs : List Value} {post : Value → List (Addr × Obj) → Prop} {Q E : Value → Shared → Prop}
/-- a helper that catches, used within the lowest frame -/
theorem SpecT.frame (S : SpecT prog w f vs core d u post) (B : Below A₀ base [] h₀) (Xb : (hd.heap_1 w.params).In base) (Tb : Top p loose mean mg mb base) (hb : base.objs.size ≤ h₀.objs.size)
    (F : Fr h₀ L s.heap m) (X : (hd.heap_1 w.params).In h₀) (Nc : News h₀ L s.heap core) (Nr : News h₀ L s.heap rest) (D : Apart rest core) (T : Top p loose mean mg mb h₀)
    (hh : A.handled = none) (hA : A.frames = some [env]) (hg : A.guards = some []) (hf : env.frame = some L) (hk : env.scope.kind = .function)
    (hd : A.depth + d < recursionLimit) (hu : A.units + u < cLine)
    (k : ∀ v core' h' tk', post v core' → Fr h₀ L h' m → News h₀ L h' core' → News h₀ L h' rest → Apart rest core' → Q v { s with heap := h', toks := tk' }) :
    wpP (model prog w) A (call (.ref f) vs) Q E s := by
  obtain ⟨ah, ad, af, ag, au⟩ := A
  dsimp only at hh hA hg hd hu
  subst hh hA hg
  obtain ⟨FG, BG, st, lv⟩ := groundX (A := amb ad au [env]) (R := fun r s' => match r with | .ok (.ret v) => Q v s' | .ok _ => False | .error e => E e s') B F Nc rfl hf hk
  have nL : L ∉ core.map (·.1) := fun q => by
    obtain ⟨r, hr, e⟩ := List.mem_map.mp q
    exact (Nc r hr).2.1 e
  have hLs : ∃ o, s.heap.get? L = some o := by
    obtain ⟨oL, _, _, hL, _⟩ := F.ns
    exact ⟨oL, hL⟩
  have gr : ∀ q ∈ rest, (hideAll s.heap (core.map (·.1))).get? q.1 = some q.2 := fun q hq => hideAll_get _ (Nr q hq).1 fun hm => by
    obtain ⟨r, hr, e⟩ := List.mem_map.mp hm
    exact D q hq r hr e.symm
  have nf : ∀ b : Addr, b ≠ L → b ∉ ([env] : List Env).filterMap (·.frame) := fun b hb hm => by
    rw [List.filterMap_cons, hf] at hm
    rcases List.mem_cons.mp hm with q | q
    · exact hb q
    · cases q
  refine P_call (S p loose mean mg mb ad au [env] base _ s _ ⟨rfl, BG.stays, BG.frames⟩ Xb Tb (Nat.le_trans hb (Nat.le_trans (fr_size F) (Nat.le_of_eq (hideAll_size _ _).symm))) (X.keeps st) (T.keeps st) (fun b o e => of_hideAll _ e) (Nat.le_of_eq (hideAll_size _ _)) (fun q hq => ⟨(Nc q hq).1, hideAll_none _ (List.mem_map_of_mem hq)⟩) hd hu ?_)
  intro v Y core' h' tk' hS hY hc hup hp
  refine k v core' h' tk' hp ⟨hup.ns FG.ns, fun b o e => hY b o (hS b o (st b o e) (nf b fun q => ?_)), F.above⟩ (fun q hq => ⟨hY _ _ (hc q hq).1, fun e => ?_, ?_⟩) (fun q hq => ⟨hY _ _ (hS _ _ (gr q hq) (nf _ (Nr q hq).2.1)), (Nr q hq).2⟩) fun q hq r hr e => ?_
  · subst q
    exact absurd (Heap.lt_size e) (Nat.not_lt.mpr F.above)
  · obtain ⟨oL, hL⟩ := hLs
    have := (hc q hq).2
    rw [e, hideAll_get _ hL nL] at this
    cases this
  · cases z : h₀.get? q.1 with
    | none => rfl
    | some o => have := (hc q hq).2; rw [st _ _ z] at this; cases this
  · have z := (hc r hr).2
    rw [← e, gr q hq] at z
    cases z
end
/-- the law's names within the loop -/
noncomputable def l4 (m0 : Str → Option Value) (la ki va ne to du : Option Value) (y : Str) : Option Value :=
  if y = Str.ofString "due" then du else if y = Str.ofString "token" then to else if y = Str.ofString "near" then ne else if y = Str.ofString "value" then va else if y = Str.ofString "kind" then ki else if y = Str.ofString "laid" then la else m0 y
theorem l4_self (m0 : Str → Option Value) : m0 = l4 m0 (m0 (Str.ofString "laid")) (m0 (Str.ofString "kind")) (m0 (Str.ofString "value")) (m0 (Str.ofString "near")) (m0 (Str.ofString "token")) (m0 (Str.ofString "due")) := by
  funext y
  unfold l4
  repeat' (split; (subst_vars; rfl))
  rfl
theorem l4_set (m0 : Str → Option Value) (la ki va ne to du la' ki' va' ne' to' du' : Option Value) :
    (fun y => if y = Str.ofString "due" then du' else if y = Str.ofString "token" then to' else if y = Str.ofString "near" then ne' else if y = Str.ofString "value" then va' else if y = Str.ofString "kind" then ki' else if y = Str.ofString "laid" then la' else l4 m0 la ki va ne to du y) = l4 m0 la' ki' va' ne' to' du' := by
  funext y
  unfold l4
  repeat' (first | rfl | split)
theorem l4_set5 (m0 : Str → Option Value) (la ki va ne to du la' ki' va' ne' to' : Option Value) :
    (fun y => if y = Str.ofString "token" then to' else if y = Str.ofString "near" then ne' else if y = Str.ofString "value" then va' else if y = Str.ofString "kind" then ki' else if y = Str.ofString "laid" then la' else l4 m0 la ki va ne to du y) = l4 m0 la' ki' va' ne' to' du := by
  funext y
  unfold l4
  by_cases h : y = Str.ofString "due"
  · subst h
    rw [if_pos rfl, if_neg (by decide), if_neg (by decide), if_neg (by decide), if_neg (by decide), if_neg (by decide), if_pos rfl]
  · rw [if_neg h, if_neg h]
    repeat' (first | rfl | split)
theorem l4_set6 (m0 : Str → Option Value) (la ki va ne to du du' : Option Value) :
    (fun y => if y = Str.ofString "due" then du' else l4 m0 la ki va ne to du y) = l4 m0 la ki va ne to du' := by
  funext y
  unfold l4
  repeat' (first | rfl | split)
/-- keeps an abstraction as it is: a term that has been generalized does not come back -/
theorem boxed {P : Prop} (h : P) : P := h
theorem P_opq {α : Type} {M : Model} {A : Around} {t : Sem α} {s : Shared} {Q : α → Shared → Prop} {E : Value → Shared → Prop} (k : ∀ Q1 E1, (∀ f s, Q f s → Q1 f s) → (∀ e s, E e s → E1 e s) → wpP M A t Q1 E1 s) : wpP M A t Q E s := k _ _ (fun _ _ h => h) fun _ _ h => h
/-- a statement that goes on, the ledger as it was -/
noncomputable def CutF (gg : Heap) (LL : Addr) (m : Tok → Str → Option Value) (NN : List (Addr × Obj)) (s₁ : Shared) (f : Flow) (s' : Shared) : Prop :=
  f = .next ∧ ∃ h' tk td, s' = { s₁ with heap := h', toks := tk } ∧ Fr gg LL h' (m td) ∧ News gg LL h' NN
/-- behind the law's last mark -/
noncomputable def CutM (gg : Heap) (LL : Addr) (m0 : Str → Option Value) (r sl : Addr) (vs : List Value) (oX oR : Obj) (tb : Addr × Obj) (s₁ : Shared) (f : Flow) (s' : Shared) : Prop :=
  f = .next ∧ ∃ h' tk q t kk u n', (q = 34 ∨ q = 39) ∧ 0 ≤ kk ∧ kk ≤ 70 ∧ s' = { s₁ with heap := h', toks := tk } ∧ Fr gg LL h' (fun y => if y = Str.ofString "mark" then some (.bytes (List.toArray [q]) t) else m0 y) ∧
    News gg LL h' [(r, listOf #[.ref sl, .int kk u] n'), (sl, listOf vs.toArray 0), (LL + 1 + 1, oX), (LL + 1, oR), tb]
/-- behind the law's last inner text -/
noncomputable def CutI (gg : Heap) (LL : Addr) (m0 : Str → Option Value) (q : UInt8) (tm : Tok) (tx tb : Addr × Obj) (s₁ : Shared) (f : Flow) (s' : Shared) : Prop :=
  f = .next ∧ ∃ h' tk V R tl tr, InP V R ∧ V.length ≤ 16 ∧ R.length ≤ 8 ∧ s' = { s₁ with heap := h', toks := tk } ∧
    Fr gg LL h' (fun y => if y = Str.ofString "read" then some (.bytes (List.toArray R) tr) else if y = Str.ofString "laid" then some (.bytes (List.toArray V) tl) else if y = Str.ofString "mark" then some (.bytes (List.toArray [q]) tm) else m0 y) ∧ News gg LL h' [tx, tb]
/-- behind the law's last lexer -/
noncomputable def CutL (gg : Heap) (LL : Addr) (m : Str → Option Value) (T : List UInt8) (tb : Addr × Obj) (s₁ : Shared) (f : Flow) (s' : Shared) : Prop :=
  f = .next ∧ ∃ h' tk c b ti ts t1 t2 tk0 tq oX, s' = { s₁ with heap := h', toks := tk } ∧ Fr gg LL h' m ∧ oX.data = .cell (some (.ref c.x)) ∧ c.T = T ∧ c.chk = .bytes #[113] tq ∧
    News gg LL h' ((LL + 1 + 1, oX) :: LX c b [] 0 ti (hdv c.T) ts (.int 1 t1) (.int 1 t2) (.ref tk0) .none ++ [tb]) ∧ Apart [(LL + 1 + 1, oX), tb] (LX c b [] 0 ti (hdv c.T) ts (.int 1 t1) (.int 1 t2) (.ref tk0) .none)
/-- the position and the name of the law's lambda -/
noncomputable abbrev LamAt (ps : Array Value) (codes : List (Addr × Obj)) : Prop := LamTab ps codes (rawInt 484) (rawInt 22) (Str.ofString "law.<locals>.<lambda>")
/-- what is so ahead of a turn of the loop over the tokens -/
noncomputable def J4 (LL sa D : Addr) (c : LC) (oX : Obj) (RT : List (Addr × Obj)) (TS : List (List UInt8)) (i : Nat) (m : Str → Option Value) (n : List (Addr × Obj)) : Prop :=
  ∃ la ki va ne to du b B idx ti ts u1 u2 cur ps codes, m = l4 (mapT sa D) la ki va ne to du ∧ At c.T idx (leftB i TS) ∧ LamAt ps codes ∧
    n = (506, tabObj ps) :: (codes ++ (LL + 1 + 1, oX) :: (LX c b B idx ti (hdv (leftB i TS)) ts (.int 1 u1) (.int 1 u2) (.ref cur) .none ++ RT)) ∧
    Apart ((506, tabObj ps) :: RT) (codes ++ (LL + 1 + 1, oX) :: LX c b B idx ti (hdv (leftB i TS)) ts (.int 1 u1) (.int 1 u2) (.ref cur) .none) ∧
    Apart codes ((LL + 1 + 1, oX) :: LX c b B idx ti (hdv (leftB i TS)) ts (.int 1 u1) (.int 1 u2) (.ref cur) .none) ∧
    Apart [(LL + 1 + 1, oX)] (LX c b B idx ti (hdv (leftB i TS)) ts (.int 1 u1) (.int 1 u2) (.ref cur) .none)
theorem J4_start {LL sa D : Addr} {c : LC} {oX : Obj} {RT : List (Addr × Obj)} {TS : List (List UInt8)} {b : Addr} {ti ts u1 u2 : Tok} {cur : Addr} (hT : c.T = joinB TS) (hap : Apart ((LL + 1 + 1, oX) :: (506, tabObj #[]) :: RT) (LX c b [] 0 ti (hdv c.T) ts (.int 1 u1) (.int 1 u2) (.ref cur) .none))
    (hr : ∀ q ∈ RT, q.1 ≠ LL + 1 + 1 ∧ q.1 ≠ 506) (hLL : @LT.lt Nat _ 506 LL) :
    J4 LL sa D c oX RT TS 0 (mapT sa D) ((506, tabObj #[]) :: ([] ++ (LL + 1 + 1, oX) :: (LX c b [] 0 ti (hdv c.T) ts (.int 1 u1) (.int 1 u2) (.ref cur) .none ++ RT))) := by
  have e : leftB 0 TS = c.T := by rw [hT]; rfl
  unfold J4
  rw [e]
  refine ei16 _ _ _ _ _ _ b [] 0 ti ts u1 u2 cur #[] [] ⟨l4_self _, At.start _, .inl ⟨rfl, rfl⟩, rfl, ?_, Apart.nil, hap.sub (fun q hq => ?_) fun q hq => hq⟩
  · intro q hq r hr2
    rcases List.mem_cons.mp hr2 with rfl | hr2
    · rcases List.mem_cons.mp hq with rfl | hq
      · exact Nat.ne_of_lt (Nat.lt_succ_of_lt (Nat.lt_succ_of_lt hLL))
      · exact (hr q hq).1
    · exact hap q (.tail _ hq) r hr2
  · rcases List.mem_cons.mp hq with rfl | hq
    · exact .head _
    · cases hq
theorem P_Compare1 {M : Model} {A : Around} {E : Value → Shared → Prop} {s : Shared} {env : Env} {l r : PySem.Expr} {op : CmpOp} {pos : Pos} {Q : Value → Shared → Prop}
    (h : wpP M A (eval l env) (fun a s₁ => wpAny M A (eval r env) (fun b s₂ => wpAny M A (compareOp op a b) Q E s₂) E s₁) E s)
    (hm : behindInMarks op r = false := by with_unfolding_all rfl) : wpP M A (eval (.Compare l [op] [r] pos) env) Q E s := fun Γ p h1 h2 h3 => by
  simp only [eval_Compare1, markedBehindIn_of_false hm, Sem.wp_bind', Sem.wp_holding, Sem.wp_cmd_standAt, Sem.wp_operate]
  exact Sem.wp_mono M Γ _ (fun a p₁ s₁ k₁ => Sem.wp_mono M Γ _ (fun b _ s₂ k₂ => k₂ Γ _ h1)
    (fun _ _ _ x => x) _ _ (k₁ Γ p₁ h1)) (fun _ _ _ x => x) _ _ (h Γ p h1 h2 h3)
section
theorem opening_pr : opening pr = plainProg pr.main.scope.names := by kernel_rfl
theorem fence_pr (s : Shared) : fenceModules? pr s = some s := by kernel_rfl
theorem size0 (w : World) : (boot_heap w.params).isNs mainGlobals = true ∧ (boot_heap w.params).objs.size = 11 ∧ (boot_heap w.params).nsMap mainGlobals "__annotations__" = ann0 := ⟨by kernel_rfl, by kernel_rfl, by kernel_rfl⟩
theorem top_runs (w : World) (os : OsState) {S : SharedT} {p' : Pos} {s : Shared} (h1 : segRunT treeTable pr w 11 ann0 1 3400 (at0 w os) (piecesOf (behindTheImports pr) env0 cE pos0 [topFrame pos0]) = some (.next, S, cE, p'))
    (h3 : topRun treeTable pr w 11 ann0 2 S.abs ⟨doneF .next, cE, p', [topFrame pos0]⟩ = some s) :
    topRun treeTable pr w 11 ann0 (12 + (1 + (3400 + 2))) { heap := boot_heap w.params, drawn := boot_drawn, toks := boot_toks, os := os } (topStub pr) = some s := by
  refine go_top (congrFun (preL w) os) (piece_block (congrFun (blockL w) os) ?_)
  have r := piece_app (segRun_of h1) (piece_nil h3)
  rw [List.append_nil] at r
  exact r
theorem topFrom_of {p : Program} {w : World} {N k : Nat} {h : Heap} {gs : Array GenState} {d : Drawn} {t : Nat} {os : OsState} {m : Nat} {ann : Option Value} {s' : Shared} (a : h.isNs mainGlobals = true) (b : gs = #[]) (c : h.objs.size = m) (e : h.nsMap mainGlobals "__annotations__" = ann)
    (r : topRun treeTable p w m ann k ⟨h, gs, d, t, os⟩ (topStub p) = some s') (hk : k ≤ N) (hA : (staticsOk (importedModules p.main.body) h s'.heap && namesBound p s'.heap && gensDone s' && laidKept h s'.heap) = true) :
    topFrom treeTable p w N ⟨h, gs, d, t, os⟩ = some s' := by
  subst b c e
  have r := topRun_mono (N - k) _ _ _ _ r
  rw [show k + (N - k) = N by omega] at r
  unfold topFrom
  dsimp only
  rw [a, r]
  show (match staticsOk (importedModules p.main.body) h s'.heap && namesBound p s'.heap && gensDone s' && laidKept h s'.heap with | true => some s' | false => none) = _
  rw [hA]
theorem left_of {p q : Program} {w : World} {N : Nat} {loose : List Str} {Xt : Shared → Bool} {α : Type} {Yf : Shared → α} {y : α} {s₀ s' : Shared} (a : fencedOpening treeTable p w N = some s₀) (b : topFrom treeTable p w N s₀ = some s')
    (hB : openSeen q loose (importedModules p.main.body) Xt true s' = openGood q loose) (hC : Yf s' = y) : (openEnds treeTable p w N).map (fun s => (openSeen q loose (importedModules p.main.body) Xt true s, Yf s)) = some (openGood q loose, y) := by
  unfold openEnds
  rw [a]
  show (topFrom treeTable p w N s₀).map _ = _
  rw [b]
  exact congrArg some (Prod.ext hB hC)
theorem run_end (w : World) (os : OsState) : ∃ s, topRun treeTable pr w 11 ann0 (12 + (1 + (3400 + 2))) { heap := boot_heap w.params, drawn := boot_drawn, toks := boot_toks, os := os } (topStub pr) = some s ∧
    (staticsOk (importedModules pr.main.body) (boot_heap w.params) s.heap && namesBound pr s.heap && gensDone s && laidKept (boot_heap w.params) s.heap) = true ∧
    openSeen hd.view_1 loose0 (importedModules pr.main.body) Xt0 true s = openGood hd.view_1 loose0 ∧
    ((hd.heap_1 w.params).map fun q => s.heap.get? q.1) = ((hd.heap_1 w.params).map fun p => some p.2) ∧ [506].map s.heap.get? = [506].map fun _ => some (tabObj #[]) := by
  obtain ⟨⟨⟨fl, cd⟩, s⟩, hr, hAC⟩ := Option.map_eq_some_iff.mp (congrFun (lookAC w) os)
  obtain ⟨hA, hC⟩ := Prod.mk.inj hAC
  obtain ⟨z, hA⟩ := Prod.mk.inj hA
  obtain ⟨z1, z2⟩ := Prod.mk.inj z
  have z1 : fl = Flow.next := z1
  have z2 : cd = cE := z2
  subst z1 z2
  have hB := congrFun (lookB w) os
  have hB : (runN w os).map (fun y => openSeen hd.view_1 loose0 (importedModules pr.main.body) Xt0 true y.2) = _ := hB
  rw [hr] at hB
  obtain ⟨hC, hT⟩ := Prod.mk.inj hC
  have hB := Option.some.inj hB
  unfold runN runF at hr
  obtain ⟨⟨f, S, c, p'⟩, h1, h2⟩ := Option.bind_eq_some_iff.mp hr
  obtain ⟨s', h3, h4⟩ := Option.map_eq_some_iff.mp h2
  obtain ⟨z, z3⟩ := Prod.mk.inj h4
  obtain ⟨z1, z2⟩ := Prod.mk.inj z
  have z1 : f = Flow.next := z1
  have z2 : c = cE := z2
  have z3 : s' = s := z3
  subst z1 z2 z3
  exact ⟨s', top_runs w os h1 h3, hA, hB, hC, hT⟩
theorem left {as : List Addr} (e : ∀ P, as = (hd.heap_1 P).map (·.1)) : LeftO pr hd.view_1 loose0 Xt0 (kmHook hd.heap_1 as e [506]).obs (kmHook hd.heap_1 as e [506]).val 6738 := fun w => by
  obtain ⟨⟨h, gs, d, k, os⟩, e0, e'⟩ := Option.map_eq_some_iff.mp (boot_open (N := 6738) opening_pr rfl fence_pr w)
  obtain ⟨rfl, rfl, rfl, rfl⟩ : h = boot_heap w.params ∧ gs = #[] ∧ d = boot_drawn ∧ k = boot_toks := by simpa only [Option.some.injEq, Prod.mk.injEq] using e'
  obtain ⟨s, r, hA, hB, hC, hT⟩ := run_end w os
  exact left_of e0 (topFrom_of (size0 w).1 rfl (size0 w).2.1 (size0 w).2.2 r (by decide) hA) hB (Prod.ext ((congrArg (List.map s.heap.get?) (e w.params)).trans ((List.map_map ..).trans hC)) hT)
end
theorem off_LW1 : True := by
  w_top off
  trivial
theorem reg_1bf28b9d_LW1 : True := by
  k_with "q call ref" =>
    (k_here; (with_reducible show wpAny _ _ (call (Value.ref 476) _) _ _ _); (first | (k_dflt ((refine' Spec.use (law_next_spec _ _ ?zzh4 (by assumption) ?zzh1 ?zzh2 ?zzh3) ?zzuB ?zzuF ?zzuX ?zzuN ?zzuT ?zzuh ?zzuA ?zzug ?zzuf ?zzuk ?zzus ?zzud ?zzuu ?_); (case zzuF => k_asm); (case zzuA => with_unfolding_all rfl); (case zzuB => k_asm); (case zzuX => k_asm); (case zzuN => k_asm); (case zzuT => k_asm); (case zzuh => with_unfolding_all rfl);  (case zzug => with_unfolding_all rfl); (case zzuf => with_unfolding_all rfl); (case zzuk => with_unfolding_all rfl); (case zzus => (repeat' (first | exact List.forall_mem_nil _ | refine' List.forall_mem_cons.mpr ⟨?_, ?_⟩ | k_mem | (rw [‹LC.chk _ = _›]; k_mem)))); (case zzh1 => (first | assumption | exact le_c (by assumption) rfl | omega | (refine neN ?_; omega) | (constructor <;> omega) | ((try simp only [List.length_append, List.length_cons, List.length_nil, List.length_replicate]); omega) | (constructor <;> (first | assumption | decide | omega)) | rfl | decide)); (case zzh2 => (first | assumption | exact le_c (by assumption) rfl | omega | (refine neN ?_; omega) | (constructor <;> omega) | ((try simp only [List.length_append, List.length_cons, List.length_nil, List.length_replicate]); omega) | (constructor <;> (first | assumption | decide | omega)) | rfl | decide)); (case zzh3 => (first | assumption | exact le_c (by assumption) rfl | omega | (refine neN ?_; omega) | (constructor <;> omega) | ((try simp only [List.length_append, List.length_cons, List.length_nil, List.length_replicate]); omega) | (constructor <;> (first | assumption | decide | omega)) | rfl | decide)); (case zzh4 => (first | assumption | exact le_c (by assumption) rfl | omega | (refine neN ?_; omega) | (constructor <;> omega) | ((try simp only [List.length_append, List.length_cons, List.length_nil, List.length_replicate]); omega) | (constructor <;> (first | assumption | decide | omega)) | rfl | decide)); (case zzud => k_room); (case zzuu => k_units); intro zzv' zzc' zzh' zztk' zzhp' zzF' zzS' zzN'; (refine @opq _ ?_); intro zzG' zzhG'; (obtain ⟨⟨zzz', zzu', zze1, zzhz1, zzhz2⟩, zzu2, zzn2, zze2⟩ := zzhp'); subst zze1; subst zze2; (refine zzhG' ?_); (clear zzhG' zzG'); (have zzN' := stays_c1 zzS' zzN' (by k_upd)); clear zzS'; (try k_sweep); (try dsimp only))) | (exfalso; (try simp only [Bool.or_eq_true, Bool.and_eq_true, decide_eq_true_eq, beq_iff_eq, Bool.or_eq_false_iff, Bool.and_eq_false_iff, decide_eq_false_iff_not, beq_eq_false_iff_ne] at *); omega)))
  trivial
theorem reg_e8ffcb1b_LW1 : True := by
  k_with "q getMethod bytes" =>
    (k_here; (with_reducible show wpAny _ _ (getMethod (Value.bytes _ _) (PySem.Str.ofString "join") _) _ _ _); k_dflt (refine jn_getMethod ?_); (try dsimp only))
  trivial
theorem said_46 : True := by
  k_with "x44" =>
    (repeat' ((fail_if_success (with_reducible show wpP _ _ (callWith _ _ _ _ _) _ _ _)); first | ((with_reducible show wpAny _ _ (execs _ _) _ _ _); dsimp only) | (k_unfold; (try dsimp only)) | walk1 | (dsimp only; walk1) | fail "no step"))
  k_with "x45" =>
    (repeat' ((fail_if_success (with_reducible show wpP _ _ (spliced _) _ _ _)); first | ((with_reducible show wpAny _ _ (execs _ _) _ _ _); dsimp only) | (k_unfold; (try dsimp only)) | walk1 | (dsimp only; walk1) | fail "no step"))
  trivial
set_option maxHeartbeats 8000000 in
theorem law_holds : PySem.Challenge.rw_pq0682_01.Holds := hd ⟨left _, by
  k_fill
  intro w s₀ s₁ mg mb G Y fa o pm cd doc dV kV ho hd hcd hD hmg hg args vals as hpre hlay hrd hwl hlo
  have KX := km_in_of Y
  km_tabs Y
  have X := (Ground.X G).1
  have V := (Ground.X G).2
  refine Ground.open G ?_
  intro T B D TE TW
  try (refine guard_noD D (by decide +kernel) ?_; clear D)
  km_lay T hmg ho hd cd
  clear hmg
  wrow_args hpre hlay hrd hwl hlo
  refine enter_P ?_
  refine P_codeMono (R := Good1 s₁ (ghostOf s₁.heap [(508, 506)])) ?_ (fun r s' h => good_end hT9 hg h)
  have he := Dflts.none hD rfl
  subst he
  have he := Dflts.noKw hD
  subst he
  refine P_call_cells (by decide) ho (fd_plain hd) (Top.nolimit T) hcd rfl (kinds_of (by kinds_ok)) (by decide) fun h₁ tk₁ cells F N0 X0 => ?_
  cells_open X0
  clear hd
  kn_ghosts F T
  rename Fr _ _ _ _ => F9
  rename News _ _ _ _ => N9
  rename Top _ _ _ _ _ _ => T9
  rename Below _ _ _ _ => B9
  rename Frag.In _ _ => X9
  rename CodeHd _ _ _ => C9
  rename Heap.IsList _ _ _ => I9
  rename IntsAre _ _ => hInt
  rename ¬ (_ < _) => hLen
  rename _ < Array.size _ => hLL
  clear G Y hT8 X V TE TW B hcd hD X0 ho hT9
  replace F9 : Fr _ _ _ (lm0 _) := F9
  generalize ghostOf s₁.heap [(508, 506)] = gg at *
  generalize hL9 : s₁.heap.objs.size = LL at *
  have hZq : ∃ oX oR : Obj, News gg LL h₁ [(LL + 1 + 1, oX), (LL + 1, oR), (506, tabObj #[])] ∧ oX.data = .cell none ∧ oR.data = .cell none := by
    refine ⟨_, _, N9, ?_, ?_⟩ <;> assumption
  refine @opq _ ?_
  intro Gq hGq
  obtain ⟨oX, oR, N8, hcX, hcR⟩ := hZq
  refine hGq ?_
  clear hGq Gq
  clear N9
  rename List Int => ns
  have hZq : ∃ (sa : Addr) (vs0 : List Value), Fr gg LL h₁ (lm0 sa) ∧ gg.IsList sa vs0.toArray ∧ IntsAre vs0 ns := ⟨_, _, F9, I9, hInt⟩
  refine @opq _ ?_
  intro Gq hGq
  obtain ⟨sa, vs0, F8, I8, hInt⟩ := hZq
  refine hGq ?_
  clear hGq Gq
  clear F9 I9
  clear T hg hL9
  revert gg LL
  refine boxed ?_
  intro gg X9 T9 B9 C9 LL b1 b2 hLL N9 F9 I9
  clear b1 b2
  refine P_opq fun Q1 E1 hQ1 hE1 => ?_

  (repeat' ((fail_if_success (with_reducible show wpP _ _ (execs (Stmt.Assign _ (PySem.Expr.ListComp _ _ _ _) _ :: _) _) _ _ _)); (fail_if_success (with_reducible show ∃ n' : Nat, n' < _ ∧ _)); first
    | k_extra "x17"
    | k_extra "x18"
    | k_extra "x19"
    | k_extra "x20"
    | k_extra "x21"
    | k_extra "x22"
    | k_extra "x23"
    | k_extra "x24"
    | k_extra "x25"
    | k_extra "x26"
    | k_extra "x27"
    | k_extra "x28"
    | k_extra "x29"
    | k_extra "x30"
    | ((with_reducible show wpP _ _ (isTrue _ _ _) _ _ _); refine P_lift ?_)
    | k_extra "x31"
    | k_extra "x32"
    | k_extra "x33"
    | k_extra "x34"
    | k_extra "x35"
    | k_extra "x36"
    
    | k_extra "x37"
    | k_extra "x38"
    | k_extra "x39"
    | k_extra "x40"
    | ((with_reducible show wpAny _ _ (execs _ _) _ _ _); dsimp only)
    | k_extra "x41"
    | (k_unfold; (try dsimp only))
    | walk1
    | (dsimp only; walk1)
    | (dsimp only; (with_reducible show wpP _ _ _ _ _ _))
    | fail "no step"))
  rename News _ _ _ _ => N1
  rename Fr _ _ _ _ => F1
  rename Heap => hh1
  have hZq : ∃ r sl vs t0 oR2, News gg LL hh1 [(r, W.listOf #[.ref sl, .int 0 t0] 0), (sl, W.listOf vs.toArray 0), (LL + 1 + 1, oX), (LL + 1, oR2), (506, tabObj #[])] ∧ oR2.data = .cell (some (.ref r)) ∧ IntsAre vs (List.take 40 ns) ∧ @LT.lt Nat _ (LL + 1 + 1) sl ∧ @LT.lt Nat _ sl r := by
    refine ⟨_, _, _, _, _, N1, ?_, ?_, ?_, ?_⟩
    · assumption
    · assumption
    · refine ltN ?_; omega
    · refine ltN ?_; omega
  refine @opq _ ?_
  intro Gq hGq
  obtain ⟨r, sl, vs, t0, oR2, N1, hR2, hI2, hlt1, hlt2⟩ := hZq
  refine hGq ?_
  clear hGq Gq
  have hl40 : (List.take 40 ns).length ≤ 40 := by rw [List.length_take]; omega
  refine P_execs_cons (P_mono (Q := Cut2 gg LL sa r sl vs oX oR2 s₁) (P_lift ?A) ?B (fun _ _ e => e))
  case A =>
    have hne : sl ≠ r := Nat.ne_of_lt hlt2
    have z1 : r ≠ LL + 1 + 1 := Nat.ne_of_gt (Nat.lt_trans hlt1 hlt2)
    have z2 : r ≠ LL + 1 := Nat.ne_of_gt (Nat.lt_trans (Nat.lt_succ_self _) (Nat.lt_trans hlt1 hlt2))
    have z3 : r ≠ 506 := Nat.ne_of_gt (Nat.lt_trans (Nat.lt_succ_of_lt (Nat.lt_succ_of_lt hLL)) (Nat.lt_trans hlt1 hlt2))
    have z4 : sl ≠ LL + 1 + 1 := Nat.ne_of_gt hlt1
    have z5 : sl ≠ LL + 1 := Nat.ne_of_gt (Nat.lt_trans (Nat.lt_succ_self _) hlt1)
    have z6 : sl ≠ 506 := Nat.ne_of_gt (Nat.lt_trans (Nat.lt_succ_of_lt (Nat.lt_succ_of_lt hLL)) hlt1)
    clear hInt hLen I9
    refine LCg.Assign_ListComp_U (F₀ := F1) (by rfl) (by with_unfolding_all rfl) (by with_unfolding_all rfl) (by decide) (by rfl) (by decide) (by rfl) (by rfl) (by rfl) ?_
    k_extra "x4"
    refine' range_comp (news := ropeL r sl vs 1 ?zu1 ?zn1 ++ otherL LL oX oR2 []) ?g1 ?g2 rfl ?g3 ?g4 ?g5 ?_
    case g1 => assumption
    case g2 => assumption
    case g3 => k_asm
    case g4 => k_asm
    case g5 => (repeat' (first | exact List.forall_mem_nil _ | refine' List.forall_mem_cons.mpr ⟨?_, ?_⟩ | k_mem | (rw [‹LC.chk _ = _›]; k_mem)))
    intro j hj3 g2 tk2
    refine comp_ind (J2 LL r sl vs oX oR2 (j + 1)) ?step ?fin _ _ _ _ ⟨[], 1, _, _, by omega, rfl, rfl, (fun _ h => nomatch h), by omega, by omega, rfl, ?ap⟩
    case ap =>
      refine Apart.cons ?_ (Apart.cons ?_ (Apart.cons ?_ Apart.nil)) <;> exact List.forall_mem_cons.mpr ⟨Ne.symm (by assumption), List.forall_mem_cons.mpr ⟨Ne.symm (by assumption), List.forall_mem_nil _⟩⟩
    case fin =>
      intro i ys news hZq
      refine @opq _ ?_
      intro Gq hGq
      obtain ⟨xs, kk, u, n', hi, rfl, hlen, hok, hk1, hk2, rfl, hap⟩ := hZq
      refine hGq ?_
      clear hGq Gq
      unfold LCg.FinA
      intro D h3 tk3 F3 N3 o3
      refine ⟨rfl, ei7 h3 tk3 D xs kk u n' ⟨rfl, ?_, ?_, hok, hk1, ?_, F3, N3, o3, hap⟩⟩
      · intro e; subst e; simp at hlen; omega
      · omega
      · omega
    case step =>
      intro k i ys news hZq
      refine @opq _ ?_
      intro Gq hGq
      obtain ⟨xs, kk, u, n', hi, rfl, hlen, hok, hk1, hk2, rfl, hap⟩ := hZq
      refine hGq ?_
      clear hGq Gq
      intro v I oI C oC D m₂ h3 tk3 E' hP hns hx F3 N3 off3 hZq
      refine @opq _ ?_
      intro Gq hGq
      obtain ⟨i1, i2, i3⟩ := hZq
      refine hGq ?_
      clear hGq Gq
      have ap3 := apart_of_Off3 (oI := oI) (oC := oC) (oD := LCg.lst (xs.map Tk1.ref)) off3
      have N4 := N3
      simp only [otherL, ropeL, List.cons_append, List.nil_append] at N3
      (repeat' ((fail_if_success (with_reducible show wpAny _ _ (call (Value.ref 497) _) _ _ _)); first | ((with_reducible show wpAny _ _ (execs _ _) _ _ _); dsimp only) | (k_unfold; (try dsimp only)) | walk1 | (dsimp only; walk1) | fail "no step"))
      refine Spec.frame (core := ropeL r sl vs kk u n') (rest := [(I, oI), (C, oC), (D, LCg.lst (xs.map Tk1.ref))] ++ otherL LL oX oR2 xs) (law_token_spec _ _ hne hI2 hl40 ⟨hk1, by omega⟩) B9 F3 X9 (news_sub N4 ?m1) (news_sub N4 ?m2) ?m3 T9 rfl rfl rfl rfl rfl (by k_room) (by k_units) ?_
      case m1 => intro q hq; exact .tail _ (.tail _ (.tail _ (List.mem_append_left _ hq)))
      case m2 =>
        intro q hq
        rcases List.mem_append.mp hq with hq | hq
        · exact List.mem_append_left (as := [(I, oI), (C, oC), (D, LCg.lst (xs.map Tk1.ref))]) _ hq
        · exact .tail _ (.tail _ (.tail _ (List.mem_append_right _ hq)))
      case m3 =>
        intro q hq
        rcases List.mem_append.mp hq with hq | hq
        · exact fun r2 hr2 => ap3 q hq r2 (List.mem_append_left _ hr2)
        · exact hap q hq
      intro v2 core2 h5 tk5 hZq
      refine @opq _ ?_
      intro Gq hGq
      obtain ⟨D2, laid2, kind2, tv2, near2, tl2, tk6, vv2, nv2, kk2, u2, n2, rfl, hTK, htv, hnv, hk3, hk4, rfl⟩ := hZq
      refine hGq ?_
      clear hGq Gq
      intro F5 Nc Nr Ar
      refine ⟨h5, tk5, ropeL r sl vs kk2 u2 n2 ++ otherL LL oX oR2 (xs ++ [⟨laid2, kind2, tv2, near2, D2, tl2, tk6, vv2, nv2⟩]), rfl, F5, ?n1, ?n2, trivial, ei4 (xs ++ [⟨laid2, kind2, tv2, near2, D2, tl2, tk6, vv2, nv2⟩]) kk2 u2 n2 ⟨by omega, ?n3, ?n4, ?n5, by omega, by omega, rfl, ?n6⟩⟩
      case n1 =>
        intro q hq
        rcases mem3 hq with hq | hq
        · exact Nr q (List.mem_append_left _ hq)
        · rcases List.mem_append.mp hq with hq | hq
          · exact Nc q (.tail _ hq)
          · rcases mem_otherL hq with hq | rfl
            · exact Nr q (List.mem_append_right _ hq)
            · exact Nc _ (.head _)
      case n2 =>
        refine Off3_of_apart (oI := oI) (oC := oC) (oD := LCg.lst (xs.map Tk1.ref)) ?_
        intro q hq r2 hr2
        rcases List.mem_append.mp hr2 with hr2 | hr2
        · exact Ar q (List.mem_append_left _ hq) r2 (.tail _ hr2)
        · rcases mem_otherL hr2 with hr2 | rfl
          · exact ap3 q hq r2 (List.mem_append_right _ hr2)
          · exact Ar q (List.mem_append_left _ hq) _ (.head _)
      case n3 => rw [List.map_append]; rfl
      case n4 => rw [List.length_append, hlen]; rfl
      case n5 =>
        intro x hx2
        rcases List.mem_append.mp hx2 with hx2 | hx2
        · exact hok x hx2
        · rw [List.mem_singleton.mp hx2]; exact ⟨hTK, htv, hnv⟩
      case n6 =>
        intro q hq r2 hr2
        rcases mem_otherL hq with hq | rfl
        · exact Ar q (List.mem_append_right _ hq) r2 (.tail _ hr2)
        · exact tup_apart Nc hr2
  case B =>
    intro f s' hZq
    refine @opq _ ?_
    intro Gq hGq
    obtain ⟨rfl, h2, tk2, D, xs, kk, u, n', rfl, hne0, hlen4, hok, hk1, hk2, F2, N2, o2, hap⟩ := hZq
    refine hGq ?_
    clear hGq Gq
    dsimp only
    have N2' := N2
    simp only [otherL, ropeL, List.cons_append, List.nil_append] at N2
    refine P_execs_cons (P_mono (Q := Cut3 w gg LL sa D r sl vs kk u n' oR2 xs s₁) ?S3 ?S4 (fun _ _ e => e))
    case S4 =>
      clear N1 N2 N2' F2 o2 hap I9 hInt hcX hcR
      intro f s' hZq
      refine @opq _ ?_
      intro Gq hGq
      obtain ⟨rfl, h3, tk3, c, b, ti, ts, t1, t2, tk0, tq, oX3, rfl, F3, hcX3, hcT, hchk, hKF, N3a, N3b, Ap3, hrest3⟩ := hZq
      refine hGq ?_
      clear hGq Gq
      dsimp only
      refine P_execs_cons (P_mono (Q := fun f s' => f = .next ∧ ∃ h' tk, s' = { s₁ with heap := h', toks := tk } ∧ ∃ m n, J4 LL sa D c oX3 (restC LL D r sl vs kk u n' oR2 xs) (xs.map (·.laid)) xs.length m n ∧ Fr gg LL h' m ∧ News gg LL h' n) ?S5 ?S6 (fun _ _ e => e))
      case S6 =>
        intro f s' hZq
        refine @opq _ ?_
        intro Gq hGq
        obtain ⟨rfl, h4, tk4, rfl, m, n, ⟨la, ki, va, ne, to, du, b4, B4, idx, ti4, ts4, u1, u2, cur, ps, codes, rfl, hA, hL, rfl, _⟩, F4, N4⟩ := hZq
        refine hGq ?_
        clear hGq Gq
        dsimp only
        have hne : sl ≠ r := Nat.ne_of_lt hlt2
        have z1 : r ≠ LL + 1 + 1 := Nat.ne_of_gt (Nat.lt_trans hlt1 hlt2)
        have z2 : r ≠ LL + 1 := Nat.ne_of_gt (Nat.lt_trans (Nat.lt_succ_self _) (Nat.lt_trans hlt1 hlt2))
        have z3 : r ≠ 506 := Nat.ne_of_gt (Nat.lt_trans (Nat.lt_succ_of_lt (Nat.lt_succ_of_lt hLL)) (Nat.lt_trans hlt1 hlt2))
        have z4 : sl ≠ LL + 1 + 1 := Nat.ne_of_gt hlt1
        have z5 : sl ≠ LL + 1 := Nat.ne_of_gt (Nat.lt_trans (Nat.lt_succ_self _) hlt1)
        have z6 : sl ≠ 506 := Nat.ne_of_gt (Nat.lt_trans (Nat.lt_succ_of_lt (Nat.lt_succ_of_lt hLL)) hlt1)
        have N5 : News gg LL h4 [(r, listOf #[.ref sl, .int kk u] n'), (sl, listOf vs.toArray 0), (LL + 1 + 1, oX3), (LL + 1, oR2), (506, tabObj ps)] := by
          have w : ∀ q ∈ restC LL D r sl vs kk u n' oR2 xs, h4.get? q.1 = some q.2 ∧ q.1 ≠ LL ∧ gg.get? q.1 = none := fun q hq => N4 q (.tail _ (List.mem_append_right _ (.tail _ (List.mem_append_right _ hq))))
          refine List.forall_mem_cons.mpr ⟨w _ (.tail _ (.head _)), List.forall_mem_cons.mpr ⟨w _ (.tail _ (.tail _ (.head _))), List.forall_mem_cons.mpr ⟨N4 _ (.tail _ (List.mem_append_right _ (.head _))), List.forall_mem_cons.mpr ⟨w _ (.tail _ (.tail _ (.tail _ (.head _)))), List.forall_mem_cons.mpr ⟨N4 _ (.head _), List.forall_mem_nil _⟩⟩⟩⟩⟩
        clear N4 hA hL hok N3a N3b Ap3 hrest3 F3 hcT hchk hKF
        generalize l4 (mapT sa D) la ki va ne to du = m0 at F4
        revert m0
        refine boxed ?_
        intro m0 F4
        refine P_execs_cons (P_mono (Q := CutM gg LL m0 r sl vs oX3 oR2 (506, tabObj ps) s₁) (P_lift ?M1) ?M2 (fun _ _ e => e))
        case M1 =>
          (repeat' ((fail_if_success (with_reducible show CutM _ _ _ _ _ _ _ _ _ _ _ _)); (fail_if_success (with_reducible show ∃ n' : Nat, n' < _ ∧ _)); first
    | k_extra "x17"
    | k_extra "x18"
    | k_extra "x19"
    | k_extra "x20"
    | k_extra "x21"
    | k_extra "x22"
    | k_extra "x23"
    | k_extra "x24"
    | k_extra "x25"
    | k_extra "x26"
    | k_extra "x27"
    | k_extra "x28"
    | k_extra "x29"
    | k_extra "x30"
    | ((with_reducible show wpP _ _ (isTrue _ _ _) _ _ _); refine P_lift ?_)
    | k_extra "x31"
    | k_extra "x32"
    | k_extra "x33"
    | k_extra "x34"
    | k_extra "x35"
    | k_extra "x36"
    
    | k_extra "x37"
    | k_extra "x38"
    | k_extra "x39"
    | k_extra "x40"
    | ((with_reducible show wpAny _ _ (execs _ _) _ _ _); dsimp only)
    | k_extra "x41"
    | (k_unfold; (try dsimp only))
    | walk1
    | (dsimp only; walk1)
    | (dsimp only; (with_reducible show wpP _ _ _ _ _ _))
    | fail "no step"))
          all_goals (rename News _ _ _ _ => Nn; first | exact ⟨rfl, ei7 _ _ 39 _ _ _ _ ⟨.inr rfl, by omega, by omega, rfl, by assumption, fun q hq => Nn q (.tail _ hq)⟩⟩ | exact ⟨rfl, ei7 _ _ 34 _ _ _ _ ⟨.inl rfl, by omega, by omega, rfl, by assumption, fun q hq => Nn q (.tail _ hq)⟩⟩)
        case M2 =>
          intro f s' hZq
          refine @opq _ ?_
          intro Gq hGq
          obtain ⟨rfl, h5, tk5, q, tm, kk5, u5, n5, hq, hk5a, hk5b, rfl, F5, N6⟩ := hZq
          refine hGq ?_
          clear hGq Gq
          clear F4 N5
          dsimp only
          refine P_execs_cons (P_mono (Q := CutI gg LL m0 q tm (LL + 1 + 1, oX3) (506, tabObj ps) s₁) (P_lift ?O1) ?O2 (fun _ _ e => e))
          case O1 =>
            (repeat' ((fail_if_success (with_reducible show CutI _ _ _ _ _ _ _ _ _ _)); (fail_if_success (with_reducible show ∃ n' : Nat, n' < _ ∧ _)); first
    | k_extra "x17"
    | k_extra "x18"
    | k_extra "x19"
    | k_extra "x20"
    | k_extra "x21"
    | k_extra "x22"
    | k_extra "x23"
    | k_extra "x24"
    | k_extra "x25"
    | k_extra "x26"
    | k_extra "x27"
    | k_extra "x28"
    | k_extra "x29"
    | k_extra "x30"
    | ((with_reducible show wpP _ _ (isTrue _ _ _) _ _ _); refine P_lift ?_)
    | k_extra "x31"
    | k_extra "x32"
    | k_extra "x33"
    | k_extra "x34"
    | k_extra "x35"
    | k_extra "x36"
    
    | k_extra "x37"
    | k_extra "x38"
    | k_extra "x39"
    | k_extra "x40"
    | ((with_reducible show wpAny _ _ (execs _ _) _ _ _); dsimp only)
    | k_extra "x41"
    | (k_unfold; (try dsimp only))
    | walk1
    | (dsimp only; walk1)
    | (dsimp only; (with_reducible show wpP _ _ _ _ _ _))
    | fail "no step"))
            rename News _ _ _ _ => Nn
            exact ⟨rfl, ei6 _ _ _ _ _ _ ⟨by assumption, by assumption, by assumption, rfl, by assumption, List.forall_mem_cons.mpr ⟨Nn _ (.tail _ (.tail _ (.tail _ (.head _)))), List.forall_mem_cons.mpr ⟨Nn _ (.tail _ (.tail _ (.tail _ (.tail _ (.tail _ (.head _)))))), List.forall_mem_nil _⟩⟩⟩⟩
          case O2 =>
            intro f s' hZq
            refine @opq _ ?_
            intro Gq hGq
            obtain ⟨rfl, h7, tk7, V, R, tl, tr, hV, hVl, hRl, rfl, F7, N7⟩ := hZq
            refine hGq ?_
            clear hGq Gq
            clear F5 N6
            dsimp only
            obtain ⟨m7, hm7⟩ : ∃ m7 : Str → Option Value, m7 = fun y => if y = Str.ofString "read" then some (.bytes (List.toArray R) tr) else if y = Str.ofString "laid" then some (.bytes (List.toArray V) tl) else if y = Str.ofString "mark" then some (.bytes (List.toArray [q]) tm) else m0 y := ⟨_, rfl⟩
            refine P_execs_cons (P_mono (Q := CutL gg LL m7 (q :: (V ++ 10 :: [q])) (506, tabObj ps) s₁) ?U1 ?U2 (fun _ _ e => e))
            case U2 =>
              intro f s' hZq
              refine @opq _ ?_
              intro Gq hGq
              obtain ⟨rfl, h8, tk8, c, b, ti, ts, t1, t2, tk0, tq, oX8, rfl, F8, hX8, hT8, hq8, N8, A8⟩ := hZq
              refine hGq ?_
              clear hGq Gq
              clear F7 N7
              dsimp only
              subst hm7
              have N9 := N8
              dsimp only [LX, List.cons_append, List.nil_append] at N9
              refine P_execs_cons (P_Return (P_Compare1 (P_Call ?_)))
              k_extra "x44"
              (refine' P_callWith_KP ?k1 ?k2 ?_; (case k1 => k_asm); (case k2 => k_is))
              (try dsimp only [List.nil_append, List.cons_append])
              refine P_spliced_e (P_lift ?_)
              k_extra "x45"
              rename News _ _ _ _ => N10
              rename Fr _ _ _ _ => F10
              rename _ < _ ∧ _ => l10
              have nL : News gg LL _ ((_, methodObj (.ref 287) (.ref c.x)) :: (LL + 1 + 1, oX8) :: (LX c b [] 0 ti (hdv c.T) ts (.int 1 t1) (.int 1 t2) (.ref tk0) .none ++ [(506, tabObj ps)])) := N10
              refine P_spliced_e0 ⟨X9.keeps F10.keep, ?_⟩
              refine SpecT.frame (core := (_, methodObj (.ref 287) (.ref c.x)) :: LX c b [] 0 ti (hdv c.T) ts (.int 1 t1) (.int 1 t2) (.ref tk0) .none) (rest := [(506, tabObj ps)]) (heard_next (q := q) (V := V ++ 10 :: [q]) (R0 := R) (W := [q]) _ _ hq hq8 (inn_all hV (.inl (by decide))) (hT8 ▸ At.start _) (by rw [hT8]; rfl) (by rw [hT8]; simp; omega) (by omega)) B9 X9 T9 (Nat.le_refl _) F10 X9 ?Nc ?Nr ?hD T9 rfl rfl rfl rfl rfl (by k_room) (by k_units) ?_
              case Nc =>
                intro q2 hq2
                rcases List.mem_cons.mp hq2 with rfl | hq2
                · exact nL _ (.head _)
                · exact nL q2 (.tail _ (.tail _ (List.mem_append_left _ hq2)))
              case Nr =>
                intro q2 hq2
                exact nL q2 (.tail _ (.tail _ (List.mem_append_right _ hq2)))
              case hD =>
                refine Apart.cons (fun r2 hr2 => ?_) Apart.nil
                rcases List.mem_cons.mp hr2 with rfl | hr2
                · exact Nat.ne_of_lt l10.2.2.2.2.2.2.2
                · exact A8 _ (.tail _ (.head _)) r2 hr2
              rintro v13 core13 h13 tk13 ⟨⟨tm13, rfl⟩, _⟩ F13 Nc13 Nr13 A13
              clear N10 nL Nc13 A13
              have hup : (up0 (q :: R)).length ≤ 9 := Nat.le_trans (up0_len _) (by simp; omega)
              (repeat' ((fail_if_success (with_reducible show Good1 _ _ _ _)); first | ((with_reducible show wpAny _ _ (execs _ _) _ _ _); dsimp only) | (k_unfold; (try dsimp only)) | walk1 | (dsimp only; walk1) | fail "no step"))
              refine hQ1 _ _ ?_
              show Good1 _ _ _ _
              rename News _ _ _ _ => N14
              rename Fr _ _ _ _ => F14
              have eqT : ∀ A B : List UInt8, A = B → (A == B) = true := fun A B h => by rw [h]; exact beq_self_eq_true B
              have hl : ∀ A B : List UInt8, A = B → Except.ok (ε := Value) (Flow.ret (.bool (A == B))) = .ok (.ret (.bool true)) := fun A B h => by rw [eqT A B h]
              refine ⟨_, _, ps, rfl, hl _ _ ?_, fun b o e => F14.keep b o e, (N14 _ (.head _)).1⟩
              show lastL q R = _
              unfold lastL
              rw [nearOf_big (by decide)]
              rfl
            case U1 =>
              refine P_Assign_Name (P_Call ?_)
              k_extra "x44"
              (refine' P_callWith_KP ?k1 ?k2 ?_; (case k1 => k_asm); (case k2 => k_is))
              (try dsimp only [List.nil_append, List.cons_append])
              refine P_spliced_e (P_lift ?_)
              k_extra "x45"
              refine P_spliced_e (P_lift ?_)
              k_extra "x45"
              refine P_spliced_e (P_Call ?_)
              k_extra "x44"
              rename Fr _ _ _ _ => F8
              rename News _ _ _ _ => N8
              (refine' P_callWith_K0 ?k1 ?k2 ?_; (case k1 => exact X9.keeps F8.keep); (case k2 => k_is))
              show wpP _ _ (call (.ref 53) []) _ _ _
              refine P_make_F (core := []) (post := fun x dx c => ∃ kl, c = [(x, instObj 53 dx), (dx, dictOf (LMD kl) 10)]) (fun x dx _ => SpecG.lift (limits_init_spec _ _)) B9 F8 X9 News.nil N8 (fun _ _ _ h => nomatch h) T9 rfl rfl rfl rfl rfl (by k_room) (by k_units) (by k_is) (by k_is) (by k_is) ?_
              rintro lm dl _ h9 tk9 ⟨kl, rfl⟩ F9 Nl Nr Al
              refine P_spliced_e0 ⟨X9.keeps F9.keep, ?_⟩
              have hTs : (q :: (V ++ 10 :: [q])).length ≤ 80000 := by simp; omega
              show wpP _ _ (call (.ref 465) [.bytes (List.toArray (q :: (V ++ 10 :: [q]))) _, .bytes (List.toArray [61, 113]) _, .ref lm]) _ _ _
              refine P_make_F (core := [(lm, instObj 53 dl), (dl, dictOf (LMD kl) 10)]) (fun x dx hlt => lexer_init_spec _ _ (rk_spec _ _) (Nat.ne_of_gt (hlt _ (.tail _ (.head _)))) hTs) B9 F9 X9 Nl Nr Al T9 rfl rfl rfl rfl rfl (by k_room) (by k_units) (by k_is) (by k_is) (by k_is) ?_
              intro x5 dx5 core5 h10 tk10 hZq
              refine @opq _ ?_
              intro Gq hGq
              obtain ⟨k, kd, kn, tq, src, b, ti, ts, t1, t2, tk0, hKF, hcore⟩ := hZq
              refine hGq ?_
              clear hGq Gq
              intro F10 Nc5 Nr5 A5
              obtain ⟨tT, rfl⟩ : ∃ tT, core5 = LX ⟨k, kl, x5, dx5, lm, dl, kd, q :: (V ++ 10 :: [q]), tT, src, .bytes #[113] tq, kn⟩ b [] 0 ti (sgn (q :: (V ++ 10 :: [q])) 0) ts (.int 1 t1) (.int 1 t2) (.ref tk0) .none := ⟨_, hcore⟩
              clear hcore
              refine st_cell F10 (rest := (506, tabObj ps) :: _) (News.append2 Nr5 Nc5) ?ap rfl hcX3 ?_
              case ap =>
                intro q hq
                rcases List.mem_cons.mp hq with rfl | hq
                · exact Nat.ne_of_lt (Nat.lt_succ_of_lt (Nat.lt_succ_of_lt hLL))
                · exact (A5 _ (.head _) q hq).symm
              intro h11 o11 F11 N11 hd11
              refine ⟨rfl, ei11 h11 _ ⟨k, kl, x5, dx5, lm, dl, kd, q :: (V ++ 10 :: [q]), tT, src, .bytes #[113] tq, kn⟩ b ti ts t1 t2 tk0 tq o11 ⟨rfl, hm7 ▸ F11, hd11, rfl, rfl, ?n1, ?n2⟩⟩
              case n1 =>
                rw [← (At.start (q :: (V ++ 10 :: [q]))).sgn]
                intro q hq
                rcases List.mem_append.mp hq with hq | hq
                · rcases List.mem_cons.mp hq with rfl | hq
                  · exact N11 _ (.head _)
                  · exact N11 q (.tail _ (.tail _ hq))
                · rw [List.mem_singleton.mp hq]
                  exact N11 _ (.tail _ (.head _))
              case n2 =>
                rw [← (At.start (q :: (V ++ 10 :: [q]))).sgn]
                exact Apart.cons (fun r2 hr2 => A5 _ (.head _) r2 hr2) (Apart.cons (fun r2 hr2 => A5 _ (.tail _ (.head _)) r2 hr2) Apart.nil)
      case S5 =>
        refine P_For_list (D := D) (ys := xs.map Tk1.ref) (J4 LL sa D c oX3 (restC LL D r sl vs kk u n' oR2 xs) (xs.map (·.laid))) rfl ?hr ?hJ F3 ?hN (J4_start hcT Ap3 hrest3 hLL) ?hx ?step ?fin
        case hr =>
          intro v hv
          obtain ⟨x, _, rfl⟩ := List.mem_map.mp hv
          exact ⟨_, rfl⟩
        case hJ =>
          intro i m n hZq
          refine @opq _ ?_
          intro Gq hGq
          obtain ⟨la, ki, va, ne, to, du, b, B, idx, ti, ts, u1, u2, cur, ps, codes, rfl, hA, hL, rfl, _⟩ := hZq
          refine hGq ?_
          clear hGq Gq
          exact .tail _ (List.mem_append_right _ (.tail _ (List.mem_append_right _ (.head _))))
        case hN =>
          intro q hq
          rcases List.mem_cons.mp hq with rfl | hq
          · exact N3b _ (.tail _ (.head _))
          · rcases List.mem_cons.mp hq with rfl | hq
            · exact N3b _ (.head _)
            · rcases List.mem_append.mp hq with hq | hq
              · exact N3a q hq
              · exact N3b q (.tail _ (.tail _ hq))
        case hx =>
          intro Q' hQ'
          refine nameX_L F3 rfl hQ'
        case fin =>
          intro m n h' tk hJ F N
          rw [List.length_map] at hJ
          exact ⟨rfl, h', tk, rfl, m, n, hJ, F, N⟩
        case step =>
          clear N3a N3b Ap3 F3
          intro I i m1 n1 T oI h4 tk4 E' hZq
          refine @opq _ ?_
          intro Gq hGq
          obtain ⟨la, ki, va, ne, to, du, b, B, idx, ti, ts, u1, u2, cur, ps, codes, rfl, hA, hL, rfl, ap1, ap2, ap3⟩ := hZq
          refine hGq ?_
          clear hGq Gq
          intro hT F N4 apI
          have hlt : i < xs.length := by have := (List.getElem?_eq_some_iff.mp hT).1; rwa [List.length_map] at this
          have hlt2 : i < (xs.map (·.laid)).length := by rwa [List.length_map]
          have hmx : (xs[i]).obj ∈ xs.map Tk1.obj := List.mem_map_of_mem (List.getElem_mem hlt)
          rw [List.getElem?_map, List.getElem?_eq_getElem hlt] at hT
          cases Option.some.inj hT
          clear hT
          obtain ⟨hTK, htv, hnv⟩ := hok _ (List.getElem_mem hlt)
          obtain ⟨Bf, hTn, hBf, hNr⟩ := tk_tokn hTK (tailB_sep ((xs.map (·.laid)).drop (i + 1)))
          have eW := leftB_next i (xs.map (·.laid))
          rw [leftB_at hlt2, List.getElem_map] at hA N4 ap1 ap2 ap3 apI
          have hTup : IsTup h4 (xs[i]).D #[.bytes (List.toArray (xs[i]).laid) (xs[i]).tl, .int (xs[i]).kind (xs[i]).tk, (xs[i]).vv, (xs[i]).nv] :=
            ⟨_, (N4 _ (.tail _ (.tail _ (List.mem_append_right _ (.tail _ (List.mem_append_right _ (.tail _ (.tail _ (.tail _ (.tail _ hmx))))))))) ).1, rfl, _, rfl⟩
          generalize xs[i] = x at *
          revert x
          refine boxed ?_
          set_option tactic.hygienic false in intros
          obtain ⟨laid, kind, tv, near, Dx, tl, tkx, vv, nv⟩ := x
          dsimp only at hTup hTK htv hnv hTn hBf hNr hA N4 ap1 ap2 ap3 apI
          generalize tailB ((xs.map (·.laid)).drop (i + 1)) = W at *
          revert W
          refine boxed ?_
          set_option tactic.hygienic false in intros
          generalize hRC : restC LL D r sl vs kk u n' oR2 xs = RC at *
          revert RC
          refine boxed ?_
          set_option tactic.hygienic false in intros
          obtain ⟨RT, hRT⟩ : ∃ RT, RT = (I, oI) :: (506, tabObj ps) :: (codes ++ RC) := ⟨_, rfl⟩
          obtain ⟨sg, hsg⟩ : ∃ sg, sg = hdv (headB i ++ (laid ++ W)) := ⟨_, rfl⟩
          rw [← hsg] at N4 ap1 ap2 ap3 apI
          have N5 : News gg LL h4 ((LL + 1 + 1, oX3) :: (LX c b B idx ti sg ts (.int 1 u1) (.int 1 u2) (.ref cur) .none ++ RT)) := fun q hq => by
            rcases List.mem_cons.mp hq with rfl | hq
            · exact N4 _ (.tail _ (.tail _ (List.mem_append_right _ (.head _))))
            · rcases List.mem_append.mp hq with hq | hq
              · exact N4 q (.tail _ (.tail _ (List.mem_append_right _ (.tail _ (List.mem_append_left _ hq)))))
              · rw [hRT] at hq
                rcases List.mem_cons.mp hq with rfl | hq
                · exact N4 _ (.head _)
                · rcases List.mem_cons.mp hq with rfl | hq
                  · exact N4 _ (.tail _ (.head _))
                  · rcases List.mem_append.mp hq with hq | hq
                    · exact N4 q (.tail _ (.tail _ (List.mem_append_left _ hq)))
                    · exact N4 q (.tail _ (.tail _ (List.mem_append_right _ (.tail _ (List.mem_append_right _ hq)))))
          clear N4
          dsimp only [LX, List.cons_append, List.nil_append] at N5
          refine unpackN_ F N5 hTup rfl rfl rfl ?_
          clear F N5 hTup
          intro h5 F N5
          (try dsimp only)
          (repeat' ((fail_if_success (with_reducible show wpP _ _ (call (Value.ref 287) _) _ _ _)); (fail_if_success (with_reducible show ∃ n' : Nat, n' < _ ∧ _)); first
    | k_extra "x17"
    | k_extra "x18"
    | k_extra "x19"
    | k_extra "x20"
    | k_extra "x21"
    | k_extra "x22"
    | k_extra "x23"
    | k_extra "x24"
    | k_extra "x25"
    | k_extra "x26"
    | k_extra "x27"
    | k_extra "x28"
    | k_extra "x29"
    | k_extra "x30"
    | ((with_reducible show wpP _ _ (isTrue _ _ _) _ _ _); refine P_lift ?_)
    | k_extra "x31"
    | k_extra "x32"
    | k_extra "x33"
    | k_extra "x34"
    | k_extra "x35"
    | k_extra "x36"
    
    | k_extra "x37"
    | k_extra "x38"
    | k_extra "x39"
    | k_extra "x40"
    | ((with_reducible show wpAny _ _ (execs _ _) _ _ _); dsimp only)
    | k_extra "x41"
    | (k_unfold; (try dsimp only))
    | walk1
    | (dsimp only; walk1)
    | (dsimp only; (with_reducible show wpP _ _ _ _ _ _))
    | fail "no step"))
          rename News _ _ _ _ => N6
          rename Fr _ _ _ _ => F6
          refine SpecP.frame (core := LX c b B idx ti sg ts (.int 1 u1) (.int 1 u2) (.ref cur) .none) (rest := (LL + 1 + 1, oX3) :: RT) (next_spec _ _ (headB_or i) hTn hKF hA hsg (hcT ▸ Nat.le_trans (join_small xs hok) (by omega))) B9 F6 X9 (fun q hq => ?nc) (fun q hq => ?nr) ?apr T9 rfl rfl rfl rfl rfl (by k_room) (by k_units) ?_
          case nc => exact N6 q (.tail _ (List.mem_append_left _ hq))
          case nr =>
            rcases List.mem_cons.mp hq with rfl | hq
            · exact N6 _ (.head _)
            · exact N6 q (.tail _ (List.mem_append_right (LX c b B idx ti sg ts (.int 1 u1) (.int 1 u2) (.ref cur) .none) hq))
          case apr =>
            intro q hq r2 hr2
            rcases List.mem_cons.mp hq with rfl | hq
            · exact ap3 _ (.head _) r2 hr2
            · rw [hRT] at hq
              rcases List.mem_cons.mp hq with rfl | hq
              · exact (apI r2 (.tail _ (List.mem_append_right _ (.tail _ (List.mem_append_left _ hr2))))).symm
              · rcases List.mem_cons.mp hq with rfl | hq
                · exact ap1 _ (.head _) r2 (List.mem_append_right _ (.tail _ hr2))
                · rcases List.mem_append.mp hq with hq | hq
                  · exact ap2 q hq r2 (.tail _ hr2)
                  · exact ap1 q (.tail _ hq) r2 (List.mem_append_right _ (.tail _ hr2))
          clear N6 F6
          intro v6 core6 h6 tk6 hZq
          refine @opq _ ?_
          intro Gq hGq
          obtain ⟨x6, dx6, k6, uk, vv2, b2, idx2, ta, tb, rfl, htv2, hA2, rfl⟩ := hZq
          refine hGq ?_
          clear hGq Gq
          intro F6 Nc Nr Ar
          have N6 : News gg LL h6 (TKL x6 dx6 k6 (.int kind uk) vv2 (LX c b2 Bf idx2 ta (hdv W) tb (.int 1 u1) (.int 1 u1) (.ref x6) .none) ++ (LL + 1 + 1, oX3) :: RT) := News.append2 Nc Nr
          clear Nc Nr
          dsimp only [TKL, LX, List.cons_append, List.nil_append] at N6
          (repeat' ((fail_if_success (with_reducible show wpP _ _ (execs (Stmt.If _ _ _ _ :: _) _) _ _ _)); (fail_if_success (with_reducible show ∃ n' : Nat, n' < _ ∧ _)); first
    | k_extra "x17"
    | k_extra "x18"
    | k_extra "x19"
    | k_extra "x20"
    | k_extra "x21"
    | k_extra "x22"
    | k_extra "x23"
    | k_extra "x24"
    | k_extra "x25"
    | k_extra "x26"
    | k_extra "x27"
    | k_extra "x28"
    | k_extra "x29"
    | k_extra "x30"
    | ((with_reducible show wpP _ _ (isTrue _ _ _) _ _ _); refine P_lift ?_)
    | k_extra "x31"
    | k_extra "x32"
    | k_extra "x33"
    | k_extra "x34"
    | k_extra "x35"
    | k_extra "x36"
    
    | k_extra "x37"
    | k_extra "x38"
    | k_extra "x39"
    | k_extra "x40"
    | ((with_reducible show wpAny _ _ (execs _ _) _ _ _); dsimp only)
    | k_extra "x41"
    | (k_unfold; (try dsimp only))
    | walk1
    | (dsimp only; walk1)
    | (dsimp only; (with_reducible show wpP _ _ _ _ _ _))
    | fail "no step"))
          rename News _ _ _ _ => N7
          rename Fr _ _ _ _ => F7
          have F8 := F7
          rw [l4_set5] at F8
          clear F7
          refine P_execs_cons (P_mono (Q := CutF gg LL (fun _ => l4 (mapT sa D) (some (.bytes (List.toArray laid) tl)) (some (.int kind tkx)) (some vv) (some nv) (some (.ref x6)) du) (TKL x6 dx6 k6 (.int kind uk) vv2 (LX c b2 Bf idx2 ta (hdv W) tb (.int 1 u1) (.int 1 u1) (.ref x6) .none) ++ (LL + 1 + 1, oX3) :: RT) s₁) ?I1 ?I2 (fun _ _ e => e))
          case I1 =>
            clear ap1 ap2 ap3 apI Ar hok hTK hTn hA hA2
            have N8 := N7
            clear N7
            cases tv with
            | b lv =>
              obtain ⟨t8, rfl⟩ := htv
              obtain ⟨t9, rfl⟩ := htv2
              refine P_IfA ?_
              (repeat' ((fail_if_success (with_reducible show CutF _ _ _ _ _ _ _)); (fail_if_success (with_reducible show ∃ n' : Nat, n' < _ ∧ _)); first
    | k_extra "x17"
    | k_extra "x18"
    | k_extra "x19"
    | k_extra "x20"
    | k_extra "x21"
    | k_extra "x22"
    | k_extra "x23"
    | k_extra "x24"
    | k_extra "x25"
    | k_extra "x26"
    | k_extra "x27"
    | k_extra "x28"
    | k_extra "x29"
    | k_extra "x30"
    | ((with_reducible show wpP _ _ (isTrue _ _ _) _ _ _); refine P_lift ?_)
    | k_extra "x31"
    | k_extra "x32"
    | k_extra "x33"
    | k_extra "x34"
    | k_extra "x35"
    | k_extra "x36"
    
    | k_extra "x37"
    | k_extra "x38"
    | k_extra "x39"
    | k_extra "x40"
    | ((with_reducible show wpAny _ _ (execs _ _) _ _ _); dsimp only)
    | k_extra "x41"
    | (k_unfold; (try dsimp only))
    | walk1
    | (dsimp only; walk1)
    | (dsimp only; (with_reducible show wpP _ _ _ _ _ _))
    | fail "no step"))
              all_goals first | exact ⟨rfl, _, _, 0, rfl, by assumption, by assumption⟩ | (exfalso; rename (_ != _) = true => hq; exact absurd hq (by simp)) | (exfalso; omega)
            | i zv =>
              obtain ⟨t8, rfl⟩ := htv
              obtain ⟨t9, rfl⟩ := htv2
              refine P_IfA ?_
              (repeat' ((fail_if_success (with_reducible show CutF _ _ _ _ _ _ _)); (fail_if_success (with_reducible show ∃ n' : Nat, n' < _ ∧ _)); first
    | k_extra "x17"
    | k_extra "x18"
    | k_extra "x19"
    | k_extra "x20"
    | k_extra "x21"
    | k_extra "x22"
    | k_extra "x23"
    | k_extra "x24"
    | k_extra "x25"
    | k_extra "x26"
    | k_extra "x27"
    | k_extra "x28"
    | k_extra "x29"
    | k_extra "x30"
    | ((with_reducible show wpP _ _ (isTrue _ _ _) _ _ _); refine P_lift ?_)
    | k_extra "x31"
    | k_extra "x32"
    | k_extra "x33"
    | k_extra "x34"
    | k_extra "x35"
    | k_extra "x36"
    
    | k_extra "x37"
    | k_extra "x38"
    | k_extra "x39"
    | k_extra "x40"
    | ((with_reducible show wpAny _ _ (execs _ _) _ _ _); dsimp only)
    | k_extra "x41"
    | (k_unfold; (try dsimp only))
    | walk1
    | (dsimp only; walk1)
    | (dsimp only; (with_reducible show wpP _ _ _ _ _ _))
    | fail "no step"))
              all_goals first | exact ⟨rfl, _, _, 0, rfl, by assumption, by assumption⟩ | (exfalso; rename (_ != _) = true => hq; exact absurd hq (by simp)) | (exfalso; omega)
            | n =>
              cases htv
              cases htv2
              refine P_IfA ?_
              (repeat' ((fail_if_success (with_reducible show CutF _ _ _ _ _ _ _)); (fail_if_success (with_reducible show ∃ n' : Nat, n' < _ ∧ _)); first
    | k_extra "x17"
    | k_extra "x18"
    | k_extra "x19"
    | k_extra "x20"
    | k_extra "x21"
    | k_extra "x22"
    | k_extra "x23"
    | k_extra "x24"
    | k_extra "x25"
    | k_extra "x26"
    | k_extra "x27"
    | k_extra "x28"
    | k_extra "x29"
    | k_extra "x30"
    | ((with_reducible show wpP _ _ (isTrue _ _ _) _ _ _); refine P_lift ?_)
    | k_extra "x31"
    | k_extra "x32"
    | k_extra "x33"
    | k_extra "x34"
    | k_extra "x35"
    | k_extra "x36"
    
    | k_extra "x37"
    | k_extra "x38"
    | k_extra "x39"
    | k_extra "x40"
    | ((with_reducible show wpAny _ _ (execs _ _) _ _ _); dsimp only)
    | k_extra "x41"
    | (k_unfold; (try dsimp only))
    | walk1
    | (dsimp only; walk1)
    | (dsimp only; (with_reducible show wpP _ _ _ _ _ _))
    | fail "no step"))
              all_goals first | exact ⟨rfl, _, _, 0, rfl, by assumption, by assumption⟩ | (exfalso; rename (_ != _) = true => hq; exact absurd hq (by simp)) | (exfalso; omega)
          case I2 =>
            intro f s' hZq
            refine @opq _ ?_
            intro Gq hGq
            obtain ⟨rfl, h9, tk9, _, rfl, F9, N9⟩ := hZq
            refine hGq ?_
            clear hGq Gq
            clear F8 N7
            dsimp only
            refine P_execs_cons (P_mono (Q := CutF gg LL (fun td => l4 (mapT sa D) (some (.bytes (List.toArray laid) tl)) (some (.int kind tkx)) (some vv) (some nv) (some (.ref x6)) (some (.bytes (List.toArray (dueL near)) td))) (TKL x6 dx6 k6 (.int kind uk) vv2 (LX c b2 Bf idx2 ta (hdv W) tb (.int 1 u1) (.int 1 u1) (.ref x6) .none) ++ (LL + 1 + 1, oX3) :: RT) s₁) ?D1 ?D2 (fun _ _ e => e))
            case D1 =>
              clear ap1 ap2 ap3 apI Ar hok hTK hTn hA hA2
              have N10 := N9
              clear N9
              cases near with
              | none =>
                cases hnv
                refine P_lift ?_
                (repeat' ((fail_if_success (with_reducible show CutF _ _ _ _ _ _ _)); (fail_if_success (with_reducible show ∃ n' : Nat, n' < _ ∧ _)); first
    | k_extra "x17"
    | k_extra "x18"
    | k_extra "x19"
    | k_extra "x20"
    | k_extra "x21"
    | k_extra "x22"
    | k_extra "x23"
    | k_extra "x24"
    | k_extra "x25"
    | k_extra "x26"
    | k_extra "x27"
    | k_extra "x28"
    | k_extra "x29"
    | k_extra "x30"
    | ((with_reducible show wpP _ _ (isTrue _ _ _) _ _ _); refine P_lift ?_)
    | k_extra "x31"
    | k_extra "x32"
    | k_extra "x33"
    | k_extra "x34"
    | k_extra "x35"
    | k_extra "x36"
    
    | k_extra "x37"
    | k_extra "x38"
    | k_extra "x39"
    | k_extra "x40"
    | ((with_reducible show wpAny _ _ (execs _ _) _ _ _); dsimp only)
    | k_extra "x41"
    | (k_unfold; (try dsimp only))
    | walk1
    | (dsimp only; walk1)
    | (dsimp only; (with_reducible show wpP _ _ _ _ _ _))
    | fail "no step"))
                rename Fr _ _ _ _ => F10
                rw [l4_set6] at F10
                first | exact ⟨rfl, _, _, _, rfl, F10, by assumption⟩
              | some ln =>
                obtain ⟨tn, rfl⟩ := hnv
                have hln : ln.length ≤ 109 := by
                  rcases hNr with ⟨_, h⟩ | ⟨_, h⟩
                  · cases h
                  · rw [Option.some.inj h]; exact Nat.le_trans nearOf_len (by omega)
                refine P_lift ?_
                (repeat' ((fail_if_success (with_reducible show CutF _ _ _ _ _ _ _)); (fail_if_success (with_reducible show ∃ n' : Nat, n' < _ ∧ _)); first
    | k_extra "x17"
    | k_extra "x18"
    | k_extra "x19"
    | k_extra "x20"
    | k_extra "x21"
    | k_extra "x22"
    | k_extra "x23"
    | k_extra "x24"
    | k_extra "x25"
    | k_extra "x26"
    | k_extra "x27"
    | k_extra "x28"
    | k_extra "x29"
    | k_extra "x30"
    | ((with_reducible show wpP _ _ (isTrue _ _ _) _ _ _); refine P_lift ?_)
    | k_extra "x31"
    | k_extra "x32"
    | k_extra "x33"
    | k_extra "x34"
    | k_extra "x35"
    | k_extra "x36"
    
    | k_extra "x37"
    | k_extra "x38"
    | k_extra "x39"
    | k_extra "x40"
    | ((with_reducible show wpAny _ _ (execs _ _) _ _ _); dsimp only)
    | k_extra "x41"
    | (k_unfold; (try dsimp only))
    | walk1
    | (dsimp only; walk1)
    | (dsimp only; (with_reducible show wpP _ _ _ _ _ _))
    | fail "no step"))
                rename Fr _ _ _ _ => F10
                rw [l4_set6] at F10
                first | exact ⟨rfl, _, _, _, rfl, F10, by assumption⟩
            case D2 =>
              intro f s' hZq
              refine @opq _ ?_
              intro Gq hGq
              obtain ⟨rfl, h11, tk11, td, rfl, F11, N11⟩ := hZq
              refine hGq ?_
              clear hGq Gq
              clear F9 N9
              dsimp only
              dsimp only at F11
              refine P_execs_cons (P_If (P_isTrue_Compare1 (P_Call ?_)))
              k_extra "x44"
              (refine' P_callWith_KP ?k1 ?k2 ?_; (case k1 => k_asm); (case k2 => k_is))
              (try dsimp only [List.nil_append, List.cons_append])
              refine P_spliced_e (P_lift ?_)
              refine lam_make (rest := (LL + 1 + 1, oX3) :: (TKL x6 dx6 k6 (.int kind uk) vv2 (LX c b2 Bf idx2 ta (hdv W) tb (.int 1 u1) (.int 1 u1) (.ref x6) .none) ++ (I, oI) :: RC)) F11 ?LN ?L6 ?LA T9 C9 rfl hL rfl rfl ?_
              case LN =>
                intro q hq
                rcases List.mem_cons.mp hq with rfl | hq
                · exact N11 _ (List.mem_append_right _ (.tail _ (hRT ▸ .tail _ (.head _))))
                · rcases List.mem_append.mp hq with hq | hq
                  · exact N11 q (List.mem_append_right _ (.tail _ (hRT ▸ .tail _ (.tail _ (List.mem_append_left _ hq)))))
                  · rcases List.mem_cons.mp hq with rfl | hq
                    · exact N11 _ (List.mem_append_right _ (.head _))
                    · rcases List.mem_append.mp hq with hq | hq
                      · exact N11 q (List.mem_append_left _ hq)
                      · rcases List.mem_cons.mp hq with rfl | hq
                        · exact N11 _ (List.mem_append_right _ (.tail _ (hRT ▸ .head _)))
                        · exact N11 q (List.mem_append_right _ (.tail _ (hRT ▸ .tail _ (.tail _ (List.mem_append_right _ hq)))))
              case L6 =>
                intro q hq
                rcases List.mem_cons.mp hq with rfl | hq
                · exact Nat.ne_of_gt (Nat.lt_succ_of_lt (Nat.lt_succ_of_lt hLL))
                · rcases List.mem_append.mp hq with hq | hq
                  · exact (Ar (506, tabObj ps) (.tail _ (hRT ▸ .tail _ (.head _))) q hq).symm
                  · rcases List.mem_cons.mp hq with rfl | hq
                    · exact (apI _ (.head _)).symm
                    · exact (hrest3 q hq).2
              case LA =>
                intro q hq r2 hr2
                rcases List.mem_cons.mp hr2 with rfl | hr2
                · exact ap2 q hq _ (.head _)
                · rcases List.mem_append.mp hr2 with hr2 | hr2
                  · exact Ar q (.tail _ (hRT ▸ .tail _ (.tail _ (List.mem_append_left _ hq)))) r2 hr2
                  · rcases List.mem_cons.mp hr2 with rfl | hr2
                    · exact apI q (.tail _ (List.mem_append_left _ hq))
                    · exact (ap1 r2 (.tail _ hr2) q (List.mem_append_left _ hq)).symm
              intro f c' oc vs7 t7 ctv h12 tk12 F12 N12 hd7 hv7 nf1 nf2 nf3 nrest
              refine P_spliced_e0 ⟨X9.keeps F12.keep, ?_⟩
              refine SpecT.frame (core := (f, kla_obj "<lambda>" (Str.ofString "law.<locals>.<lambda>") noPar lamBody lamScope [(Str.ofString "lexer", LL + 1 + 1)] ((mg "__name__").getD .none) c' ctv) :: (c', oc) :: (LL + 1 + 1, oX3) :: TKL x6 dx6 k6 (.int kind uk) vv2 (LX c b2 Bf idx2 ta (hdv W) tb (.int 1 u1) (.int 1 u1) (.ref x6) .none))
                (rest := (506, tabObj #[rawInt 484, rawInt 22, .ref c']) :: (I, oI) :: RC) (heard_lam (t := t7) _ _ hNr hchk (by omega) hcX3 hd7 hv7 ?hap) B9 X9 T9 (Nat.le_refl _) F12 X9 ?Nc ?Nr ?hD T9 rfl rfl rfl rfl rfl (by k_room) (by k_units) ?_
              case hap =>
                refine Apart.cons (fun r2 hr2 => ((nrest r2 (.tail _ (List.mem_append_left _ hr2))).2).symm) (Apart.cons (fun r2 hr2 => Ar _ (.head _) r2 hr2) Apart.nil)
              case Nc =>
                intro q hq
                rcases List.mem_cons.mp hq with rfl | hq
                · exact N12 _ (.head _)
                · rcases List.mem_cons.mp hq with rfl | hq
                  · exact N12 _ (.tail _ (.head _))
                  · rcases List.mem_cons.mp hq with rfl | hq
                    · exact N12 _ (.tail _ (.tail _ (.tail _ (.head _))))
                    · exact N12 q (.tail _ (.tail _ (.tail _ (.tail _ (List.mem_append_left _ hq)))))
              case Nr =>
                intro q hq
                rcases List.mem_cons.mp hq with rfl | hq
                · exact N12 _ (.tail _ (.tail _ (.head _)))
                · exact N12 q (.tail _ (.tail _ (.tail _ (.tail _ (List.mem_append_right _ hq)))))
              case hD =>
                refine Apart.cons (fun r2 hr2 => ?hd1) (fun q hq r2 hr2 => ?hd2)
                case hd1 =>
                  rcases List.mem_cons.mp hr2 with rfl | hr2
                  · exact nf2.symm
                  · rcases List.mem_cons.mp hr2 with rfl | hr2
                    · exact nf3.symm
                    · rcases List.mem_cons.mp hr2 with rfl | hr2
                      · exact Nat.ne_of_lt (Nat.lt_succ_of_lt (Nat.lt_succ_of_lt hLL))
                      · exact Ar (506, tabObj ps) (.tail _ (hRT ▸ .tail _ (.head _))) r2 hr2
                case hd2 =>
                  have nq := nrest q (.tail _ (List.mem_append_right _ hq))
                  rcases List.mem_cons.mp hr2 with rfl | hr2
                  · exact nq.1
                  · rcases List.mem_cons.mp hr2 with rfl | hr2
                    · exact nq.2
                    · rcases List.mem_cons.mp hr2 with rfl | hr2
                      · rcases List.mem_cons.mp hq with rfl | hq
                        · exact (apI (LL + 1 + 1, oX3) (.tail _ (List.mem_append_right _ (.head _)))).symm
                        · exact (hrest3 q hq).1
                      · rcases List.mem_cons.mp hq with rfl | hq
                        · exact Ar _ (.tail _ (hRT ▸ .head _)) r2 hr2
                        · exact Ar q (.tail _ (hRT ▸ .tail _ (.tail _ (List.mem_append_right _ hq)))) r2 hr2
              rintro v13 core13 h13 tk13 ⟨⟨tm, rfl⟩, rfl⟩ F13 Nc13 Nr13 A13
              generalize dueL near = dl at *
              have hNew : News gg LL h13 ((506, tabObj #[rawInt 484, rawInt 22, .ref c']) :: (I, oI) :: (RC ++ (c', oc) :: (LL + 1 + 1, oX3) :: LX c b2 Bf idx2 ta (hdv W) tb (.int 1 u1) (.int 1 u1) (.ref x6) .none)) := News.append2 Nr13 Nc13
              clear Nr13 Nc13 N12 F12 N11 F11 ap1 ap2 ap3
              (repeat' ((fail_if_success (with_reducible show TurnEnd _ _ _ _ _ _ _ _)); (fail_if_success (with_reducible show ∃ n' : Nat, n' < _ ∧ _)); first
    | k_extra "x17"
    | k_extra "x18"
    | k_extra "x19"
    | k_extra "x20"
    | k_extra "x21"
    | k_extra "x22"
    | k_extra "x23"
    | k_extra "x24"
    | k_extra "x25"
    | k_extra "x26"
    | k_extra "x27"
    | k_extra "x28"
    | k_extra "x29"
    | k_extra "x30"
    | ((with_reducible show wpP _ _ (isTrue _ _ _) _ _ _); refine P_lift ?_)
    | k_extra "x31"
    | k_extra "x32"
    | k_extra "x33"
    | k_extra "x34"
    | k_extra "x35"
    | k_extra "x36"
    
    | k_extra "x37"
    | k_extra "x38"
    | k_extra "x39"
    | k_extra "x40"
    | ((with_reducible show wpAny _ _ (execs _ _) _ _ _); dsimp only)
    | k_extra "x41"
    | (k_unfold; (try dsimp only))
    | walk1
    | (dsimp only; walk1)
    | (dsimp only; (with_reducible show wpP _ _ _ _ _ _))
    | fail "no step"))
              all_goals first | (exfalso; rename (_ != _) = true => hq; exact absurd hq (by simp)) | skip
              refine ⟨rfl, ei4 h13 _ _ ((506, tabObj #[rawInt 484, rawInt 22, .ref c']) :: ([(c', oc)] ++ (LL + 1 + 1, oX3) :: (LX c b2 Bf idx2 ta (hdv W) tb (.int 1 u1) (.int 1 u1) (.ref x6) .none ++ RC))) ⟨rfl, F13, ?N, ?ap, ?jj⟩⟩
              case N =>
                intro q hq
                rcases List.mem_cons.mp hq with rfl | hq
                · exact hNew _ (.tail _ (.head _))
                · rcases List.mem_cons.mp hq with rfl | hq
                  · exact hNew _ (.head _)
                  · rcases List.mem_cons.mp hq with rfl | hq
                    · exact hNew _ (.tail _ (.tail _ (List.mem_append_right _ (.head _))))
                    · rcases List.mem_cons.mp hq with rfl | hq
                      · exact hNew _ (.tail _ (.tail _ (List.mem_append_right _ (.tail _ (.head _)))))
                      · rcases List.mem_append.mp hq with hq | hq
                        · exact hNew q (.tail _ (.tail _ (List.mem_append_right _ (.tail _ (.tail _ hq)))))
                        · exact hNew q (.tail _ (.tail _ (List.mem_append_left _ hq)))
              case ap =>
                intro q hq
                rcases List.mem_cons.mp hq with rfl | hq
                · exact apI (506, tabObj ps) (.head _)
                · rcases List.mem_cons.mp hq with rfl | hq
                  · exact ((nrest _ (.tail _ (List.mem_append_right _ (.head _)))).2).symm
                  · rcases List.mem_cons.mp hq with rfl | hq
                    · exact apI (LL + 1 + 1, oX3) (.tail _ (List.mem_append_right _ (.head _)))
                    · rcases List.mem_append.mp hq with hq | hq
                      · exact (A13 (I, oI) (.tail _ (.head _)) q (.tail _ (.tail _ hq))).symm
                      · exact apI q (.tail _ (List.mem_append_right _ (.tail _ (List.mem_append_right _ hq))))
              case jj =>
                unfold J4
                rw [eW]
                refine ei16 _ _ _ _ _ _ b2 Bf idx2 ta tb u1 u1 x6 #[rawInt 484, rawInt 22, .ref c'] [(c', oc)] ⟨rfl, hA2, .inr (ei4 c' oc vs7 t7 ⟨rfl, rfl, hd7, hv7⟩), rfl, ?q1, ?q2, ?q3⟩
                case q1 =>
                  intro q hq
                  rcases List.mem_cons.mp hq with rfl | hq
                  · exact A13 _ (.head _)
                  · exact A13 q (.tail _ (.tail _ hq))
                case q2 =>
                  refine Apart.cons (fun r2 hr2 => ?_) Apart.nil
                  rcases List.mem_cons.mp hr2 with rfl | hr2
                  · exact ((nrest _ (.head _)).2).symm
                  · exact ((nrest r2 (.tail _ (List.mem_append_left _ (.tail _ (.tail _ hr2))))).2).symm
                case q3 => exact Apart.cons (fun r2 hr2 => Ar _ (.head _) r2 (.tail _ (.tail _ hr2))) Apart.nil
    refine P_Assign_Name (P_Call ?_)
    k_extra "x44"
    (refine' P_callWith_KP ?k1 ?k2 ?_; (case k1 => k_asm); (case k2 => k_is))
    (try dsimp only [List.nil_append, List.cons_append])
    refine P_spliced_e (P_lift (wpAny_mono (Q := CutJ gg LL (fun y => if y = Str.ofString "tokens" then some (.ref D) else lm0 sa y) ((D, LCg.lst (xs.map Tk1.ref)) :: (ropeL r sl vs kk u n' ++ otherL LL oX oR2 xs)) (joinB (xs.map (·.laid))) s₁) ?J ?K (fun _ _ e => e)))
    case J =>
      (repeat' ((fail_if_success (with_reducible show wpAny _ _ (eval (PySem.Expr.ListComp _ _ _ _) _) _ _ _)); first | ((with_reducible show wpAny _ _ (execs _ _) _ _ _); dsimp only) | (k_unfold; (try dsimp only)) | walk1 | (dsimp only; walk1) | fail "no step"))
      refine LCg.ListComp_U (F₀ := F2) (by rfl) (by decide) (by rfl) (by decide) (by rfl) ?_
      (repeat' ((fail_if_success (with_reducible show LCg.CompSrc _ _ _ _ _ _ _ _ _ _ _ _ _ _)); first | ((with_reducible show wpAny _ _ (execs _ _) _ _ _); dsimp only) | (k_unfold; (try dsimp only)) | walk1 | (dsimp only; walk1) | fail "no step"))
      refine LCg.CompSrc.ledger rfl F2 N2' (.head _) ?sz ?_
      case sz =>
        rw [List.size_toArray, List.length_map]
        exact Nat.le_trans hlen4 (by decide +kernel)
      intro g3
      rw [List.size_toArray, List.length_map]
      refine comp_ind (J3 ((D, LCg.lst (xs.map Tk1.ref)) :: (ropeL r sl vs kk u n' ++ otherL LL oX oR2 xs)) xs) ?step ?fin _ _ _ _ ⟨rfl, rfl, .nil⟩
      case fin =>
        rintro i ys news ⟨rfl, hi, hB⟩
        rw [List.take_of_length_le (by omega)] at hB
        unfold LCg.FinE
        intro D3 h3 tk3 F3 N3 o3
        (repeat' ((fail_if_success (with_reducible show wpAny _ _ (call (Value.builtin "bytes.join") _) _ _ _)); first | ((with_reducible show wpAny _ _ (execs _ _) _ _ _); dsimp only) | (k_unfold; (try dsimp only)) | walk1 | (dsimp only; walk1) | fail "no step"))
        refine jn_call ⟨_, (N3 _ (.head _)).1, rfl, _, rfl⟩ hB ?y1 ?y2 ?_
        case y1 => intro e; exact hne0 (List.map_eq_nil_iff.mp e)
        case y2 => exact Nat.le_trans (join_small xs hok) (by omega)
        intro t4 k4
        exact ⟨_, _, _, rfl, rfl, F3, news_sub N3 fun q hq => .tail _ hq⟩
      case step =>
        intro k i ys news hZq
        refine @opq _ ?_
        intro Gq hGq
        obtain ⟨rfl, hi, hB⟩ := hZq
        refine hGq ?_
        clear hGq Gq
        intro v I oI C oC D3 m₂ h3 tk3 E' hP hns hx F3 N3 off3 hZq
        refine @opq _ ?_
        intro Gq hGq
        obtain ⟨i1, i2, i3⟩ := hZq
        refine hGq ?_
        clear hGq Gq
        have hlt : i < xs.length := by omega
        have ev : v = .ref xs[i].D := by
          rw [List.getElem?_toArray, List.getElem?_map, List.getElem?_eq_getElem hlt] at hP
          exact (Option.some.inj hP).symm
        subst ev
        clear hP
        have hxm : (xs[i]).obj ∈ otherL LL oX oR2 xs := List.mem_append_right _ (List.mem_map_of_mem (List.getElem_mem hlt))
        (repeat' ((fail_if_success (with_reducible show wpAny _ _ (subscriptTail _ _ _ _) _ _ _)); first | ((with_reducible show wpAny _ _ (execs _ _) _ _ _); dsimp only) | (k_unfold; (try dsimp only)) | walk1 | (dsimp only; walk1) | fail "no step"))
        refine item_tupleT (l := [.bytes (List.toArray xs[i].laid) xs[i].tl, .int xs[i].kind xs[i].tk, xs[i].vv, xs[i].nv]) (j := 0) ⟨_, (N3 _ (.tail _ (.tail _ (.tail _ (.tail _ (List.mem_append_right _ hxm)))))).1, rfl, _, rfl⟩ (by decide) (by decide) rfl rfl ?_
        refine LCg.CompEnd.intro F3 N3 _ (fun p hp => hp) off3 (.inr ⟨_, .head _, rfl, _, rfl⟩) ⟨rfl, by omega, ?_⟩
        have e2 : (xs.take (i + 1)).map (·.laid) = (xs.take i).map (·.laid) ++ [xs[i].laid] := by
          rw [List.take_add_one, List.getElem?_eq_getElem hlt, List.map_append]
          rfl
        rw [e2]
        exact hB.snoc
    case K =>
      intro v s' hZq
      refine @opq _ ?_
      intro Gq hGq
      obtain ⟨t3, h3, tk3, rfl, rfl, F3, N3⟩ := hZq
      refine hGq ?_
      clear hGq Gq
      refine P_spliced_e (P_lift ?_)
      (repeat' ((fail_if_success (with_reducible show wpP _ _ (spliced (backTo _ (starEach [PySem.Expr.Call _ _ _ _] _))) _ _ _)); first | ((with_reducible show wpAny _ _ (execs _ _) _ _ _); dsimp only) | (k_unfold; (try dsimp only)) | walk1 | (dsimp only; walk1) | fail "no step"))
      refine P_spliced_e (P_Call ?_)
      k_extra "x44"
      (refine' P_callWith_K0 ?k1 ?k2 ?_; (case k1 => exact X9.keeps F3.keep); (case k2 => k_is))
      show wpP _ _ (call (.ref 53) []) _ _ _
      refine P_make_F (core := []) (post := fun x dx c => ∃ kl, c = [(x, instObj 53 dx), (dx, dictOf (LMD kl) 10)]) (fun x dx _ => SpecG.lift (limits_init_spec _ _)) B9 F3 X9 News.nil N3 (fun _ _ _ h => nomatch h) T9 rfl rfl rfl rfl rfl (by k_room) (by k_units) (by k_is) (by k_is) (by k_is) ?_
      rintro lm dl _ h4 tk4 ⟨kl, rfl⟩ F4 Nl Nr Al
      refine P_spliced_e0 ⟨X9.keeps F4.keep, ?_⟩
      obtain ⟨y0, T0, hT0⟩ := join_cons hok hne0
      have hTs : (y0 :: T0).length ≤ 80000 := by rw [← hT0]; exact Nat.le_trans (join_small xs hok) (by omega)
      rw [hT0]
      show wpP _ _ (call (.ref 465) [.bytes (List.toArray (y0 :: T0)) _, .bytes (List.toArray [61, 113]) _, .ref lm]) _ _ _
      refine P_make_F (core := [(lm, instObj 53 dl), (dl, dictOf (LMD kl) 10)]) (fun x dx hlt => lexer_init_spec _ _ (rk_spec _ _) (Nat.ne_of_gt (hlt _ (.tail _ (.head _)))) hTs) B9 F4 X9 Nl Nr Al T9 rfl rfl rfl rfl rfl (by k_room) (by k_units) (by k_is) (by k_is) (by k_is) ?_
      intro x5 dx5 core5 h5 tk5 hZq
      refine @opq _ ?_
      intro Gq hGq
      obtain ⟨k, kd, kn, tq, src, b, ti, ts, t1, t2, tk0, hKF, rfl⟩ := hZq
      refine hGq ?_
      clear hGq Gq
      intro F5 Nc5 Nr5 A5
      have hsub := restC_sub (LL := LL) (D := D) (r := r) (sl := sl) (vs := vs) (kk := kk) (u := u) (n' := n') (oX := oX) (oR := oR2) (xs := xs)
      have hrest := rest_apart N2' o2 hap hcX hLL
      have A6 : Apart ((LL + 1 + 1, oX) :: (506, tabObj #[]) :: restC LL D r sl vs kk u n' oR2 xs) _ := A5.sub hsub (fun _ h => h)
      have N6 : News gg LL h5 ((LL + 1 + 1, oX) :: ((506, tabObj #[]) :: restC LL D r sl vs kk u n' oR2 xs ++ _)) := fun q hq => by
        rcases List.mem_cons.mp hq with rfl | hq
        · exact Nr5 _ (hsub _ (.head _))
        · rcases List.mem_append.mp hq with hq | hq
          · exact Nr5 _ (hsub _ (.tail _ hq))
          · exact Nc5 q hq
      refine st_cell F5 N6 ?ap rfl hcX ?_
      case ap =>
        intro q hq
        rcases List.mem_append.mp hq with hq | hq
        · rcases List.mem_cons.mp hq with rfl | hq
          · exact Nat.ne_of_lt (Nat.lt_succ_of_lt (Nat.lt_succ_of_lt hLL))
          · exact (hrest q hq).1
        · exact fun e => A6 _ (.head _) q hq e.symm
      intro h6 o6 F6 N7 hd6
      refine ⟨rfl, ei11 h6 _ ⟨k, kl, x5, dx5, lm, dl, kd, y0 :: T0, t3, src, .bytes #[113] tq, kn⟩ b ti ts t1 t2 tk0 tq o6 ⟨rfl, F6, hd6, hT0.symm, rfl, hKF, ?n1, ?n2, ?n3, hrest⟩⟩
      case n1 =>
        rw [← (At.start (y0 :: T0)).sgn]
        exact fun q hq => N7 q (.tail _ (List.mem_append_right _ hq))
      case n2 =>
        intro q hq
        rcases List.mem_cons.mp hq with rfl | hq
        · exact N7 _ (.head _)
        · exact N7 _ (.tail _ (List.mem_append_left _ hq))
      case n3 =>
        rw [← (At.start (y0 :: T0)).sgn]
        intro q hq r2 hr2
        rcases List.mem_cons.mp hq with rfl | hq
        · exact A6 _ (.head _) r2 hr2
        · exact A6 q (.tail _ hq) r2 hr2
⟩
end Mine
theorem PySem.Challenge.cw_pq0682_01_holds : PySem.Challenge.rw_pq0682_01.Holds := by
  exact Mine.law_holds
