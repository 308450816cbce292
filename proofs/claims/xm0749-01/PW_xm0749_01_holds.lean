import PyProof.Rows.All
import Wide.All
import OpenK.AllK
import Wide.FinOn
import PySem.Challenge.RW_xm0749_01
set_option Elab.async false
set_option compiler.extract_closed false
section
open PySem PySem.W PyProof.Rows
set_option maxRecDepth 10000
namespace Mine
open PySem.Sem (wp)

/-- what the model asks of each row of the call stack: taken out of its own def by unification -/
noncomputable abbrev asked {f : Code × Pos → Bool} {self : Value} (_ : Builtin.Bytes.exported self = (do return (← stack).any f)) : Code × Pos → Bool := f
noncomputable def seesIt (self : Value) : Code × Pos → Bool := asked (self := self) rfl
theorem exported_is (self : Value) : Builtin.Bytes.exported self = (do return (← stack).any (seesIt self)) := rfl

/-- a code that holds no bytearray's memory -/
noncomputable def cleanC (c : Code) : Prop := ∀ self p, seesIt self (c, p) = false
noncomputable def dirtyIds : List String := ["bytearray.__contains__", "bytearray.__mod__", "bytearray.__rmod__", "_struct.pack_into.held", "bytearray.find.held"]
noncomputable def cleanId (id : String) : Bool := !dirtyIds.contains id && !Builtin.Bytes.decodersThatHold.contains id
theorem cleanC_builtin {id : String} (args : Args) (h : cleanId id = true) : cleanC (.builtin id args) := by
  intro self p
  simp only [cleanId, dirtyIds, Bool.and_eq_true, Bool.not_eq_true', List.contains_cons, List.contains_nil, Bool.or_false, Bool.or_eq_false_iff, beq_eq_false_iff_ne, ne_eq] at h
  obtain ⟨⟨h1, h2, h3, h4, h5⟩, hd⟩ := h
  obtain ⟨pos, kw⟩ := args
  delta seesIt asked Builtin.Bytes.exported.match_1 Builtin.Bytes.exported._sparseCasesOn_1
  dsimp only
  rw [dif_neg h1, dif_neg h2, dif_neg h3, dif_neg h4, dif_neg h5]
  cases pos with
  | nil => rfl
  | cons v r =>
    show (Builtin.Bytes.sameRef v self && Builtin.Bytes.decodersThatHold.contains id) = false
    rw [hd, Bool.and_false]
theorem cleanC_call (f : Value) (args : Args) : cleanC (.call f args) := fun _ _ => rfl
theorem cleanC_func (b : List Stmt) (e : Env) : cleanC (.func b e) := fun _ _ => rfl

noncomputable def Ok (Γ : Ctx) : Prop := cleanC Γ.code ∧ ∀ x ∈ Γ.below, cleanC x.1
theorem Ok.none {Γ : Ctx} (h : Ok Γ) (self : Value) (p : Pos) : ((Γ.code, p) :: Γ.below).any (seesIt self) = false := by
  rw [List.any_cons, h.1, Bool.false_or]
  exact List.any_eq_false.mpr fun x hx => by rw [show x = (x.1, x.2) from rfl, h.2 x hx]; exact Bool.false_ne_true

/-- the weakest condition, asked of contexts that hold no bytearray's memory alone -/
structure wpC {α : Type} (M : Model) (A : Around) (t : Sem α) (Q : α → Shared → Prop) (E : Value → Shared → Prop) (s : Shared) : Prop where
  run : ∀ Γ p, Γ.In A → Ok Γ → wp M Γ t (fun a _ s' => Q a s') (fun e _ s' => E e s') p s
noncomputable def codeC (M : Model) (A : Around) (c : Code) (R : Result → Shared → Prop) (s : Shared) : Prop :=
  ∀ Γ p, Γ.code = c → Γ.Below A → (∀ x ∈ Γ.below, cleanC x.1) → wpCode M Γ R p s

section
variable {α β : Type} {M : Model} {A : Around} {E : Value → Shared → Prop} {s : Shared}
theorem c_any {t : Sem α} {Q : α → Shared → Prop} (h : wpAny M A t Q E s) : wpC M A t Q E s := ⟨fun Γ p i _ => h Γ p i⟩
theorem c_pure {a : α} {Q : α → Shared → Prop} (h : Q a s) : wpC M A (pure a) Q E s := wpC.mk fun _ _ _ _ => h
theorem c_mono {t : Sem α} {Q Q' : α → Shared → Prop} {E' : Value → Shared → Prop} (h : wpC M A t Q E s)
    (hQ : ∀ a s, Q a s → Q' a s) (hE : ∀ e s, E e s → E' e s) : wpC M A t Q' E' s :=
  wpC.mk fun Γ p i o => Sem.wp_mono M Γ t (fun a _ s => hQ a s) (fun e _ s => hE e s) p s (h.run Γ p i o)
theorem c_monoQ {t : Sem α} {Q Q' : α → Shared → Prop} (h : wpC M A t Q E s) (hQ : ∀ a s, Q a s → Q' a s) : wpC M A t Q' E s := c_mono h hQ fun _ _ x => x
theorem c_bind {m : Sem α} {f : α → Sem β} {Q : β → Shared → Prop} (h : wpC M A m (fun a s' => wpC M A (f a) Q E s') E s) : wpC M A (m >>= f) Q E s := wpC.mk fun Γ p i o => by
  rw [Sem.wp_bind']
  exact Sem.wp_mono M Γ m (fun a p' s' h' => h'.run Γ p' i o) (fun _ _ _ h' => h') p s (h.run Γ p i o)
theorem c_tryCatch {m : Sem α} {k : Value → Sem α} {Q : α → Shared → Prop} (h : wpC M A m Q (fun e s' => wpC M A (k e) Q E s') s) : wpC M A (tryCatch m k) Q E s := wpC.mk fun Γ p i o => by
  rw [Sem.wp_tryCatch']
  exact Sem.wp_mono M Γ m (fun _ _ _ h' => h') (fun e p' s' h' => h'.run Γ p' i o) p s (h.run Γ p i o)
theorem c_onRaise {m : Sem α} {k : Value → Sem Unit} {Q : α → Shared → Prop} (h : wpC M A m Q (fun e s' => wpC M A (k e) (fun _ s'' => E e s'') E s') s) : wpC M A (m.onRaise k) Q E s := wpC.mk fun Γ p i o => by
  rw [Sem.wp_onRaise]
  exact Sem.wp_mono M Γ m (fun _ _ _ h' => h') (fun e p' s' h' => h'.run Γ p' i o) p s (h.run Γ p i o)
theorem c_attempt {m : Sem α} {Q : Except Value α → Shared → Prop} (h : wpC M A m (fun a => Q (.ok a)) (fun e => Q (.error e)) s) : wpC M A m.attempt Q E s := wpC.mk fun Γ p i o => by
  rw [Sem.wp_attempt]; exact h.run Γ p i o
theorem c_holding {vs : List Value} {m : Sem α} {Q : α → Shared → Prop} (h : wpC M A m Q E s) : wpC M A (holding vs m) Q E s := wpC.mk fun Γ p i o => by
  rw [Sem.wp_holding]; exact h.run Γ p i o
theorem c_keep {vs : List Value} {m : Sem α} {Q : α → Shared → Prop} (h : wpC M A m Q E s) : wpC M A (m.keep vs) Q E s := wpC.mk fun Γ p i o => by
  rw [Sem.wp_keep]; exact h.run Γ p i o
theorem c_ite {c : Prop} [Decidable c] {a b : Sem α} {Q : α → Shared → Prop} (h : if c then wpC M A a Q E s else wpC M A b Q E s) : wpC M A (if c then a else b) Q E s := by split <;> simp_all
theorem c_rule {tag : String} {Q : Unit → Shared → Prop} (h : Q () s) : wpC M A (rule tag) Q E s := wpC.mk fun _ _ _ _ => h
theorem c_stand {pos : Pos} {Q : Unit → Shared → Prop} (h : Q () s) : wpC M A (standAt pos) Q E s := wpC.mk fun _ _ _ _ => h
theorem c_point {Q : Unit → Shared → Prop} (h : Q () s) : wpC M A point Q E s := wpC.mk fun _ _ _ _ => h
theorem c_eq {t t' : Sem α} {Q : α → Shared → Prop} (e : t = t') (h : wpC M A t' Q E s) : wpC M A t Q E s := e ▸ h
theorem c_throw {e : Value} {Q : α → Shared → Prop} (h : E e s) : wpC M A (throw e : Sem α) Q E s := wpC.mk fun _ _ _ _ => h

theorem c_exported {self : Value} {Q : Bool → Shared → Prop} (h : Q false s) : wpC M A (Builtin.Bytes.exported self) Q E s := wpC.mk fun Γ p _ o => by
  show Q (((Γ.code, p) :: Γ.below).any (seesIt self)) s
  rw [o.none]; exact h

theorem codeC_any {c : Code} {R : Result → Shared → Prop} (h : codeAny M A c R s) : codeC M A c R s := fun Γ p hc b _ => h Γ p hc b
theorem codeC_mono {c : Code} {R R' : Result → Shared → Prop} (h : codeC M A c R s) (hR : ∀ r s, R r s → R' r s) : codeC M A c R' s :=
  fun Γ p hc b o => wpCode_mono hR (h Γ p hc b o)
theorem Ok.enter {Γ : Ctx} (o : Ok Γ) (c : Code) (h : Option Value) (p : Pos) : ∀ x ∈ (Γ.enter c h p).below, cleanC x.1 := fun x hx => by
  rcases List.mem_cons.mp (show x ∈ (Γ.code, p) :: Γ.below from hx) with rfl | hx
  · exact o.1
  · exact o.2 x hx
theorem c_run {c : Code} {h : Option Value} {Q : Flow → Shared → Prop}
    (hc : codeC M (A.mark h) c (fun r s' => match r with | .ok f => Q f s' | .error e => E e s') s) (hnb : h ≠ some byPass := by intro x; cases x) : wpC M A (run c h) Q E s :=
  wpC.mk fun Γ p i o => by rw [Sem.wp_run]; exact hc _ p rfl (i.enter c h p hnb) (o.enter c h p)
theorem c_runValue {c : Code} {Q : Value → Shared → Prop}
    (hc : codeC M A c (fun r s' => match r with | .ok (.ret v) => Q v s' | .ok _ => False | .error e => E e s') s) : wpC M A (runValue c) Q E s :=
  wpC.mk fun Γ p i o => by rw [Sem.wp_runValue]; exact hc _ p rfl (i.enter c none p (by intro x; cases x)) (o.enter c none p)
/-- what a call leaves -/
noncomputable def Back (Q : Value → Shared → Prop) (E : Value → Shared → Prop) : Result → Shared → Prop := fun r s' => match r with | .ok (.ret v) => Q v s' | .ok _ => False | .error e => E e s'
theorem c_call {f : Value} {pos : List Value} {kw : List (Str × Value)} {Q : Value → Shared → Prop} (hc : codeC M A (.call f ⟨pos, kw⟩) (Back Q E) s) : wpC M A (call f pos kw) Q E s := c_runValue hc

theorem codeC_tree {c : Code} {R : Result → Shared → Prop} (hcl : cleanC c)
    (h : wpC M (A.under c) (M.den c) (fun fin s' => match fin with | .done f => R (.ok f) s' | .again c' => c'.quiet = true ∧ codeC M A c' R s') (fun e s' => R (.error e) s') s) : codeC M A c R s := fun Γ p hc b o => by
  rw [wpCode_iff_wp, hc]
  refine Sem.wp_mono M Γ _ (fun fin p' s' h' => ?_) (fun _ _ _ h' => h') p s (h.run Γ p (hc ▸ b.in) ⟨hc ▸ hcl, o⟩)
  cases fin with
  | done f => exact h'
  | again c' => exact ⟨h'.1, h'.2 (Γ.goto c') p' rfl (b.goto c') o⟩
/-- a loop: its turns leave it or come again with less -/
theorem codeC_loop {c : Code} {R : Result → Shared → Prop} (hcl : cleanC c) (hq : c.quiet = true) (I : Nat → Shared → Prop)
    (turn : ∀ n s, I n s → wpC M (A.under c) (M.den c) (fun fin s' => match fin with | .done f => R (.ok f) s' | .again c' => (c' = c ∧ ∃ m, m < n ∧ I m s') ∨ (c'.quiet = true ∧ codeC M A c' R s')) (fun e s' => R (.error e) s') s)
    (n : Nat) (h : I n s) : codeC M A c R s := by
  induction n using Nat.strongRecOn generalizing s with
  | ind n ih =>
    refine codeC_tree hcl (c_mono (turn n s h) (fun fin s' hf => ?_) fun _ _ h' => h')
    cases fin with
    | done f => exact hf
    | again c' =>
      rcases hf with ⟨rfl, m, hm, hI⟩ | hf
      · exact ⟨hq, ih m hm hI⟩
      · exact hf
end
end Mine
end
section
open PySem PySem.W PyProof.Rows PySem.Calls
set_option maxRecDepth 10000
namespace Mine
open PySem.Sem (wp)

section
variable {M : Model} {A : Around} {E : Value → Shared → Prop} {s : Shared} {env : Env}

theorem c_bindName {x : Str} {v : Value} {Q : Unit → Shared → Prop} (h : wpC M A (storeName env x v) Q E s) : wpC M A (bindName env x v) Q E s :=
  wpC.mk fun Γ p i o => by rw [Sem.wp_bindName]; exact h.run Γ p i o
theorem c_operate {vs : List Value} {m : Sem Value} {Q : Value → Shared → Prop} (h : wpC M A m Q E s) : wpC M A (operate vs m) Q E s :=
  wpC.mk fun Γ p i o => by rw [Sem.wp_operate]; exact h.run Γ p i o
theorem c_release {vs keep : List Value} {Q : Unit → Shared → Prop} (h : Q () s) : wpC M A (release vs keep) Q E s := wpC.mk fun Γ p _ _ => by
  show wp M Γ (release.go keep (vs.filter _)) _ _ p s
  rw [Sem.wp_release_go]; exact h

theorem x_nil {Q : Flow → Shared → Prop} (h : Q .next s) : wpC M A (execs [] env) Q E s := wpC.mk fun _ _ _ _ => h
theorem x_cons {st rest} {Q : Flow → Shared → Prop}
    (h : wpC M A (exec st env) (fun f s' => match f with | .next => wpC M A (execs rest env) Q E s' | f => Q f s') E s) : wpC M A (execs (st :: rest) env) Q E s := by
  rw [execs_cons]
  refine c_bind (c_monoQ h fun f s' h' => ?_)
  cases f <;> first | exact h' | exact c_pure h'

theorem e_Name {x pos} {Q : Value → Shared → Prop} (h : wpC M A (loadName env x) Q E s) (hd : (x == ("__debug__" : Str)) = false := by decide) : wpC M A (eval (.Name x pos) env) Q E s := by
  rw [eval_Name env x pos hd]; exact c_bind (c_stand h)
theorem e_BinOp {l op r pos} {Q : Value → Shared → Prop}
    (h : wpC M A (eval l env) (fun a s₁ => wpC M A (eval r env) (fun b s₂ => wpC M A (binaryOp op a b) Q E s₂) E s₁) E s) : wpC M A (eval (.BinOp l op r pos) env) Q E s := by
  rw [eval_BinOp]
  exact c_bind (c_monoQ h fun a s₁ h₁ => c_bind (c_holding (c_monoQ h₁ fun b s₂ h₂ => c_bind (c_stand (c_operate h₂)))))
theorem e_UnaryOp {op : UnaryOp} {x : PySem.Expr} {pos : Pos} {Q : Value → Shared → Prop} (h : wpC M A (eval x env) (fun v s₁ => wpC M A (unaryOp op v) Q E s₁) E s) : wpC M A (eval (.UnaryOp op x pos) env) Q E s := by
  show wpC M A (do let v ← eval x env; standAt pos; holding [v] (unaryOp op v)) Q E s
  exact c_bind (c_monoQ h fun v s₁ h₁ => c_bind (c_stand (c_holding h₁)))
theorem e_IfExp {test body orelse : PySem.Expr} {pos : Pos} {Q : Value → Shared → Prop}
    (h : wpC M A (isTrue test env (eval test env)) (fun b s₁ => if b then wpC M A (eval body env) Q E s₁ else wpC M A (eval orelse env) Q E s₁) E s) : wpC M A (eval (.IfExp test body orelse pos) env) Q E s := by
  show wpC M A (do if ← isTrue test env (eval test env) then eval body env else eval orelse env) Q E s
  refine c_bind (c_monoQ h fun b s₁ h₁ => ?_)
  cases b <;> exact h₁
theorem e_Compare1 {l op r pos} {Q : Value → Shared → Prop}
    (h : wpC M A (eval l env) (fun a s₁ => wpC M A (eval r env) (fun b s₂ => wpC M A (compareOp op a b) Q E s₂) E s₁) E s)
    (hm : behindInMarks op r = false := by with_unfolding_all rfl) : wpC M A (eval (.Compare l [op] [r] pos) env) Q E s := by
  rw [eval_Compare1, markedBehindIn_of_false hm]
  exact c_bind (c_monoQ h fun a s₁ h₁ => c_bind (c_holding (c_monoQ h₁ fun b s₂ h₂ => c_bind (c_stand (c_operate h₂)))))
theorem t_Compare1 {l op r pos whole} {Q : Bool → Shared → Prop}
    (h : wpC M A (eval l env) (fun a s₁ => wpC M A (eval r env) (fun b s₂ => wpC M A (compareOp op a b) (fun c s₃ => wpC M A (truthy c) Q E s₃) E s₂) E s₁) E s)
    (hm : behindInMarks op r = false := by with_unfolding_all rfl) : wpC M A (isTrue (.Compare l [op] [r] pos) env whole) Q E s := by
  rw [isTrue_Compare1, markedBehindIn_of_false hm]
  exact c_bind (c_monoQ h fun a s₁ h₁ => c_bind (c_holding (c_monoQ h₁ fun b s₂ h₂ => c_bind (c_stand (c_bind (c_operate (c_monoQ h₂ fun c s₃ h₃ => c_holding h₃)))))))
/-- a chain of two comparisons -/
theorem chain2 {l op op' r r' pos} {Q : Value → Shared → Prop}
    (h : wpC M A (eval l env) (fun a s₁ => wpC M A (eval r env) (fun b s₂ => wpC M A (compareOp op a b) (fun c s₃ => wpC M A (truthy c) (fun t s₄ =>
      if t then wpC M A (eval r' env) (fun d s₅ => wpC M A (compareOp op' b d) Q E s₅) E s₄ else Q c s₄) E s₃) E s₂) E s₁) E s)
    (hm : markedEach [op, op'] [r, r'] (evalEach [r, r'] env) = [eval r env, eval r' env] := by with_unfolding_all rfl) : wpC M A (eval (.Compare l [op, op'] [r, r'] pos) env) Q E s := by
  show wpC M A (do compareChain pos (← eval l env) [op, op'] (markedEach [op, op'] [r, r'] (evalEach [r, r'] env))) Q E s
  rw [hm]
  refine c_bind (c_monoQ h fun a s₁ h₁ => ?_)
  refine c_bind (c_holding (c_monoQ h₁ fun b s₂ h₂ => c_bind (c_stand (c_bind (c_holding (c_monoQ h₂ fun c s₃ h₃ => c_bind (c_release (c_bind (c_holding (c_monoQ h₃ fun t s₄ h₄ => ?_))))))))))
  cases t with
  | false => exact c_pure h₄
  | true => exact c_bind (c_holding (c_monoQ h₄ fun d s₅ h₅ => c_bind (c_stand (c_operate h₅))))
theorem tchain2 {l op op' r r' pos whole} {Q : Bool → Shared → Prop}
    (h : wpC M A (eval l env) (fun a s₁ => wpC M A (eval r env) (fun b s₂ => wpC M A (compareOp op a b) (fun c s₃ => wpC M A (truthy c) (fun t s₄ =>
      if t then wpC M A (eval r' env) (fun d s₅ => wpC M A (compareOp op' b d) (fun c' s₆ => wpC M A (truthy c') Q E s₆) E s₅) E s₄ else Q false s₄) E s₃) E s₂) E s₁) E s)
    (hm : markedEach [op, op'] [r, r'] (evalEach [r, r'] env) = [eval r env, eval r' env] := by with_unfolding_all rfl) : wpC M A (isTrue (.Compare l [op, op'] [r, r'] pos) env whole) Q E s := by
  show wpC M A (do testChain pos (← eval l env) [op, op'] (markedEach [op, op'] [r, r'] (evalEach [r, r'] env))) Q E s
  rw [hm]
  refine c_bind (c_monoQ h fun a s₁ h₁ => ?_)
  refine c_bind (c_holding (c_monoQ h₁ fun b s₂ h₂ => c_bind (c_stand (c_bind (c_holding (c_monoQ h₂ fun c s₃ h₃ => c_bind (c_release (c_bind (c_holding (c_monoQ h₃ fun t s₄ h₄ => ?_))))))))))
  cases t with
  | false => exact c_pure h₄
  | true => exact c_bind (c_holding (c_monoQ h₄ fun d s₅ h₅ => c_bind (c_stand (c_bind (c_operate (c_monoQ h₅ fun c' s₆ h₆ => c_holding h₆))))))

theorem t_value {e : PySem.Expr} {whole : Sem Value} {Q : Bool → Shared → Prop} (h : wpC M A whole (fun v s₁ => wpC M A (truthy v) Q E s₁) E s)
    (he : isTrue e env whole = (do let v ← whole; standAt e.pos; holding [v] (truthy v)) := by rfl) : wpC M A (isTrue e env whole) Q E s := by
  rw [he]; exact c_bind (c_monoQ h fun v s₁ h₁ => c_bind (c_stand (c_holding h₁)))
theorem t_Not {x : PySem.Expr} {pos : Pos} {whole : Sem Value} {Q : Bool → Shared → Prop} (h : wpC M A (isTrue x env (eval x env)) (fun b s₁ => Q (!b) s₁) E s) : wpC M A (isTrue (.UnaryOp .Not x pos) env whole) Q E s := by
  show wpC M A (do return !(← isTrue x env (eval x env))) Q E s
  exact c_bind (c_monoQ h fun b s₁ h₁ => c_pure h₁)
theorem t_BoolOp {op : BoolOp} {values : List PySem.Expr} {pos : Pos} {whole : Sem Value} {Q : Bool → Shared → Prop} (h : wpC M A (allTrue op values env) Q E s) : wpC M A (isTrue (.BoolOp op values pos) env whole) Q E s := h
theorem all_nil {op : BoolOp} {Q : Bool → Shared → Prop} (h : Q (op == .And) s) : wpC M A (allTrue op [] env) Q E s := c_pure h
theorem all_cons {op : BoolOp} {x : PySem.Expr} {rest : List PySem.Expr} {Q : Bool → Shared → Prop}
    (h : wpC M A (isTrue x env (eval x env)) (fun b s₁ => match op, b with | .And, false => Q false s₁ | .Or, true => Q true s₁ | _, _ => wpC M A (allTrue op rest env) Q E s₁) E s) : wpC M A (allTrue op (x :: rest) env) Q E s := by
  show wpC M A (do match op, ← isTrue x env (eval x env) with | .And, false => pure false | .Or, true => pure true | _, _ => allTrue op rest env) Q E s
  refine c_bind (c_monoQ h fun b s₁ h₁ => ?_)
  cases op <;> cases b <;> first | exact c_pure h₁ | exact h₁
/-- and, or as a value, of two -/
theorem e_BoolOp2 {op : BoolOp} {x y : PySem.Expr} {pos : Pos} {Q : Value → Shared → Prop}
    (h : wpC M A (eval x env) (fun v s₁ => wpC M A (truthy v) (fun t s₂ => match op, t with | .And, false => Q v s₂ | .Or, true => Q v s₂ | _, _ => wpC M A (eval y env) Q E s₂) E s₁) E s) : wpC M A (eval (.BoolOp op [x, y] pos) env) Q E s := by
  show wpC M A (boolOp pos op [eval x env, eval y env]) Q E s
  refine c_bind (c_monoQ h fun v s₁ h₁ => c_bind (c_stand (c_bind (c_holding (c_monoQ h₁ fun t s₂ h₂ => ?_)))))
  cases op <;> cases t <;> first | exact c_pure h₂ | exact h₂

theorem sp_nil {Q : List Value → Shared → Prop} (h : Q [] s) : wpC M A (spliced []) Q E s := c_pure h
theorem sp_cons {x : Sem Value} {rest : List (Bool × Sem Value)} {Q : List Value → Shared → Prop}
    (h : wpC M A x (fun v s₁ => wpC M A (spliced rest) (fun vs s₂ => Q (v :: vs) s₂) E s₁) E s) : wpC M A (spliced ((false, x) :: rest)) Q E s := by
  rw [spliced]
  refine c_bind (c_monoQ h fun v s₁ h₁ => ?_)
  simp only [Bool.false_eq_true, if_false]
  exact c_bind (c_pure (c_bind (c_holding (c_monoQ h₁ fun vs s₂ h₂ => c_pure h₂))))
/-- the items of a display, the arguments of a call -/
theorem it_nil {pos : Pos} {Q : List Value → Shared → Prop} (h : Q [] s) : wpC M A (spliced (backTo pos (starEach [] env))) Q E s := sp_nil h
theorem it_cons {pos : Pos} {e : PySem.Expr} {rest : List PySem.Expr} {Q : List Value → Shared → Prop}
    (h : wpC M A (eval e env) (fun v s₁ => wpC M A (spliced (backTo pos (starEach rest env))) (fun vs s₂ => Q (v :: vs) s₂) E s₁) E s)
    (he : starEach (e :: rest) env = (false, eval e env) :: starEach rest env := by rfl) : wpC M A (spliced (backTo pos (starEach (e :: rest) env))) Q E s := by
  rw [he]; exact sp_cons h
theorem e_Tuple {elts : List PySem.Expr} {k : Nat} {pos : Pos} {Q : Value → Shared → Prop}
    (h : wpC M A (spliced (backTo pos (starEach elts env))) (fun vs s₁ => wpC M A (newTuple vs) Q E s₁) E s) : wpC M A (eval (.Tuple elts k pos) env) Q E s := by
  show wpC M A (do standAt pos; newTuple (← spliced (backTo pos (starEach elts env)))) Q E s
  exact c_bind (c_stand (c_bind h))
theorem e_List {elts : List PySem.Expr} {pos : Pos} {Q : Value → Shared → Prop}
    (h : wpC M A (spliced (backTo pos (starEach elts env))) (fun vs s₁ => wpC M A (newList vs) Q E s₁) E s) : wpC M A (eval (.List elts pos) env) Q E s := by
  show wpC M A (do standAt pos; newList (← spliced (backTo pos (starEach elts env)))) Q E s
  exact c_bind (c_stand (c_bind h))


theorem ev_args0 {f : Value} {Q : Args → Shared → Prop} (h : Q ⟨[], []⟩ s) : wpC M A (evalArgs f true [] []) Q E s :=
  c_any (evalArgs_nil3 h)
theorem ev_args {f : Value} {x : Sem Value} {rest : List (Bool × Sem Value)} {Q : Args → Shared → Prop}
    (h : wpC M A (spliced ((false, x) :: rest)) (fun vs s' => Q ⟨vs, []⟩ s') E s) : wpC M A (evalArgs f true ((false, x) :: rest) []) Q E s := by
  unfold evalArgs
  show wpC M A (spliced ((false, x) :: rest) >>= _) Q E s
  refine c_bind (c_monoQ h fun vs s' h' => c_holding ?_)
  exact c_bind (c_pure (c_bind (c_pure (c_pure h'))))
theorem ev_items {f : Value} {pos : Pos} : ∀ {es : List PySem.Expr} {Q : Args → Shared → Prop} (_ : (starEach es env).any (·.1) = false)
    (_ : wpC M A (spliced (backTo pos (starEach es env))) (fun vs s' => Q ⟨vs, []⟩ s') E s), wpC M A (evalArgs f true (backTo pos (starEach es env)) []) Q E s
  | [], _, _, h => wpC.mk fun Γ p i o => (ev_args0 (h.run Γ p i o)).run Γ p i o
  | e :: r, _, hp, h => by
    have he : starEach (e :: r) env = (false, eval e env) :: starEach r env := by
      cases e <;> first | rfl | exact Bool.noConfusion (show true = false from hp)
    rw [he] at h ⊢
    exact ev_args h
theorem back_any {pos : Pos} : ∀ l : List (Bool × Sem Value), (backTo pos l).any (·.1) = l.any (·.1)
  | [] => rfl
  | x :: r => by
    have := back_any (pos := pos) r
    unfold backTo at this ⊢
    simp only [List.map_cons, List.any_cons, this]
/-- a call, the callee known -/
theorem cw_of {pos : Pos} {f : Value} {first : List Value} {es : List PySem.Expr} {Q : Value → Shared → Prop} {P : Heap → Prop} (hp : (starEach es env).any (·.1) = false)
    (hk : ∀ h, P h → ∃ k, (k = Keeper.frame ∨ k = Keeper.machine ∨ k = Keeper.boundFrame) ∧ Looks M h (keeperOf f) k)
    (h : wpC M A (spliced (backTo pos (starEach es env))) (fun vs s₁ => P s₁.heap ∧ wpC M A (call f (first ++ vs)) Q E s₁) E s) :
    wpC M A (callWith pos f first (backTo pos (starEach es env)) []) Q E s := by
  unfold callWith
  refine c_bind (c_holding (ev_items hp (c_monoQ h fun vs s₁ h₁ => c_bind (c_stand ?_))))
  obtain ⟨k, hk', L⟩ := hk _ h₁.1
  simp only [back_any, hp, List.any_nil, Bool.or_false]
  refine c_bind (c_any (L.here ?_))
  have tail : ∀ {t : Sem Value}, wpC M A t Q E s₁ → wpC M A (t >>= fun r => holding [r] point >>= fun _ => pure r) Q E s₁ :=
    fun ht => c_bind (c_monoQ ht fun r s₂ hr => c_bind (c_holding (c_point (c_pure hr))))
  have marked (mk : Value) : wpC M A (callMarked mk f (first ++ vs) []) Q E s₁ := by unfold callMarked; exact c_keep h₁.2
  rcases hk' with rfl | rfl | rfl <;> dsimp only <;> first | exact tail h₁.2 | (split <;> first | exact tail h₁.2 | exact tail (marked _))
theorem cw_machine {pos : Pos} {f : Value} {first : List Value} {es : List PySem.Expr} {Q : Value → Shared → Prop} (hf : keeperOf f = pure Keeper.machine) (hp : (starEach es env).any (·.1) = false)
    (h : wpC M A (spliced (backTo pos (starEach es env))) (fun vs s₁ => wpC M A (call f (first ++ vs)) Q E s₁) E s) :
    wpC M A (callWith pos f first (backTo pos (starEach es env)) []) Q E s :=
  cw_of (P := fun _ => True) hp (fun _ _ => ⟨_, .inr (.inl rfl), Looks.of_pure hf⟩) (c_monoQ h fun _ _ x => ⟨trivial, x⟩)
theorem cw_fn {pos : Pos} {a : Addr} {first : List Value} {es : List PySem.Expr} {Q : Value → Shared → Prop} (hp : (starEach es env).any (·.1) = false)
    (h : wpC M A (spliced (backTo pos (starEach es env))) (fun vs s₁ => (∃ o fd, s₁.heap.get? a = some o ∧ o.data = .func fd) ∧ wpC M A (call (.ref a) (first ++ vs)) Q E s₁) E s) :
    wpC M A (callWith pos (.ref a) first (backTo pos (starEach es env)) []) Q E s :=
  cw_of (P := fun h => ∃ o fd, h.get? a = some o ∧ o.data = .func fd) hp (fun h ⟨o, fd, ho, hd⟩ => ⟨.frame, .inl rfl, by
    unfold keeperOf
    refine (Looks.ld (part := none) ho).andThen ?_
    rw [hd]; exact .now⟩) h
theorem e_Call {id : Str} {p : Pos} {args : List PySem.Expr} {pos : Pos} {Q : Value → Shared → Prop}
    (h : wpC M A (eval (.Name id p) env) (fun f s₁ => wpC M A (callWith pos f [] (backTo pos (starEach args env)) []) Q E s₁) E s) : wpC M A (eval (.Call (.Name id p) args [] pos) env) Q E s := by
  show wpC M A (do callWith pos (← eval (.Name id p) env) [] (backTo pos (starEach args env)) (backToKw pos (keywordEach [] env))) Q E s
  exact c_bind h
/-- a method's call: the object by a name or a constant -/
theorem e_Method {o : PySem.Expr} {name : Str} {apos pos : Pos} {args : List PySem.Expr} {Q : Value → Shared → Prop}
    (hb : ∀ whole, attributeBase o name env whole = whole) (hp : (starEach args env).any (·.1) = false) (hl : args.length < 30) (hln : apos.endLine = pos.line)
    (h : wpC M A (eval o env) (fun ov s₁ => wpC M A (getMethod ov name (do return (← importBound o env).getD true)) (fun fx s₂ => wpC M A (callWith pos fx.1 fx.2 (backTo pos (starEach args env)) []) Q E s₂) E s₁) E s) :
    wpC M A (eval (.Call (.Attribute o name apos) args [] pos) env) Q E s := by
  show wpC M A (do
    let ov ← attributeBase o name env (eval o env)
    standAt apos.atName
    methodCall o name apos pos env ov (args.length + 0) (backTo pos (starEach args env)) []) Q E s
  rw [hb]
  refine c_bind (c_monoQ h fun ov s₁ h₁ => c_bind (c_stand ?_))
  have hform : methodCallForm (args.length + 0) (backTo pos (starEach args env)) [] = true := by
    unfold methodCallForm
    have h1 : (backTo pos (starEach args env)).all (fun x => !x.1) = true := by
      rw [List.all_eq_true]; intro x hx
      have := List.any_eq_false.mp ((back_any (pos := pos) (starEach args env)).trans hp) x hx
      simpa using this
    rw [h1]
    simp; omega
  unfold methodCall
  rw [hform]
  refine c_bind (c_holding (c_monoQ h₁ fun fx s₂ h₂ => ?_))
  have hpos : methodCallPos true o env apos pos = pure pos := by
    unfold methodCallPos
    rw [hln]; simp
  rw [hpos]
  exact c_bind (c_pure h₂)

theorem e_Subscript {v sl : PySem.Expr} {pos : Pos} {Q : Value → Shared → Prop}
    (h : wpC M A (eval v env) (fun o s₁ => wpC M A (eval sl env) (fun i s₂ => wpC M A (getitemInPython o) (fun b s₃ => b = false ∧ wpC M A (getItem o i) (fun r s₄ => wpC M A (letTemporaryGo v o r) (fun _ s₅ => Q r s₅) E s₄) E s₃) E s₂) E s₁) E s)
    : wpC M A (eval (.Subscript v sl pos) env) Q E s := by
  show wpC M A (do
    let o ← eval v env
    let i ← holding [o] (eval sl env)
    standAt pos
    let r ← subscripted sl (← getitemInPython o) o i
    letTemporaryGo v o r
    pure r) Q E s
  refine c_bind (c_monoQ h fun o s₁ h₁ => c_bind (c_holding (c_monoQ h₁ fun i s₂ h₂ => c_bind (c_stand (c_bind (c_monoQ h₂ fun b s₃ h₃ => ?_))))))
  obtain ⟨rfl, h₃⟩ := h₃
  have hs : ∃ vs, subscripted sl false o i = operate vs (getItem o i) := by
    cases sl with
    | Slice l u st p => cases st <;> exact ⟨_, rfl⟩
    | _ => exact ⟨_, rfl⟩
  obtain ⟨vs, hs⟩ := hs
  rw [hs]
  exact c_bind (c_operate (c_monoQ h₃ fun r s₄ h₄ => c_bind (c_monoQ h₄ fun _ s₅ h₅ => c_pure h₅)))
/-- a slice's three parts -/
theorem e_Slice {l u : Option PySem.Expr} {pos : Pos} {Q : Value → Shared → Prop}
    (h : wpC M A (valueOrNone (evalOpt l env)) (fun lv s₁ => wpC M A (valueOrNone (evalOpt u env)) (fun uv s₂ => wpC M A (newFields "slice" [lv, uv, .none]) Q E s₂) E s₁) E s) :
    wpC M A (eval (.Slice l u none pos) env) Q E s := by
  show wpC M A (do
    let l ← valueOrNone (evalOpt l env)
    let u ← holding [l] (valueOrNone (evalOpt u env))
    let s ← holding [l, u] (valueOrNone (evalOpt none env))
    newFields "slice" [l, u, s]) Q E s
  exact c_bind (c_monoQ h fun lv s₁ h₁ => c_bind (c_holding (c_monoQ h₁ fun uv s₂ h₂ => c_bind (c_holding (c_pure h₂)))))
theorem vn_some {e : PySem.Expr} {Q : Value → Shared → Prop} (h : wpC M A (eval e env) Q E s) : wpC M A (valueOrNone (evalOpt (some e) env)) Q E s := h
theorem vn_none {Q : Value → Shared → Prop} (h : Q .none s) : wpC M A (valueOrNone (evalOpt none env)) Q E s := c_pure h

-- statements
theorem x_Expr {e pos} {Q : Flow → Shared → Prop} (h : wpC M A (eval e env) (fun v s' => (∀ a, v ≠ .ref a) ∧ Q .next s') E s)
    (hi : interactive env = false := by rfl) (hs : swapsWith e none pos.line env = pure false := by rfl) : wpC M A (exec (.Expr e pos) env) Q E s := by
  rw [exec_Expr env e pos hi hs]
  refine c_bind (c_stand (c_bind (c_monoQ h fun v s' h' => ?_)))
  rw [dropValue_plain h'.1]; exact c_pure h'.2
theorem x_Assign {x pos' value pos} {Q : Flow → Shared → Prop}
    (h : wpC M A (eval value env) (fun v s₁ => wpC M A (storeName env x v) (fun _ => Q .next) E s₁) E s)
    (hs : swapsWith value (some (.Name x pos')) pos.line env = pure false := by rfl) : wpC M A (exec (.Assign [.Name x pos'] value pos) env) Q E s := by
  rw [exec_Assign_Name env x pos' value pos hs]
  exact c_bind (c_stand (c_bind (c_monoQ h fun v s₁ h₁ => c_bind (c_stand (c_bind (c_monoQ (c_bindName h₁) fun _ _ q => c_pure q))))))
theorem a_Item {o i : PySem.Expr} {tpos : Pos} {v : Value} {Q : Unit → Shared → Prop}
    (h : wpC M A (eval o env) (fun ov s₂ => wpC M A (eval i env) (fun iv s₃ => wpC M A (setItem ov iv v) Q E s₃) E s₂) E s) : wpC M A (assign (.Subscript o i tpos) env v) Q E s := by
  exact c_bind (c_holding (c_monoQ h fun ov s₂ h₂ => c_bind (c_holding (c_monoQ h₂ fun iv s₃ h₃ => c_bind (c_stand (c_bind (c_holding (c_monoQ h₃ fun _ s₄ h₄ => c_release h₄))))))))
/-- x[i] = v -/
theorem x_AssignItem {o i : PySem.Expr} {tpos : Pos} {value pos} {Q : Flow → Shared → Prop}
    (h : wpC M A (eval value env) (fun v s₁ => wpC M A (eval o env) (fun ov s₂ => wpC M A (eval i env) (fun iv s₃ => wpC M A (setItem ov iv v) (fun _ => Q .next) E s₃) E s₂) E s₁) E s)
    (hs : swapsWith value (some (.Subscript o i tpos)) pos.line env = pure false := by rfl) (hw : swappedStores [.Subscript o i tpos] value env = pure none := by rfl) : wpC M A (exec (.Assign [.Subscript o i tpos] value pos) env) Q E s := by
  show wpC M A (do
    standAt pos
    if ← swapsWithSole [.Subscript o i tpos] value pos.line env then do
      evalThenUse value env fun v => assignAll v ((assignEach [.Subscript o i tpos] env).map (·.2))
      pure .next
    else do
      let v ← eval value env
      assignStores env v (← swappedStores [.Subscript o i tpos] value env) ((assignEach [.Subscript o i tpos] env).map (·.2))) Q E s
  refine c_bind (c_stand (c_bind (c_eq (t' := pure false) hs (c_pure ?_))))
  simp only [Bool.false_eq_true, if_false]
  refine c_bind (c_monoQ h fun v s₁ h₁ => c_bind (c_eq hw (c_pure ?_)))
  show wpC M A (assign (.Subscript o i tpos) env v >>= fun _ => pure .next) Q E s₁
  exact c_bind (a_Item (c_monoQ h₁ fun ov s₂ h₂ => c_monoQ h₂ fun iv s₃ h₃ => c_monoQ h₃ fun _ s₄ h₄ => c_pure h₄))
theorem x_Aug {x pos' op value pos} {Q : Flow → Shared → Prop}
    (h : wpC M A (loadName env x) (fun old s₁ => wpC M A (eval value env) (fun v s₂ => wpC M A (inplaceOp op old v) (fun r s₃ => wpC M A (storeName env x r) (fun _ => Q .next) E s₃) E s₂) E s₁) E s) :
    wpC M A (exec (.AugAssign (.Name x pos') op value pos) env) Q E s := by
  show wpC M A (do
    standAt pos'
    let old ← loadName env x
    let v ← holding [old] (eval value env)
    standAt pos
    let new ← operate [old, v] (inplaceOp op old v)
    standAt pos'
    bindName env x new
    pure .next) Q E s
  exact c_bind (c_stand (c_bind (c_monoQ h fun old s₁ h₁ => c_bind (c_holding (c_monoQ h₁ fun v s₂ h₂ => c_bind (c_stand (c_bind (c_operate (c_monoQ h₂ fun r s₃ h₃ => c_bind (c_stand (c_bind (c_bindName (c_monoQ h₃ fun _ s₄ h₄ => c_pure h₄)))))))))))))
theorem x_If {test body orelse pos} {Q : Flow → Shared → Prop}
    (h : wpC M A (isTrue test env (eval test env)) (fun b s₂ => if b then wpC M A (execs body env) Q E s₂ else wpC M A (execs orelse env) Q E s₂) E s) : wpC M A (exec (.If test body orelse pos) env) Q E s := by
  rw [exec_If]
  refine c_bind (c_stand (c_bind (c_monoQ h fun b s₂ h₂ => ?_)))
  cases b <;> exact h₂
theorem x_Return {e pos} {Q : Flow → Shared → Prop} (h : wpC M A (eval e env) (fun v => Q (.ret v)) E s) : wpC M A (exec (.Return (some e) pos) env) Q E s := by
  rw [exec_Return_some]
  exact c_bind (c_stand (c_bind (c_monoQ h fun v s' h' => c_pure h')))

theorem c_runOwn {c : Code} {Q : Flow → Shared → Prop} (hc : codeC M A c (fun r s' => ∃ f, r = .ok f ∧ Q f s') s) : wpC M A (runOwn c env) Q E s := by
  unfold runOwn
  refine c_onRaise (c_run (codeC_mono hc fun r s' h => ?_))
  obtain ⟨f, rfl, h⟩ := h
  exact h
theorem x_While {test body orelse pos} {Q : Flow → Shared → Prop} (h : codeC M A (.whileLoop test body orelse env) (fun r s' => ∃ f, r = .ok f ∧ Q f s') s) : wpC M A (exec (.While test body orelse pos) env) Q E s := by
  rw [exec_While]; exact c_bind (c_stand (c_runOwn h))
theorem x_For {target iter body orelse pos} {Q : Flow → Shared → Prop}
    (h : wpC M A (eval iter env) (fun x s₁ => wpC M A (pyIter x) (fun it s₂ => codeC M A (.forLoop target it body orelse env) (fun r s' => ∃ f, r = .ok f ∧ Q f s') s₂) E s₁) E s)
    (hs : ∀ x, foldedSetIterable iter env x = pure x := by intro _; rfl) : wpC M A (exec (.For target iter body orelse pos) env) Q E s := by
  show wpC M A (do
    standAt pos
    let x ← foldedSetIterable iter env (← eval iter env)
    standAt iter.pos
    runOwn (.forLoop target (← holding [x] (pyIter x)) body orelse env) env) Q E s
  exact c_bind (c_stand (c_bind (c_monoQ h fun x s₁ h₁ => c_bind (c_eq (hs x) (c_pure (c_bind (c_stand (c_bind (c_holding (c_monoQ h₁ fun it s₂ h₂ => c_runOwn h₂))))))))))
end

section
variable {prog : Program} {w : World} {A : Around} {s : Shared} {env : Env}
/-- no raise -/
noncomputable abbrev NoE : Value → Shared → Prop := fun _ _ => False
theorem c_noted {α : Type} {m : Sem α} {k : Value → Sem Unit} {M : Model} {E : Value → Shared → Prop} {Q : α → Shared → Prop} (h : wpC M A m Q NoE s) : wpC M A (m.onRaise k) Q E s :=
  c_onRaise (c_mono h (fun _ _ q => q) fun _ _ x => x.elim)
theorem codeC_while {test body orelse} {R : Flow → Shared → Prop} (I : Nat → Shared → Prop)
    (turn : ∀ n s, I n s → wpC (model prog w) A (isTrue test env (eval test env)) (fun b s₂ =>
        if b then wpC (model prog w) A (execs body env) (fun f s₃ => match f with
            | .next | .cont => ∃ m, m < n ∧ I m s₃
            | .brk => R .next s₃
            | .ret v => R (.ret v) s₃) NoE s₂
        else wpC (model prog w) A (execs orelse env) R NoE s₂) NoE s)
    (n : Nat) (h : I n s) : codeC (model prog w) A (.whileLoop test body orelse env) (fun r s' => ∃ f, r = .ok f ∧ R f s') s := by
  refine codeC_loop (fun _ _ => rfl) rfl I (fun n s hI => ?_) n h
  show wpC _ A ((whileTurn test body orelse env).onRaise _) _ _ s
  refine c_noted ?_
  simp only [whileTurn]
  refine c_bind (c_monoQ (turn n s hI) fun b s₂ h₂ => ?_)
  cases b with
  | false =>
    simp only [Bool.false_eq_true, if_false] at h₂ ⊢
    exact c_bind (c_monoQ h₂ fun f s₃ h₃ => c_pure ⟨f, rfl, h₃⟩)
  | true =>
    simp only [if_true] at h₂ ⊢
    refine c_bind (c_monoQ h₂ fun f s₃ h₃ => ?_)
    cases f with
    | next => exact c_pure (.inl ⟨rfl, h₃⟩)
    | cont => exact c_pure (.inl ⟨rfl, h₃⟩)
    | brk => exact c_pure ⟨_, rfl, h₃⟩
    | ret v => exact c_pure ⟨_, rfl, h₃⟩
theorem codeC_block {stmts} {R : Flow → Shared → Prop} (h : wpC (model prog w) A (execs stmts env) R NoE s) : codeC (model prog w) A (.block stmts env) (fun r s' => ∃ f, r = .ok f ∧ R f s') s := by
  refine codeC_tree (fun _ _ => rfl) ?_
  show wpC _ A (do return Fin.done (← (execs stmts env).onRaise _)) _ _ s
  exact c_bind (c_noted (c_monoQ h fun f s' h' => c_pure ⟨f, rfl, h'⟩))
theorem codeC_for {target it body orelse} {R : Flow → Shared → Prop} (I : Nat → Shared → Prop) (ht : ∀ v, letOwnedTupleGo target it v = pure ())
    (turn : ∀ n s, I n s → wpC (model prog w) A (pyNext it) (fun r s₁ => match r with
      | none => wpC (model prog w) A (execs orelse env) R NoE s₁
      | some v => wpC (model prog w) A (assign target env v) (fun _ s₂ => wpC (model prog w) A (execs body env) (fun f s₃ => match f with
            | .next | .cont => ∃ m, m < n ∧ I m s₃
            | .brk => R .next s₃
            | .ret v => R (.ret v) s₃) NoE s₂) NoE s₁) NoE s)
    (n : Nat) (h : I n s) : codeC (model prog w) A (.forLoop target it body orelse env) (fun r s' => ∃ f, r = .ok f ∧ R f s') s := by
  refine codeC_loop (fun _ _ => rfl) rfl I (fun n s hI => ?_) n h
  show wpC _ A ((forTurn target it body orelse env).onRaise _) _ _ s
  refine c_noted ?_
  simp only [forTurn]
  refine c_bind (c_stand (c_bind (c_noted (c_monoQ (turn n s hI) fun r s₁ h₁ => ?_))))
  cases r with
  | none => exact c_pure (.inr ⟨rfl, codeC_block h₁⟩)
  | some v =>
    refine c_bind (c_eq (ht v) (c_pure ?_))
    refine c_bind (c_monoQ h₁ fun _ s₂ h₂ => c_bind (c_monoQ h₂ fun f s₃ h₃ => ?_))
    cases f with
    | next => exact c_pure (.inl ⟨rfl, h₃⟩)
    | cont => exact c_pure (.inl ⟨rfl, h₃⟩)
    | brk => exact c_pure ⟨_, rfl, h₃⟩
    | ret v => exact c_pure ⟨_, rfl, h₃⟩
theorem a_Name {M : Model} {E : Value → Shared → Prop} {x : Str} {p : Pos} {v : Value} {Q : Unit → Shared → Prop} (h : wpC M A (storeName env x v) Q E s) : wpC M A (assign (.Name x p) env v) Q E s := by
  show wpC M A (do standAt p; bindName env x v) Q E s
  exact c_bind (c_stand (c_bindName h))
end
end Mine
end
section
open PySem PySem.W PyProof.Rows
namespace Mine
theorem ok_caller : Ok ⟨.builtin "claim.caller" {}, none, none, [], none⟩ := ⟨cleanC_builtin _ (by decide +kernel), fun _ h => nomatch h⟩

theorem thread_endsC {prog : Program} {w : World} {t : Sem Fin} {s : Shared} {R : Result → Shared → Prop} (hreg : s.asleep)
    (h : wpC (model prog w) callerA t (fun fin s' => ∃ f, fin = .done f ∧ (R (.ok f) s' ∧ leftWithCleanup s'.gens = false)) (fun e s' => R (.error e) s' ∧ leftWithCleanup s'.gens = false) s) :
    ∃ n r s' s'', runN (denote table) prog w n s ⟨t, .builtin "claim.caller" {}, default, []⟩ = .halted (outcomeOf r) s' ∧
      schedN (denote table) prog w n (.single s ⟨t, .builtin "claim.caller" {}, default, []⟩) = .halted (outcomeOf r) s' ∧ s'.forget = s''.forget ∧ R r s'' := by
  have h' : Sem.wp (model prog w) ⟨.builtin "claim.caller" {}, none, none, [], none⟩ t (Sem.finPost (model prog w) ⟨.builtin "claim.caller" {}, none, none, [], none⟩ fun r s' => R r s' ∧ leftWithCleanup s'.gens = false)
      (fun e _ s' => R (.error e) s' ∧ leftWithCleanup s'.gens = false) default s := by
    refine Sem.wp_mono _ _ _ (fun fin p' s' q => ?_) (fun _ _ _ q => q) _ _ (h.run _ default caller_in ok_caller)
    obtain ⟨f, rfl, hf⟩ := q
    exact hf
  obtain ⟨n, r, s₁, s₂, hs, hn, hfo, hR⟩ := wp_halts_full (M := model prog w) (R := R) hreg h'
  exact ⟨n, r, s₂, s₁, hn, hs, hfo, hR⟩

theorem callFromC {c : ClaimW} {tree : List Value → Sem Fin} {w : World} {s : Shared} {free : Addr → Prop} {gens : Prop} {kept : Heap → Prop} (hz : s.asleep) (hgens : s.gens = #[])
    (hspec : ∀ args, c.pre args = true → WData.layableAll args = true →
      ∀ ord : List DictEntry → List DictEntry, (∀ l, (ord l).Perm l) →
      ∃ vs s₁, layAllW c.records (classAt s.heap) w.params ord args s = some (vs, s₁) ∧
        wpC (model c.prog w) callerA (tree vs) (fun fin s' => ∃ f, fin = .done f ∧ (c.Ends s args vs s₁ (.ok f) s' ∧ s'.os = s.os ∧ AllBare s'.gens ∧ kept s'.heap))
          (fun e s' => c.Ends s args vs s₁ (.error e) s' ∧ s'.os = s.os ∧ AllBare s'.gens ∧ kept s'.heap) s₁) :
    c.CallFrom (fun vs => ⟨tree vs, .builtin "claim.caller" {}, default, []⟩) w free gens kept s := by
  intro args hpre hlay ord hord
  obtain ⟨vs, s₁, hlaid, hcode⟩ := hspec args hpre hlay ord hord
  have hal := layAllW_rest _ _ _ hlaid
  obtain ⟨k, r, s', s'', hrun, hsched, hfo, hcase, hos, hkp⟩ := thread_endsC (prog := c.prog) (w := w) (t := tree vs) (s := s₁)
    (R := fun r s' => c.Ends s args vs s₁ r s' ∧ s'.os = s.os ∧ kept s'.heap)
    (Shared.asleep_of_life hal.2.2.2 hz)
    (c_mono hcode (fun fin s' q => by
      obtain ⟨f, e, h1, h2, h3, h4⟩ := q
      exact ⟨f, e, ⟨h1, h2, h4⟩, leftWithCleanup_false_of_bare h3⟩) (fun e s' q => by
      obtain ⟨h1, h2, h3, h4⟩ := q
      exact ⟨⟨h1, h2, h4⟩, leftWithCleanup_false_of_bare h3⟩))
  obtain ⟨eh, _, _, eo, _⟩ := Shared.forget_eq hfo
  have hcase := hcase.congr eh
  have hkp : kept s'.heap := by first | exact eh ▸ hkp | (rw [eh] at hkp; exact hkp) | (rw [← eh] at hkp; exact hkp)
  rw [← eo] at hos
  have hlife : s'.heap.life = s.heap.life := (runN_life _ _ _ hrun).trans hal.2.2.2
  refine ⟨vs, s₁, hlaid, k, _, s', hsched, ?_, (fun _ i x hx => by rw [hgens] at hx; simp at hx), hkp, by rw [hlife], Shared.rest_eq hos⟩
  rcases hcase with ⟨v, rfl, d1, d2, d3, d4, d5⟩ | ⟨e, ob, cls, rfl, d1, d2, d3, d4, d5⟩
  · exact .inl ⟨v, rfl, d1, d2, d3, fun b o y _ => d4 b o y, d5⟩
  · exact .inr ⟨e, ob, cls, rfl, d1, d2, d3, d4, fun b o y _ => d5 b o y⟩

/-- the walk that is wanted: in clean contexts -/
noncomputable abbrev WalkC (q : Program) (loose : List Str) (XP : (Str → Option Value) → Heap → Prop) (YP : World → Heap → Prop) (r : RowW) : Prop :=
  ∀ (w : World) (s₀ s₁ : Shared) (mg mb : Str → Option Value), Ground q loose r.records XP w s₀ mg mb s₁.heap → YP w s₁.heap → s₁.gens = #[] →
    ∀ (args : List WData) (vals : List Value) (as : List Addr), r.claim.pre args = true → WData.layableAll args = true → ReadsAllW r.records (classAt s₀.heap) s₁.heap vals args as →
      ∃ f, mg r.name = some f ∧ wpC (model r.prog w) callerA (PySem.call f vals) (fun v s' => GoodW r.claim (classAt s₀.heap) (ExcName.means s₀.heap) args s₁ (.ok (.ret v)) s')
        (fun _ _ => False) s₁

theorem PySem.W.holds_open {r : OpenRow} {q : Program} {loose : List Str} {Xt : Shared → Bool} {XP : (Str → Option Value) → Heap → Prop} {α : Type} {Yf : Shared → α} {Ya : World → α} {YP : World → Heap → Prop} {d : DefRec} {kwd : List (Str × PySem.Expr)} {N : Nat}
    (left : LeftO r.prog q loose Xt Yf Ya N) (hY : ∀ w s, Yf s = Ya w → YP w s.heap) (hYk : ∀ w h h', YP w h → (∀ b o, h.get? b = some o → h'.get? b = some o) → YP w h')
    (hX : ∀ s, Xt s = true → XP (s.heap.nsMap mainGlobals) s.heap) (hXk : ∀ mg h h', XP mg h → (∀ b o, h.get? b = some o → h'.get? b = some o) → XP mg h')
    (hdef : defOf q r.name = some (d, kwd)) (hp : r.prog.theDef r.name = some (d.params, d.body, d.scope)) (hk : kwWritten? d.params.kwonlyargs d.params.kw_defaults = some kwd) (hRf : ∀ s, Xt s = true → RecFacts r.records s.heap) (hwr : (!r.writes || r.records.isEmpty) = true)
    (k1 : r.wellSaid = true) (ok : (chainsOk q && opensWell r.prog && (frees r.toRowW && r.within.isEmpty)) = true) (hb : r.prog.bare) (hw : r.toRowW.promised)
    (call : WalkC q loose XP YP r.toRowW) : r.Holds := by
  refine ⟨k1, hw, ?_⟩
  obtain ⟨ok, k5⟩ := Bool.and_eq_true_iff.mp ok
  obtain ⟨hch, o1⟩ := Bool.and_eq_true_iff.mp ok
  obtain ⟨k5, k6⟩ := Bool.and_eq_true_iff.mp k5
  obtain ⟨hsame, hu, ha, hap, hm⟩ := frees_parts k5
  refine ⟨⟨hb, o1, by show r.makers.map _ = []; rw [hm]; rfl⟩, hw.witness, fun w => ⟨(left.behind hX hch w).1, fun s' hs' => ?_⟩⟩
  obtain ⟨s₀, hf, hg0, s, hT, hz, hgens, hg, G00, y⟩ := (left.behind (XP := fun mg h => XP mg h ∧ RecFacts r.records h) (fun s hs => ⟨hX s hs, hRf s hs⟩) hch w).2 s' hs'
  have G0 : Ground q loose [] XP w s (s.heap.nsMap mainGlobals) (s.heap.nsMap builtinsNs) s.heap := ⟨G00.T, G00.B, G00.D, G00.TE, G00.TD, G00.W, G00.X.1, G00.cls, G00.has, G00.apart, G00.once, G00.K⟩
  have RF := G00.X.2
  have pin : ∀ n ∈ (if r.pinned then [r.name] else []), isTheDefsW r.prog s.heap n := fun n hn => by
    obtain rfl : n = r.name := by split at hn <;> simp_all
    exact pinned_of_view hg G0 hdef hp hk
  refine ⟨s₀, hf, hg0, s, hT, pin, RF.1, RF.2.1, ?_⟩
  have hgens : s.gens = #[] := Array.eq_empty_of_size_eq_zero (beq_iff_eq.mp hgens)
  have G : Ground q loose r.records XP w s _ _ s.heap := RF.ground G0
  refine callFromC (c := r.toRowW.claim) (tree := fun vs => do match ← nsGet mainNs r.name with
      | some f => do ret (← PySem.call f vs)
      | none => unsupported "claim.caller:no-such-global") hz hgens fun args hpre hlay ord hord => ?_
  obtain ⟨⟨vs, s₁⟩, hlaid⟩ := Option.isSome_iff_exists.mp (layAllW_isSome (P := w.params) (ord := ord) G.has args r.args s (pre_splitW hpre).1)
  have keeps := layAllW_keeps _ _ _ hlaid
  have hal := layAllW_rest _ _ _ hlaid
  obtain ⟨as, hrd, hin, hold⟩ := reads_layAllW hord _ _ _ hlaid hlay s₁.heap (fun _ _ e => e)
  have L : Laid r.records w s s₁ args vs as := ⟨⟨ord, hord, hlaid⟩, hrd, hin, hold, keeps, hal.1.trans hgens, hal.2.2.1⟩
  have G₁ := G.keeps hXk keeps
  obtain ⟨f, hf', h⟩ := call w s s₁ _ _ G₁ (hYk _ _ _ (hY w s y) keeps) (hal.1.trans hgens) args vs as hpre hlay hrd
  have hi := ident_freeW hu ha hap
  have hwi : r.toRowW.claim.within = [] := List.isEmpty_iff.mp k6
  refine ⟨vs, s₁, hlaid, ?_⟩
  refine c_bind (c_any (wpAny_nsGet (m := s.heap.nsMap mainGlobals) G₁.T.g ?_))
  rw [hf']
  refine c_bind (c_mono h (fun v s' g => c_pure ?_) fun _ _ x => x.elim)
  have gg := GoodW.toG g
  have z := gg.laid (c := r.toRowW.claim) hsame hwi hi L
  exact ⟨_, rfl, z.1, z.2.1, z.2.2, fun q => ⟨namesKept_of hT hg r.keeps keeps gg.2.1.old, noTable hwr q⟩⟩
end Mine
end
section
open PySem PySem.W PyProof.Rows
set_option maxRecDepth 1000000
set_option maxHeartbeats 0
namespace Mine
/-- the statement of a text at a place -/
noncomputable def nthS : List Stmt → Nat → Stmt
  | [], _ => .Pass ⟨0, 0, 0, 0⟩
  | s :: _, 0 => s
  | _ :: r, n + 1 => nthS r n
/-- a def as the top leaves it: its parts are taken out of the text -/
noncomputable def fnAt {name q : Str} {ps : Arguments} {b : List Stmt} {ds rt tp sc x p} (k : Nat) (_ : nthS PySem.Challenge.pw_xm0749_01.main.body k = .FunctionDef name ps b ds rt tp sc x q p) (pm : Value) (c : Addr) : Obj :=
  { cls := .type "function", data := .func { name := name, qualname := q, params := ps, body := .stmts b, scope := sc, globals := 3, closure := [], defaults := .none, kwdefaults := .none, pyModule := pm, code := .ref c } }
noncomputable def inCls : Stmt → Stmt
  | .ClassDef _ _ _ b _ _ _ _ _ _ _ => nthS b 0
  | s => s
noncomputable def fnIni {name q : Str} {ps : Arguments} {b : List Stmt} {ds rt tp sc x p} (_ : inCls (nthS PySem.Challenge.pw_xm0749_01.main.body 1) = .FunctionDef name ps b ds rt tp sc x q p) (pm : Value) (c : Addr) : Obj :=
  { cls := .type "function", data := .func { name := name, qualname := Str.ofString "PagebaseError.__init__", params := ps, body := .stmts b, scope := sc, globals := 3, closure := [], defaults := .none, kwdefaults := .none, pyModule := pm, code := .ref c } }
noncomputable abbrev kv (P : Params) (x : String) (t : Tok) (v : Value) : DictEntry := { hash := PyData.keyHash P (Str.ofString x), key := .str (Str.ofString x) t, val := v }
/-- what the walk reads of the state behind the top -/
noncomputable def Kx : Params → Frag := fun P => [
  (3, { cls := Value.type "dict", data := Data.dict #[kv P "__name__" 165 (.str (Str.ofString "law_xm0749_01") 349), kv P "__doc__" 166 (Value.none), kv P "__package__" 167 (Value.none), kv P "__loader__" 168 (Value.builtin "__main__.__loader__#opaque"), kv P "__spec__" 169 (Value.none), kv P "__annotations__" 170 (Value.ref 6), kv P "__builtins__" 171 (Value.ref 4), kv P "__file__" 173 (.str (Str.ofString "/claim/cut.py") 172), kv P "__cached__" 174 (Value.none), kv P "PagebaseError" 217 (Value.ref 31), kv P "SqlError" 233 (Value.ref 44), kv P "MisuseError" 249 (Value.ref 56), kv P "MIN_INT" 256 (Value.int (-9223372036854775808) 255), kv P "MAX_INT" 262 (Value.int 9223372036854775807 261), kv P "WORD" 266 (Value.int 18446744073709551616 265), kv P "utf8" 276 (Value.ref 65), kv P "fold_ascii" 285 (Value.ref 72), kv P "storage_class" 292 (Value.ref 79), kv P "is_in_range" 299 (Value.ref 86), kv P "collate" 308 (Value.ref 93), kv P "NULL_TAG" 312 (Value.int 1 311), kv P "NUMBER_TAG" 314 (Value.int 2 313), kv P "TEXT_TAG" 316 (Value.int 3 315), kv P "BLOB_TAG" 318 (Value.int 4 317), kv P "put_fixed" 329 (Value.ref 100), kv P "put_ended" 338 (Value.ref 107), kv P "sort_part" 348 (Value.ref 114), kv P "_law_pool" 361 (Value.ref 121), kv P "_law_take" 370 (Value.ref 128), kv P "_law_one" 378 (Value.ref 135), kv P "_law_signs" 384 (Value.ref 140), kv P "_law_turned" 394 (Value.ref 147), kv P "_law_beside" 402 (Value.ref 154), kv P "_law_value" 412 (Value.ref 161), kv P "_law_kept" 418 (Value.ref 166), kv P "_law_rank" 424 (Value.ref 171), kv P "_law_told" 430 (Value.ref 176), kv P "_law_body" 439 (Value.ref 183), kv P "_law_read" 452 (Value.ref 190), kv P "_law_right" 458 (Value.ref 195), kv P "_law_is_ended" 464 (Value.ref 200), kv P "_law_refusal" 472 (Value.ref 207), kv P "law" 478 (Value.ref 212)] 43 }),
  (27, { cls := Value.type "code", data := Data.fields #[.str (Str.ofString "__init__") 201, .str (Str.ofString "PagebaseError.__init__") 202, .str (Str.ofString "/claim/cut.py") 203, Value.int 4 0, Value.int 2 0, Value.int 0 0, Value.int 0 0, Value.int 3 0, Value.ref 22, Value.bool true, Value.int 181 0, Value.ref 23, Value.none, Value.ref 24, Value.ref 25, Value.ref 26, Value.int 206 0, Value.int 4 0, .str (Str.ofString "/claim/cut.py") 207] }),
  (28, fnIni rfl (Value.str (Str.ofString "pagebase.errors") 187) 27),
  (30, { cls := Value.type "dict", data := Data.dict #[kv P "__module__" 196 (.str (Str.ofString "pagebase.errors") 187), kv P "__firstlineno__" 200 (Value.int 2 199), kv P "__init__" 208 (Value.ref 28), kv P "__static_attributes__" 210 (Value.ref 29), kv P "__weakref__" 212 (Value.ref 32), kv P "__doc__" 213 (Value.none)] 3 }),
  (31, { cls := Value.type "type", data := Data.cls { name := Str.ofString "PagebaseError", bases := [Value.type "Exception"], mro := [Value.ref 31, Value.type "Exception", Value.type "BaseException", Value.type "object"], ns := 30, qualname := Str.ofString "PagebaseError", subclasses := [Value.ref 44, Value.ref 56] }, slots := #[some (Value.ref 15), none, some (.str (Str.ofString "PagebaseError") 189), some (.str (Str.ofString "PagebaseError") 197), some (Value.builtin "Exception.__new__"), some (Value.bool true)] }),
  (43, { cls := Value.type "dict", data := Data.dict #[kv P "__module__" 225 (.str (Str.ofString "pagebase.errors") 187), kv P "__firstlineno__" 229 (Value.int 6 228), kv P "__static_attributes__" 230 (Value.ref 42), kv P "__doc__" 231 (Value.none)] 2 }),
  (44, { cls := Value.type "type", data := Data.cls { name := Str.ofString "SqlError", bases := [Value.ref 31], mro := [Value.ref 44, Value.ref 31, Value.type "Exception", Value.type "BaseException", Value.type "object"], ns := 43, qualname := Str.ofString "SqlError" }, slots := #[some (Value.ref 35), none, some (.str (Str.ofString "SqlError") 218), some (.str (Str.ofString "SqlError") 226), some (Value.builtin "Exception.__new__"), some (Value.bool true)] }),
  (55, { cls := Value.type "dict", data := Data.dict #[kv P "__module__" 241 (.str (Str.ofString "pagebase.errors") 187), kv P "__firstlineno__" 245 (Value.int 8 244), kv P "__static_attributes__" 246 (Value.ref 54), kv P "__doc__" 247 (Value.none)] 2 }),
  (56, { cls := Value.type "type", data := Data.cls { name := Str.ofString "MisuseError", bases := [Value.ref 31], mro := [Value.ref 56, Value.ref 31, Value.type "Exception", Value.type "BaseException", Value.type "object"], ns := 55, qualname := Str.ofString "MisuseError" }, slots := #[some (Value.ref 47), none, some (.str (Str.ofString "MisuseError") 234), some (.str (Str.ofString "MisuseError") 242), some (Value.builtin "Exception.__new__"), some (Value.bool true)] }),
  (64, { cls := Value.type "code", data := Data.fields #[.str (Str.ofString "utf8") 267, .str (Str.ofString "utf8") 268, .str (Str.ofString "/claim/cut.py") 269, Value.int 14 0, Value.int 1 0, Value.int 0 0, Value.int 0 0, Value.int 3 0, Value.ref 59, Value.bool true, Value.int 181 0, Value.ref 60, Value.none, Value.ref 61, Value.ref 62, Value.ref 63, Value.int 274 0, Value.int 14 0, .str (Str.ofString "/claim/cut.py") 275] }),
  (65, fnAt 8 rfl (Value.str (Str.ofString "pagebase.values") 250) 64),
  (71, { cls := Value.type "code", data := Data.fields #[.str (Str.ofString "fold_ascii") 277, .str (Str.ofString "fold_ascii") 278, .str (Str.ofString "/claim/cut.py") 279, Value.int 33 0, Value.int 1 0, Value.int 0 0, Value.int 0 0, Value.int 3 0, Value.ref 66, Value.bool true, Value.int 181 0, Value.ref 67, Value.none, Value.ref 68, Value.ref 69, Value.ref 70, Value.int 283 0, Value.int 33 0, .str (Str.ofString "/claim/cut.py") 284] }),
  (72, fnAt 9 rfl (Value.str (Str.ofString "pagebase.values") 250) 71),
  (78, { cls := Value.type "code", data := Data.fields #[.str (Str.ofString "storage_class") 286, .str (Str.ofString "storage_class") 287, .str (Str.ofString "/claim/cut.py") 288, Value.int 41 0, Value.int 1 0, Value.int 0 0, Value.int 0 0, Value.int 3 0, Value.ref 73, Value.bool true, Value.int 181 0, Value.ref 74, Value.none, Value.ref 75, Value.ref 76, Value.ref 77, Value.int 290 0, Value.int 41 0, .str (Str.ofString "/claim/cut.py") 291] }),
  (79, fnAt 10 rfl (Value.str (Str.ofString "pagebase.values") 250) 78),
  (85, { cls := Value.type "code", data := Data.fields #[.str (Str.ofString "is_in_range") 293, .str (Str.ofString "is_in_range") 294, .str (Str.ofString "/claim/cut.py") 295, Value.int 51 0, Value.int 1 0, Value.int 0 0, Value.int 0 0, Value.int 3 0, Value.ref 80, Value.bool true, Value.int 181 0, Value.ref 81, Value.none, Value.ref 82, Value.ref 83, Value.ref 84, Value.int 297 0, Value.int 51 0, .str (Str.ofString "/claim/cut.py") 298] }),
  (86, fnAt 11 rfl (Value.str (Str.ofString "pagebase.values") 250) 85),
  (92, { cls := Value.type "code", data := Data.fields #[.str (Str.ofString "collate") 300, .str (Str.ofString "collate") 301, .str (Str.ofString "/claim/cut.py") 302, Value.int 53 0, Value.int 2 0, Value.int 0 0, Value.int 0 0, Value.int 3 0, Value.ref 87, Value.bool true, Value.int 181 0, Value.ref 88, Value.none, Value.ref 89, Value.ref 90, Value.ref 91, Value.int 306 0, Value.int 53 0, .str (Str.ofString "/claim/cut.py") 307] }),
  (93, fnAt 12 rfl (Value.str (Str.ofString "pagebase.values") 250) 92),
  (99, { cls := Value.type "code", data := Data.fields #[.str (Str.ofString "put_fixed") 319, .str (Str.ofString "put_fixed") 320, .str (Str.ofString "/claim/cut.py") 321, Value.int 69 0, Value.int 2 0, Value.int 0 0, Value.int 0 0, Value.int 3 0, Value.ref 94, Value.bool true, Value.int 181 0, Value.ref 95, Value.none, Value.ref 96, Value.ref 97, Value.ref 98, Value.int 327 0, Value.int 69 0, .str (Str.ofString "/claim/cut.py") 328] }),
  (100, fnAt 18 rfl (Value.str (Str.ofString "pagebase.records") 309) 99),
  (106, { cls := Value.type "code", data := Data.fields #[.str (Str.ofString "put_ended") 330, .str (Str.ofString "put_ended") 331, .str (Str.ofString "/claim/cut.py") 332, Value.int 77 0, Value.int 1 0, Value.int 0 0, Value.int 0 0, Value.int 3 0, Value.ref 101, Value.bool true, Value.int 181 0, Value.ref 102, Value.none, Value.ref 103, Value.ref 104, Value.ref 105, Value.int 336 0, Value.int 77 0, .str (Str.ofString "/claim/cut.py") 337] }),
  (107, fnAt 19 rfl (Value.str (Str.ofString "pagebase.records") 309) 106),
  (113, { cls := Value.type "code", data := Data.fields #[.str (Str.ofString "sort_part") 339, .str (Str.ofString "sort_part") 340, .str (Str.ofString "/claim/cut.py") 341, Value.int 86 0, Value.int 2 0, Value.int 0 0, Value.int 0 0, Value.int 3 0, Value.ref 108, Value.bool true, Value.int 181 0, Value.ref 109, Value.none, Value.ref 110, Value.ref 111, Value.ref 112, Value.int 346 0, Value.int 86 0, .str (Str.ofString "/claim/cut.py") 347] }),
  (114, fnAt 20 rfl (Value.str (Str.ofString "pagebase.records") 309) 113),
  (120, { cls := Value.type "code", data := Data.fields #[.str (Str.ofString "_law_pool") 351, .str (Str.ofString "_law_pool") 352, .str (Str.ofString "/claim/cut.py") 353, Value.int 104 0, Value.int 2 0, Value.int 0 0, Value.int 0 0, Value.int 3 0, Value.ref 115, Value.bool true, Value.int 181 0, Value.ref 116, Value.none, Value.ref 117, Value.ref 118, Value.ref 119, Value.int 359 0, Value.int 104 0, .str (Str.ofString "/claim/cut.py") 360] }),
  (121, fnAt 22 rfl (Value.str (Str.ofString "law_xm0749_01") 349) 120),
  (127, { cls := Value.type "code", data := Data.fields #[.str (Str.ofString "_law_take") 362, .str (Str.ofString "_law_take") 363, .str (Str.ofString "/claim/cut.py") 364, Value.int 111 0, Value.int 2 0, Value.int 0 0, Value.int 0 0, Value.int 3 0, Value.ref 122, Value.bool true, Value.int 181 0, Value.ref 123, Value.none, Value.ref 124, Value.ref 125, Value.ref 126, Value.int 368 0, Value.int 111 0, .str (Str.ofString "/claim/cut.py") 369] }),
  (128, fnAt 23 rfl (Value.str (Str.ofString "law_xm0749_01") 349) 127),
  (134, { cls := Value.type "code", data := Data.fields #[.str (Str.ofString "_law_one") 371, .str (Str.ofString "_law_one") 372, .str (Str.ofString "/claim/cut.py") 373, Value.int 118 0, Value.int 2 0, Value.int 0 0, Value.int 0 0, Value.int 3 0, Value.ref 129, Value.bool true, Value.int 181 0, Value.ref 130, Value.none, Value.ref 131, Value.ref 132, Value.ref 133, Value.int 376 0, Value.int 118 0, .str (Str.ofString "/claim/cut.py") 377] }),
  (135, fnAt 24 rfl (Value.str (Str.ofString "law_xm0749_01") 349) 134),
  (139, { cls := Value.type "code", data := Data.fields #[.str (Str.ofString "_law_signs") 379, .str (Str.ofString "_law_signs") 380, .str (Str.ofString "/claim/cut.py") 381, Value.int 120 0, Value.int 2 0, Value.int 0 0, Value.int 0 0, Value.int 3 0, Value.ref 136, Value.bool true, Value.int 181 0, Value.ref 137, Value.none, Value.none, Value.none, Value.ref 138, Value.int 382 0, Value.int 120 0, .str (Str.ofString "/claim/cut.py") 383] }),
  (140, fnAt 25 rfl (Value.str (Str.ofString "law_xm0749_01") 349) 139),
  (146, { cls := Value.type "code", data := Data.fields #[.str (Str.ofString "_law_turned") 385, .str (Str.ofString "_law_turned") 386, .str (Str.ofString "/claim/cut.py") 387, Value.int 122 0, Value.int 1 0, Value.int 0 0, Value.int 0 0, Value.int 3 0, Value.ref 141, Value.bool true, Value.int 181 0, Value.ref 142, Value.none, Value.ref 143, Value.ref 144, Value.ref 145, Value.int 392 0, Value.int 122 0, .str (Str.ofString "/claim/cut.py") 393] }),
  (147, fnAt 26 rfl (Value.str (Str.ofString "law_xm0749_01") 349) 146),
  (153, { cls := Value.type "code", data := Data.fields #[.str (Str.ofString "_law_beside") 395, .str (Str.ofString "_law_beside") 396, .str (Str.ofString "/claim/cut.py") 397, Value.int 128 0, Value.int 2 0, Value.int 0 0, Value.int 0 0, Value.int 3 0, Value.ref 148, Value.bool true, Value.int 181 0, Value.ref 149, Value.none, Value.ref 150, Value.ref 151, Value.ref 152, Value.int 400 0, Value.int 128 0, .str (Str.ofString "/claim/cut.py") 401] }),
  (154, fnAt 27 rfl (Value.str (Str.ofString "law_xm0749_01") 349) 153),
  (160, { cls := Value.type "code", data := Data.fields #[.str (Str.ofString "_law_value") 403, .str (Str.ofString "_law_value") 404, .str (Str.ofString "/claim/cut.py") 405, Value.int 134 0, Value.int 2 0, Value.int 0 0, Value.int 0 0, Value.int 3 0, Value.ref 155, Value.bool true, Value.int 181 0, Value.ref 156, Value.none, Value.ref 157, Value.ref 158, Value.ref 159, Value.int 410 0, Value.int 134 0, .str (Str.ofString "/claim/cut.py") 411] }),
  (161, fnAt 28 rfl (Value.str (Str.ofString "law_xm0749_01") 349) 160),
  (165, { cls := Value.type "code", data := Data.fields #[.str (Str.ofString "_law_kept") 413, .str (Str.ofString "_law_kept") 414, .str (Str.ofString "/claim/cut.py") 415, Value.int 144 0, Value.int 2 0, Value.int 0 0, Value.int 0 0, Value.int 3 0, Value.ref 162, Value.bool true, Value.int 181 0, Value.ref 163, Value.none, Value.none, Value.none, Value.ref 164, Value.int 416 0, Value.int 144 0, .str (Str.ofString "/claim/cut.py") 417] }),
  (166, fnAt 29 rfl (Value.str (Str.ofString "law_xm0749_01") 349) 165),
  (170, { cls := Value.type "code", data := Data.fields #[.str (Str.ofString "_law_rank") 419, .str (Str.ofString "_law_rank") 420, .str (Str.ofString "/claim/cut.py") 421, Value.int 153 0, Value.int 1 0, Value.int 0 0, Value.int 0 0, Value.int 3 0, Value.ref 167, Value.bool true, Value.int 181 0, Value.ref 168, Value.none, Value.none, Value.none, Value.ref 169, Value.int 422 0, Value.int 153 0, .str (Str.ofString "/claim/cut.py") 423] }),
  (171, fnAt 30 rfl (Value.str (Str.ofString "law_xm0749_01") 349) 170),
  (175, { cls := Value.type "code", data := Data.fields #[.str (Str.ofString "_law_told") 425, .str (Str.ofString "_law_told") 426, .str (Str.ofString "/claim/cut.py") 427, Value.int 161 0, Value.int 1 0, Value.int 0 0, Value.int 0 0, Value.int 3 0, Value.ref 172, Value.bool true, Value.int 181 0, Value.ref 173, Value.none, Value.none, Value.none, Value.ref 174, Value.int 428 0, Value.int 161 0, .str (Str.ofString "/claim/cut.py") 429] }),
  (176, fnAt 31 rfl (Value.str (Str.ofString "law_xm0749_01") 349) 175),
  (182, { cls := Value.type "code", data := Data.fields #[.str (Str.ofString "_law_body") 431, .str (Str.ofString "_law_body") 432, .str (Str.ofString "/claim/cut.py") 433, Value.int 163 0, Value.int 2 0, Value.int 0 0, Value.int 0 0, Value.int 3 0, Value.ref 177, Value.bool true, Value.int 181 0, Value.ref 178, Value.none, Value.ref 179, Value.ref 180, Value.ref 181, Value.int 437 0, Value.int 163 0, .str (Str.ofString "/claim/cut.py") 438] }),
  (183, fnAt 32 rfl (Value.str (Str.ofString "law_xm0749_01") 349) 182),
  (189, { cls := Value.type "code", data := Data.fields #[.str (Str.ofString "_law_read") 440, .str (Str.ofString "_law_read") 441, .str (Str.ofString "/claim/cut.py") 442, Value.int 175 0, Value.int 1 0, Value.int 0 0, Value.int 0 0, Value.int 3 0, Value.ref 184, Value.bool true, Value.int 181 0, Value.ref 185, Value.none, Value.ref 186, Value.ref 187, Value.ref 188, Value.int 450 0, Value.int 175 0, .str (Str.ofString "/claim/cut.py") 451] }),
  (190, fnAt 33 rfl (Value.str (Str.ofString "law_xm0749_01") 349) 189),
  (194, { cls := Value.type "code", data := Data.fields #[.str (Str.ofString "_law_right") 453, .str (Str.ofString "_law_right") 454, .str (Str.ofString "/claim/cut.py") 455, Value.int 193 0, Value.int 2 0, Value.int 0 0, Value.int 0 0, Value.int 3 0, Value.ref 191, Value.bool true, Value.int 181 0, Value.ref 192, Value.none, Value.none, Value.none, Value.ref 193, Value.int 456 0, Value.int 193 0, .str (Str.ofString "/claim/cut.py") 457] }),
  (195, fnAt 34 rfl (Value.str (Str.ofString "law_xm0749_01") 349) 194),
  (199, { cls := Value.type "code", data := Data.fields #[.str (Str.ofString "_law_is_ended") 459, .str (Str.ofString "_law_is_ended") 460, .str (Str.ofString "/claim/cut.py") 461, Value.int 206 0, Value.int 1 0, Value.int 0 0, Value.int 0 0, Value.int 3 0, Value.ref 196, Value.bool true, Value.int 181 0, Value.ref 197, Value.none, Value.none, Value.none, Value.ref 198, Value.int 462 0, Value.int 206 0, .str (Str.ofString "/claim/cut.py") 463] }),
  (200, fnAt 35 rfl (Value.str (Str.ofString "law_xm0749_01") 349) 199),
  (206, { cls := Value.type "code", data := Data.fields #[.str (Str.ofString "_law_refusal") 465, .str (Str.ofString "_law_refusal") 466, .str (Str.ofString "/claim/cut.py") 467, Value.int 209 0, Value.int 2 0, Value.int 0 0, Value.int 0 0, Value.int 3 0, Value.ref 201, Value.bool true, Value.int 181 0, Value.ref 202, Value.none, Value.ref 203, Value.ref 204, Value.ref 205, Value.int 470 0, Value.int 209 0, .str (Str.ofString "/claim/cut.py") 471] }),
  (207, fnAt 36 rfl (Value.str (Str.ofString "law_xm0749_01") 349) 206),
  (211, { cls := Value.type "code", data := Data.fields #[.str (Str.ofString "law") 473, .str (Str.ofString "law") 474, .str (Str.ofString "/claim/cut.py") 475, Value.int 217 0, Value.int 1 0, Value.int 0 0, Value.int 0 0, Value.int 3 0, Value.ref 208, Value.bool true, Value.int 181 0, Value.ref 209, Value.none, Value.none, Value.none, Value.ref 210, Value.int 476 0, Value.int 217 0, .str (Str.ofString "/claim/cut.py") 477] }),
  (212, fnAt 37 rfl (Value.str (Str.ofString "law_xm0749_01") 349) 211)]
noncomputable def Ka : List Addr := [3, 27, 28, 30, 31, 43, 44, 55, 56, 64, 65, 71, 72, 78, 79, 85, 86, 92, 93, 99, 100, 106, 107, 113, 114, 120, 121, 127, 128, 134, 135, 139, 140, 146, 147, 153, 154, 160, 161, 165, 166, 170, 171, 175, 176, 182, 183, 189, 190, 194, 195, 199, 200, 206, 207, 211, 212]
noncomputable def Kh : Hook := kHook Kx Ka (fun _ => by kernel_rfl)
noncomputable def outAt (l : List Nat) : Nat → List Stmt → List Stmt
  | _, [] => []
  | n, s :: r => if l.contains n then outAt l (n + 1) r else s :: outAt l (n + 1) r
noncomputable abbrev rwx : RowW := PySem.Challenge.rw_xm0749_01.row.toRowW
/-- the text without the rows that name its files -/
noncomputable def qx : Program := { rwx.prog with main := { rwx.prog.main with body := outAt [0, 4, 13, 21] 0 rwx.prog.main.body } }
noncomputable def Kl : List Str := [Str.ofString "MIN_INT", Str.ofString "MAX_INT", Str.ofString "WORD"]
noncomputable def Kv : List (Str × WData) := [(Str.ofString "MIN_INT", .int (-9223372036854775808)), (Str.ofString "MAX_INT", .int 9223372036854775807), (Str.ofString "WORD", .int 18446744073709551616)]
/-- a def's object while it is made -/
noncomputable def fnAt0 {name q : Str} {ps : Arguments} {b : List Stmt} {ds rt tp sc x p} (k : Nat) (_ : nthS PySem.Challenge.pw_xm0749_01.main.body k = .FunctionDef name ps b ds rt tp sc x q p) : Obj :=
  { cls := .none, data := .func { name := name, qualname := q, params := ps, body := .stmts b, scope := sc, globals := 0, closure := [], defaults := .none, kwdefaults := .none } }
noncomputable def fnIni0 {name q : Str} {ps : Arguments} {b : List Stmt} {ds rt tp sc x p} (_ : inCls (nthS PySem.Challenge.pw_xm0749_01.main.body 1) = .FunctionDef name ps b ds rt tp sc x q p) : Obj :=
  { cls := .none, data := .func { name := name, qualname := Str.ofString "PagebaseError.__init__", params := ps, body := .stmts b, scope := sc, globals := 0, closure := [], defaults := .none, kwdefaults := .none } }
noncomputable def o_43 : Params → Obj := fun _ => { cls := .type "tuple", data := .seq #[] }
noncomputable def o_44 : Params → Obj := fun _ => { cls := .none, data := .fields #[] }
noncomputable def o_45 : Params → Obj := fun _ => { cls := .type "code", data := .fields #[.str (Str.ofString "<module>") 182, .str (Str.ofString "<module>") 183, .str (Str.ofString "/claim/cut.py") 184, .int 1 0, .int 0 0, .int 0 0, .int 0 0, .int 0 0, .ref 11, .bool false, .int 181 0, .ref 12, .none, .none, .none, .none, .int 185 0, .int 1 0, .str (Str.ofString "/claim/cut.py") 186] }
noncomputable def o_46 : Params → Obj := fun _ => { cls := .type "frame", slots := #[some (.ref 13), some (.ref 3), some (.ref 3), none, some (.str (Str.ofString "__main__") 164), none, some (.ref 0)] }
noncomputable def o_49 : Params → Obj := fun P => { cls := .none, data := .dict #[kv P "type.__subclasses__.Exception.0" 214 (.int 31 0), kv P "type.__subclasses__.Exception.n" 215 (.int 1 0)] 2 }
noncomputable def o_50 : Params → Obj := fun P => { cls := .type "dict", data := .dict #[kv P "__name__" 165 (.str (Str.ofString "pagebase.errors") 187), kv P "__doc__" 166 (.none), kv P "__package__" 167 (.none), kv P "__loader__" 168 (.builtin "__main__.__loader__#opaque"), kv P "__spec__" 169 (.none), kv P "__annotations__" 170 (.ref 6), kv P "__builtins__" 171 (.ref 4), kv P "__file__" 173 (.str (Str.ofString "/claim/cut.py") 172), kv P "__cached__" 174 (.none), kv P "PagebaseError" 217 (.ref 31)] 10 }
noncomputable def o_51 : Params → Obj := fun _ => { cls := .none, data := .fields #[.int 2 0, .int 0 0, .ref 20] }
noncomputable def o_52 : Params → Obj := fun _ => { cls := .type "tuple", data := .seq #[.type "Exception"] }
noncomputable def o_53 : Params → Obj := fun _ => { cls := .type "builtin_function_or_method", data := .fields #[.builtin "type.__prepare__", .type "type"] }
noncomputable def o_54 : Params → Obj := fun P => { cls := .type "dict", data := .dict #[kv P "__module__" 196 (.str (Str.ofString "pagebase.errors") 187), kv P "__qualname__" 198 (.str (Str.ofString "PagebaseError") 197), kv P "__firstlineno__" 200 (.int 2 199), kv P "__init__" 208 (.ref 28), kv P "__static_attributes__" 210 (.ref 29)] 5 }
noncomputable def o_55 : Params → Obj := fun _ => { cls := .type "tuple", data := .seq #[] }
noncomputable def o_56 : Params → Obj := fun _ => { cls := .none, data := .fields #[.int 4 0, .int 4 0, .ref 27] }
noncomputable def o_57 : Params → Obj := fun _ => { cls := .type "code", data := .fields #[.str (Str.ofString "PagebaseError") 191, .str (Str.ofString "PagebaseError") 192, .str (Str.ofString "/claim/cut.py") 193, .int 2 0, .int 0 0, .int 0 0, .int 0 0, .int 0 0, .ref 18, .bool false, .int 181 0, .ref 19, .none, .none, .none, .none, .int 194 0, .int 2 0, .str (Str.ofString "/claim/cut.py") 195] }
noncomputable def o_58 : Params → Obj := fun _ => { cls := .type "frame", slots := #[some (.ref 20), some (.ref 3), some (.ref 17), none, some (.str (Str.ofString "pagebase.errors") 187), none, some (.ref 0)] }
noncomputable def o_59 : Params → Obj := fun _ => { cls := .type "tuple", data := .seq #[] }
noncomputable def o_60 : Params → Obj := fun _ => { cls := .none, data := .fields #[] }
noncomputable def o_61 : Params → Obj := fun _ => { cls := .type "tuple", data := .seq #[.str (Str.ofString "self") 204, .str (Str.ofString "message") 205] }
noncomputable def o_62 : Params → Obj := fun _ => { cls := .type "tuple", data := .seq #[] }
noncomputable def o_63 : Params → Obj := fun _ => fnIni0 rfl
noncomputable def o_64 : Params → Obj := fun _ => { cls := .type "code", data := .fields #[.str (Str.ofString "__init__") 201, .str (Str.ofString "PagebaseError.__init__") 202, .str (Str.ofString "/claim/cut.py") 203, .int 4 0, .int 2 0, .int 0 0, .int 0 0, .int 3 0, .ref 22, .bool true, .int 181 0, .ref 23, .none, .ref 24, .ref 25, .ref 26, .int 206 0, .int 4 0, .str (Str.ofString "/claim/cut.py") 207] }
noncomputable def o_65 : Params → Obj := fun _ => fnIni rfl (.str (Str.ofString "pagebase.errors") 187) 27
noncomputable def o_66 : Params → Obj := fun _ => { cls := .type "tuple", data := .seq #[.str (Str.ofString "message") 209] }
noncomputable def o_67 : Params → Obj := fun P => { cls := .type "dict", data := .dict #[kv P "__module__" 196 (.str (Str.ofString "pagebase.errors") 187), kv P "__firstlineno__" 200 (.int 2 199), kv P "__init__" 208 (.ref 28), kv P "__static_attributes__" 210 (.ref 29), kv P "__weakref__" 212 (.ref 32), kv P "__doc__" 213 (.none)] 3 }
noncomputable def o_68 : Params → Obj := fun _ => { cls := .type "type", data := .cls { name := Str.ofString "PagebaseError", bases := [.type "Exception"], mro := [.ref 31, .type "Exception", .type "BaseException", .type "object"], ns := 30, qualname := Str.ofString "PagebaseError" }, slots := #[some (.ref 15), none, some (.str (Str.ofString "PagebaseError") 189), some (.str (Str.ofString "PagebaseError") 197), some (.builtin "Exception.__new__"), some (.bool true)] }
noncomputable def o_69 : Params → Obj := fun _ => { cls := .type "getset_descriptor", data := .fields #[.str (Str.ofString "__weakref__") 211, .ref 31, .builtin "ExceptionGroup.__weakref__", .none] }
noncomputable def o_70 : Params → Obj := fun _ => { cls := .type "super", data := .fields #[.ref 31, .ref 31, .ref 31] }
noncomputable def o_71 : Params → Obj := fun _ => { cls := .type "builtin_function_or_method", data := .fields #[.builtin "object.__init_subclass__", .ref 31] }
noncomputable def o_72 : Params → Obj := fun P => { cls := .type "dict", data := .dict #[kv P "__name__" 165 (.str (Str.ofString "pagebase.errors") 187), kv P "__doc__" 166 (.none), kv P "__package__" 167 (.none), kv P "__loader__" 168 (.builtin "__main__.__loader__#opaque"), kv P "__spec__" 169 (.none), kv P "__annotations__" 170 (.ref 6), kv P "__builtins__" 171 (.ref 4), kv P "__file__" 173 (.str (Str.ofString "/claim/cut.py") 172), kv P "__cached__" 174 (.none), kv P "PagebaseError" 217 (.ref 31), kv P "SqlError" 233 (.ref 44)] 11 }
noncomputable def o_73 : Params → Obj := fun _ => { cls := .none, data := .fields #[.int 2 0, .int 0 0, .ref 20, .int 6 0, .int 0 0, .ref 40] }
noncomputable def o_74 : Params → Obj := fun _ => { cls := .type "type", data := .cls { name := Str.ofString "PagebaseError", bases := [.type "Exception"], mro := [.ref 31, .type "Exception", .type "BaseException", .type "object"], ns := 30, qualname := Str.ofString "PagebaseError", subclasses := [.ref 44] }, slots := #[some (.ref 15), none, some (.str (Str.ofString "PagebaseError") 189), some (.str (Str.ofString "PagebaseError") 197), some (.builtin "Exception.__new__"), some (.bool true)] }
noncomputable def o_75 : Params → Obj := fun _ => { cls := .type "tuple", data := .seq #[.ref 31] }
noncomputable def o_76 : Params → Obj := fun _ => { cls := .type "builtin_function_or_method", data := .fields #[.builtin "type.__prepare__", .type "type"] }
noncomputable def o_77 : Params → Obj := fun P => { cls := .type "dict", data := .dict #[kv P "__module__" 225 (.str (Str.ofString "pagebase.errors") 187), kv P "__qualname__" 227 (.str (Str.ofString "SqlError") 226), kv P "__firstlineno__" 229 (.int 6 228), kv P "__static_attributes__" 230 (.ref 42)] 4 }
noncomputable def o_78 : Params → Obj := fun _ => { cls := .type "tuple", data := .seq #[] }
noncomputable def o_79 : Params → Obj := fun _ => { cls := .none, data := .fields #[] }
noncomputable def o_80 : Params → Obj := fun _ => { cls := .type "code", data := .fields #[.str (Str.ofString "SqlError") 220, .str (Str.ofString "SqlError") 221, .str (Str.ofString "/claim/cut.py") 222, .int 6 0, .int 0 0, .int 0 0, .int 0 0, .int 0 0, .ref 38, .bool false, .int 181 0, .ref 39, .none, .none, .none, .none, .int 223 0, .int 6 0, .str (Str.ofString "/claim/cut.py") 224] }
noncomputable def o_81 : Params → Obj := fun _ => { cls := .type "frame", slots := #[some (.ref 40), some (.ref 3), some (.ref 37), none, some (.str (Str.ofString "pagebase.errors") 187), none, some (.ref 0)] }
noncomputable def o_82 : Params → Obj := fun _ => { cls := .type "tuple", data := .seq #[] }
noncomputable def o_83 : Params → Obj := fun P => { cls := .type "dict", data := .dict #[kv P "__module__" 225 (.str (Str.ofString "pagebase.errors") 187), kv P "__firstlineno__" 229 (.int 6 228), kv P "__static_attributes__" 230 (.ref 42), kv P "__doc__" 231 (.none)] 2 }
noncomputable def o_84 : Params → Obj := fun _ => { cls := .type "type", data := .cls { name := Str.ofString "SqlError", bases := [.ref 31], mro := [.ref 44, .ref 31, .type "Exception", .type "BaseException", .type "object"], ns := 43, qualname := Str.ofString "SqlError" }, slots := #[some (.ref 35), none, some (.str (Str.ofString "SqlError") 218), some (.str (Str.ofString "SqlError") 226), some (.builtin "Exception.__new__"), some (.bool true)] }
noncomputable def o_85 : Params → Obj := fun _ => { cls := .type "super", data := .fields #[.ref 44, .ref 44, .ref 44] }
noncomputable def o_86 : Params → Obj := fun _ => { cls := .type "builtin_function_or_method", data := .fields #[.builtin "object.__init_subclass__", .ref 44] }
noncomputable def o_87 : Params → Obj := fun P => { cls := .type "dict", data := .dict #[kv P "__name__" 165 (.str (Str.ofString "pagebase.values") 250), kv P "__doc__" 166 (.none), kv P "__package__" 167 (.none), kv P "__loader__" 168 (.builtin "__main__.__loader__#opaque"), kv P "__spec__" 169 (.none), kv P "__annotations__" 170 (.ref 6), kv P "__builtins__" 171 (.ref 4), kv P "__file__" 173 (.str (Str.ofString "/claim/cut.py") 172), kv P "__cached__" 174 (.none), kv P "PagebaseError" 217 (.ref 31), kv P "SqlError" 233 (.ref 44), kv P "MisuseError" 249 (.ref 56), kv P "MIN_INT" 256 (.int (-9223372036854775808) 255), kv P "MAX_INT" 262 (.int 9223372036854775807 261), kv P "WORD" 266 (.int 18446744073709551616 265), kv P "utf8" 276 (.ref 65), kv P "fold_ascii" 285 (.ref 72), kv P "storage_class" 292 (.ref 79), kv P "is_in_range" 299 (.ref 86)] 19 }
noncomputable def o_88 : Params → Obj := fun _ => { cls := .none, data := .fields #[.int 2 0, .int 0 0, .ref 20, .int 6 0, .int 0 0, .ref 40, .int 8 0, .int 0 0, .ref 52, .int 14 0, .int 0 0, .ref 64, .int 33 0, .int 0 0, .ref 71, .int 41 0, .int 0 0, .ref 78, .int 51 0, .int 0 0, .ref 85] }
noncomputable def o_89 : Params → Obj := fun _ => { cls := .type "type", data := .cls { name := Str.ofString "PagebaseError", bases := [.type "Exception"], mro := [.ref 31, .type "Exception", .type "BaseException", .type "object"], ns := 30, qualname := Str.ofString "PagebaseError", subclasses := [.ref 44, .ref 56] }, slots := #[some (.ref 15), none, some (.str (Str.ofString "PagebaseError") 189), some (.str (Str.ofString "PagebaseError") 197), some (.builtin "Exception.__new__"), some (.bool true)] }
noncomputable def o_90 : Params → Obj := fun _ => { cls := .type "tuple", data := .seq #[.ref 31] }
noncomputable def o_91 : Params → Obj := fun _ => { cls := .type "builtin_function_or_method", data := .fields #[.builtin "type.__prepare__", .type "type"] }
noncomputable def o_92 : Params → Obj := fun P => { cls := .type "dict", data := .dict #[kv P "__module__" 241 (.str (Str.ofString "pagebase.errors") 187), kv P "__qualname__" 243 (.str (Str.ofString "MisuseError") 242), kv P "__firstlineno__" 245 (.int 8 244), kv P "__static_attributes__" 246 (.ref 54)] 4 }
noncomputable def o_93 : Params → Obj := fun _ => { cls := .type "tuple", data := .seq #[] }
noncomputable def o_94 : Params → Obj := fun _ => { cls := .none, data := .fields #[] }
noncomputable def o_95 : Params → Obj := fun _ => { cls := .type "code", data := .fields #[.str (Str.ofString "MisuseError") 236, .str (Str.ofString "MisuseError") 237, .str (Str.ofString "/claim/cut.py") 238, .int 8 0, .int 0 0, .int 0 0, .int 0 0, .int 0 0, .ref 50, .bool false, .int 181 0, .ref 51, .none, .none, .none, .none, .int 239 0, .int 8 0, .str (Str.ofString "/claim/cut.py") 240] }
noncomputable def o_96 : Params → Obj := fun _ => { cls := .type "frame", slots := #[some (.ref 52), some (.ref 3), some (.ref 49), none, some (.str (Str.ofString "pagebase.errors") 187), none, some (.ref 0)] }
noncomputable def o_97 : Params → Obj := fun _ => { cls := .type "tuple", data := .seq #[] }
noncomputable def o_98 : Params → Obj := fun P => { cls := .type "dict", data := .dict #[kv P "__module__" 241 (.str (Str.ofString "pagebase.errors") 187), kv P "__firstlineno__" 245 (.int 8 244), kv P "__static_attributes__" 246 (.ref 54), kv P "__doc__" 247 (.none)] 2 }
noncomputable def o_99 : Params → Obj := fun _ => { cls := .type "type", data := .cls { name := Str.ofString "MisuseError", bases := [.ref 31], mro := [.ref 56, .ref 31, .type "Exception", .type "BaseException", .type "object"], ns := 55, qualname := Str.ofString "MisuseError" }, slots := #[some (.ref 47), none, some (.str (Str.ofString "MisuseError") 234), some (.str (Str.ofString "MisuseError") 242), some (.builtin "Exception.__new__"), some (.bool true)] }
noncomputable def o_100 : Params → Obj := fun _ => { cls := .type "super", data := .fields #[.ref 56, .ref 56, .ref 56] }
noncomputable def o_101 : Params → Obj := fun _ => { cls := .type "builtin_function_or_method", data := .fields #[.builtin "object.__init_subclass__", .ref 56] }
noncomputable def o_102 : Params → Obj := fun _ => { cls := .type "tuple", data := .seq #[] }
noncomputable def o_103 : Params → Obj := fun _ => { cls := .none, data := .fields #[] }
noncomputable def o_104 : Params → Obj := fun _ => { cls := .type "tuple", data := .seq #[.str (Str.ofString "text") 270, .str (Str.ofString "found") 271, .str (Str.ofString "sign") 272, .str (Str.ofString "code") 273] }
noncomputable def o_105 : Params → Obj := fun _ => { cls := .type "tuple", data := .seq #[] }
noncomputable def o_106 : Params → Obj := fun _ => fnAt0 8 rfl
noncomputable def o_107 : Params → Obj := fun _ => { cls := .type "code", data := .fields #[.str (Str.ofString "utf8") 267, .str (Str.ofString "utf8") 268, .str (Str.ofString "/claim/cut.py") 269, .int 14 0, .int 1 0, .int 0 0, .int 0 0, .int 3 0, .ref 59, .bool true, .int 181 0, .ref 60, .none, .ref 61, .ref 62, .ref 63, .int 274 0, .int 14 0, .str (Str.ofString "/claim/cut.py") 275] }
noncomputable def o_108 : Params → Obj := fun _ => fnAt 8 rfl (.str (Str.ofString "pagebase.values") 250) 64
noncomputable def o_109 : Params → Obj := fun _ => { cls := .type "tuple", data := .seq #[] }
noncomputable def o_110 : Params → Obj := fun _ => { cls := .none, data := .fields #[] }
noncomputable def o_111 : Params → Obj := fun _ => { cls := .type "tuple", data := .seq #[.str (Str.ofString "text") 280, .str (Str.ofString "signs") 281, .str (Str.ofString "sign") 282] }
noncomputable def o_112 : Params → Obj := fun _ => { cls := .type "tuple", data := .seq #[] }
noncomputable def o_113 : Params → Obj := fun _ => fnAt0 9 rfl
noncomputable def o_114 : Params → Obj := fun _ => { cls := .type "code", data := .fields #[.str (Str.ofString "fold_ascii") 277, .str (Str.ofString "fold_ascii") 278, .str (Str.ofString "/claim/cut.py") 279, .int 33 0, .int 1 0, .int 0 0, .int 0 0, .int 3 0, .ref 66, .bool true, .int 181 0, .ref 67, .none, .ref 68, .ref 69, .ref 70, .int 283 0, .int 33 0, .str (Str.ofString "/claim/cut.py") 284] }
noncomputable def o_115 : Params → Obj := fun _ => fnAt 9 rfl (.str (Str.ofString "pagebase.values") 250) 71
noncomputable def o_116 : Params → Obj := fun _ => { cls := .type "tuple", data := .seq #[] }
noncomputable def o_117 : Params → Obj := fun _ => { cls := .none, data := .fields #[] }
noncomputable def o_118 : Params → Obj := fun _ => { cls := .type "tuple", data := .seq #[.str (Str.ofString "v") 289] }
noncomputable def o_119 : Params → Obj := fun _ => { cls := .type "tuple", data := .seq #[] }
noncomputable def o_120 : Params → Obj := fun _ => fnAt0 10 rfl
noncomputable def o_121 : Params → Obj := fun _ => { cls := .type "code", data := .fields #[.str (Str.ofString "storage_class") 286, .str (Str.ofString "storage_class") 287, .str (Str.ofString "/claim/cut.py") 288, .int 41 0, .int 1 0, .int 0 0, .int 0 0, .int 3 0, .ref 73, .bool true, .int 181 0, .ref 74, .none, .ref 75, .ref 76, .ref 77, .int 290 0, .int 41 0, .str (Str.ofString "/claim/cut.py") 291] }
noncomputable def o_122 : Params → Obj := fun _ => fnAt 10 rfl (.str (Str.ofString "pagebase.values") 250) 78
noncomputable def o_123 : Params → Obj := fun _ => { cls := .type "tuple", data := .seq #[] }
noncomputable def o_124 : Params → Obj := fun _ => { cls := .none, data := .fields #[] }
noncomputable def o_125 : Params → Obj := fun _ => { cls := .type "tuple", data := .seq #[.str (Str.ofString "n") 296] }
noncomputable def o_126 : Params → Obj := fun _ => { cls := .type "tuple", data := .seq #[] }
noncomputable def o_127 : Params → Obj := fun _ => fnAt0 11 rfl
noncomputable def o_128 : Params → Obj := fun _ => { cls := .type "code", data := .fields #[.str (Str.ofString "is_in_range") 293, .str (Str.ofString "is_in_range") 294, .str (Str.ofString "/claim/cut.py") 295, .int 51 0, .int 1 0, .int 0 0, .int 0 0, .int 3 0, .ref 80, .bool true, .int 181 0, .ref 81, .none, .ref 82, .ref 83, .ref 84, .int 297 0, .int 51 0, .str (Str.ofString "/claim/cut.py") 298] }
noncomputable def o_129 : Params → Obj := fun _ => fnAt 11 rfl (.str (Str.ofString "pagebase.values") 250) 85
noncomputable def o_130 : Params → Obj := fun P => { cls := .type "dict", data := .dict #[kv P "__name__" 165 (.str (Str.ofString "law_xm0749_01") 349), kv P "__doc__" 166 (.none), kv P "__package__" 167 (.none), kv P "__loader__" 168 (.builtin "__main__.__loader__#opaque"), kv P "__spec__" 169 (.none), kv P "__annotations__" 170 (.ref 6), kv P "__builtins__" 171 (.ref 4), kv P "__file__" 173 (.str (Str.ofString "/claim/cut.py") 172), kv P "__cached__" 174 (.none), kv P "PagebaseError" 217 (.ref 31), kv P "SqlError" 233 (.ref 44), kv P "MisuseError" 249 (.ref 56), kv P "MIN_INT" 256 (.int (-9223372036854775808) 255), kv P "MAX_INT" 262 (.int 9223372036854775807 261), kv P "WORD" 266 (.int 18446744073709551616 265), kv P "utf8" 276 (.ref 65), kv P "fold_ascii" 285 (.ref 72), kv P "storage_class" 292 (.ref 79), kv P "is_in_range" 299 (.ref 86), kv P "collate" 308 (.ref 93), kv P "NULL_TAG" 312 (.int 1 311), kv P "NUMBER_TAG" 314 (.int 2 313), kv P "TEXT_TAG" 316 (.int 3 315), kv P "BLOB_TAG" 318 (.int 4 317), kv P "put_fixed" 329 (.ref 100), kv P "put_ended" 338 (.ref 107), kv P "sort_part" 348 (.ref 114), kv P "_law_pool" 361 (.ref 121), kv P "_law_take" 370 (.ref 128), kv P "_law_one" 378 (.ref 135), kv P "_law_signs" 384 (.ref 140), kv P "_law_turned" 394 (.ref 147), kv P "_law_beside" 402 (.ref 154), kv P "_law_value" 412 (.ref 161)] 34 }
noncomputable def o_131 : Params → Obj := fun _ => { cls := .none, data := .fields #[.int 2 0, .int 0 0, .ref 20, .int 6 0, .int 0 0, .ref 40, .int 8 0, .int 0 0, .ref 52, .int 14 0, .int 0 0, .ref 64, .int 33 0, .int 0 0, .ref 71, .int 41 0, .int 0 0, .ref 78, .int 51 0, .int 0 0, .ref 85, .int 53 0, .int 0 0, .ref 92, .int 69 0, .int 0 0, .ref 99, .int 77 0, .int 0 0, .ref 106, .int 86 0, .int 0 0, .ref 113, .int 104 0, .int 0 0, .ref 120, .int 111 0, .int 0 0, .ref 127, .int 118 0, .int 0 0, .ref 134, .int 120 0, .int 0 0, .ref 139, .int 122 0, .int 0 0, .ref 146, .int 128 0, .int 0 0, .ref 153, .int 134 0, .int 0 0, .ref 160] }
noncomputable def o_132 : Params → Obj := fun _ => { cls := .type "tuple", data := .seq #[] }
noncomputable def o_133 : Params → Obj := fun _ => { cls := .none, data := .fields #[] }
noncomputable def o_134 : Params → Obj := fun _ => { cls := .type "tuple", data := .seq #[.str (Str.ofString "text") 303, .str (Str.ofString "collation") 304, .str (Str.ofString "end") 305] }
noncomputable def o_135 : Params → Obj := fun _ => { cls := .type "tuple", data := .seq #[] }
noncomputable def o_136 : Params → Obj := fun _ => fnAt0 12 rfl
noncomputable def o_137 : Params → Obj := fun _ => { cls := .type "code", data := .fields #[.str (Str.ofString "collate") 300, .str (Str.ofString "collate") 301, .str (Str.ofString "/claim/cut.py") 302, .int 53 0, .int 2 0, .int 0 0, .int 0 0, .int 3 0, .ref 87, .bool true, .int 181 0, .ref 88, .none, .ref 89, .ref 90, .ref 91, .int 306 0, .int 53 0, .str (Str.ofString "/claim/cut.py") 307] }
noncomputable def o_138 : Params → Obj := fun _ => fnAt 12 rfl (.str (Str.ofString "pagebase.values") 250) 92
noncomputable def o_139 : Params → Obj := fun _ => { cls := .type "tuple", data := .seq #[] }
noncomputable def o_140 : Params → Obj := fun _ => { cls := .none, data := .fields #[] }
noncomputable def o_141 : Params → Obj := fun _ => { cls := .type "tuple", data := .seq #[.str (Str.ofString "n") 322, .str (Str.ofString "size") 323, .str (Str.ofString "rest") 324, .str (Str.ofString "found") 325, .str (Str.ofString "turn") 326] }
noncomputable def o_142 : Params → Obj := fun _ => { cls := .type "tuple", data := .seq #[] }
noncomputable def o_143 : Params → Obj := fun _ => fnAt0 18 rfl
noncomputable def o_144 : Params → Obj := fun _ => { cls := .type "code", data := .fields #[.str (Str.ofString "put_fixed") 319, .str (Str.ofString "put_fixed") 320, .str (Str.ofString "/claim/cut.py") 321, .int 69 0, .int 2 0, .int 0 0, .int 0 0, .int 3 0, .ref 94, .bool true, .int 181 0, .ref 95, .none, .ref 96, .ref 97, .ref 98, .int 327 0, .int 69 0, .str (Str.ofString "/claim/cut.py") 328] }
noncomputable def o_145 : Params → Obj := fun _ => fnAt 18 rfl (.str (Str.ofString "pagebase.records") 309) 99
noncomputable def o_146 : Params → Obj := fun _ => { cls := .type "tuple", data := .seq #[] }
noncomputable def o_147 : Params → Obj := fun _ => { cls := .none, data := .fields #[] }
noncomputable def o_148 : Params → Obj := fun _ => { cls := .type "tuple", data := .seq #[.str (Str.ofString "octets") 333, .str (Str.ofString "found") 334, .str (Str.ofString "octet") 335] }
noncomputable def o_149 : Params → Obj := fun _ => { cls := .type "tuple", data := .seq #[] }
noncomputable def o_150 : Params → Obj := fun _ => fnAt0 19 rfl
noncomputable def o_151 : Params → Obj := fun _ => { cls := .type "code", data := .fields #[.str (Str.ofString "put_ended") 330, .str (Str.ofString "put_ended") 331, .str (Str.ofString "/claim/cut.py") 332, .int 77 0, .int 1 0, .int 0 0, .int 0 0, .int 3 0, .ref 101, .bool true, .int 181 0, .ref 102, .none, .ref 103, .ref 104, .ref 105, .int 336 0, .int 77 0, .str (Str.ofString "/claim/cut.py") 337] }
noncomputable def o_152 : Params → Obj := fun _ => fnAt 19 rfl (.str (Str.ofString "pagebase.records") 309) 106
noncomputable def o_153 : Params → Obj := fun _ => { cls := .type "tuple", data := .seq #[] }
noncomputable def o_154 : Params → Obj := fun _ => { cls := .none, data := .fields #[] }
noncomputable def o_155 : Params → Obj := fun _ => { cls := .type "tuple", data := .seq #[.str (Str.ofString "v") 342, .str (Str.ofString "collation") 343, .str (Str.ofString "kind") 344, .str (Str.ofString "found") 345] }
noncomputable def o_156 : Params → Obj := fun _ => { cls := .type "tuple", data := .seq #[] }
noncomputable def o_157 : Params → Obj := fun _ => fnAt0 20 rfl
noncomputable def o_158 : Params → Obj := fun _ => { cls := .type "code", data := .fields #[.str (Str.ofString "sort_part") 339, .str (Str.ofString "sort_part") 340, .str (Str.ofString "/claim/cut.py") 341, .int 86 0, .int 2 0, .int 0 0, .int 0 0, .int 3 0, .ref 108, .bool true, .int 181 0, .ref 109, .none, .ref 110, .ref 111, .ref 112, .int 346 0, .int 86 0, .str (Str.ofString "/claim/cut.py") 347] }
noncomputable def o_159 : Params → Obj := fun _ => fnAt 20 rfl (.str (Str.ofString "pagebase.records") 309) 113
noncomputable def o_160 : Params → Obj := fun _ => { cls := .type "tuple", data := .seq #[] }
noncomputable def o_161 : Params → Obj := fun _ => { cls := .none, data := .fields #[] }
noncomputable def o_162 : Params → Obj := fun _ => { cls := .type "tuple", data := .seq #[.str (Str.ofString "script") 354, .str (Str.ofString "k") 355, .str (Str.ofString "cell") 356, .str (Str.ofString "big") 357, .str (Str.ofString "mixed") 358] }
noncomputable def o_163 : Params → Obj := fun _ => { cls := .type "tuple", data := .seq #[] }
noncomputable def o_164 : Params → Obj := fun _ => fnAt0 22 rfl
noncomputable def o_165 : Params → Obj := fun _ => { cls := .type "code", data := .fields #[.str (Str.ofString "_law_pool") 351, .str (Str.ofString "_law_pool") 352, .str (Str.ofString "/claim/cut.py") 353, .int 104 0, .int 2 0, .int 0 0, .int 0 0, .int 3 0, .ref 115, .bool true, .int 181 0, .ref 116, .none, .ref 117, .ref 118, .ref 119, .int 359 0, .int 104 0, .str (Str.ofString "/claim/cut.py") 360] }
noncomputable def o_166 : Params → Obj := fun _ => fnAt 22 rfl (.str (Str.ofString "law_xm0749_01") 349) 120
noncomputable def o_167 : Params → Obj := fun _ => { cls := .type "tuple", data := .seq #[] }
noncomputable def o_168 : Params → Obj := fun _ => { cls := .none, data := .fields #[] }
noncomputable def o_169 : Params → Obj := fun _ => { cls := .type "tuple", data := .seq #[.str (Str.ofString "source") 365, .str (Str.ofString "top") 366, .str (Str.ofString "digit") 367] }
noncomputable def o_170 : Params → Obj := fun _ => { cls := .type "tuple", data := .seq #[] }
noncomputable def o_171 : Params → Obj := fun _ => fnAt0 23 rfl
noncomputable def o_172 : Params → Obj := fun _ => { cls := .type "code", data := .fields #[.str (Str.ofString "_law_take") 362, .str (Str.ofString "_law_take") 363, .str (Str.ofString "/claim/cut.py") 364, .int 111 0, .int 2 0, .int 0 0, .int 0 0, .int 3 0, .ref 122, .bool true, .int 181 0, .ref 123, .none, .ref 124, .ref 125, .ref 126, .int 368 0, .int 111 0, .str (Str.ofString "/claim/cut.py") 369] }
noncomputable def o_173 : Params → Obj := fun _ => fnAt 23 rfl (.str (Str.ofString "law_xm0749_01") 349) 127
noncomputable def o_174 : Params → Obj := fun _ => { cls := .type "tuple", data := .seq #[] }
noncomputable def o_175 : Params → Obj := fun _ => { cls := .none, data := .fields #[] }
noncomputable def o_176 : Params → Obj := fun _ => { cls := .type "tuple", data := .seq #[.str (Str.ofString "source") 374, .str (Str.ofString "things") 375] }
noncomputable def o_177 : Params → Obj := fun _ => { cls := .type "tuple", data := .seq #[] }
noncomputable def o_178 : Params → Obj := fun _ => fnAt0 24 rfl
noncomputable def o_179 : Params → Obj := fun _ => { cls := .type "code", data := .fields #[.str (Str.ofString "_law_one") 371, .str (Str.ofString "_law_one") 372, .str (Str.ofString "/claim/cut.py") 373, .int 118 0, .int 2 0, .int 0 0, .int 0 0, .int 3 0, .ref 129, .bool true, .int 181 0, .ref 130, .none, .ref 131, .ref 132, .ref 133, .int 376 0, .int 118 0, .str (Str.ofString "/claim/cut.py") 377] }
noncomputable def o_180 : Params → Obj := fun _ => fnAt 24 rfl (.str (Str.ofString "law_xm0749_01") 349) 134
noncomputable def o_181 : Params → Obj := fun _ => { cls := .type "tuple", data := .seq #[] }
noncomputable def o_182 : Params → Obj := fun _ => { cls := .none, data := .fields #[] }
noncomputable def o_183 : Params → Obj := fun _ => fnAt0 25 rfl
noncomputable def o_184 : Params → Obj := fun _ => { cls := .type "code", data := .fields #[.str (Str.ofString "_law_signs") 379, .str (Str.ofString "_law_signs") 380, .str (Str.ofString "/claim/cut.py") 381, .int 120 0, .int 2 0, .int 0 0, .int 0 0, .int 3 0, .ref 136, .bool true, .int 181 0, .ref 137, .none, .none, .none, .ref 138, .int 382 0, .int 120 0, .str (Str.ofString "/claim/cut.py") 383] }
noncomputable def o_185 : Params → Obj := fun _ => fnAt 25 rfl (.str (Str.ofString "law_xm0749_01") 349) 139
noncomputable def o_186 : Params → Obj := fun _ => { cls := .type "tuple", data := .seq #[] }
noncomputable def o_187 : Params → Obj := fun _ => { cls := .none, data := .fields #[] }
noncomputable def o_188 : Params → Obj := fun _ => { cls := .type "tuple", data := .seq #[.str (Str.ofString "text") 388, .str (Str.ofString "found") 389, .str (Str.ofString "sign") 390, .str (Str.ofString "is_letter") 391] }
noncomputable def o_189 : Params → Obj := fun _ => { cls := .type "tuple", data := .seq #[] }
noncomputable def o_190 : Params → Obj := fun _ => fnAt0 26 rfl
noncomputable def o_191 : Params → Obj := fun _ => { cls := .type "code", data := .fields #[.str (Str.ofString "_law_turned") 385, .str (Str.ofString "_law_turned") 386, .str (Str.ofString "/claim/cut.py") 387, .int 122 0, .int 1 0, .int 0 0, .int 0 0, .int 3 0, .ref 141, .bool true, .int 181 0, .ref 142, .none, .ref 143, .ref 144, .ref 145, .int 392 0, .int 122 0, .str (Str.ofString "/claim/cut.py") 393] }
noncomputable def o_192 : Params → Obj := fun _ => fnAt 26 rfl (.str (Str.ofString "law_xm0749_01") 349) 146
noncomputable def o_193 : Params → Obj := fun _ => { cls := .type "tuple", data := .seq #[] }
noncomputable def o_194 : Params → Obj := fun _ => { cls := .none, data := .fields #[] }
noncomputable def o_195 : Params → Obj := fun _ => { cls := .type "tuple", data := .seq #[.str (Str.ofString "source") 398, .str (Str.ofString "ahead") 399] }
noncomputable def o_196 : Params → Obj := fun _ => { cls := .type "tuple", data := .seq #[] }
noncomputable def o_197 : Params → Obj := fun _ => fnAt0 27 rfl
noncomputable def o_198 : Params → Obj := fun _ => { cls := .type "code", data := .fields #[.str (Str.ofString "_law_beside") 395, .str (Str.ofString "_law_beside") 396, .str (Str.ofString "/claim/cut.py") 397, .int 128 0, .int 2 0, .int 0 0, .int 0 0, .int 3 0, .ref 148, .bool true, .int 181 0, .ref 149, .none, .ref 150, .ref 151, .ref 152, .int 400 0, .int 128 0, .str (Str.ofString "/claim/cut.py") 401] }
noncomputable def o_199 : Params → Obj := fun _ => fnAt 27 rfl (.str (Str.ofString "law_xm0749_01") 349) 153
noncomputable def o_200 : Params → Obj := fun _ => { cls := .type "tuple", data := .seq #[] }
noncomputable def o_201 : Params → Obj := fun _ => { cls := .none, data := .fields #[] }
noncomputable def o_202 : Params → Obj := fun _ => { cls := .type "tuple", data := .seq #[.str (Str.ofString "source") 406, .str (Str.ofString "ahead") 407, .str (Str.ofString "way") 408, .str (Str.ofString "marks") 409] }
noncomputable def o_203 : Params → Obj := fun _ => { cls := .type "tuple", data := .seq #[] }
noncomputable def o_204 : Params → Obj := fun _ => fnAt0 28 rfl
noncomputable def o_205 : Params → Obj := fun _ => { cls := .type "code", data := .fields #[.str (Str.ofString "_law_value") 403, .str (Str.ofString "_law_value") 404, .str (Str.ofString "/claim/cut.py") 405, .int 134 0, .int 2 0, .int 0 0, .int 0 0, .int 3 0, .ref 155, .bool true, .int 181 0, .ref 156, .none, .ref 157, .ref 158, .ref 159, .int 410 0, .int 134 0, .str (Str.ofString "/claim/cut.py") 411] }
noncomputable def o_206 : Params → Obj := fun _ => fnAt 28 rfl (.str (Str.ofString "law_xm0749_01") 349) 160
noncomputable def o_207 : Params → Obj := fun P => { cls := .type "dict", data := .dict #[kv P "__name__" 165 (.str (Str.ofString "law_xm0749_01") 349), kv P "__doc__" 166 (.none), kv P "__package__" 167 (.none), kv P "__loader__" 168 (.builtin "__main__.__loader__#opaque"), kv P "__spec__" 169 (.none), kv P "__annotations__" 170 (.ref 6), kv P "__builtins__" 171 (.ref 4), kv P "__file__" 173 (.str (Str.ofString "/claim/cut.py") 172), kv P "__cached__" 174 (.none), kv P "PagebaseError" 217 (.ref 31), kv P "SqlError" 233 (.ref 44), kv P "MisuseError" 249 (.ref 56), kv P "MIN_INT" 256 (.int (-9223372036854775808) 255), kv P "MAX_INT" 262 (.int 9223372036854775807 261), kv P "WORD" 266 (.int 18446744073709551616 265), kv P "utf8" 276 (.ref 65), kv P "fold_ascii" 285 (.ref 72), kv P "storage_class" 292 (.ref 79), kv P "is_in_range" 299 (.ref 86), kv P "collate" 308 (.ref 93), kv P "NULL_TAG" 312 (.int 1 311), kv P "NUMBER_TAG" 314 (.int 2 313), kv P "TEXT_TAG" 316 (.int 3 315), kv P "BLOB_TAG" 318 (.int 4 317), kv P "put_fixed" 329 (.ref 100), kv P "put_ended" 338 (.ref 107), kv P "sort_part" 348 (.ref 114), kv P "_law_pool" 361 (.ref 121), kv P "_law_take" 370 (.ref 128), kv P "_law_one" 378 (.ref 135), kv P "_law_signs" 384 (.ref 140), kv P "_law_turned" 394 (.ref 147), kv P "_law_beside" 402 (.ref 154), kv P "_law_value" 412 (.ref 161), kv P "_law_kept" 418 (.ref 166), kv P "_law_rank" 424 (.ref 171), kv P "_law_told" 430 (.ref 176), kv P "_law_body" 439 (.ref 183), kv P "_law_read" 452 (.ref 190), kv P "_law_right" 458 (.ref 195), kv P "_law_is_ended" 464 (.ref 200), kv P "_law_refusal" 472 (.ref 207), kv P "law" 478 (.ref 212)] 43 }
noncomputable def o_208 : Params → Obj := fun _ => { cls := .none, data := .fields #[.int 2 0, .int 0 0, .ref 20, .int 6 0, .int 0 0, .ref 40, .int 8 0, .int 0 0, .ref 52, .int 14 0, .int 0 0, .ref 64, .int 33 0, .int 0 0, .ref 71, .int 41 0, .int 0 0, .ref 78, .int 51 0, .int 0 0, .ref 85, .int 53 0, .int 0 0, .ref 92, .int 69 0, .int 0 0, .ref 99, .int 77 0, .int 0 0, .ref 106, .int 86 0, .int 0 0, .ref 113, .int 104 0, .int 0 0, .ref 120, .int 111 0, .int 0 0, .ref 127, .int 118 0, .int 0 0, .ref 134, .int 120 0, .int 0 0, .ref 139, .int 122 0, .int 0 0, .ref 146, .int 128 0, .int 0 0, .ref 153, .int 134 0, .int 0 0, .ref 160, .int 144 0, .int 0 0, .ref 165, .int 153 0, .int 0 0, .ref 170, .int 161 0, .int 0 0, .ref 175, .int 163 0, .int 0 0, .ref 182, .int 175 0, .int 0 0, .ref 189, .int 193 0, .int 0 0, .ref 194, .int 206 0, .int 0 0, .ref 199, .int 209 0, .int 0 0, .ref 206, .int 217 0, .int 0 0, .ref 211] }
noncomputable def o_209 : Params → Obj := fun _ => { cls := .type "tuple", data := .seq #[] }
noncomputable def o_210 : Params → Obj := fun _ => { cls := .none, data := .fields #[] }
noncomputable def o_211 : Params → Obj := fun _ => fnAt0 29 rfl
noncomputable def o_212 : Params → Obj := fun _ => { cls := .type "code", data := .fields #[.str (Str.ofString "_law_kept") 413, .str (Str.ofString "_law_kept") 414, .str (Str.ofString "/claim/cut.py") 415, .int 144 0, .int 2 0, .int 0 0, .int 0 0, .int 3 0, .ref 162, .bool true, .int 181 0, .ref 163, .none, .none, .none, .ref 164, .int 416 0, .int 144 0, .str (Str.ofString "/claim/cut.py") 417] }
noncomputable def o_213 : Params → Obj := fun _ => fnAt 29 rfl (.str (Str.ofString "law_xm0749_01") 349) 165
noncomputable def o_214 : Params → Obj := fun _ => { cls := .type "tuple", data := .seq #[] }
noncomputable def o_215 : Params → Obj := fun _ => { cls := .none, data := .fields #[] }
noncomputable def o_216 : Params → Obj := fun _ => fnAt0 30 rfl
noncomputable def o_217 : Params → Obj := fun _ => { cls := .type "code", data := .fields #[.str (Str.ofString "_law_rank") 419, .str (Str.ofString "_law_rank") 420, .str (Str.ofString "/claim/cut.py") 421, .int 153 0, .int 1 0, .int 0 0, .int 0 0, .int 3 0, .ref 167, .bool true, .int 181 0, .ref 168, .none, .none, .none, .ref 169, .int 422 0, .int 153 0, .str (Str.ofString "/claim/cut.py") 423] }
noncomputable def o_218 : Params → Obj := fun _ => fnAt 30 rfl (.str (Str.ofString "law_xm0749_01") 349) 170
noncomputable def o_219 : Params → Obj := fun _ => { cls := .type "tuple", data := .seq #[] }
noncomputable def o_220 : Params → Obj := fun _ => { cls := .none, data := .fields #[] }
noncomputable def o_221 : Params → Obj := fun _ => fnAt0 31 rfl
noncomputable def o_222 : Params → Obj := fun _ => { cls := .type "code", data := .fields #[.str (Str.ofString "_law_told") 425, .str (Str.ofString "_law_told") 426, .str (Str.ofString "/claim/cut.py") 427, .int 161 0, .int 1 0, .int 0 0, .int 0 0, .int 3 0, .ref 172, .bool true, .int 181 0, .ref 173, .none, .none, .none, .ref 174, .int 428 0, .int 161 0, .str (Str.ofString "/claim/cut.py") 429] }
noncomputable def o_223 : Params → Obj := fun _ => fnAt 31 rfl (.str (Str.ofString "law_xm0749_01") 349) 175
noncomputable def o_224 : Params → Obj := fun _ => { cls := .type "tuple", data := .seq #[] }
noncomputable def o_225 : Params → Obj := fun _ => { cls := .none, data := .fields #[] }
noncomputable def o_226 : Params → Obj := fun _ => { cls := .type "tuple", data := .seq #[.str (Str.ofString "octets") 434, .str (Str.ofString "at") 435, .str (Str.ofString "found") 436] }
noncomputable def o_227 : Params → Obj := fun _ => { cls := .type "tuple", data := .seq #[] }
noncomputable def o_228 : Params → Obj := fun _ => fnAt0 32 rfl
noncomputable def o_229 : Params → Obj := fun _ => { cls := .type "code", data := .fields #[.str (Str.ofString "_law_body") 431, .str (Str.ofString "_law_body") 432, .str (Str.ofString "/claim/cut.py") 433, .int 163 0, .int 2 0, .int 0 0, .int 0 0, .int 3 0, .ref 177, .bool true, .int 181 0, .ref 178, .none, .ref 179, .ref 180, .ref 181, .int 437 0, .int 163 0, .str (Str.ofString "/claim/cut.py") 438] }
noncomputable def o_230 : Params → Obj := fun _ => fnAt 32 rfl (.str (Str.ofString "law_xm0749_01") 349) 182
noncomputable def o_231 : Params → Obj := fun _ => { cls := .type "tuple", data := .seq #[] }
noncomputable def o_232 : Params → Obj := fun _ => { cls := .none, data := .fields #[] }
noncomputable def o_233 : Params → Obj := fun _ => { cls := .type "tuple", data := .seq #[.str (Str.ofString "octets") 443, .str (Str.ofString "found") 444, .str (Str.ofString "at") 445, .str (Str.ofString "tag") 446, .str (Str.ofString "number") 447, .str (Str.ofString "octet") 448, .str (Str.ofString "body") 449] }
noncomputable def o_234 : Params → Obj := fun _ => { cls := .type "tuple", data := .seq #[] }
noncomputable def o_235 : Params → Obj := fun _ => fnAt0 33 rfl
noncomputable def o_236 : Params → Obj := fun _ => { cls := .type "code", data := .fields #[.str (Str.ofString "_law_read") 440, .str (Str.ofString "_law_read") 441, .str (Str.ofString "/claim/cut.py") 442, .int 175 0, .int 1 0, .int 0 0, .int 0 0, .int 3 0, .ref 184, .bool true, .int 181 0, .ref 185, .none, .ref 186, .ref 187, .ref 188, .int 450 0, .int 175 0, .str (Str.ofString "/claim/cut.py") 451] }
noncomputable def o_237 : Params → Obj := fun _ => fnAt 33 rfl (.str (Str.ofString "law_xm0749_01") 349) 189
noncomputable def o_238 : Params → Obj := fun _ => { cls := .type "tuple", data := .seq #[] }
noncomputable def o_239 : Params → Obj := fun _ => { cls := .none, data := .fields #[] }
noncomputable def o_240 : Params → Obj := fun _ => fnAt0 34 rfl
noncomputable def o_241 : Params → Obj := fun _ => { cls := .type "code", data := .fields #[.str (Str.ofString "_law_right") 453, .str (Str.ofString "_law_right") 454, .str (Str.ofString "/claim/cut.py") 455, .int 193 0, .int 2 0, .int 0 0, .int 0 0, .int 3 0, .ref 191, .bool true, .int 181 0, .ref 192, .none, .none, .none, .ref 193, .int 456 0, .int 193 0, .str (Str.ofString "/claim/cut.py") 457] }
noncomputable def o_242 : Params → Obj := fun _ => fnAt 34 rfl (.str (Str.ofString "law_xm0749_01") 349) 194
noncomputable def o_243 : Params → Obj := fun _ => { cls := .type "tuple", data := .seq #[] }
noncomputable def o_244 : Params → Obj := fun _ => { cls := .none, data := .fields #[] }
noncomputable def o_245 : Params → Obj := fun _ => fnAt0 35 rfl
noncomputable def o_246 : Params → Obj := fun _ => { cls := .type "code", data := .fields #[.str (Str.ofString "_law_is_ended") 459, .str (Str.ofString "_law_is_ended") 460, .str (Str.ofString "/claim/cut.py") 461, .int 206 0, .int 1 0, .int 0 0, .int 0 0, .int 3 0, .ref 196, .bool true, .int 181 0, .ref 197, .none, .none, .none, .ref 198, .int 462 0, .int 206 0, .str (Str.ofString "/claim/cut.py") 463] }
noncomputable def o_247 : Params → Obj := fun _ => fnAt 35 rfl (.str (Str.ofString "law_xm0749_01") 349) 199
noncomputable def o_248 : Params → Obj := fun _ => { cls := .type "tuple", data := .seq #[] }
noncomputable def o_249 : Params → Obj := fun _ => { cls := .none, data := .fields #[] }
noncomputable def o_250 : Params → Obj := fun _ => { cls := .type "tuple", data := .seq #[.str (Str.ofString "value") 468, .str (Str.ofString "collation") 469] }
noncomputable def o_251 : Params → Obj := fun _ => { cls := .type "tuple", data := .seq #[] }
noncomputable def o_252 : Params → Obj := fun _ => fnAt0 36 rfl
noncomputable def o_253 : Params → Obj := fun _ => { cls := .type "code", data := .fields #[.str (Str.ofString "_law_refusal") 465, .str (Str.ofString "_law_refusal") 466, .str (Str.ofString "/claim/cut.py") 467, .int 209 0, .int 2 0, .int 0 0, .int 0 0, .int 3 0, .ref 201, .bool true, .int 181 0, .ref 202, .none, .ref 203, .ref 204, .ref 205, .int 470 0, .int 209 0, .str (Str.ofString "/claim/cut.py") 471] }
noncomputable def o_254 : Params → Obj := fun _ => fnAt 36 rfl (.str (Str.ofString "law_xm0749_01") 349) 206
noncomputable def o_255 : Params → Obj := fun _ => { cls := .type "tuple", data := .seq #[] }
noncomputable def o_256 : Params → Obj := fun _ => { cls := .none, data := .fields #[] }
noncomputable def o_257 : Params → Obj := fun _ => fnAt0 37 rfl
noncomputable def o_258 : Params → Obj := fun _ => { cls := .type "code", data := .fields #[.str (Str.ofString "law") 473, .str (Str.ofString "law") 474, .str (Str.ofString "/claim/cut.py") 475, .int 217 0, .int 1 0, .int 0 0, .int 0 0, .int 3 0, .ref 208, .bool true, .int 181 0, .ref 209, .none, .none, .none, .ref 210, .int 476 0, .int 217 0, .str (Str.ofString "/claim/cut.py") 477] }
noncomputable def o_259 : Params → Obj := fun _ => fnAt 37 rfl (.str (Str.ofString "law_xm0749_01") 349) 211
noncomputable def tree_47 : Params → BT := fun P => .node (boot_o_0 P) (.node (boot_o_1 P) (.node (boot_o_3 P) (.node (boot_o_7 P) .nil .nil) (.node (o_43 P) .nil .nil)) (.node (boot_o_5 P) (.node (boot_o_9 P) .nil .nil) (.node (o_45 P) .nil .nil))) (.node (boot_o_2 P) (.node (boot_o_4 P) (.node (boot_o_8 P) .nil .nil) (.node (o_44 P) .nil .nil)) (.node (boot_o_6 P) (.node (boot_o_10 P) .nil .nil) (.node (o_46 P) .nil .nil)))
noncomputable def tree_71 : Params → BT := fun P => .node (boot_o_0 P) (.node (boot_o_1 P) (.node (o_50 P) (.node (boot_o_7 P) (.node (o_52 P) (.node (o_68 P) .nil .nil) .nil) (.node (o_60 P) .nil .nil)) (.node (o_43 P) (.node (o_56 P) .nil .nil) (.node (o_64 P) .nil .nil))) (.node (boot_o_5 P) (.node (boot_o_9 P) (.node (o_54 P) (.node (o_70 P) .nil .nil) .nil) (.node (o_62 P) .nil .nil)) (.node (o_45 P) (.node (o_58 P) .nil .nil) (.node (o_66 P) .nil .nil)))) (.node (o_49 P) (.node (boot_o_4 P) (.node (boot_o_8 P) (.node (o_53 P) (.node (o_69 P) .nil .nil) .nil) (.node (o_61 P) .nil .nil)) (.node (o_51 P) (.node (o_57 P) .nil .nil) (.node (o_65 P) .nil .nil))) (.node (boot_o_6 P) (.node (boot_o_10 P) (.node (o_55 P) (.node (o_71 P) .nil .nil) .nil) (.node (o_63 P) .nil .nil)) (.node (o_46 P) (.node (o_59 P) .nil .nil) (.node (o_67 P) .nil .nil))))
noncomputable def tree_86 : Params → BT := fun P => .node (boot_o_0 P) (.node (boot_o_1 P) (.node (o_72 P) (.node (boot_o_7 P) (.node (o_52 P) (.node (o_74 P) .nil .nil) .nil) (.node (o_60 P) (.node (o_79 P) .nil .nil) .nil)) (.node (o_43 P) (.node (o_56 P) (.node (o_75 P) .nil .nil) .nil) (.node (o_64 P) (.node (o_83 P) .nil .nil) .nil))) (.node (boot_o_5 P) (.node (boot_o_9 P) (.node (o_54 P) (.node (o_70 P) .nil .nil) .nil) (.node (o_62 P) (.node (o_81 P) .nil .nil) .nil)) (.node (o_45 P) (.node (o_58 P) (.node (o_77 P) .nil .nil) .nil) (.node (o_66 P) (.node (o_85 P) .nil .nil) .nil)))) (.node (o_49 P) (.node (boot_o_4 P) (.node (boot_o_8 P) (.node (o_53 P) (.node (o_69 P) .nil .nil) .nil) (.node (o_61 P) (.node (o_80 P) .nil .nil) .nil)) (.node (o_73 P) (.node (o_57 P) (.node (o_76 P) .nil .nil) .nil) (.node (o_65 P) (.node (o_84 P) .nil .nil) .nil))) (.node (boot_o_6 P) (.node (boot_o_10 P) (.node (o_55 P) (.node (o_71 P) .nil .nil) .nil) (.node (o_63 P) (.node (o_82 P) .nil .nil) .nil)) (.node (o_46 P) (.node (o_59 P) (.node (o_78 P) .nil .nil) .nil) (.node (o_67 P) (.node (o_86 P) .nil .nil) .nil))))
noncomputable def tree_129 : Params → BT := fun P => .node (boot_o_0 P) (.node (boot_o_1 P) (.node (o_87 P) (.node (boot_o_7 P) (.node (o_52 P) (.node (o_89 P) (.node (o_106 P) .nil .nil) .nil) (.node (o_90 P) (.node (o_122 P) .nil .nil) .nil)) (.node (o_60 P) (.node (o_79 P) (.node (o_114 P) .nil .nil) .nil) (.node (o_98 P) .nil .nil))) (.node (o_43 P) (.node (o_56 P) (.node (o_75 P) (.node (o_110 P) .nil .nil) .nil) (.node (o_94 P) (.node (o_126 P) .nil .nil) .nil)) (.node (o_64 P) (.node (o_83 P) (.node (o_118 P) .nil .nil) .nil) (.node (o_102 P) .nil .nil)))) (.node (boot_o_5 P) (.node (boot_o_9 P) (.node (o_54 P) (.node (o_70 P) (.node (o_108 P) .nil .nil) .nil) (.node (o_92 P) (.node (o_124 P) .nil .nil) .nil)) (.node (o_62 P) (.node (o_81 P) (.node (o_116 P) .nil .nil) .nil) (.node (o_100 P) .nil .nil))) (.node (o_45 P) (.node (o_58 P) (.node (o_77 P) (.node (o_112 P) .nil .nil) .nil) (.node (o_96 P) (.node (o_128 P) .nil .nil) .nil)) (.node (o_66 P) (.node (o_85 P) (.node (o_120 P) .nil .nil) .nil) (.node (o_104 P) .nil .nil))))) (.node (o_49 P) (.node (boot_o_4 P) (.node (boot_o_8 P) (.node (o_53 P) (.node (o_69 P) (.node (o_107 P) .nil .nil) .nil) (.node (o_91 P) (.node (o_123 P) .nil .nil) .nil)) (.node (o_61 P) (.node (o_80 P) (.node (o_115 P) .nil .nil) .nil) (.node (o_99 P) .nil .nil))) (.node (o_88 P) (.node (o_57 P) (.node (o_76 P) (.node (o_111 P) .nil .nil) .nil) (.node (o_95 P) (.node (o_127 P) .nil .nil) .nil)) (.node (o_65 P) (.node (o_84 P) (.node (o_119 P) .nil .nil) .nil) (.node (o_103 P) .nil .nil)))) (.node (boot_o_6 P) (.node (boot_o_10 P) (.node (o_55 P) (.node (o_71 P) (.node (o_109 P) .nil .nil) .nil) (.node (o_93 P) (.node (o_125 P) .nil .nil) .nil)) (.node (o_63 P) (.node (o_82 P) (.node (o_117 P) .nil .nil) .nil) (.node (o_101 P) .nil .nil))) (.node (o_46 P) (.node (o_59 P) (.node (o_78 P) (.node (o_113 P) .nil .nil) .nil) (.node (o_97 P) (.node (o_129 P) .nil .nil) .nil)) (.node (o_67 P) (.node (o_86 P) (.node (o_121 P) .nil .nil) .nil) (.node (o_105 P) .nil .nil)))))
noncomputable def tree_206 : Params → BT := fun P => .node (boot_o_0 P) (.node (boot_o_1 P) (.node (o_130 P) (.node (boot_o_7 P) (.node (o_52 P) (.node (o_89 P) (.node (o_106 P) (.node (o_172 P) .nil .nil) .nil) (.node (o_140 P) (.node (o_204 P) .nil .nil) .nil)) (.node (o_90 P) (.node (o_122 P) (.node (o_188 P) .nil .nil) .nil) (.node (o_156 P) .nil .nil))) (.node (o_60 P) (.node (o_79 P) (.node (o_114 P) (.node (o_180 P) .nil .nil) .nil) (.node (o_148 P) .nil .nil)) (.node (o_98 P) (.node (o_132 P) (.node (o_196 P) .nil .nil) .nil) (.node (o_164 P) .nil .nil)))) (.node (o_43 P) (.node (o_56 P) (.node (o_75 P) (.node (o_110 P) (.node (o_176 P) .nil .nil) .nil) (.node (o_144 P) .nil .nil)) (.node (o_94 P) (.node (o_126 P) (.node (o_192 P) .nil .nil) .nil) (.node (o_160 P) .nil .nil))) (.node (o_64 P) (.node (o_83 P) (.node (o_118 P) (.node (o_184 P) .nil .nil) .nil) (.node (o_152 P) .nil .nil)) (.node (o_102 P) (.node (o_136 P) (.node (o_200 P) .nil .nil) .nil) (.node (o_168 P) .nil .nil))))) (.node (boot_o_5 P) (.node (boot_o_9 P) (.node (o_54 P) (.node (o_70 P) (.node (o_108 P) (.node (o_174 P) .nil .nil) .nil) (.node (o_142 P) (.node (o_206 P) .nil .nil) .nil)) (.node (o_92 P) (.node (o_124 P) (.node (o_190 P) .nil .nil) .nil) (.node (o_158 P) .nil .nil))) (.node (o_62 P) (.node (o_81 P) (.node (o_116 P) (.node (o_182 P) .nil .nil) .nil) (.node (o_150 P) .nil .nil)) (.node (o_100 P) (.node (o_134 P) (.node (o_198 P) .nil .nil) .nil) (.node (o_166 P) .nil .nil)))) (.node (o_45 P) (.node (o_58 P) (.node (o_77 P) (.node (o_112 P) (.node (o_178 P) .nil .nil) .nil) (.node (o_146 P) .nil .nil)) (.node (o_96 P) (.node (o_128 P) (.node (o_194 P) .nil .nil) .nil) (.node (o_162 P) .nil .nil))) (.node (o_66 P) (.node (o_85 P) (.node (o_120 P) (.node (o_186 P) .nil .nil) .nil) (.node (o_154 P) .nil .nil)) (.node (o_104 P) (.node (o_138 P) (.node (o_202 P) .nil .nil) .nil) (.node (o_170 P) .nil .nil)))))) (.node (o_49 P) (.node (boot_o_4 P) (.node (boot_o_8 P) (.node (o_53 P) (.node (o_69 P) (.node (o_107 P) (.node (o_173 P) .nil .nil) .nil) (.node (o_141 P) (.node (o_205 P) .nil .nil) .nil)) (.node (o_91 P) (.node (o_123 P) (.node (o_189 P) .nil .nil) .nil) (.node (o_157 P) .nil .nil))) (.node (o_61 P) (.node (o_80 P) (.node (o_115 P) (.node (o_181 P) .nil .nil) .nil) (.node (o_149 P) .nil .nil)) (.node (o_99 P) (.node (o_133 P) (.node (o_197 P) .nil .nil) .nil) (.node (o_165 P) .nil .nil)))) (.node (o_131 P) (.node (o_57 P) (.node (o_76 P) (.node (o_111 P) (.node (o_177 P) .nil .nil) .nil) (.node (o_145 P) .nil .nil)) (.node (o_95 P) (.node (o_127 P) (.node (o_193 P) .nil .nil) .nil) (.node (o_161 P) .nil .nil))) (.node (o_65 P) (.node (o_84 P) (.node (o_119 P) (.node (o_185 P) .nil .nil) .nil) (.node (o_153 P) .nil .nil)) (.node (o_103 P) (.node (o_137 P) (.node (o_201 P) .nil .nil) .nil) (.node (o_169 P) .nil .nil))))) (.node (boot_o_6 P) (.node (boot_o_10 P) (.node (o_55 P) (.node (o_71 P) (.node (o_109 P) (.node (o_175 P) .nil .nil) .nil) (.node (o_143 P) .nil .nil)) (.node (o_93 P) (.node (o_125 P) (.node (o_191 P) .nil .nil) .nil) (.node (o_159 P) .nil .nil))) (.node (o_63 P) (.node (o_82 P) (.node (o_117 P) (.node (o_183 P) .nil .nil) .nil) (.node (o_151 P) .nil .nil)) (.node (o_101 P) (.node (o_135 P) (.node (o_199 P) .nil .nil) .nil) (.node (o_167 P) .nil .nil)))) (.node (o_46 P) (.node (o_59 P) (.node (o_78 P) (.node (o_113 P) (.node (o_179 P) .nil .nil) .nil) (.node (o_147 P) .nil .nil)) (.node (o_97 P) (.node (o_129 P) (.node (o_195 P) .nil .nil) .nil) (.node (o_163 P) .nil .nil))) (.node (o_67 P) (.node (o_86 P) (.node (o_121 P) (.node (o_187 P) .nil .nil) .nil) (.node (o_155 P) .nil .nil)) (.node (o_105 P) (.node (o_139 P) (.node (o_203 P) .nil .nil) .nil) (.node (o_171 P) .nil .nil))))))
noncomputable def tree_259 : Params → BT := fun P => .node (boot_o_0 P) (.node (boot_o_1 P) (.node (o_207 P) (.node (boot_o_7 P) (.node (o_52 P) (.node (o_89 P) (.node (o_106 P) (.node (o_172 P) .nil .nil) (.node (o_238 P) .nil .nil)) (.node (o_140 P) (.node (o_204 P) .nil .nil) .nil)) (.node (o_90 P) (.node (o_122 P) (.node (o_188 P) .nil .nil) (.node (o_254 P) .nil .nil)) (.node (o_156 P) (.node (o_222 P) .nil .nil) .nil))) (.node (o_60 P) (.node (o_79 P) (.node (o_114 P) (.node (o_180 P) .nil .nil) (.node (o_246 P) .nil .nil)) (.node (o_148 P) (.node (o_214 P) .nil .nil) .nil)) (.node (o_98 P) (.node (o_132 P) (.node (o_196 P) .nil .nil) .nil) (.node (o_164 P) (.node (o_230 P) .nil .nil) .nil)))) (.node (o_43 P) (.node (o_56 P) (.node (o_75 P) (.node (o_110 P) (.node (o_176 P) .nil .nil) (.node (o_242 P) .nil .nil)) (.node (o_144 P) (.node (o_210 P) .nil .nil) .nil)) (.node (o_94 P) (.node (o_126 P) (.node (o_192 P) .nil .nil) (.node (o_258 P) .nil .nil)) (.node (o_160 P) (.node (o_226 P) .nil .nil) .nil))) (.node (o_64 P) (.node (o_83 P) (.node (o_118 P) (.node (o_184 P) .nil .nil) (.node (o_250 P) .nil .nil)) (.node (o_152 P) (.node (o_218 P) .nil .nil) .nil)) (.node (o_102 P) (.node (o_136 P) (.node (o_200 P) .nil .nil) .nil) (.node (o_168 P) (.node (o_234 P) .nil .nil) .nil))))) (.node (boot_o_5 P) (.node (boot_o_9 P) (.node (o_54 P) (.node (o_70 P) (.node (o_108 P) (.node (o_174 P) .nil .nil) (.node (o_240 P) .nil .nil)) (.node (o_142 P) (.node (o_206 P) .nil .nil) .nil)) (.node (o_92 P) (.node (o_124 P) (.node (o_190 P) .nil .nil) (.node (o_256 P) .nil .nil)) (.node (o_158 P) (.node (o_224 P) .nil .nil) .nil))) (.node (o_62 P) (.node (o_81 P) (.node (o_116 P) (.node (o_182 P) .nil .nil) (.node (o_248 P) .nil .nil)) (.node (o_150 P) (.node (o_216 P) .nil .nil) .nil)) (.node (o_100 P) (.node (o_134 P) (.node (o_198 P) .nil .nil) .nil) (.node (o_166 P) (.node (o_232 P) .nil .nil) .nil)))) (.node (o_45 P) (.node (o_58 P) (.node (o_77 P) (.node (o_112 P) (.node (o_178 P) .nil .nil) (.node (o_244 P) .nil .nil)) (.node (o_146 P) (.node (o_212 P) .nil .nil) .nil)) (.node (o_96 P) (.node (o_128 P) (.node (o_194 P) .nil .nil) .nil) (.node (o_162 P) (.node (o_228 P) .nil .nil) .nil))) (.node (o_66 P) (.node (o_85 P) (.node (o_120 P) (.node (o_186 P) .nil .nil) (.node (o_252 P) .nil .nil)) (.node (o_154 P) (.node (o_220 P) .nil .nil) .nil)) (.node (o_104 P) (.node (o_138 P) (.node (o_202 P) .nil .nil) .nil) (.node (o_170 P) (.node (o_236 P) .nil .nil) .nil)))))) (.node (o_49 P) (.node (boot_o_4 P) (.node (boot_o_8 P) (.node (o_53 P) (.node (o_69 P) (.node (o_107 P) (.node (o_173 P) .nil .nil) (.node (o_239 P) .nil .nil)) (.node (o_141 P) (.node (o_205 P) .nil .nil) .nil)) (.node (o_91 P) (.node (o_123 P) (.node (o_189 P) .nil .nil) (.node (o_255 P) .nil .nil)) (.node (o_157 P) (.node (o_223 P) .nil .nil) .nil))) (.node (o_61 P) (.node (o_80 P) (.node (o_115 P) (.node (o_181 P) .nil .nil) (.node (o_247 P) .nil .nil)) (.node (o_149 P) (.node (o_215 P) .nil .nil) .nil)) (.node (o_99 P) (.node (o_133 P) (.node (o_197 P) .nil .nil) .nil) (.node (o_165 P) (.node (o_231 P) .nil .nil) .nil)))) (.node (o_208 P) (.node (o_57 P) (.node (o_76 P) (.node (o_111 P) (.node (o_177 P) .nil .nil) (.node (o_243 P) .nil .nil)) (.node (o_145 P) (.node (o_211 P) .nil .nil) .nil)) (.node (o_95 P) (.node (o_127 P) (.node (o_193 P) .nil .nil) (.node (o_259 P) .nil .nil)) (.node (o_161 P) (.node (o_227 P) .nil .nil) .nil))) (.node (o_65 P) (.node (o_84 P) (.node (o_119 P) (.node (o_185 P) .nil .nil) (.node (o_251 P) .nil .nil)) (.node (o_153 P) (.node (o_219 P) .nil .nil) .nil)) (.node (o_103 P) (.node (o_137 P) (.node (o_201 P) .nil .nil) .nil) (.node (o_169 P) (.node (o_235 P) .nil .nil) .nil))))) (.node (boot_o_6 P) (.node (boot_o_10 P) (.node (o_55 P) (.node (o_71 P) (.node (o_109 P) (.node (o_175 P) .nil .nil) (.node (o_241 P) .nil .nil)) (.node (o_143 P) (.node (o_209 P) .nil .nil) .nil)) (.node (o_93 P) (.node (o_125 P) (.node (o_191 P) .nil .nil) (.node (o_257 P) .nil .nil)) (.node (o_159 P) (.node (o_225 P) .nil .nil) .nil))) (.node (o_63 P) (.node (o_82 P) (.node (o_117 P) (.node (o_183 P) .nil .nil) (.node (o_249 P) .nil .nil)) (.node (o_151 P) (.node (o_217 P) .nil .nil) .nil)) (.node (o_101 P) (.node (o_135 P) (.node (o_199 P) .nil .nil) .nil) (.node (o_167 P) (.node (o_233 P) .nil .nil) .nil)))) (.node (o_46 P) (.node (o_59 P) (.node (o_78 P) (.node (o_113 P) (.node (o_179 P) .nil .nil) (.node (o_245 P) .nil .nil)) (.node (o_147 P) (.node (o_213 P) .nil .nil) .nil)) (.node (o_97 P) (.node (o_129 P) (.node (o_195 P) .nil .nil) .nil) (.node (o_163 P) (.node (o_229 P) .nil .nil) .nil))) (.node (o_67 P) (.node (o_86 P) (.node (o_121 P) (.node (o_187 P) .nil .nil) (.node (o_253 P) .nil .nil)) (.node (o_155 P) (.node (o_221 P) .nil .nil) .nil)) (.node (o_105 P) (.node (o_139 P) (.node (o_203 P) .nil .nil) .nil) (.node (o_171 P) (.node (o_237 P) .nil .nil) .nil))))))
noncomputable def heap_46 : Params → Heap := fun P => { objs := { toList := [boot_o_0 P, boot_o_1 P, boot_o_2 P, boot_o_3 P, boot_o_4 P, boot_o_5 P, boot_o_6 P, boot_o_7 P, boot_o_8 P, boot_o_9 P, boot_o_10 P, o_43 P, o_44 P, o_45 P, o_46 P] } }
noncomputable def heap_260 : Params → Heap := fun P => { objs := { toList := [boot_o_0 P, boot_o_1 P, o_49 P, o_207 P, boot_o_4 P, boot_o_5 P, boot_o_6 P, boot_o_7 P, boot_o_8 P, boot_o_9 P, boot_o_10 P, o_43 P, o_208 P, o_45 P, o_46 P, o_52 P, o_53 P, o_54 P, o_55 P, o_56 P, o_57 P, o_58 P, o_59 P, o_60 P, o_61 P, o_62 P, o_63 P, o_64 P, o_65 P, o_66 P, o_67 P, o_89 P, o_69 P, o_70 P, o_71 P, o_75 P, o_76 P, o_77 P, o_78 P, o_79 P, o_80 P, o_81 P, o_82 P, o_83 P, o_84 P, o_85 P, o_86 P, o_90 P, o_91 P, o_92 P, o_93 P, o_94 P, o_95 P, o_96 P, o_97 P, o_98 P, o_99 P, o_100 P, o_101 P, o_102 P, o_103 P, o_104 P, o_105 P, o_106 P, o_107 P, o_108 P, o_109 P, o_110 P, o_111 P, o_112 P, o_113 P, o_114 P, o_115 P, o_116 P, o_117 P, o_118 P, o_119 P, o_120 P, o_121 P, o_122 P, o_123 P, o_124 P, o_125 P, o_126 P, o_127 P, o_128 P, o_129 P, o_132 P, o_133 P, o_134 P, o_135 P, o_136 P, o_137 P, o_138 P, o_139 P, o_140 P, o_141 P, o_142 P, o_143 P, o_144 P, o_145 P, o_146 P, o_147 P, o_148 P, o_149 P, o_150 P, o_151 P, o_152 P, o_153 P, o_154 P, o_155 P, o_156 P, o_157 P, o_158 P, o_159 P, o_160 P, o_161 P, o_162 P, o_163 P, o_164 P, o_165 P, o_166 P, o_167 P, o_168 P, o_169 P, o_170 P, o_171 P, o_172 P, o_173 P, o_174 P, o_175 P, o_176 P, o_177 P, o_178 P, o_179 P, o_180 P, o_181 P, o_182 P, o_183 P, o_184 P, o_185 P, o_186 P, o_187 P, o_188 P, o_189 P, o_190 P, o_191 P, o_192 P, o_193 P, o_194 P, o_195 P, o_196 P, o_197 P, o_198 P, o_199 P, o_200 P, o_201 P, o_202 P, o_203 P, o_204 P, o_205 P, o_206 P, o_209 P, o_210 P, o_211 P, o_212 P, o_213 P, o_214 P, o_215 P, o_216 P, o_217 P, o_218 P, o_219 P, o_220 P, o_221 P, o_222 P, o_223 P, o_224 P, o_225 P, o_226 P, o_227 P, o_228 P, o_229 P, o_230 P, o_231 P, o_232 P, o_233 P, o_234 P, o_235 P, o_236 P, o_237 P, o_238 P, o_239 P, o_240 P, o_241 P, o_242 P, o_243 P, o_244 P, o_245 P, o_246 P, o_247 P, o_248 P, o_249 P, o_250 P, o_251 P, o_252 P, o_253 P, o_254 P, o_255 P, o_256 P, o_257 P, o_258 P, o_259 P] } }
noncomputable abbrev bX : List Stmt := behindTheImports rwx.prog
noncomputable def eX : Env := { scope := rwx.prog.main.scope, locals := PySem.mainNs, globals := PySem.mainNs, cells := [], code := .ref 13, frame := some 14 }
noncomputable abbrev cX : Code := .body bX eX
noncomputable abbrev fX : List Frame := [topFrame ⟨0, 0, 0, 0⟩]
noncomputable abbrev sX (t : BT) (n k : Nat) (os : OsState) : SharedT := { tree := t, n := n, life := {}, gens := Array.mk [], drawn := {}, toks := k, os := os }
theorem piece_at {p : Program} {w : World} {m : Nat} {ann : Option Value} {q : Pos} {env : Env} (i : Nat) {n N : Nat} {s s' : SharedT} {r : Shared} {b : List Stmt} {c : Code} {pos p' : Pos}
    (h : segRunT treeTable p w m ann 1 n s (piecesOf (b.take i) env c pos [topFrame q]) = some (.next, s', c, p'))
    (k : topRun treeTable p w m ann N s'.abs (restOf (b.drop i) env c p' [topFrame q]) = some r) : topRun treeTable p w m ann (n + N) s.abs (restOf b env c pos [topFrame q]) = some r := by
  have := piece_app (segRun_of h) k
  rwa [List.take_append_drop] at this
theorem goX0 : ∀ w : World, (fun os : OsState => topGo treeTable rwx.prog w 11 (some (.ref 6)) 12 ⟨boot_heap w.params, Array.mk [], boot_drawn, boot_toks, os⟩ (topStub rwx.prog))
    = fun os => some (⟨heap_46 w.params, Array.mk [], {}, 187, os⟩, ⟨denote treeTable cX, cX, ⟨0, 0, 0, 0⟩, fX⟩) := by
  intro w; kernel_rfl
theorem goX1 : ∀ w : World, (fun os : OsState => segRun treeTable rwx.prog w 11 (some (.ref 6)) 1 1 ⟨heap_46 w.params, Array.mk [], {}, 187, os⟩ (blockOf bX eX cX ⟨0, 0, 0, 0⟩ fX))
    = fun os => some (.next, (sX (tree_47 w.params) 15 187 os).abs, cX, ⟨0, 0, 0, 0⟩) := by
  intro w; kernel_rfl
theorem goX2 : ∀ w : World, (fun os : OsState => segRunT treeTable rwx.prog w 11 (some (.ref 6)) 1 238 (sX (tree_47 w.params) 15 187 os) (piecesOf ((bX).take 2) eX cX ⟨0, 0, 0, 0⟩ fX))
    = fun os => some (.next, sX (tree_71 w.params) 35 218 os, cX, ⟨2, 0, 5, 30⟩) := by
  intro w; kernel_rfl
theorem goX3 : ∀ w : World, (fun os : OsState => segRunT treeTable rwx.prog w 11 (some (.ref 6)) 1 214 (sX (tree_71 w.params) 35 218 os) (piecesOf (((bX).drop 2).take 1) eX cX ⟨2, 0, 5, 30⟩ fX))
    = fun os => some (.next, sX (tree_86 w.params) 47 234 os, cX, ⟨6, 0, 7, 8⟩) := by
  intro w; kernel_rfl
theorem goX4 : ∀ w : World, (fun os : OsState => segRunT treeTable rwx.prog w 11 (some (.ref 6)) 1 400 (sX (tree_86 w.params) 47 234 os) (piecesOf ((((bX).drop 2).drop 1).take 9) eX cX ⟨6, 0, 7, 8⟩ fX))
    = fun os => some (.next, sX (tree_129 w.params) 87 300 os, cX, ⟨51, 0, 52, 34⟩) := by
  intro w; kernel_rfl
theorem goX5 : ∀ w : World, (fun os : OsState => segRunT treeTable rwx.prog w 11 (some (.ref 6)) 1 396 (sX (tree_129 w.params) 87 300 os) (piecesOf (((((bX).drop 2).drop 1).drop 9).take 17) eX cX ⟨51, 0, 52, 34⟩ fX))
    = fun os => some (.next, sX (tree_206 w.params) 162 413 os, cX, ⟨134, 0, 143, 104⟩) := by
  intro w; kernel_rfl
theorem goX6 : ∀ w : World, (fun os : OsState => segRunT treeTable rwx.prog w 11 (some (.ref 6)) 1 253 (sX (tree_206 w.params) 162 413 os) (piecesOf ((((((bX).drop 2).drop 1).drop 9).drop 17).take 9) eX cX ⟨134, 0, 143, 104⟩ fX))
    = fun os => some (.next, sX (tree_259 w.params) 213 479 os, cX, ⟨217, 0, 232, 15⟩) := by
  intro w; kernel_rfl
theorem goX7 : ∀ w : World, (fun os : OsState => topRun treeTable rwx.prog w 11 (some (.ref 6)) 2 (sX (tree_259 w.params) 213 479 os).abs (restOf ((((((bX).drop 2).drop 1).drop 9).drop 17).drop 9) eX cX ⟨217, 0, 232, 15⟩ fX))
    = fun os => some ⟨heap_260 w.params, Array.mk [], {}, 479, os⟩ := by
  intro w; kernel_rfl
theorem runX (w : World) (os : OsState) : topRun treeTable rwx.prog w 11 (some (.ref 6)) 1516 ⟨boot_heap w.params, Array.mk [], boot_drawn, boot_toks, os⟩ (topStub rwx.prog) = some ⟨heap_260 w.params, Array.mk [], {}, 479, os⟩ :=
  go_top (n := 12) (N := 1504) (congrFun (goX0 w) os) (piece_block (n := 1) (N := 1503) (congrFun (goX1 w) os)
    (piece_at 2 (n := 238) (N := 1265) (congrFun (goX2 w) os) (piece_at 1 (n := 214) (N := 1051) (congrFun (goX3 w) os) (piece_at 9 (n := 400) (N := 651) (congrFun (goX4 w) os)
      (piece_at 17 (n := 396) (N := 255) (congrFun (goX5 w) os) (piece_at 9 (n := 253) (N := 2) (congrFun (goX6 w) os) (congrFun (goX7 w) os)))))))
theorem goX8 : ∀ w : World, ((boot_heap w.params).isNs mainGlobals && (Array.mk [] : Array GenState).size == 0, (boot_heap w.params).objs.size, (boot_heap w.params).nsMap mainGlobals "__annotations__") = (true, 11, some (.ref 6)) := by
  intro w; kernel_rfl
theorem goX9 : ∀ w : World, (fun os : OsState => ((staticsOk (importedModules rwx.prog.main.body) (boot_heap w.params) (heap_260 w.params) && namesBound rwx.prog (heap_260 w.params) && gensDone ⟨heap_260 w.params, Array.mk [], {}, 479, os⟩ && laidKept (boot_heap w.params) (heap_260 w.params)),
        openSeen qx Kl (importedModules rwx.prog.main.body) (fun s => xlAt qx Kv s && recOk (RowW.records rwx) s) true ⟨heap_260 w.params, Array.mk [], {}, 479, os⟩, Hook.obs Kh ⟨heap_260 w.params, Array.mk [], {}, 479, os⟩)) = fun _ => (true, openGood qx Kl, Hook.val Kh w) := by
  intro w; kernel_rfl
theorem leftX : LeftO rwx.prog qx Kl (fun s => xlAt qx Kv s && recOk (RowW.records rwx) s) (Hook.obs Kh) (Hook.val Kh) 3118 :=
  LeftO.of_pieces (m₀ := 11) (ann := some (.ref 6)) (M := 1516) (boot_open (by kernel_rfl) (by rfl) fun _ => rfl) goX8 runX (by rfl) goX9
theorem saidX : PySem.Challenge.rw_xm0749_01.wellSaid = true := by
  unfold OpenLaw.wellSaid OpenRow.wellSaid OpenRow.partSaid looksOpen
  repeat' with_reducible refine look_both ?_ ?_
  all_goals decide +kernel
theorem hdX (walk : WalkC qx Kl (XL qx Kv) (Hook.says Kh) rwx) : PySem.Challenge.rw_xm0749_01.Holds := by
  refine holds_law saidX fun said => ?_
  refine Mine.PySem.W.holds_open (q := qx) (loose := Kl) (Xt := fun s => xlAt qx Kv s && recOk (RowW.records rwx) s) (XP := XL qx Kv) (Yf := Hook.obs Kh) (Ya := Hook.val Kh) (YP := Hook.says Kh) (N := 3118) leftX (Hook.of Kh) (Hook.keeps Kh) (fun s e => xl_of s (Bool.and_eq_true_iff.mp e).1) XL.keeps (by rfl) (by rfl) (by rfl) (fun s e => recFacts_of (Bool.and_eq_true_iff.mp e).2) (by rfl) said (by decide +kernel) ⟨rfl, rfl, rfl, rfl, rfl, by decide +kernel⟩ ?hw walk
  case hw => w_witness2
end Mine
end
section
open PySem PySem.W PyProof.Rows PySem.Calls
set_option maxRecDepth 10000
namespace Mine
open PySem.Sem (wp)

noncomputable abbrev pg : Program := PySem.Challenge.rw_xm0749_01.row.toRowW.prog
noncomputable abbrev Kf (w : World) : Frag := Kx w.params
noncomputable abbrev Mw (w : World) : Model := model pg w

/-- h stands whole in h' -/
noncomputable def Sub (h h' : Heap) : Prop := ∀ b o, h.get? b = some o → h'.get? b = some o
theorem Sub.refl (h : Heap) : Sub h h := fun _ _ e => e
theorem Sub.trans {h h' h'' : Heap} (a : Sub h h') (b : Sub h' h'') : Sub h h'' := fun c o e => b c o (a c o e)

structure Sta (w : World) (h : Heap) : Prop where
  k : (Kf w).In h
  g : ∃ mg, h.Ns mainGlobals mg
  b : ∃ mb, h.Ns builtinsNs mb ∧ ∀ x : Str, x ≠ "__name__" → mb x = bootBuiltins x
  lim : h.NoLimit
theorem Sta.sub {w : World} {h h' : Heap} (X : Sta w h) (k : Sub h h') : Sta w h' :=
  ⟨X.k.keeps k, let ⟨mg, e⟩ := X.g; ⟨mg, e.keeps k⟩, let ⟨mb, e, r⟩ := X.b; ⟨mb, e.keeps k, r⟩, X.lim.keeps k⟩

/-- an object that a def has made -/
inductive Cell where
  | list (xs : List Value)
  | lst (xs : List Value)
  | tup (xs : List Value)
  | ba (b : List UInt8)
  | raw (o : Obj)
noncomputable def Cell.is : Cell → Obj → Prop
  | .list xs, o => ∃ n, o = { cls := .type "list", data := .seq xs.toArray n }
  | .lst xs, o => o.cls = .type "list" ∧ ∃ n, o.data = .seq xs.toArray n
  | .tup xs, o => ∃ n, o = { cls := .type "tuple", data := .seq xs.toArray n }
  | .ba b, o => o = { cls := .type "bytearray", data := .bytearray b.toArray 0 }
  | .raw o', o => o = o'
noncomputable def At (h : Heap) (a : Addr) (c : Cell) : Prop := ∃ o, h.get? a = some o ∧ c.is o
theorem At.sub {h h' : Heap} {a : Addr} {c : Cell} (x : At h a c) (k : Sub h h') : At h' a c := let ⟨o, e, i⟩ := x; ⟨o, k _ _ e, i⟩
theorem At.isList {h : Heap} {a : Addr} {xs : List Value} (x : At h a (.list xs)) : h.IsList a xs.toArray := by
  obtain ⟨o, e, n, rfl⟩ := x; exact ⟨_, e, rfl, n, rfl⟩
theorem At.isLst {h : Heap} {a : Addr} {xs : List Value} (x : At h a (.lst xs)) : h.IsList a xs.toArray := let ⟨o, e, c, n, d⟩ := x; ⟨o, e, c, n, d⟩
theorem At.lst {h : Heap} {a : Addr} {xs : List Value} (x : h.IsList a xs.toArray) : At h a (.lst xs) := let ⟨o, e, c, n, d⟩ := x; ⟨o, e, c, n, d⟩
theorem At.plain {h : Heap} {a : Addr} {xs : List Value} (x : At h a (.list xs)) : h.PlainList a xs.toArray := by
  obtain ⟨o, e, n, rfl⟩ := x; exact ⟨n, e⟩
theorem At.ofPlain {h : Heap} {a : Addr} {xs : List Value} (x : h.PlainList a xs.toArray) : At h a (.list xs) := let ⟨n, e⟩ := x; ⟨_, e, n, rfl⟩
theorem At.isTup {h : Heap} {a : Addr} {xs : List Value} (x : At h a (.tup xs)) : IsTup h a xs.toArray := by
  obtain ⟨o, e, n, rfl⟩ := x; exact ⟨_, e, rfl, n, rfl⟩
theorem At.lt {h : Heap} {a : Addr} {c : Cell} (x : At h a c) : a < h.objs.size := let ⟨_, e, _⟩ := x; Heap.lt_size e

noncomputable abbrev Led := List (Addr × Cell)
/-- where a def stands: its base g, which it leaves whole; its locals m; its own objects -/
structure St (w : World) (O : OsState) (g : Heap) (L : Addr) (s : Shared) (m : Str → Option Value) (led : Led) : Prop where
  sta : Sta w g
  ns : s.heap.Ns L m
  keep : Sub g s.heap
  nL : g.get? L = none
  ld : ∀ p ∈ led, At s.heap p.1 p.2 ∧ g.get? p.1 = none
  nd : (L :: led.map (·.1)).Nodup
  gens : s.gens = #[]
  os : s.os = O
/-- what a call leaves: its base whole -/
structure Gr (O : OsState) (g : Heap) (s' : Shared) : Prop where
  keep : Sub g s'.heap
  gens : s'.gens = #[]
  os : s'.os = O

section
variable {w : World} {O : OsState} {g : Heap} {L : Addr} {s s' : Shared} {m m' : Str → Option Value} {led : Led}
theorem St.stah (I : St w O g L s m led) : Sta w s.heap := I.sta.sub I.keep
theorem St.at (I : St w O g L s m led) {a : Addr} {c : Cell} (h : (a, c) ∈ led) : At s.heap a c := (I.ld _ h).1
theorem St.gr (I : St w O g L s m led) (G : Gr O s.heap s') : St w O g L s' m led :=
  ⟨I.sta, I.ns.keeps G.keep, I.keep.trans G.keep, I.nL, fun p hp => ⟨(I.ld p hp).1.sub G.keep, (I.ld p hp).2⟩, I.nd, G.gens, G.os⟩
theorem St.out (I : St w O g L s m led) : Gr O g s := ⟨I.keep, I.gens, I.os⟩
theorem Gr.trans {g g' : Heap} {O : OsState} {s : Shared} (k : Sub g g') (G : Gr O g' s) : Gr O g s := ⟨k.trans G.keep, G.gens, G.os⟩
/-- the heap alone grown -/
theorem St.grow (I : St w O g L s m led) {h : Heap} {tk : Nat} (k : Sub s.heap h) : St w O g L { s with heap := h, toks := tk } m led := I.gr ⟨k, I.gens, I.os⟩
theorem St.drop (I : St w O g L s m led) {led' : Led} (h : led'.Sublist led) : St w O g L s m led' :=
  ⟨I.sta, I.ns, I.keep, I.nL, fun p hp => I.ld p (h.subset hp), I.nd.sublist (List.Sublist.cons_cons L (h.map (·.1))), I.gens, I.os⟩
theorem sub_push (h : Heap) (o : Obj) : Sub h (h.push o) := fun _ _ e => Heap.get?_push_of_some o e
/-- a new object -/
theorem St.push (I : St w O g L s m led) {o : Obj} {c : Cell} (hc : c.is o) (hf : o.isFreed = false) {tk : Nat} :
    St w O g L { s with heap := s.heap.push o, toks := tk } m ((s.heap.objs.size, c) :: led) := by
  have J := I.grow (h := s.heap.push o) (tk := tk) (sub_push _ _)
  have hg : g.get? s.heap.objs.size = none := by
    cases e : g.get? s.heap.objs.size with
    | none => rfl
    | some x => exact absurd (Heap.lt_size (I.keep _ _ e)) (Nat.lt_irrefl _)
  refine ⟨J.sta, J.ns, J.keep, J.nL, fun p hp => ?_, ?_, J.gens, J.os⟩
  · rcases List.mem_cons.mp hp with rfl | hp
    · exact ⟨⟨o, Heap.get?_push_size _ hf, hc⟩, hg⟩
    · exact J.ld p hp
  · have nd := I.nd
    rw [List.nodup_cons] at nd
    have hL : L ≠ s.heap.objs.size := Nat.ne_of_lt I.ns.lt
    have hl : s.heap.objs.size ∉ led.map (·.1) := fun hm => by
      obtain ⟨p, hp, e⟩ := List.mem_map.mp hm
      exact absurd (I.ld p hp).1.lt (by rw [e]; exact Nat.lt_irrefl _)
    rw [List.map_cons, List.nodup_cons, List.nodup_cons]
    refine ⟨fun hm => ?_, hl, nd.2⟩
    rcases List.mem_cons.mp hm with e | hm
    · exact hL e
    · exact nd.1 hm
/-- one object's cell changed -/
inductive Rep (d : Addr) (c : Cell) : Led → Led → Prop
  | head {c₀ r} : Rep d c ((d, c₀) :: r) ((d, c) :: r)
  | tail {p r r'} : Rep d c r r' → Rep d c (p :: r) (p :: r')
theorem Rep.fst {d : Addr} {c : Cell} {l l' : Led} (r : Rep d c l l') : l'.map (·.1) = l.map (·.1) := by
  induction r with
  | head => rfl
  | tail _ ih => rw [List.map_cons, List.map_cons, ih]
theorem Rep.mem {d : Addr} {c : Cell} {l l' : Led} (r : Rep d c l l') : d ∈ l.map (·.1) := by
  induction r with
  | head => exact List.mem_cons_self
  | tail _ ih => exact List.mem_cons_of_mem _ ih
theorem Rep.sees {d : Addr} {c : Cell} {l l' : Led} (r : Rep d c l l') (nd : (l.map (·.1)).Nodup) : ∀ p ∈ l', p = (d, c) ∨ (p ∈ l ∧ p.1 ≠ d) := by
  induction r with
  | head =>
    intro p hp
    rcases List.mem_cons.mp hp with rfl | hp
    · exact .inl rfl
    · rw [List.map_cons, List.nodup_cons] at nd
      exact .inr ⟨List.mem_cons_of_mem _ hp, fun e => by
        have q := List.mem_map_of_mem (f := (·.1)) hp
        rw [e] at q
        exact nd.1 q⟩
  | tail r ih =>
    intro p hp
    rw [List.map_cons, List.nodup_cons] at nd
    rcases List.mem_cons.mp hp with rfl | hp
    · exact .inr ⟨List.mem_cons_self, fun e => nd.1 (e ▸ r.mem)⟩
    · exact (ih nd.2 p hp).imp id fun h => ⟨List.mem_cons_of_mem _ h.1, h.2⟩
theorem St.rep (I : St w O g L s m led) {d : Addr} {c : Cell} {led' : Led} (r : Rep d c led led') (k : ∀ b o, s.heap.get? b = some o → b ≠ d → s'.heap.get? b = some o) (hd : At s'.heap d c)
    (hg : s'.gens = #[]) (ho : s'.os = O) : St w O g L s' m led' := by
  have nd := I.nd
  rw [List.nodup_cons] at nd
  have hLd : L ≠ d := fun e => nd.1 (e ▸ r.mem)
  have hgd : g.get? d = none := by
    obtain ⟨p, hp, e⟩ := List.mem_map.mp r.mem
    exact e ▸ (I.ld p hp).2
  refine ⟨I.sta, ?_, fun b o e => k b o (I.keep b o e) fun q => ?_, I.nL, fun p hp => ?_, ?_, hg, ho⟩
  · obtain ⟨o, es, ep, e, q⟩ := I.ns
    exact ⟨o, es, ep, k L o e hLd, q⟩
  · rw [q, hgd] at e; cases e
  · rcases r.sees nd.2 p hp with rfl | ⟨hp, hne⟩
    · exact ⟨hd, hgd⟩
    · obtain ⟨⟨o, e, i⟩, q⟩ := I.ld p hp
      exact ⟨⟨o, k _ _ e hne, i⟩, q⟩
  · rw [r.fst]; exact I.nd
/-- a local stored -/
theorem St.set (I : St w O g L s m led) {h : Heap} {tk : Nat} (hn : h.Ns L m') (hs : Heap.SameBut L s.heap h) : St w O g L { s with heap := h, toks := tk } m' led := by
  have nd := I.nd
  rw [List.nodup_cons] at nd
  refine ⟨I.sta, hn, fun b o e => (hs.2 b fun q => ?_).trans (I.keep b o e), I.nL, fun p hp => ?_, I.nd, I.gens, I.os⟩
  · rw [q, I.nL] at e; cases e
  · obtain ⟨⟨o, e, i⟩, q⟩ := I.ld p hp
    exact ⟨⟨o, (hs.2 _ fun q => nd.1 (q ▸ List.mem_map_of_mem hp)).trans e, i⟩, q⟩
end

/-- room for k calls more -/
structure Room (A : Around) (k : Nat) : Prop where
  d : A.depth + k < 900
  u : A.units + 10 * k < 9000
  h : A.handled = none
theorem Room.less {A : Around} {k j : Nat} (R : Room A k) (h : j ≤ k) : Room A j := ⟨by have := R.d; omega, by have := R.u; omega, R.h⟩
theorem Room.deeper {A : Around} {k : Nat} (R : Room A (k + 1)) (env : Env) : Room (A.deeper env) k := ⟨by have := R.d; show A.depth + 1 + k < 900; omega, by have := R.u; show A.units + 3 + 10 * k < 9000; omega, R.h⟩

section
variable {w : World} {O : OsState} {g : Heap} {L a : Addr} {s : Shared} {m : Str → Option Value} {led : Led} {A : Around} {E : Value → Shared → Prop} {name : Str} {scope : Scope} {cd : Value}

theorem n_loc {M : Model} {x : Str} {pos : Pos} {v : Value} {Q : Value → Shared → Prop} (I : St w O g L s m led) (hv : m x = some v) (h : Q v s)
    (hk : scope.kind = .function := by rfl) (hl : (envOf name scope L a cd).kindOf x = some .local := by with_unfolding_all rfl) (hd : (x == ("__debug__" : Str)) = false := by decide) : wpC M A (eval (.Name x pos) (envOf name scope L a cd)) Q E s :=
  c_any (wpAny_Name (wpAny_loadName_local hk hl I.ns hv h) hd)
theorem l_loc {M : Model} {x : Str} {v : Value} {Q : Value → Shared → Prop} (I : St w O g L s m led) (hv : m x = some v) (h : Q v s)
    (hk : scope.kind = .function := by rfl) (hl : (envOf name scope L a cd).kindOf x = some .local := by with_unfolding_all rfl) : wpC M A (loadName (envOf name scope L a cd) x) Q E s :=
  c_any (wpAny_loadName_local hk hl I.ns hv h)
theorem n_glob {M : Model} {x : Str} {pos : Pos} {v : Value} {Q : Value → Shared → Prop} (I : St w O g L s m led) (e : nsIn (Kf w) mainGlobals x = some (some v)) (h : Q v s)
    (hk : scope.kind = .function := by rfl) (hx : (envOf name scope L a cd).kindOf x = some .globalImplicit := by with_unfolding_all rfl) (hd : (x == ("__debug__" : Str)) = false := by decide) : wpC M A (eval (.Name x pos) (envOf name scope L a cd)) Q E s :=
  let ⟨_, G⟩ := I.stah.g
  c_any (Calls.Name_function_global hk hx (Calls.loadGlobal_global (env := envOf name scope L a cd) G (mg_of I.stah.k G e) h) hd)
theorem n_built {M : Model} {x : Str} {pos : Pos} {v : Value} {Q : Value → Shared → Prop} (I : St w O g L s m led) (e : nsIn (Kf w) mainGlobals x = some none) (hv : bootBuiltins x = some v) (hn : x ≠ "__name__") (h : Q v s)
    (hk : scope.kind = .function := by rfl) (hx : (envOf name scope L a cd).kindOf x = some .globalImplicit := by with_unfolding_all rfl) (hd : (x == ("__debug__" : Str)) = false := by decide) : wpC M A (eval (.Name x pos) (envOf name scope L a cd)) Q E s :=
  let ⟨_, G⟩ := I.stah.g
  let ⟨_, B, hb⟩ := I.stah.b
  c_any (Calls.Name_function_global hk hx (Calls.loadGlobal_builtin (env := envOf name scope L a cd) G (mg_none_of I.stah.k G e) B ((hb x hn).trans hv) h) hd)
theorem s_loc {M : Model} {x : Str} {v : Value} {Q : Unit → Shared → Prop} (I : St w O g L s m led)
    (h : ∀ s', St w O g L s' (fun y => if y = x then some v else m y) led → Q () s')
    (hk : scope.kind = .function := by rfl) (hl : (envOf name scope L a cd).kindOf x = some .local := by with_unfolding_all rfl) : wpC M A (storeName (envOf name scope L a cd) x v) Q E s :=
  c_any (wpAny_storeName_local hl I.ns (fun h' hn hs => h _ (I.set hn hs))
    (by show (scope.kind == .class || (scope.kind == .module && L != mainGlobals)) = false; rw [hk]; rfl))
theorem k_int {M : Model} {env : Env} {i k pos} {Q : Value → Shared → Prop} (I : St w O g L s m led) (h : ∀ t s', St w O g L s' m led → Q (.int i t) s') : wpC M A (eval (.Constant (.int i) k pos) env) Q E s :=
  c_any (wpAny_Constant_int (h _ _ (I.grow (Sub.refl _))))
theorem k_str {M : Model} {env : Env} {x : Str} {k pos} {Q : Value → Shared → Prop} (I : St w O g L s m led) (h : ∀ t s', St w O g L s' m led → Q (.str x t) s') : wpC M A (eval (.Constant (.str x) k pos) env) Q E s :=
  c_any (wpAny_Constant_str (h _ _ (I.grow (Sub.refl _))))
theorem k_bytes {M : Model} {env : Env} {x : List UInt8} {k pos} {Q : Value → Shared → Prop} (I : St w O g L s m led) (h : ∀ t s', St w O g L s' m led → Q (.bytes x.toArray t) s') : wpC M A (eval (.Constant (.bytes x) k pos) env) Q E s :=
  c_any (Constant_bytes (h _ _ (I.grow (Sub.refl _))))
theorem k_bool {M : Model} {env : Env} {b : Bool} {k pos} {Q : Value → Shared → Prop} (h : Q (.bool b) s) : wpC M A (eval (.Constant (.bool b) k pos) env) Q E s := c_any (wpAny_Constant_bool h)
theorem k_none {M : Model} {env : Env} {k pos} {Q : Value → Shared → Prop} (h : Q .none s) : wpC M A (eval (.Constant .none k pos) env) Q E s := c_any (wpAny_Constant_none h)

/-- the call of a def of the text: its body over a base g that holds all but what may change -/
theorem c_enter {qual : Str} {params : Arguments} {body : List Stmt} {dV kV doc pm cdv ct oc : Value} {an od : Option Addr} {osl : Array (Option Value)} {f : Addr} {args : List Value} {k : Nat} {Q : Value → Shared → Prop} (rb : List (Str × Value))
    (R : Room A k) (X : Sta w g) (hk : Sub g s.heap) (hl : ∀ p ∈ led, At s.heap p.1 p.2 ∧ g.get? p.1 = none) (nd : (led.map (·.1)).Nodup) (hg : s.gens = #[]) (ho' : s.os = O)
    (ho : (Kf w).lookup f = some ⟨oc, od, .func (fnOf name qual params body scope dV kV doc pm an cdv ct), osl⟩) (hcd : codeIn (Kf w) cdv qual = true)
    (hbind : bindArgs (fnOf name qual params body scope dV kV doc pm an cdv ct) ⟨args, []⟩ = pure rb.reverse) (hloc : ∀ y ∈ rb.reverse, scope.names.lookup y.1 = some .local)
    (h : ∀ L s₁, St w O g L s₁ (fun y => rb.lookup y) led → Sub s.heap s₁.heap →
      wpC (Mw w) (A.deeper (envOf qual scope L f cdv)) (execs body (envOf qual scope L f cdv)) (fun fl s' => Q (match fl with | .ret v => v | _ => .none) s')
        (fun e s' => wpC (Mw w) (A.deeper (envOf qual scope L f cdv)) (leaving (envOf qual scope L f cdv) e) (fun _ s'' => E e s'') E s') s₁)
    (hco : scope.isCoroutine = false := by rfl) (hgen : scope.isGenerator = false := by rfl) (hfk : scope.kind = .function := by rfl)
    (hcell : ∀ x ∈ scope.names, x.2 ≠ .cell := by decide) : wpC (Mw w) A (call (.ref f) args) Q E s := by
  have Xs := X.sub hk
  refine c_call (codeC_tree (cleanC_call _ _) ?_)
  show wpC _ A.in1 (callAny (.ref f) ⟨args, []⟩) _ _ s
  simp only [callAny]
  refine c_bind (c_any (wpAny_load (Xs.k _ _ ho) ?_))
  obtain ⟨c, oc', vs, tq, hc, hoc, hdc, hq⟩ := codeRec_of Xs.k hcd
  subst hc
  simp only [callFunction, hco, hgen]
  refine c_bind (m := field (.ref c) 1) (c_any (wpAny_field hoc hdc hq ?_))
  refine c_bind (c_pure (c_bind (c_eq hbind (c_pure ?_))))
  refine c_bind (c_any (wpAny_newFunctionEnv hcell hloc (fun h₁ hns hsb => ?_) hfk))
  refine c_bind (c_any (wpAny_enterFrame (Xs.lim.fresh _ hsb) (by show A.depth < recursionLimit; have := R.d; show A.depth < 1000; omega) ?_))
  refine c_pure ⟨rfl, ?_⟩
  have hsub : Sub s.heap h₁ := fun b o e => hsb.extBut b o (Nat.ne_of_lt (Heap.lt_size e)) (Heap.get?_push_of_some _ e)
  have hgL : g.get? s.heap.objs.size = none := by
    cases e : g.get? s.heap.objs.size with
    | none => rfl
    | some x => exact absurd (Heap.lt_size (hk _ _ e)) (Nat.lt_irrefl _)
  have I : St w O g s.heap.objs.size { s with heap := h₁, toks := s.toks + rb.reverse.length } (fun y => rb.lookup y) led :=
    ⟨X, by rw [List.reverse_reverse] at hns; exact hns, hk.trans hsub, hgL, fun p hp => ⟨(hl p hp).1.sub hsub, (hl p hp).2⟩, by
      rw [List.nodup_cons]
      exact ⟨fun hm => by obtain ⟨p, hp, e⟩ := List.mem_map.mp hm; exact absurd (hl p hp).1.lt (by rw [e]; exact Nat.lt_irrefl _), nd⟩, hg, ho'⟩
  refine codeC_tree (cleanC_func _ _) ?_
  show wpC _ (A.deeper _) (do point; match ← (execs body _).onRaise (leaving _) with | .ret v => ret v | _ => ret .none) _ _ _
  refine c_bind (c_point (c_bind (c_onRaise (c_mono (h _ _ I hsub) (fun f s' h' => ?_) fun e s' h' => h'))))
  cases f <;> exact c_pure h'
/-- what a body's end hands on -/
noncomputable def fv : Flow → Value := fun fl => match fl with | .ret v => v | _ => .none
/-- the same for a body that raises nothing -/
theorem c_enter0 {qual : Str} {params : Arguments} {body : List Stmt} {dV kV doc pm cdv ct oc : Value} {an od : Option Addr} {osl : Array (Option Value)} {f : Addr} {args : List Value} {k : Nat} {Q : Value → Shared → Prop} (rb : List (Str × Value))
    (R : Room A k) (X : Sta w g) (hk : Sub g s.heap) (hl : ∀ p ∈ led, At s.heap p.1 p.2 ∧ g.get? p.1 = none) (nd : (led.map (·.1)).Nodup) (hg : s.gens = #[]) (ho' : s.os = O)
    (ho : (Kf w).lookup f = some ⟨oc, od, .func (fnOf name qual params body scope dV kV doc pm an cdv ct), osl⟩) (hcd : codeIn (Kf w) cdv qual = true)
    (hbind : bindArgs (fnOf name qual params body scope dV kV doc pm an cdv ct) ⟨args, []⟩ = pure rb.reverse) (hloc : ∀ y ∈ rb.reverse, scope.names.lookup y.1 = some .local)
    (h : ∀ L s₁, St w O g L s₁ (fun y => rb.lookup y) led → Sub s.heap s₁.heap →
      wpC (Mw w) (A.deeper (envOf qual scope L f cdv)) (execs body (envOf qual scope L f cdv)) (fun fl s' => Q (fv fl) s') (fun _ _ => False) s₁)
    (hco : scope.isCoroutine = false := by rfl) (hgen : scope.isGenerator = false := by rfl) (hfk : scope.kind = .function := by rfl)
    (hcell : ∀ x ∈ scope.names, x.2 ≠ .cell := by decide) : wpC (Mw w) A (call (.ref f) args) Q E s :=
  c_enter rb R X hk hl nd hg ho' ho hcd hbind hloc (fun L s₁ I k => c_mono (h L s₁ I k) (fun fl s' q => by cases fl <;> exact q) fun _ _ x => x.elim) hco hgen hfk hcell
end
end Mine
end
section
open PySem PySem.W PyProof.Rows PySem.Calls
set_option maxRecDepth 10000
namespace Mine
open PySem.Sem (wp)

section
variable {w : World} {O : OsState} {g : Heap} {L a : Addr} {s : Shared} {m : Str → Option Value} {led : Led} {A : Around} {name : Str} {scope : Scope} {cd : Value}

/-- the base anew: all that stands, but the locals and the def's own objects -/
noncomputable def base (h : Heap) (L : Addr) (led : Led) : Heap := hideAll h (L :: led.map (·.1))
theorem St.base (I : St w O g L s m led) : Sub g (base s.heap L led) ∧ Sub (base s.heap L led) s.heap ∧ St w O (Mine.base s.heap L led) L s m led := by
  have h1 : Sub g (Mine.base s.heap L led) := fun b o e => hideAll_get _ (I.keep b o e) fun q => by
    rcases List.mem_cons.mp q with q | q
    · rw [q, I.nL] at e; cases e
    · obtain ⟨p, hp, q⟩ := List.mem_map.mp q
      rw [← q, (I.ld p hp).2] at e; cases e
  have h2 : Sub (Mine.base s.heap L led) s.heap := fun b o e => of_hideAll _ e
  exact ⟨h1, h2, I.sta.sub h1, I.ns, h2, hideAll_none _ List.mem_cons_self, fun p hp => ⟨(I.ld p hp).1, hideAll_none _ (List.mem_cons_of_mem _ (List.mem_map_of_mem hp))⟩, I.nd, I.gens, I.os⟩
theorem base_get {h : Heap} {L : Addr} {led : Led} {b : Addr} {o : Obj} (e : h.get? b = some o) (n : b ≠ L) (n' : ∀ p ∈ led, p.1 ≠ b) : (base h L led).get? b = some o :=
  hideAll_get _ e fun q => by
    rcases List.mem_cons.mp q with q | q
    · exact n q
    · obtain ⟨p, hp, q⟩ := List.mem_map.mp q; exact n' p hp q
/-- back to a lesser base -/
theorem St.under {g' : Heap} (I : St w O g' L s m led) (k : Sub g g') (X : Sta w g) : St w O g L s m led := by
  have hn : ∀ {b}, g'.get? b = none → g.get? b = none := fun {b} h => by
    cases e : g.get? b with
    | none => rfl
    | some o => rw [k _ _ e] at h; cases h
  exact ⟨X, I.ns, k.trans I.keep, hn I.nL, fun p hp => ⟨(I.ld p hp).1, hn (I.ld p hp).2⟩, I.nd, I.gens, I.os⟩

/-- what is iterated: its iterator, its steps -/
noncomputable def Iter (w : World) (g : Heap) (L : Addr) (led : Led) (n : Nat) (P : Nat → Value → Prop) (it : Value) (s : Shared) : Prop :=
  ∃ I fp St, it = .ref I ∧ (∀ A' : Around, A'.handled = none → Walks pg w A' I fp [I] n P St) ∧ St 0 s.heap ∧
    (∀ i h, St i h → ∀ b ∈ fp, ∃ o, h.get? b = some o) ∧ (∀ b ∈ fp, b ≠ L ∧ ∀ p ∈ led, p.1 ≠ b) ∧ g.get? I = none

/-- before the first turn: the iterator on the ledger, what it reads in the base -/
theorem Iter.start {n : Nat} {P : Nat → Value → Prop} {it : Value} (y : Iter w g L led n P it s) (I2 : St w O g L s m led) :
    ∃ I fp St' g₁ o, it = .ref I ∧ (∀ A' : Around, A'.handled = none → Walks pg w A' I fp [I] n P St') ∧ St' 0 s.heap ∧ (∀ i h, St' i h → ∀ b ∈ fp, ∃ o, h.get? b = some o) ∧
      Sub g g₁ ∧ St w O g₁ L s m ((I, .raw o) :: led) ∧ ∀ b ∈ fp, b ≠ I → ∃ o, g₁.get? b = some o := by
  obtain ⟨I, fp, St', rfl, W, st0, hal, hfp, hgI⟩ := y
  have hI : I ∈ fp := (W { handled := none } rfl).sub I List.mem_cons_self
  obtain ⟨o, ho⟩ := hal 0 _ st0 I hI
  have I3 : St w O g L s m ((I, .raw o) :: led) := ⟨I2.sta, I2.ns, I2.keep, I2.nL, fun p hp => by
      rcases List.mem_cons.mp hp with rfl | hp
      · exact ⟨⟨o, ho, rfl⟩, hgI⟩
      · exact I2.ld p hp, by
      have nd := I2.nd
      rw [List.nodup_cons] at nd
      rw [List.map_cons, List.nodup_cons, List.nodup_cons]
      refine ⟨fun q => ?_, fun q => ?_, nd.2⟩
      · rcases List.mem_cons.mp q with q | q
        · exact (hfp I hI).1 q.symm
        · exact nd.1 q
      · obtain ⟨p, hp, q⟩ := List.mem_map.mp q
        exact (hfp I hI).2 p hp q, I2.gens, I2.os⟩
  obtain ⟨k1, k2, I4⟩ := I3.base
  refine ⟨I, fp, St', _, o, rfl, W, st0, hal, k1, I4, fun b hb hne => ?_⟩
  obtain ⟨o', ho'⟩ := hal 0 _ st0 b hb
  exact ⟨o', base_get ho' (hfp b hb).1 fun p hp => by
    rcases List.mem_cons.mp hp with rfl | hp
    · exact fun q => hne q.symm
    · exact (hfp b hb).2 p hp⟩
/-- the iterator's step -/
theorem Iter.turn {M : Model} {E : Value → Shared → Prop} {I : Addr} {fp : List Addr} {n i : Nat} {P : Nat → Value → Prop} {St' : Nat → Heap → Prop} {o : Obj} {Q : Option Value → Shared → Prop} (W : Walks pg w A I fp [I] n P St') (hal : ∀ i h, St' i h → ∀ b ∈ fp, ∃ o, h.get? b = some o) (hM : M = Mw w)
    (IS : St w O g L s m ((I, .raw o) :: led)) (st : St' i s.heap)
    (item : i < n → ∀ v s' o', P i v → St' (i + 1) s'.heap → St w O g L s' m ((I, .raw o') :: led) → Q (some v) s')
    (done : i = n → ∀ s', St w O g L s' m led → Q none s') (hi : i ≤ n) : wpC M A (pyNext (.ref I)) Q E s := by
  subst hM
  have hI : I ∈ fp := W.sub I List.mem_cons_self
  have kp : ∀ {h' : Heap}, (∀ b o, b ∉ [I] → s.heap.get? b = some o → h'.get? b = some o) → ∀ b o, s.heap.get? b = some o → b ≠ I → h'.get? b = some o := fun hk b o e n => hk b o (fun q => n (List.mem_singleton.mp q)) e
  by_cases hlt : i < n
  · refine c_any (W.item i s _ _ hlt st fun v h' tk hP st' hk' => ?_)
    obtain ⟨o', ho'⟩ := hal _ _ st' I hI
    exact item hlt v _ o' hP st' (IS.rep .head (kp hk') ⟨o', ho', rfl⟩ IS.gens IS.os)
  · have : i = n := by omega
    subst this
    refine c_any (W.done s _ _ st fun h' tk hk' => done rfl _ ?_)
    have J := IS.drop (led' := led) (List.sublist_cons_self ..)
    have nd := IS.nd
    rw [List.map_cons, List.nodup_cons, List.nodup_cons] at nd
    have k' := kp hk'
    refine ⟨J.sta, Heap.Ns.at' J.ns fun o e => k' _ o e fun q => nd.1 (by rw [q]; exact List.mem_cons_self), fun b o e => k' b o (J.keep b o e) fun q => ?_, J.nL, fun p hp => ?_, J.nd, J.gens, J.os⟩
    · have := (IS.ld _ List.mem_cons_self).2; rw [q] at e; rw [show g.get? I = none from this] at e; cases e
    · obtain ⟨⟨o, e, c⟩, q⟩ := J.ld p hp
      exact ⟨⟨o, k' _ o e fun r => nd.2.1 (by
        have z := List.mem_map_of_mem (f := (·.1)) hp
        rw [r] at z; exact z), c⟩, q⟩
/-- behind a turn: the iterator stands as it stood -/
theorem Iter.kept {I : Addr} {fp : List Addr} {n i : Nat} {P : Nat → Value → Prop} {St' : Nat → Heap → Prop} {o : Obj} {g'' : Heap} {s'' : Shared} {m'' : Str → Option Value} {led'' : Led} (W : Walks pg w A I fp [I] n P St')
    (hfp : ∀ b ∈ fp, b ≠ I → ∃ o, g.get? b = some o) (IS : St w O g L s m ((I, .raw o) :: led)) (k : Sub g g'') (I2 : St w O g'' L s'' m'' ((I, .raw o) :: led'')) (st : St' i s.heap) : St' i s''.heap := by
  refine W.frame i _ _ st fun b hb o' e => ?_
  by_cases hbI : b = I
  · subst hbI
    obtain ⟨x, ex, rfl⟩ := I2.at List.mem_cons_self
    obtain ⟨y, ey, rfl⟩ := IS.at List.mem_cons_self
    rw [ey] at e; rw [ex]; exact e
  · obtain ⟨z, hz⟩ := hfp b hb hbI
    have h1 := IS.keep _ _ hz
    rw [h1] at e; cases e
    exact I2.keep _ _ (k _ _ hz)

theorem x_ForWalk {M : Model} {x : Str} {px pos : Pos} {iter : PySem.Expr} {body : List Stmt} {Q : Flow → Shared → Prop} (n : Nat) (P : Nat → Value → Prop)
    (J : Nat → Heap → (Str → Option Value) → Led → Prop) (hM : M = Mw w) (hh : A.handled = none)
    (h : wpC M A (eval iter (envOf name scope L a cd)) (fun xv s₁ => wpC M A (pyIter xv) (fun it s₂ => Iter w g L led n P it s₂ ∧ St w O g L s₂ m led) NoE s₁) NoE s)
    (h0 : ∀ g', Sub g g' → J 0 g' m led)
    (turn : ∀ i g' s' m' led' v it o, Sub g g' → i < n → P i v → J i g' m' led' → St w O g' L s' (fun y => if y = x then some v else m' y) ((it, .raw o) :: led') →
      wpC M A (execs body (envOf name scope L a cd)) (fun f s'' => match f with
        | .next | .cont => ∃ g'' m'' led'', Sub g' g'' ∧ St w O g'' L s'' m'' ((it, .raw o) :: led'') ∧ J (i + 1) g'' m'' led''
        | .brk => False
        | .ret v => Q (.ret v) s'') NoE s')
    (hQ : ∀ g' s' m' led', Sub g g' → St w O g' L s' m' led' → J n g' m' led' → Q .next s')
    (hs : ∀ xv, foldedSetIterable iter (envOf name scope L a cd) xv = pure xv := by intro _; rfl)
    (hk : scope.kind = .function := by rfl) (hl : (envOf name scope L a cd).kindOf x = some .local := by with_unfolding_all rfl) : wpC M A (exec (.For (.Name x px) iter body [] pos) (envOf name scope L a cd)) Q NoE s := by
  subst hM
  refine x_For (c_monoQ h fun xv s₁ h₁ => c_monoQ h₁ fun it s₂ h₂ => ?_) hs
  obtain ⟨I, fp, St', g₁, o, rfl, W, st0, hal, k1, I4, hfp⟩ := h₂.1.start h₂.2
  refine codeC_for (n := n + 1) (fun k s' => ∃ i g' m' led' o, k = n + 1 - i ∧ i ≤ n ∧ Sub g₁ g' ∧ St w O g' L s' m' ((I, .raw o) :: led') ∧ J i g' m' led' ∧ St' i s'.heap) (fun _ => rfl) ?_ ⟨0, g₁, m, led, o, rfl, Nat.zero_le _, Sub.refl _, I4, h0 _ k1, st0⟩
  rintro k s' ⟨i, g', m', led', o, rfl, hi, kg, IS, hJ, st⟩
  have hfp' : ∀ b ∈ fp, b ≠ I → ∃ o, g'.get? b = some o := fun b hb hne => let ⟨o, e⟩ := hfp b hb hne; ⟨o, kg _ _ e⟩
  refine Iter.turn (W A hh) hal rfl IS st (fun hlt v s₂ o' hP st' I5 => ?_) (fun hin s₂ I5 => ?_) hi
  · refine a_Name (s_loc (a := a) (cd := cd) (name := name) (scope := scope) I5 (fun s₃ I6 => ?_) hk hl)
    have st₃ : St' (i + 1) s₃.heap := Iter.kept (W A hh) hfp' I5 (Sub.refl _) I6 st'
    refine c_monoQ (turn i g' s₃ m' led' v I o' (k1.trans kg) hlt hP hJ I6) fun f s₄ hf₄ => ?_
    have nxt : (∃ g'' m'' led'', Sub g' g'' ∧ St w O g'' L s₄ m'' ((I, .raw o') :: led'') ∧ J (i + 1) g'' m'' led'') →
        ∃ mm, mm < n + 1 - i ∧ ∃ i g' m' led' o, mm = n + 1 - i ∧ i ≤ n ∧ Sub g₁ g' ∧ St w O g' L s₄ m' ((I, .raw o) :: led') ∧ J i g' m' led' ∧ St' i s₄.heap := fun ⟨g'', m'', led'', k3, I7, hJ'⟩ =>
      ⟨n + 1 - (i + 1), by omega, i + 1, g'', m'', led'', o', rfl, hlt, kg.trans k3, I7, hJ', Iter.kept (W A hh) hfp' I6 k3 I7 st₃⟩
    cases f with
    | next => exact nxt hf₄
    | cont => exact nxt hf₄
    | brk => exact hf₄.elim
    | ret v => exact hf₄
  · subst hin
    exact x_nil (hQ g' _ m' led' (k1.trans kg) I5 hJ)

-- the iterables
theorem Iter.new {n : Nat} {P : Nat → Value → Prop} {St' : Nat → Heap → Prop} {o : Obj} (I : St w O g L s m led) (fp : List Addr) (hfp : ∀ b ∈ fp, b ≠ s.heap.objs.size → b ≠ L ∧ ∀ p ∈ led, p.1 ≠ b)
    (W : ∀ A' : Around, A'.handled = none → Walks pg w A' s.heap.objs.size fp [s.heap.objs.size] n P St') (hf : o.isFreed = false) (st : St' 0 (s.heap.push o)) (hal : ∀ i h, St' i h → ∀ b ∈ fp, ∃ o, h.get? b = some o) {tk : Nat} :
    Iter w g L led n P (.ref s.heap.objs.size) { s with heap := s.heap.push o, toks := tk } ∧ St w O g L { s with heap := s.heap.push o, toks := tk } m led := by
  have J := I.push (o := o) (c := .raw o) rfl hf (tk := tk)
  have nd := J.nd
  rw [List.map_cons, List.nodup_cons, List.nodup_cons] at nd
  refine ⟨⟨_, fp, St', rfl, W, st, hal, fun b hb => ?_, (J.ld _ List.mem_cons_self).2⟩, I.grow (sub_push _ _)⟩
  by_cases hb' : b = s.heap.objs.size
  · subst hb'
    exact ⟨fun q => nd.1 (by rw [← q]; exact List.mem_cons_self), fun p hp q => nd.2.1 (by
      have z := List.mem_map_of_mem (f := (·.1)) hp
      rw [q] at z; exact z)⟩
  · exact hfp b hb hb'
theorem iter_bytes {M : Model} {E : Value → Shared → Prop} {b : Array UInt8} {t : Tok} {Q : Value → Shared → Prop} (I : St w O g L s m led) (hM : M = Mw w)
    (h : ∀ it s', Iter w g L led b.size (fun i v => ∃ c u, b[i]? = some c ∧ v = .int (c.toNat : Int) u) it s' → St w O g L s' m led → Q it s') : wpC M A (pyIter (.bytes b t)) Q E s := by
  subst hM
  refine c_any (KBw.pyIter_bytes ?_)
  have y := Iter.new I [s.heap.objs.size] (fun b hb hn => absurd (List.mem_singleton.mp hb) hn) (fun A' hA => KBw.walks hA s.heap.objs.size b t) (o := { cls := .type "bytes_iterator", data := .fields #[.bytes b t, .int 0 0] }) rfl
    ⟨_, Heap.get?_push_size _ rfl, rfl, rfl⟩ (fun i h ⟨o, e, _⟩ b hb => ⟨o, by rw [List.mem_singleton.mp hb]; exact e⟩) (tk := s.toks)
  exact h _ _ y.1 y.2
theorem iter_str {M : Model} {E : Value → Shared → Prop} {x : Str} {t : Tok} {Q : Value → Shared → Prop} (I : St w O g L s m led) (hM : M = Mw w)
    (h : ∀ it s', Iter w g L led x.cps.size (SignAt x) it s' → St w O g L s' m led → Q it s') : wpC M A (pyIter (.str x t)) Q E s := by
  subst hM
  cases ha : x.cps.all (· < 128)
  · refine c_any (wpAny_pyIter_wide ha ?_)
    have y := Iter.new I [s.heap.objs.size] (fun b hb hn => absurd (List.mem_singleton.mp hb) hn) (fun A' hA => Walks.strWide hA s.heap.objs.size x t) (o := { cls := .type "str_iterator", data := .fields #[.str x t, .int 0 0] }) rfl
      ⟨_, Heap.get?_push_size _ rfl, rfl, rfl⟩ (fun i h ⟨o, e, _⟩ b hb => ⟨o, by rw [List.mem_singleton.mp hb]; exact e⟩) (tk := s.toks)
    exact h _ _ y.1 y.2
  · refine c_any (wpAny_pyIter_ascii ha ?_)
    have y := Iter.new I [s.heap.objs.size] (fun b hb hn => absurd (List.mem_singleton.mp hb) hn) (fun A' hA => Walks.strAscii hA s.heap.objs.size x t) (o := { cls := .type "str_ascii_iterator", data := .fields #[.str x t, .int 0 0] }) rfl
      ⟨_, Heap.get?_push_size _ rfl, rfl, rfl⟩ (fun i h ⟨o, e, _⟩ b hb => ⟨o, by rw [List.mem_singleton.mp hb]; exact e⟩) (tk := s.toks)
    exact h _ _ y.1 y.2
theorem iter_list {M : Model} {E : Value → Shared → Prop} {l : Addr} {xs : List Value} {Q : Value → Shared → Prop} (I : St w O g L s m led) (hM : M = Mw w) (hl : At s.heap l (.list xs)) (hL : l ≠ L) (hn : ∀ p ∈ led, p.1 ≠ l)
    (h : ∀ it s', Iter w g L led xs.length (fun i v => xs[i]? = some v) it s' → St w O g L s' m led → Q it s') : wpC M A (pyIter (.ref l)) Q E s := by
  subst hM
  refine c_any (wpAny_pyIter_list hl.isList ?_)
  have hne : l ≠ s.heap.objs.size := Nat.ne_of_lt hl.lt
  have y := Iter.new I [s.heap.objs.size, l] (fun b hb hn' => by
      rcases List.mem_cons.mp hb with q | q
      · exact absurd q hn'
      · rw [List.mem_singleton.mp q]; exact ⟨hL, hn⟩) (fun A' hA => Walks.list hA s.heap.objs.size l hne xs.toArray) (o := { cls := .type "list_iterator", data := .fields #[.ref l, .int 0 0] }) rfl
    ⟨⟨_, Heap.get?_push_size _ rfl, rfl, rfl⟩, hl.isList.push _⟩ (fun i h ⟨⟨o, e, _⟩, ⟨o', e', _⟩⟩ b hb => by
      rcases List.mem_cons.mp hb with q | q
      · exact ⟨o, q ▸ e⟩
      · rw [List.mem_singleton.mp q]; exact ⟨o', e'⟩) (tk := s.toks)
  refine h _ _ ?_ y.2
  simpa using y.1
/-- range(n), iterated -/
theorem call_range {M : Model} {E : Value → Shared → Prop} {n : Int} {t : Tok} {Q : Value → Shared → Prop} (I : St w O g L s m led) (hM : M = Mw w)
    (h : ∀ r u v s', IsRange s'.heap r 0 n 1 u t v → St w O g L s' m led → Q (.ref r) s') : wpC M A (call (.type "range") [.int n t]) Q E s := by
  subst hM
  refine c_any (callType_new F.called_range (by decide) (F.typeCall_range_1 _) (F.newCall_range_1 _) (fun obj => F.initArgs_range_1 obj _) F.entry_range_new (AutoRange.range___new___type_int_0 n t F.called_range.sub) ?_)
  exact ⟨⟨_, Heap.get?_push_size _ rfl, rfl⟩, h _ _ _ _ (Heap.get?_push_size _ rfl) (I.grow (sub_push _ _))⟩
theorem iter_range {M : Model} {E : Value → Shared → Prop} {r : Addr} {n : Nat} {u t v : Tok} {Q : Value → Shared → Prop} (I : St w O g L s m led) (hM : M = Mw w) (hr : IsRange s.heap r 0 (n : Int) 1 u t v) (hn : n < 1000000)
    (h : ∀ it s', Iter w g L led n (fun i v => ∃ t, v = .int (i : Int) t) it s' → St w O g L s' m led → Q it s') : wpC M A (pyIter (.ref r)) Q E s := by
  subst hM
  have hsz : Builtin.Range.rangeSize 0 (n : Int) 1 = (n : Int) := by
    unfold Builtin.Range.rangeSize
    simp
    omega
  refine c_any (wpAny_pyIter_range hr (by
    have f : ∀ i : Int, 0 ≤ i → i ≤ 2000000 → Builtin.Range.rangeFitsLong i = true := fun i h0 h1 => by
      unfold Builtin.Range.rangeFitsLong
      simp only [Bool.and_eq_true, decide_eq_true_eq]
      omega
    unfold Builtin.Range.small
    rw [hsz, f 0 (by omega) (by omega), f n (by omega) (by omega), f 1 (by omega) (by omega), if_pos (by omega : (1 : Int) > 0), f _ (by omega) (by omega)]
    simp) ?_)
  have y := Iter.new I [s.heap.objs.size] (fun b hb hn => absurd (List.mem_singleton.mp hb) hn) (fun A' hA => Walks.range hA s.heap.objs.size 0 1 n) (o := { cls := .type "range_iterator", data := .fields #[rawInt 0, rawInt (Builtin.Range.rangeSize 0 (n : Int) 1), rawInt 1] }) rfl
    (by show IsRangeIter _ _ _ _ _; rw [hsz]; simpa using Heap.get?_push_size _ rfl) (fun i h st b hb => by cases List.mem_singleton.mp hb; exact ⟨_, st⟩) (tk := s.toks)
  simp only [Int.zero_add, Int.mul_one] at y
  exact h _ _ y.1 y.2
end
end Mine
end
section
open PySem PySem.W PyProof.Rows PySem.Calls
set_option maxRecDepth 100000
set_option maxHeartbeats 4000000
namespace Mine
open PySem.Sem (wp)
open Builtin Builtin.ObjectAttr

/-- the tail of the order of search of the two classes of the text -/
noncomputable abbrev excTail : List Value := [.ref 31, .type "Exception", .type "BaseException", .type "object"]
/-- what is known of a class of the text that is raised -/
structure ExcC (w : World) (C : Addr) : Prop where
  obj : ∃ nm q N bs hdct sn sub ab col dd k0 k1 k2 k3 k5, hdct = true ∧ (Kf w).lookup C = some (excClassObj nm q C N bs excTail hdct sn sub ab col dd k0 k1 k2 k3 k5 "Exception.__new__")
  init : findIn (Kf w) (.ref C) (Str.ofString "__init__") = some (some (.ref 28))
  seta : findIn (Kf w) (.ref C) (Str.ofString "__setattr__") = some (some (.builtin "object.__setattr__"))
  mess : findIn (Kf w) (.ref C) (Str.ofString "message") = some none
theorem exc_misuse (w : World) : ExcC w 56 := ⟨⟨_, _, _, _, _, _, _, _, _, _, _, _, _, _, _, rfl, by with_unfolding_all rfl⟩, by with_unfolding_all rfl, by with_unfolding_all rfl, by with_unfolding_all rfl⟩
theorem exc_sql (w : World) : ExcC w 44 := ⟨⟨_, _, _, _, _, _, _, _, _, _, _, _, _, _, _, rfl, by with_unfolding_all rfl⟩, by with_unfolding_all rfl, by with_unfolding_all rfl, by with_unfolding_all rfl⟩

section
variable {h : Heap} {g : Array GenState} {d : Drawn} {t : Nat} {os : OsState}
variable {nm q : Str} {C N : Addr} {bs : List Value} {hdct : Bool} {sn : List Str} {sub : List Value} {ab : Bool} {col : Option Bool} {dd : Option Addr} {k0 k1 k2 k3 k5 : Option Value}
theorem check_newX {M : Model} {A : Around} {E : Value → Shared → Prop} {rest : List Value} {Q : Unit → Shared → Prop} (hC : h.get? C = some (excClassObj nm q C N bs excTail hdct sn sub ab col dd k0 k1 k2 k3 k5 "Exception.__new__"))
    (hq : Q () ⟨h, g, d, t, os⟩) : wpAny M A (checkBuiltinCall "Exception.__new__" ⟨.ref C :: rest, []⟩) Q E ⟨h, g, d, t, os⟩ := by
  have F := PySem.F.excBase_Exception
  have hcont : (Value.ref C :: excTail).contains (.type "Exception") = true := by simp
  have hstar := F.noStar
  simp only [checkBuiltinCall, F.newKind, F.newSplit, F.newRow]
  repeat (first | refine wpAny_loadPart_at hC ?_ | (refine wpAny_isSubtype_exc hC ?_; rw [hcont]) | refine wpAny_staticBase_exc hC ?_ | refine wpAny_madeBy_exc hC ?_ | simp only [bne_self_eq_false, Bool.false_eq_true, if_false] | wp_step)
  exact hq
theorem exc_newX {prog : Program} {w : World} {A : Around} {R : Result → Shared → Prop} {rest : List Value} (hC : h.get? C = some (excClassObj nm q C N bs excTail hdct sn sub ab col dd k0 k1 k2 k3 k5 "Exception.__new__"))
    (hq : R (.ok (.ret (.ref (h.objs.size + 1)))) ⟨(h.push { cls := .type "tuple", data := .seq rest.toArray }).push
      { cls := .ref C, data := .fields #[.ref h.objs.size, .none, .none, .none, .bool false, .none] }, g, d, t, os⟩) (hrest : rest.length ≤ sizeLine := by size_fits) :
    codeAny (model prog w) A (.builtin "Exception.__new__" ⟨.ref C :: rest, []⟩) R ⟨h, g, d, t, os⟩ := by
  have F := PySem.F.excBase_Exception
  have hends := F.ends
  have hcB : (Value.ref C :: excTail).contains (.type "Exception") = true := by simp
  have hcA : (Value.ref C :: excTail).contains (.type "AttributeError") = false := by simp
  have hcN : (Value.ref C :: excTail).contains (.type "NameError") = false := by simp
  refine PySem.codeAny_builtinAt F.entry ?_
  unfold Builtin.«BaseException.__new__»
  refine PySem.wpAt_bind ?_
  show PySem.wpAt _ _ _ (stack >>= _) _ _ _
  refine PySem.wpAt_bind (PySem.wpAt_stack fun p below => PySem.wpAt_of_wpAny ?_)
  wp_walk
  refine PySem.wpAt_of_wpAny ?_
  rw [F.owner]
  repeat (first | with_reducible refine wpAny_madeHere_exc F.canon hC ?_ | with_reducible refine wpAny_loadPart_at hC ?_ | (with_reducible refine wpAny_isSubtype_exc hC ?_; first | rw [hcB] | rw [hcA] | rw [hcN]) | wp_step)
  show R _ _
  rw [Heap.size_push]
  exact hq
theorem exc_callX {w : World} {A : Around} {E : Value → Shared → Prop} {rest : List Value} {fI : Addr} {oI : Obj} {Q : Value → Shared → Prop}
    (hC : h.get? C = some (excClassObj nm q C N bs excTail hdct sn sub ab col dd k0 k1 k2 k3 k5 "Exception.__new__")) (hi : Looks (Mw w) h (typeLookup (.ref C) (Str.ofString "__init__")) (some (.ref fI)))
    (hfI : h.get? fI = some oI) (hfc : oI.cls = .type "function")
    (hq : ∀ h' e, Heap.MadeExcOf h h' e (.ref C) rest →
      wpAny (Mw w) (A.under (.builtin "type.__call__" ⟨.ref C :: rest, []⟩)) (call (.ref fI) (.ref e :: rest)) (fun r s' => r = .none ∧ Q (.ref e) s') E ⟨h', g, d, t, os⟩) (hrest : rest.length ≤ sizeLine := by size_fits) :
    wpAny (Mw w) A (call (.ref C) rest) Q E ⟨h, g, d, t, os⟩ := by
  have F := PySem.F.excBase_Exception
  have f1 := tc_lookup
  have f2 := tc_bind (.ref C)
  have hT : (⟨h, g, d, t, os⟩ : Shared).TypeIs (.ref C) "type" := ⟨_, hC, rfl⟩
  refine wpAny_call (codeAny_of_tree ?_)
  show wpAny _ _ (callAny (.ref C) _) _ _ _
  repeat (any_goals (first | assumption | with_reducible refine wpAny_loadPart_at hC ?_ | wp_step))
  refine ⟨rfl, ?_⟩
  refine codeAny_call_builtin_at (Code.quiet_builtin _ (by decide +kernel)) entry_typeCall (wpAny_check_type_call_sub hC ?_)
  repeat (first | with_reducible refine wpAny_loadPart_at hC ?_ | with_reducible refine wpAny_madeBy_exc hC ?_ | wp_step)
  refine codeAny_call_builtin_code (Code.quiet_builtin _ F.quiet) (check_newX hC ?_)
  refine exc_newX hC ?_ hrest
  show wpAny _ _ _ _ _ _
  have hC₁ := Heap.get?_push_of_some { cls := .ref C, data := .fields #[.ref h.objs.size, .none, .none, .none, .bool false, .none] }
    (Heap.get?_push_of_some { cls := .type "tuple", data := .seq rest.toArray } hC)
  have hfI₁ := Heap.get?_push_of_some { cls := .ref C, data := .fields #[.ref h.objs.size, .none, .none, .none, .bool false, .none] }
    (Heap.get?_push_of_some { cls := .type "tuple", data := .seq rest.toArray } hfI)
  have hget : ((h.push { cls := .type "tuple", data := .seq rest.toArray }).push
      { cls := .ref C, data := .fields #[.ref h.objs.size, .none, .none, .none, .bool false, .none] }).get? (h.objs.size + 1) = some
      { cls := .ref C, data := .fields #[.ref h.objs.size, .none, .none, .none, .bool false, .none] } := by heap_get
  unfold isInstance
  repeat (first | with_reducible refine wpAny_loadPart_at hget ?_ | wp_step)
  refine wpAny_isSubtype_exc hC₁ ?_
  rw [show (Value.ref C :: excTail).contains (Value.ref C) = true by simp]
  repeat wp_step
  show wpAny _ _ (typeLookup (.ref C) _) _ _ _
  refine hi _ _ _ _ (fun b o e => Heap.get?_push_of_some _ (Heap.get?_push_of_some _ e)) ?_
  refine wpAny_holding (wpAny_bind ?_)
  unfold bindSpecial
  refine wpAny_bind (wpAny_typeOf (T := "function") ⟨_, hfI₁, hfc⟩ ?_)
  rw [if_pos (by decide)]
  refine wpAny_pure (wpAny_bind (wpAny_mono (hq _ (h.objs.size + 1) ⟨fun b o hb => Heap.get?_push_of_some _ (Heap.get?_push_of_some _ hb), Heap.get?_none_of_le (Nat.le_succ _), h.objs.size, hget, Heap.get?_none_of_le (Nat.le_refl _), ?_⟩) (fun r s' hr => ?_) fun _ _ x => x))
  · exact Heap.get?_push_of_some _ (Heap.get?_push_at rfl rfl)
  · obtain ⟨rfl, hQ⟩ := hr
    wp_walk
    exact hQ
end

section
variable {w : World} {A : Around} {E : Value → Shared → Prop} {C : Addr}
/-- self.message = v, on an exception just made -/
theorem exc_set {s : Shared} {x : Addr} {vs : Array Value} {v : Value} {Q : Unit → Shared → Prop} (Y : ExcC w C) (X : (Kf w).In s.heap) (hx : s.heap.get? x = some { cls := .ref C, data := .fields vs })
    (h : ∀ h' tk dx, (∀ b o, b ≠ x → s.heap.get? b = some o → h'.get? b = some o) → h'.get? x = some { cls := .ref C, dict := some dx, data := .fields vs } → Q () { s with heap := h', toks := tk }) :
    wpAny (Mw w) A (setAttr (.ref x) (Str.ofString "message") v) Q E s := by
  have I : InstAt s.heap x { cls := .ref C, data := .fields vs } C none := ⟨hx, rfl, rfl, trivial⟩
  refine set_plain X I Y.seta ?_
  have SF := PySem.F.store_Exception
  have SO := PySem.F.store_object
  obtain ⟨nm, q, N, bs, hdct, sn, sub, ab, col, dd, k0, k1, k2, k3, k5, hdt, hC⟩ := Y.obj
  subst hdt
  have hc : clsIn (Kf w) C = some { name := nm, bases := bs, mro := .ref C :: excTail, ns := N, qualname := q, hasDict := true, slotNames := sn, subclasses := sub, abstract := ab, collection := col, hasDel := false } := by unfold clsIn; rw [hC]
  have isO : Looks (Mw w) s.heap (isInstance (.ref x) (.type "object")) true := I.type.andThen (looks_mroIn X (by unfold mroIn; rw [hc, Option.bind_some, if_neg (by simp)]; simp))
  generalize hs : ({ s with toks := s.toks + 1 } : Shared) = s'
  have hh : s'.heap = s.heap := by rw [← hs]
  refine codeAny_call_builtin SO.slot.plain SO.entry (@check_slot (Mw w) _ _ s' "object.__setattr__" "object" "__setattr__" (.ref x) [_, v] [] _ SO.kind SO.split (by rw [hh]; exact isO) (SO.args (.ref x) _ v) ?_)
  subst hs
  have hm : Looks (Mw w) s.heap (mroOf (.ref C)) (.ref C :: excTail) := (looks_clsIn X hc).andThen .now
  rw [osa_eq, refuse_eq]
  refine wpAny_bind (wpAny_bind (I.type _ _ _ _ (fun _ _ e => e) (wpAny_bind (hm _ _ _ _ (fun _ _ e => e) ?_))))
  rw [refuseLoop_ref, refuseLoop_ref, SF.passes]
  refine wpAny_pure (wpAny_bind (I.type _ _ _ _ (fun _ _ e => e) (wpAny_bind (looks_findIn X Y.mess _ _ _ _ (fun _ _ e => e) (wpAny_bind (wpAny_pure ?_))))))
  dsimp only
  obtain ⟨hp, g, d, t, os⟩ := s
  dsimp only at hx X hm I ⊢
  refine wpAny_bind (wpAny_pure (wpAny_bind (wpAny_bind (wpAny_loadPart hx (wpAny_bind (looks_clsIn X hc _ _ _ _ (fun _ _ e => e) ?_))))))
  dsimp only
  rw [if_neg (by decide)]
  have hxs : x ≠ hp.objs.size := Nat.ne_of_lt (Heap.lt_size hx)
  have hx₁ := Heap.get?_push_of_some { cls := .type "dict", data := .dict #[] } hx
  refine wpAny_bind (wpAny_alloc' ?_)
  refine wpAny_bind (wpAny_update' hx₁ ?_)
  refine wpAny_pure ?_
  have hgd : ((hp.push { cls := .type "dict", data := .dict #[] }).update x fun o => { cls := o.cls, dict := some hp.objs.size, data := o.data, slots := o.slots }).get? hp.objs.size
      = some { cls := .type "dict", data := .dict #[] } :=
    (Heap.get?_update_ne _ _ _ _ hxs.symm).trans (Heap.get?_push_at rfl rfl)
  have hnd : ((hp.push { cls := .type "dict", data := .dict #[] }).update x fun o => { cls := o.cls, dict := some hp.objs.size, data := o.data, slots := o.slots }).Ns hp.objs.size (fun _ => none) :=
    ⟨_, #[], _, hgd, rfl, fun e he => absurd he (by simp), fun _ => rfl⟩
  refine wpAny_bind (wpAny_pure ?_)
  refine wpAny_bind (wpAny_nsSet1 (Heap.Ns1.of_empty hnd) fun h' hn' hs => ?_)
  obtain ⟨oD, esD, epD, hoD, hdD, hcD⟩ := hn'.count (Within.cons _ v Within.nil)
  refine wpAny_bind (wpAny_lookBehind hoD (by rw [hdD]; exact pastItsLine_dict (Nat.le_trans hcD (by rw [List.length_cons, List.length_nil, sizeLine_eq]; omega))) ?_)
  refine wpAny_pure (h h' _ hp.objs.size (fun b o n e => ?_) ?_)
  · exact (hs.2 b (Nat.ne_of_lt (Heap.lt_size e))).trans ((Heap.get?_update_ne _ _ _ _ n).trans (Heap.get?_push_of_some _ e))
  · exact (hs.2 x hxs).trans (Heap.get?_update_self _ hx₁ rfl)
end

section
variable {w : World} {A : Around} {E : Value → Shared → Prop} {C : Addr}
/-- the call of a def of the text that raises nothing -/
theorem a_enter {name : Str} {scope : Scope} {s : Shared} {qual : Str} {params : Arguments} {body : List Stmt} {dV kV doc pm cdv ct oc : Value} {an od : Option Addr} {osl : Array (Option Value)} {f : Addr} {args : List Value} {Q : Value → Shared → Prop} (rb : List (Str × Value))
    (hd : A.depth < 900) (X : Sta w s.heap)
    (ho : (Kf w).lookup f = some ⟨oc, od, .func (fnOf name qual params body scope dV kV doc pm an cdv ct), osl⟩) (hcd : codeIn (Kf w) cdv qual = true)
    (hbind : bindArgs (fnOf name qual params body scope dV kV doc pm an cdv ct) ⟨args, []⟩ = pure rb.reverse) (hloc : ∀ y ∈ rb.reverse, scope.names.lookup y.1 = some .local)
    (h : ∀ L h₁ tk, h₁.Ns L (fun y => rb.lookup y) → Sub s.heap h₁ → s.heap.get? L = none →
      wpAny (Mw w) (A.deeper (envOf qual scope L f cdv)) (execs body (envOf qual scope L f cdv)) (fun fl s' => Q (fv fl) s') (fun _ _ => False) { s with heap := h₁, toks := tk })
    (hco : scope.isCoroutine = false := by rfl) (hgen : scope.isGenerator = false := by rfl) (hfk : scope.kind = .function := by rfl)
    (hcell : ∀ x ∈ scope.names, x.2 ≠ .cell := by decide) : wpAny (Mw w) A (call (.ref f) args) Q E s := by
  refine wpAny_call (codeAny_of_tree ?_)
  show wpAny _ A.in1 (callAny (.ref f) ⟨args, []⟩) _ _ s
  simp only [callAny]
  refine wpAny_bind (wpAny_load (X.k _ _ ho) ?_)
  obtain ⟨c, oc', vs, tq, hc, hoc, hdc, hq⟩ := codeRec_of X.k hcd
  subst hc
  simp only [callFunction, hco, hgen]
  refine wpAny_bind (m := field (.ref c) 1) (wpAny_field hoc hdc hq ?_)
  rw [hbind]
  refine wpAny_bind (wpAny_pure (wpAny_bind (wpAny_pure ?_)))
  refine wpAny_bind (wpAny_newFunctionEnv hcell hloc (fun h₁ hns hsb => ?_) hfk)
  refine wpAny_bind (wpAny_enterFrame (X.lim.fresh _ hsb) (by show A.depth < 1000; omega) ?_)
  refine wpAny_pure ⟨rfl, ?_⟩
  have hsub : Sub s.heap h₁ := fun b o e => hsb.extBut b o (Nat.ne_of_lt (Heap.lt_size e)) (Heap.get?_push_of_some _ e)
  refine codeAny_of_tree ?_
  show wpAny _ (A.deeper _) (do point; match ← (execs body _).onRaise (leaving _) with | .ret v => ret v | _ => ret .none) _ _ _
  have hns' : h₁.Ns s.heap.objs.size (fun y => rb.lookup y) := by rw [List.reverse_reverse] at hns; exact hns
  refine wpAny_bind (wpAny_point (wpAny_bind (wpAny_onRaise (wpAny_mono (h _ h₁ _ hns' hsub (Heap.get?_none_of_le (Nat.le_refl _))) (fun f s' h' => ?_) fun e s' h' => h'.elim))))
  cases f <;> exact wpAny_pure h'

/-- MisuseError(msg), SqlError(msg) -/
theorem exc_make {s : Shared} {v : Value} {Q : Value → Shared → Prop} (Y : ExcC w C) (X : Sta w s.heap) (hd : A.depth < 800)
    (h : ∀ h' tk e t dx, Sub s.heap h' → s.heap.get? e = none → h'.get? e = some { cls := .ref C, dict := some dx, data := .fields #[.ref t, .none, .none, .none, .bool false, .none] } → Q (.ref e) { s with heap := h', toks := tk }) :
    wpAny (Mw w) A (call (.ref C) [v]) Q E s := by
  have Y' := Y
  obtain ⟨nm, q, N, bs, hdct, sn, sub, ab, col, dd, k0, k1, k2, k3, k5, hdt, hC⟩ := Y.obj
  have hf : ∃ o, (Kf w).lookup 28 = some o ∧ o.cls = .type "function" := ⟨_, by with_unfolding_all rfl, rfl⟩
  obtain ⟨oI, hI, hIc⟩ := hf
  have Xk := X.k
  have hL := looks_findIn (M := Mw w) Xk Y.init
  obtain ⟨hp, g, d, t, os⟩ := s
  dsimp only at *
  refine exc_callX (X.k _ _ hC) hL (X.k _ _ hI) hIc (fun h' e hm => ?_) (by size_fits)
  obtain ⟨ta, he, htn, ht⟩ := hm.there
  have X' : Sta w h' := X.sub hm.keeps
  refine a_enter [("message", v), ("self", .ref e)] (by show A.depth + (Code.builtin "type.__call__" _).weight < 900; rw [show (Code.builtin "type.__call__" ⟨[.ref C, v], []⟩).weight = 1 by rfl]; omega) X' (by with_unfolding_all rfl) (by with_unfolding_all rfl) (by with_unfolding_all rfl) ?_ ?_
  · intro y hy
    simp only [List.reverse_cons, List.reverse_nil, List.nil_append, List.cons_append, List.mem_cons, List.not_mem_nil, or_false] at hy
    rcases hy with rfl | rfl <;> with_unfolding_all rfl
  intro L h₁ tk hns hsub hnew
  rw [execs_cons]
  refine wpAny_bind (plainObj_wpAny_Assign_Attribute (wpAny_Name (wpAny_loadName_local rfl (by with_unfolding_all rfl) hns (by with_unfolding_all rfl) ?_) (by decide)) (by rfl))
  refine wpAny_Name (wpAny_loadName_local rfl (by with_unfolding_all rfl) hns (by with_unfolding_all rfl) ?_) (by decide)
  refine exc_set Y' (X'.sub hsub).k (hsub _ _ he) fun h₂ tk₂ dx hk₂ hx₂ => wpAny_pure ⟨rfl, h _ _ e ta dx (fun b o e' => hk₂ b o (fun q => ?_) (hsub _ _ (hm.keeps b o e'))) hm.new hx₂⟩
  subst q
  have := hm.new
  rw [e'] at this; cases this
end
end Mine
end
section
open PySem PySem.W PyProof.Rows PySem.Calls
set_option maxRecDepth 10000
namespace Mine
open PySem.Sem (wp)

section
variable {w : World} {O : OsState} {g : Heap} {L : Addr} {s : Shared} {m : Str → Option Value} {led : Led} {A : Around} {E : Value → Shared → Prop} {a b : Int} {t u : Tok} {Q : Value → Shared → Prop}

theorem o_add (I : St w O g L s m led) (h : ∀ t s', St w O g L s' m led → Q (.int (a + b) t) s') : wpC (Mw w) A (binaryOp .Add (.int a t) (.int b u)) Q E s := c_any (P.add_int (h _ _ (I.grow (Sub.refl _))))
theorem o_sub (I : St w O g L s m led) (h : ∀ t s', St w O g L s' m led → Q (.int (a - b) t) s') : wpC (Mw w) A (binaryOp .Sub (.int a t) (.int b u)) Q E s := c_any (P.sub_int (h _ _ (I.grow (Sub.refl _))))
theorem o_mul (I : St w O g L s m led) (hm : IntMulOk a b) (h : ∀ t s', St w O g L s' m led → Q (.int (a * b) t) s') : wpC (Mw w) A (binaryOp .Mult (.int a t) (.int b u)) Q E s := c_any (P.mul_int (h _ _ (I.grow (Sub.refl _))) hm)
theorem o_mod (I : St w O g L s m led) (hb : b ≠ 0) (h : ∀ t s', St w O g L s' m led → Q (.int (a.fmod b) t) s') : wpC (Mw w) A (binaryOp .Mod (.int a t) (.int b u)) Q E s := c_any (mod_int' hb (h _ _ (I.grow (Sub.refl _))))
theorem o_div (I : St w O g L s m led) (hb : b ≠ 0) (hb2 : b.natAbs < 1073741824) (h : ∀ t s', St w O g L s' m led → Q (.int (a.fdiv b) t) s') : wpC (Mw w) A (binaryOp .FloorDiv (.int a t) (.int b u)) Q E s := c_any (floordiv_int hb (h _ _ (I.grow (Sub.refl _))) (.inl (PyProof.noPylong_small hb2)))
theorem o_and (I : St w O g L s m led) (h : ∀ t s', St w O g L s' m led → Q (.int (Builtin.bitAnd a b) t) s') : wpC (Mw w) A (binaryOp .BitAnd (.int a t) (.int b u)) Q E s := c_any (and_int (h _ _ (I.grow (Sub.refl _))))
theorem o_or (I : St w O g L s m led) (h : ∀ t s', St w O g L s' m led → Q (.int (Builtin.bitOr a b) t) s') : wpC (Mw w) A (binaryOp .BitOr (.int a t) (.int b u)) Q E s := c_any (or_int (h _ _ (I.grow (Sub.refl _))))
theorem o_shr (I : St w O g L s m led) (hn : 0 ≤ b) (h : ∀ t s', St w O g L s' m led → Q (.int (a.fdiv (2 ^ b.toNat)) t) s') : wpC (Mw w) A (binaryOp .RShift (.int a t) (.int b u)) Q E s := c_any (rshift_int hn (h _ _ (I.grow (Sub.refl _))))
theorem o_pow (I : St w O g L s m led) (hn : 0 ≤ b) (hn2 : b ≤ 1000000) (ha : a.natAbs < 2 ^ 64) (h : ∀ t s', St w O g L s' m led → Q (.int (a ^ b.toNat) t) s') : wpC (Mw w) A (binaryOp .Pow (.int a t) (.int b u)) Q E s := c_any (pow_int_small hn hn2 ha (h _ _ (I.grow (Sub.refl _))))
theorem o_ishr (I : St w O g L s m led) (hn : 0 ≤ b) (h : ∀ t s', St w O g L s' m led → Q (.int (a.fdiv (2 ^ b.toNat)) t) s') : wpC (Mw w) A (inplaceOp .RShift (.int a t) (.int b u)) Q E s := c_any (irshift_int hn (h _ _ (I.grow (Sub.refl _))))
theorem o_isub (I : St w O g L s m led) (h : ∀ t s', St w O g L s' m led → Q (.int (a - b) t) s') : wpC (Mw w) A (inplaceOp .Sub (.int a t) (.int b u)) Q E s := c_any (P.isub_int (h _ _ (I.grow (Sub.refl _))))
theorem o_neg (I : St w O g L s m led) (h : ∀ t s', St w O g L s' m led → Q (.int (-a) t) s') : wpC (Mw w) A (unaryOp .USub (.int a t)) Q E s := c_any (P.neg_int (h _ _ (I.grow (Sub.refl _))))
theorem q_eq (h : Q (.bool (a == b)) s) : wpC (Mw w) A (compareOp .Eq (.int a t) (.int b u)) Q E s := c_any (P.eq_int h)
theorem q_ne (h : Q (.bool (a != b)) s) : wpC (Mw w) A (compareOp .NotEq (.int a t) (.int b u)) Q E s := c_any (P.ne_int h)
theorem q_lt (h : Q (.bool (decide (a < b))) s) : wpC (Mw w) A (compareOp .Lt (.int a t) (.int b u)) Q E s := c_any (P.lt_int h)
theorem q_le (h : Q (.bool (decide (a ≤ b))) s) : wpC (Mw w) A (compareOp .LtE (.int a t) (.int b u)) Q E s := c_any (P.le_int h)
theorem q_gt (h : Q (.bool (decide (a > b))) s) : wpC (Mw w) A (compareOp .Gt (.int a t) (.int b u)) Q E s := c_any (P.gt_int h)
theorem q_ge (h : Q (.bool (decide (a ≥ b))) s) : wpC (Mw w) A (compareOp .GtE (.int a t) (.int b u)) Q E s := c_any (P.ge_int h)
theorem q_eqs {x y : Str} (h : Q (.bool (x.cps.toList == y.cps.toList)) s) : wpC (Mw w) A (compareOp .Eq (.str x t) (.str y u)) Q E s := c_any (P.eq_str h)
theorem q_nes {x y : Str} (h : Q (.bool (x.cps.toList != y.cps.toList)) s) : wpC (Mw w) A (compareOp .NotEq (.str x t) (.str y u)) Q E s := c_any (P.ne_str h)
theorem q_neb {c d : Bool} (h : Q (.bool (c != d)) s) : wpC (Mw w) A (compareOp .NotEq (.bool c) (.bool d)) Q E s := c_any (ne_bool h)
theorem q_isnone {v : Value} (h : Q (.bool (v == .none)) s) : wpC (Mw w) A (compareOp .Is v .none) Q E s := c_any (PySem.is_none h)
theorem b_bool {M : Model} {c : Bool} {Q : Bool → Shared → Prop} (h : Q c s) : wpC M A (truthy (.bool c)) Q E s := c_any (wpAny_truthy_bool h)
theorem c_ord {c : Nat} (I : St w O g L s m led) (h : ∀ t s', St w O g L s' m led → Q (.int c t) s') : wpC (Mw w) A (call (.builtin "ord") [.str ⟨#[c]⟩ t]) Q E s := c_any (P.ord_of_char (h _ _ (I.grow (Sub.refl _))))
theorem c_chr (I : St w O g L s m led) (h0 : 0 ≤ a) (h1 : a ≤ 1114111) (h : ∀ t s', St w O g L s' m led → Q (.str ⟨#[a.toNat]⟩ t) s') : wpC (Mw w) A (call (.builtin "chr") [.int a t]) Q E s := c_any (chr_of_range h0 h1 (h _ _ (I.grow (Sub.refl _))))
theorem c_lens {x : Str} (I : St w O g L s m led) (hx : x.length < 1000000) (h : ∀ t s', St w O g L s' m led → Q (.int x.length t) s') : wpC (Mw w) A (call (.builtin "len") [.str x t]) Q E s := c_any (P.len_str (by omega) (h _ _ (I.grow (Sub.refl _))))
theorem c_lenb {x : Array UInt8} (I : St w O g L s m led) (hx : x.size < 1000000) (h : ∀ t s', St w O g L s' m led → Q (.int x.size t) s') : wpC (Mw w) A (call (.builtin "len") [.bytes x t]) Q E s := c_any (len_bytes (by omega) (h _ _ (I.grow (Sub.refl _))))
theorem c_lenl {l : Addr} {xs : List Value} (I : St w O g L s m led) (hl : At s.heap l (.list xs)) (hx : xs.length < 1000000) (h : ∀ t s', St w O g L s' m led → Q (.int xs.length t) s') : wpC (Mw w) A (call (.builtin "len") [.ref l]) Q E s :=
  c_any (call_len_list hl.isList (by rw [List.size_toArray]; omega) (by rw [List.size_toArray]; exact h _ _ (I.grow (Sub.refl _))))
theorem o_adds {x y : Str} (I : St w O g L s m led) (hx : x.length + y.length < 1000000) (h : ∀ t s', St w O g L s' m led → Q (.str (x ++ y) t) s') : wpC (Mw w) A (binaryOp .Add (.str x t) (.str y u)) Q E s :=
  c_any (PyProof.Rows.add_str (fun _ _ => h _ _ (I.grow (Sub.refl _))) (by rw [sizeLine_eq]; omega))
theorem o_addb {x y : Array UInt8} (I : St w O g L s m led) (hx : x.size + y.size < 1000000) (h : ∀ t s', St w O g L s' m led → Q (.bytes (x ++ y) t) s') : wpC (Mw w) A (binaryOp .Add (.bytes x t) (.bytes y u)) Q E s :=
  c_any (KBy.add_bytes (by omega) fun _ _ => h _ _ (I.grow (Sub.refl _)))
theorem q_eqb {x y : Array UInt8} (h : Q (.bool (x.toList == y.toList)) s) : wpC (Mw w) A (compareOp .Eq (.bytes x t) (.bytes y u)) Q E s := c_any (eq_bytes h)
end
end Mine
end
section
open PySem PySem.W PyProof.Rows PySem.Calls
set_option maxRecDepth 100000
namespace Mine
open PySem.Sem (wp)
section
variable {prog : Program} {w : World} {A : Around} {E : Value → Shared → Prop} {s : Shared} {Q : Value → Shared → Prop}

/-- a built-in's call: its check, its body -/
theorem codeC_builtin {id : String} {args : Args} {b : Builtin} {R : Result → Shared → Prop} (hq : plainId id = true) (hc : cleanId id = true) (hb : entryFor table id = some b)
    (h : wpC (model prog w) A.in1 (checkBuiltinCall id args) (fun _ s₁ => wpC (model prog w) A.in1 (b args)
      (fun fin s' => match fin with | .done f => R (.ok f) s' | .again c' => c'.quiet = true ∧ codeC (model prog w) A c' R s') (fun e s' => R (.error e) s') s₁)
      (fun e s' => R (.error e) s') s) : codeC (model prog w) A (.call (.builtin id) args) R s := by
  refine codeC_tree (cleanC_call _ _) ?_
  show wpC _ A.in1 (do checkBuiltinCall id args; again (.builtin id args)) _ _ s
  refine c_bind (c_monoQ h fun _ s₁ h₁ => c_pure ⟨plainId_quiet hq args, codeC_tree (cleanC_builtin args hc) ?_⟩)
  rw [Around.under_plainId hq]
  show wpC _ _ (match entryFor table id with | some b => b args | none => unsupported ((withoutEnding? id "#data").getD id)) _ _ s₁
  rw [hb]; exact h₁
theorem den_builtin {id : String} {args : Args} {b : Builtin} (hb : entryFor table id = some b) : (model prog w).den (.builtin id args) = b args := by
  show (match entryFor table id with | some b => b args | none => unsupported ((withoutEnding? id "#data").getD id)) = _
  rw [hb]
/-- a method's or a slot's call -/
theorem c_slot {T : String} {nm : Str} {id : String} {b : Builtin} {self : Value} {rest : List Value} (sl : Slot T nm id) (hc : cleanId id = true) (hb : entryFor table id = some b) (hT : s.TypeIs self T) (ha : argsOk id ⟨self :: rest, []⟩)
    (h : wpC (model prog w) A.in1 (b ⟨self :: rest, []⟩) (fun fin s' => ∃ v, fin = .done (.ret v) ∧ Q v s') E s) : wpC (model prog w) A (call (.builtin id) (self :: rest)) Q E s := by
  refine c_call (codeC_builtin sl.plain hc hb (c_any (sl.check _ _ _ _ _ _ _ _ hT ha ?_)))
  exact c_mono h (fun fin s' q => by obtain ⟨v, rfl, q⟩ := q; exact q) fun _ _ q => q

theorem c_type {T newId initId : String} {Bi : Builtin} {args : List Value} (ft : TypeCalled T newId initId) (hcl' : cleanId initId = true)
    (hct : checkTypeCall T ⟨args, []⟩ = pure ()) (entryI : entryFor table initId = some Bi)
    (h : ∀ A' : Around, A'.handled = A.handled → codeC (model prog w) A' (.call (.builtin newId) ⟨.type T :: args, []⟩) (Back (fun obj s₁ => s₁.TypeIs obj T ∧ argsOk initId ⟨obj :: args, []⟩ ∧
      wpC (model prog w) A'.in1 (Bi ⟨obj :: args, []⟩) (fun fin s₂ => fin = .done (.ret .none) ∧ Q obj s₂) E s₁) E) s) : wpC (model prog w) A (call (.type T) args) Q E s := by
  obtain ⟨c, tl, hmro⟩ := ft.mro
  have hmade := ft.made
  have hsub := ft.sub
  refine c_call (codeC_tree (cleanC_call _ _) ?_)
  show wpC _ _ (callAny (.type T) _) _ _ _
  refine c_pure ⟨Code.quiet_builtin _ (by decide +kernel), codeC_tree (cleanC_builtin _ (by decide +kernel)) ?_⟩
  rw [den_builtin F.entry_type_call]
  have h1 := ft.notType
  have h2 := ft.canCreate
  unfold Builtin.«type.__call__»
  simp only [h1, h2, Bool.false_eq_true, if_false, hct, pure_bind, hmro, List.isEmpty_cons, hmade]
  refine c_bind (c_holding (c_call (codeC_mono (h _ rfl) fun r s₁ q => ?_)))
  rcases r with e | fl
  · exact q
  cases fl with
  | ret obj =>
    obtain ⟨hT, hok, h'⟩ := q
    show wpC _ _ _ _ _ _
    refine c_bind (c_any (wpAny_isInstance hT hsub ?_))
    simp only [Bool.not_true, Bool.false_eq_true, if_false]
    refine c_bind (c_holding ?_)
    unfold callSpecial?
    refine c_bind (c_any (wpAny_specialOf hT ft.init.lookup ?_))
    simp only [ft.init.bind]
    refine c_holding (c_bind (c_pure (c_bind (c_call (codeC_builtin ft.init.plain hcl' entryI (c_any (ft.init.check _ _ _ _ _ _ _ _ hT hok ?_)))))))
    refine c_mono h' (fun fin s₂ q => ?_) fun _ _ q => q
    obtain ⟨rfl, q⟩ := q
    show wpC _ _ (pure (some Value.none)) _ _ _
    refine c_pure ?_
    show wpC _ _ (ret obj) _ _ _
    exact c_pure q
  | _ => exact q.elim
end

namespace BA
theorem mro : mroOf (.type "bytearray") = pure [.type "bytearray", .type "object"] := by rw [mroOf_type]; kernel_rfl
theorem lookup_new : typeLookup (.type "bytearray") "__new__" = pure (some (.builtin "bytearray.__new__")) := by rw [typeLookup_type, builtinLookup_eq_fast]; kernel_rfl
theorem sub : isSubtype (.type "bytearray") (.type "bytearray") = pure true := by rw [isSubtype_type]; kernel_rfl
theorem slot_init : Slot "bytearray" "__init__" "bytearray.__init__" :=
  .of (owner := "bytearray") (n := "__init__") (by rw [typeLookup_type, builtinLookup_eq_fast]; kernel_rfl) (by decide +kernel) (by decide +kernel) (by decide +kernel)
    (by first | exact .inl (by decide +kernel) | exact .inr (by decide +kernel)) (by rw [isSubtype_type]; kernel_rfl)
theorem slot_append : Slot "bytearray" "append" "bytearray.append" :=
  .of (owner := "bytearray") (n := "append") (by rw [typeLookup_type, builtinLookup_eq_fast]; kernel_rfl) (by decide +kernel) (by decide +kernel) (by decide +kernel)
    (by first | exact .inl (by decide +kernel) | exact .inr (by decide +kernel)) (by rw [isSubtype_type]; kernel_rfl)
theorem slot_extend : Slot "bytearray" "extend" "bytearray.extend" :=
  .of (owner := "bytearray") (n := "extend") (by rw [typeLookup_type, builtinLookup_eq_fast]; kernel_rfl) (by decide +kernel) (by decide +kernel) (by decide +kernel)
    (by first | exact .inl (by decide +kernel) | exact .inr (by decide +kernel)) (by rw [isSubtype_type]; kernel_rfl)
theorem called : TypeCalled "bytearray" "bytearray.__new__" "bytearray.__init__" :=
  ⟨by decide +kernel, by decide +kernel, ⟨_, _, mro⟩, madeBy_type mro lookup_new (by decide +kernel), by decide +kernel, sub, slot_init⟩
theorem typeCall : checkTypeCall "bytearray" ⟨[], []⟩ = pure () := by kernel_rfl
theorem newCall : checkBuiltinCall "bytearray.__new__" ⟨[.type "bytearray"], []⟩ = pure () := by kernel_rfl
theorem entry_new : entryFor table "bytearray.__new__" = some Builtin.«list.__new__» := entryFor_alias (id' := "list.__new__") (by kernel_rfl) rfl (by decide +kernel) (by kernel_rfl)
theorem plain_new : plainId "bytearray.__new__" = true := by decide +kernel
theorem entry_init : entryFor table "bytearray.__init__" = some Builtin.«bytearray.__init__» := by first | exact entryFor_of_fast (by kernel_rfl) | exact entryFor_of_tree (by kernel_rfl)
theorem entry_append : entryFor table "bytearray.append" = some Builtin.«bytearray.append» := by first | exact entryFor_of_fast (by kernel_rfl) | exact entryFor_of_tree (by kernel_rfl)
theorem entry_extend : entryFor table "bytearray.extend" = some Builtin.«bytearray.extend» := by first | exact entryFor_of_fast (by kernel_rfl) | exact entryFor_of_tree (by kernel_rfl)
theorem args_init (a : Value) : argsOk "bytearray.__init__" ⟨[a], []⟩ := by unfold argsOk; kernel_rfl
theorem args_append (a b : Value) : argsOk "bytearray.append" ⟨[a, b], []⟩ := by unfold argsOk; kernel_rfl
theorem args_extend (a b : Value) : argsOk "bytearray.extend" ⟨[a, b], []⟩ := by unfold argsOk; kernel_rfl
set_option maxRecDepth 1000000 in
set_option maxHeartbeats 4000000 in
theorem owner_new : ("bytearray.__new__".splitOn ".__new__").headD "" = "bytearray" := by simp +decide [String.splitOn, String.splitOnAux]
end BA
section
variable {prog : Program} {w : World} {A : Around} {E : Value → Shared → Prop} {s : Shared}
theorem code_ba_new {Q₁ : Value → Shared → Prop} (h : Q₁ (.ref s.heap.objs.size) { s with heap := s.heap.push { cls := .type "bytearray", data := .bytearray #[] } }) :
    codeAny (model prog w) A (.call (.builtin "bytearray.__new__") ⟨[.type "bytearray"], []⟩) (Back Q₁ E) s := by
  refine codeAny_of_tree ?_
  show wpAny _ A.in1 (do checkBuiltinCall "bytearray.__new__" ⟨[.type "bytearray"], []⟩; again (.builtin "bytearray.__new__" ⟨[.type "bytearray"], []⟩)) _ _ s
  refine wpAny_bind (wpAny_of_eq BA.newCall (wpAny_pure ⟨plainId_quiet BA.plain_new _, codeAny_builtin_stack BA.entry_new rfl fun p st => ?_⟩))
  rw [Around.under_plainId BA.plain_new _]
  have hsub := BA.sub
  have hown := BA.owner_new
  obtain ⟨hp, g, d, tk, os⟩ := s
  simp only [hown]
  wp_walk
  exact h
end
end Mine
end
section
open PySem PySem.W PyProof.Rows PySem.Calls
set_option maxRecDepth 100000
set_option linter.deprecated false
namespace Mine
open PySem.Sem (wp)
open PySem.Builtin (Bytes.write Bytes.payload Bytes.ownRelease Bytes.slotIsOwn Bytes.checkResize Bytes.exportsOf Bytes.exported Bytes.byteValue Bytes.bindOptional Bytes.checkCodecArg)

theorem At.baType {s : Shared} {a : Addr} {b : List UInt8} (x : At s.heap a (.ba b)) : s.TypeIs (.ref a) "bytearray" := by
  obtain ⟨o, e, rfl⟩ := x; exact ⟨_, e, rfl⟩
namespace BA
theorem look_release : typeLookup (.type "bytearray") "__release_buffer__" = pure (some (.builtin "bytearray.__release_buffer__")) := by rw [typeLookup_type, builtinLookup_eq_fast]; kernel_rfl
theorem look_buffer : typeLookup (.type "bytearray") "__buffer__" = pure (some (.builtin "bytearray.__buffer__")) := by rw [typeLookup_type, builtinLookup_eq_fast]; kernel_rfl
theorem bind0 : Bytes.bindOptional "bytearray.__init__" "bytearray" ["source", "encoding", "errors"] [] [] = pure [none, none, none] := by kernel_rfl
theorem init_parts (a : Addr) : ∃ (r1 : Bool → Sem PySem.Fin) (r2 : List (Option Value) → Sem PySem.Fin) (r3 : Bool → Sem PySem.Fin),
    Builtin.«bytearray.__init__» ⟨[.ref a], []⟩ = (Bytes.ownRelease (.ref a) >>= r1) ∧ r1 false = (Bytes.bindOptional "bytearray.__init__" "bytearray" ["source", "encoding", "errors"] [] [] >>= r2) ∧
    r2 [none, none, none] = ((Bytes.exported (.ref a) <||> (do return decide ((← Bytes.exportsOf (.ref a)) > 0))) >>= r3) ∧ r3 false = (Bytes.write (.ref a) (fun _ => #[]) >>= fun _ => PySem.ret .none) := ⟨_, _, _, rfl, rfl, rfl, rfl⟩
end BA
section
variable {M : Model} {A : Around} {E : Value → Shared → Prop} {s : Shared} {a : Addr} {b : List UInt8}
theorem a_release {Q : Bool → Shared → Prop} (x : At s.heap a (.ba b)) (h : Q false s) : wpAny M A (Bytes.ownRelease (.ref a)) Q E s := by
  have hT := x.baType
  unfold Bytes.ownRelease Bytes.slotIsOwn
  refine wpAny_bind (wpAny_bind (wpAny_specialOf hT BA.look_release ?_))
  show wpAny M A (if (!("bytearray.__release_buffer__" : String).endsWith ("." ++ "__release_buffer__")) = true then _ else _) _ _ s
  rw [if_neg (by decide +kernel)]
  have e : ("bytearray.__release_buffer__" : String).dropRight (("__release_buffer__" : String).length + 1) = "bytearray" := by decide +kernel
  rw [e]
  exact wpAny_isInstance hT BA.sub (wpAny_pure h)
theorem a_exportsOf {Q : Nat → Shared → Prop} (x : At s.heap a (.ba b)) (h : Q 0 s) : wpAny M A (Bytes.exportsOf (.ref a)) Q E s := by
  obtain ⟨o, e, rfl⟩ := x
  unfold Bytes.exportsOf
  refine wpAny_bind (wpAny_load e ?_)
  exact wpAny_pure h
theorem a_payload {Q : Array UInt8 → Shared → Prop} (x : At s.heap a (.ba b)) (h : Q b.toArray s) : wpAny M A (Bytes.payload (.ref a)) Q E s := by
  obtain ⟨o, e, rfl⟩ := x
  unfold Bytes.payload Builtin.Bytes.payload?
  refine wpAny_bind (wpAny_bind (wpAny_load e ?_))
  exact wpAny_pure (wpAny_pure h)
theorem c_checkResize {Q : Unit → Shared → Prop} (x : At s.heap a (.ba b)) (h : Q () s) : wpC M A (Bytes.checkResize (.ref a)) Q E s := by
  unfold Bytes.checkResize
  refine c_bind ?_
  show wpC M A (Bytes.exported (.ref a) >>= _) _ _ s
  refine c_bind (c_exported ?_)
  show wpC M A (Bytes.exportsOf (.ref a) >>= _) _ _ s
  refine c_bind (c_any (a_exportsOf x ?_))
  exact c_pure (c_pure h)
end
section
variable {w : World} {O : OsState} {g : Heap} {L a : Addr} {s : Shared} {m : Str → Option Value} {led led' : Led} {A : Around} {E : Value → Shared → Prop} {b b' : List UInt8}
theorem c_write {f : Array UInt8 → Array UInt8} {Q : Unit → Shared → Prop} (I : St w O g L s m led) (x : At s.heap a (.ba b)) (hf : f b.toArray = b'.toArray) (hz : b'.length ≤ 1000000) (r : Rep a (.ba b') led led')
    (h : ∀ s', St w O g L s' m led' → Q () s') : wpC (Mw w) A (Bytes.write (.ref a) f) Q E s := by
  obtain ⟨o, e, rfl⟩ := x
  unfold Bytes.write updateBytearray
  have hz' : b'.length ≤ sizeLine := by rw [sizeLine_eq]; omega
  have em : Obj.mapBytearray f { cls := .type "bytearray", dict := none, data := .bytearray b.toArray 0 } = { cls := .type "bytearray", dict := none, data := .bytearray b'.toArray 0 } := by
    show ({ cls := .type "bytearray", dict := none, data := .bytearray (f b.toArray) 0 } : Obj) = _
    rw [hf]
  have eu : (s.heap.update a (Obj.mapBytearray f)).get? a = some { cls := .type "bytearray", dict := none, data := .bytearray b'.toArray 0 } := by
    rw [Heap.get?_update_self _ e (by rfl), em]
  refine c_any (wpAny_bind (wpAny_load e (wpAny_bind (wpAny_update e (wpAny_lookBehind eu ?_ ?_)))))
  · show (if b'.toArray.size > sizeLine then _ else none) = none
    rw [if_neg (by rw [List.size_toArray]; omega)]
  · refine h _ (I.rep r (fun b₁ o₁ e₁ n₁ => ?_) ⟨_, eu, rfl⟩ I.gens I.os)
    show (s.heap.update a _).get? b₁ = _
    rw [Heap.get?_update_other _ _ (Ne.symm n₁)]; exact e₁
/-- bytearray() -/
theorem c_ba {Q : Value → Shared → Prop} (I : St w O g L s m led) (h : ∀ a s', St w O g L s' m ((a, .ba []) :: led) → Q (.ref a) s') : wpC (Mw w) A (call (.type "bytearray") []) Q E s := by
  refine c_type BA.called (by decide +kernel) BA.typeCall BA.entry_init fun A' hA => codeC_any (code_ba_new ?_)
  have J := I.push (o := { cls := .type "bytearray", data := .bytearray #[] }) (c := .ba []) rfl rfl (tk := s.toks)
  have x := J.at List.mem_cons_self
  refine ⟨x.baType, BA.args_init _, ?_⟩
  obtain ⟨r1, r2, r3, e1, e2, e3, e4⟩ := BA.init_parts s.heap.objs.size
  rw [e1]
  refine c_bind (c_any (a_release x ?_))
  rw [e2, BA.bind0]
  refine c_bind (c_pure ?_)
  rw [e3]
  refine c_bind (c_bind (c_exported (c_bind (c_any (a_exportsOf x (c_pure ?_))))))
  rw [show decide ((0 : Nat) > 0) = false from rfl, e4]
  exact c_bind (c_write J x (b' := []) rfl (by simp) .head fun s' J' => c_pure ⟨rfl, h _ _ J'⟩)
/-- append of an int from 0 to 255 -/
theorem c_append {i : Int} {t : Tok} {Q : Value → Shared → Prop} (I : St w O g L s m led) (x : At s.heap a (.ba b)) (h0 : 0 ≤ i) (h1 : i < 256) (hz : b.length < 1000000) (r : Rep a (.ba (b ++ [i.toNat.toUInt8])) led led')
    (h : ∀ s', St w O g L s' m led' → Q .none s') : wpC (Mw w) A (call (.builtin "bytearray.append") [.ref a, .int i t]) Q E s := by
  refine c_slot BA.slot_append (by decide +kernel) BA.entry_append x.baType (BA.args_append _ _) ?_
  unfold Builtin.«bytearray.append»
  show wpC _ _ (Bytes.byteValue (.int i t) >>= _) _ _ _
  have e : Bytes.byteValue (.int i t) = pure i.toNat.toUInt8 := by
    unfold Bytes.byteValue
    show (if (decide (i < 0) || decide (i ≥ 256)) = true then _ else _) = _
    rw [if_neg (by simp; omega)]
  rw [e]
  refine c_bind (c_pure (c_bind (c_checkResize x (c_bind (c_write I x (b' := b ++ [i.toNat.toUInt8]) (by simp) (by simp; omega) r fun s' I' => ?_)))))
  exact c_pure ⟨_, rfl, h _ I'⟩
theorem a_buffer {id : String} {full : Bool} {M : Model} {Q : Option (Array UInt8) → Shared → Prop} (x : At s.heap a (.ba b)) (h : Q (some b.toArray) s) : wpAny M A (Builtin.Bytes.buffer? id (.ref a) full) Q E s := by
  have hT := x.baType
  have eo : wpAny M A (Bytes.slotIsOwn (.ref a) "__buffer__") (fun r s' => r = true ∧ s' = s) E s := by
    unfold Bytes.slotIsOwn
    refine wpAny_bind (wpAny_specialOf hT BA.look_buffer ?_)
    show wpAny M A (if (!("bytearray.__buffer__" : String).endsWith ("." ++ "__buffer__")) = true then _ else _) _ _ s
    rw [if_neg (by decide +kernel)]
    have e : ("bytearray.__buffer__" : String).dropRight (("__buffer__" : String).length + 1) = "bytearray" := by decide +kernel
    rw [e]
    exact wpAny_isInstance hT BA.sub ⟨rfl, rfl⟩
  unfold Builtin.Bytes.buffer?
  refine wpAny_bind (wpAny_specialOf hT BA.look_buffer ?_)
  refine wpAny_bind (wpAny_mono eo (fun r s' q => ?_) fun _ _ q => q)
  obtain ⟨rfl, rfl⟩ := q
  simp only [Bool.not_true, Bool.false_eq_true, if_false]
  refine wpAny_bind (wpAny_specialOf hT BA.look_buffer ?_)
  show wpAny M A (Bytes.ownRelease (.ref a) >>= _) _ _ _
  refine wpAny_bind (a_release x ?_)
  simp only [Bool.false_eq_true, if_false]
  exact wpAny_bind (a_payload x (wpAny_pure h))
theorem a_take {M : Model} {id : String} {Q : Option (Array UInt8 × Option Value) → Shared → Prop} (x : At s.heap a (.ba b)) (h : Q (some (b.toArray, none)) s) : wpAny M A (Builtin.Bytes.takeBufferQuiet? id (.ref a) 0) Q E s := by
  have hT := x.baType
  have eo : ∀ {E' : Value → Shared → Prop}, wpAny M A (Bytes.slotIsOwn (.ref a) "__buffer__") (fun r s' => r = true ∧ s' = s) E' s := by
    intro E'
    unfold Bytes.slotIsOwn
    refine wpAny_bind (wpAny_specialOf hT BA.look_buffer ?_)
    show wpAny M A (if (!("bytearray.__buffer__" : String).endsWith ("." ++ "__buffer__")) = true then _ else _) _ _ s
    rw [if_neg (by decide +kernel)]
    have e : ("bytearray.__buffer__" : String).dropRight (("__buffer__" : String).length + 1) = "bytearray" := by decide +kernel
    rw [e]
    exact wpAny_isInstance hT BA.sub ⟨rfl, rfl⟩
  unfold Builtin.Bytes.takeBufferQuiet?
  refine wpAny_bind (wpAny_attempt ?_)
  unfold Builtin.Bytes.takeBuffer?
  refine wpAny_bind (wpAny_specialOf hT BA.look_buffer ?_)
  refine wpAny_bind (wpAny_mono eo (fun r s' q => ?_) fun _ _ q => q)
  obtain ⟨rfl, rfl⟩ := q
  simp only [Bool.not_true, Bool.false_eq_true, if_false]
  refine wpAny_bind (wpAny_specialOf hT BA.look_buffer ?_)
  show wpAny M A (Builtin.Bytes.buffer? id (.ref a) _ >>= _) _ _ _
  refine wpAny_bind (a_buffer x (wpAny_pure ?_))
  exact wpAny_pure h
theorem b_take {id : String} {c : Array UInt8} {t : Tok} : Builtin.Bytes.takeBufferQuiet? id (.bytes c t) 0 = pure (some (c, none)) := by
  unfold Builtin.Bytes.takeBufferQuiet? Builtin.Bytes.takeBuffer?
  rw [KBy.special_eq KBy.look_buffer, KBy.own_buffer]
  have e : (0 == Builtin.Bytes.fullReadOnly) = false := by decide
  have e2 : Builtin.Bytes.buffer? id (.bytes c t) false = pure (some c) := KBy.buffer_eq
  rw [e]
  simp only [pure_bind, e2]
  rfl
/-- extend by what a buffer holds -/
theorem c_extendR {v : Value} {more : List UInt8} {Q : Value → Shared → Prop} (I : St w O g L s m led) (x : At s.heap a (.ba b))
    (hsp : ∀ {A' : Around}, wpAny (Mw w) A' (specialOf v "__buffer__") (fun r s' => r.isSome = true ∧ s' = s) E s) (htk : ∀ {A' : Around}, wpAny (Mw w) A' (Builtin.Bytes.takeBufferQuiet? "bytearray.extend" v 0) (fun r s' => r = some (more.toArray, none) ∧ s' = s) E s)
    (hz : b.length + more.length < 1000000) (r : Rep a (.ba (b ++ more)) led led')
    (h : ∀ s', St w O g L s' m led' → Q .none s') : wpC (Mw w) A (call (.builtin "bytearray.extend") [.ref a, v]) Q E s := by
  refine c_slot BA.slot_extend (by decide +kernel) BA.entry_extend x.baType (BA.args_extend _ _) ?_
  unfold Builtin.«bytearray.extend»
  show wpC _ _ (specialOf v "__buffer__" >>= _) _ _ _
  refine c_bind (c_any (wpAny_mono hsp (fun rr s' q => ?_) fun _ _ q => q))
  obtain ⟨h1, rfl⟩ := q
  simp only [h1, if_true]
  refine c_bind (c_rule (c_bind (c_any (a_payload x (c_bind (c_any (wpAny_mono htk (fun rr s' q => ?_) fun _ _ q => q)))))))
  obtain ⟨rfl, rfl⟩ := q
  show wpC _ _ (do
    if !(more.toArray).isEmpty then Bytes.checkResize (.ref a)
    Bytes.write (.ref a) (· ++ more.toArray)
    PySem.ret .none) _ _ _
  have fin : wpC (Mw w) A.in1 (do Bytes.write (.ref a) (· ++ more.toArray); PySem.ret .none) (fun fin s' => ∃ v, fin = Fin.done (.ret v) ∧ Q v s') E s' :=
    c_bind (c_write I x (b' := b ++ more) (by simp) (by simp; omega) r fun s' I' => c_pure ⟨_, rfl, h _ I'⟩)
  cases hm : (!(more.toArray).isEmpty) with
  | false => simp only [Bool.false_eq_true, if_false]; exact fin
  | true =>
    simp only [if_true]
    exact c_bind (c_checkResize x fin)
theorem c_extend {c : Addr} {more : List UInt8} {Q : Value → Shared → Prop} (I : St w O g L s m led) (x : At s.heap a (.ba b)) (y : At s.heap c (.ba more)) (hz : b.length + more.length < 1000000) (r : Rep a (.ba (b ++ more)) led led')
    (h : ∀ s', St w O g L s' m led' → Q .none s') : wpC (Mw w) A (call (.builtin "bytearray.extend") [.ref a, .ref c]) Q E s :=
  c_extendR I x (wpAny_specialOf y.baType BA.look_buffer ⟨rfl, rfl⟩) (a_take y ⟨rfl, rfl⟩) hz r h
theorem c_extendB {more : List UInt8} {t : Tok} {Q : Value → Shared → Prop} (I : St w O g L s m led) (x : At s.heap a (.ba b)) (hz : b.length + more.length < 1000000) (r : Rep a (.ba (b ++ more)) led led')
    (h : ∀ s', St w O g L s' m led' → Q .none s') : wpC (Mw w) A (call (.builtin "bytearray.extend") [.ref a, .bytes more.toArray t]) Q E s :=
  c_extendR I x (wpAny_of_eq (KBy.special_eq KBy.look_buffer) ⟨rfl, rfl⟩) (wpAny_of_eq b_take ⟨rfl, rfl⟩) hz r h
end
end Mine
end
section
open PySem PySem.W PyProof.Rows PySem.Calls
set_option maxRecDepth 100000
set_option linter.deprecated false
namespace Mine
open PySem.Sem (wp)
namespace BA
theorem no_bytes : typeLookup (.type "bytearray") "__bytes__" = pure none := by rw [typeLookup_type, builtinLookup_eq_fast]; kernel_rfl
theorem ba_noindex : typeLookup (.type "bytearray") "__index__" = pure none := by rw [typeLookup_type, builtinLookup_eq_fast]; kernel_rfl
theorem int_bytes : typeLookup (.type "int") "__bytes__" = pure none := by rw [typeLookup_type, builtinLookup_eq_fast]; kernel_rfl
end BA
section
variable {prog : Program} {w : World} {A : Around} {E : Value → Shared → Prop} {s : Shared} {a : Addr} {b : List UInt8}
theorem new_bytes_ba {Q : Value → Shared → Prop} (x : At s.heap a (.ba b)) (hz : b.length ≤ 1000000) (h : ∀ t, Q (.bytes b.toArray t) { s with toks := s.toks + 1 }) :
    codeAny (model prog w) A (.call (.builtin "bytes.__new__") ⟨[.type "bytes", .ref a], []⟩) (wants Q E) s := by
  refine codeAny_of_tree ?_
  show wpAny _ A.in1 (do checkBuiltinCall "bytes.__new__" ⟨[.type "bytes", .ref a], []⟩; again (.builtin "bytes.__new__" ⟨[.type "bytes", .ref a], []⟩)) _ _ s
  refine wpAny_bind (wpAny_of_eq (F.bm_newCall _) (wpAny_pure ⟨plainId_quiet F.bm_plain _, codeAny_builtin F.bm_entry ?_⟩))
  rw [Around.under_plainId F.bm_plain _]
  have hT := x.baType
  obtain ⟨o, e, rfl⟩ := id x
  unfold Builtin.«bytes.__new__»
  refine wpAny_bind (wpAny_of_eq (a := true) rfl ?_)
  refine bm_if_false rfl ?_
  refine wpAny_bind (wpAny_of_eq F.bm_sub ?_)
  refine bm_if_false rfl ?_
  refine wpAny_bind (wpAny_of_eq (F.bm_bind _) ?_)
  refine wpAny_bind (wpAny_of_eq (a := ()) rfl ?_)
  refine wpAny_bind (wpAny_of_eq (a := ()) rfl ?_)
  refine bm_if_false rfl ?_
  refine wpAny_bind (wpAny_specialOf hT BA.no_bytes ?_)
  refine wpAny_bind (wpAny_bind ?_)
  show wpAny _ _ (load a >>= _) _ _ _
  refine wpAny_bind (wpAny_load e ?_)
  refine wpAny_pure (wpAny_pure ?_)
  refine bm_if_false rfl ?_
  refine wpAny_bind (wpAny_specialOf hT BA.ba_noindex ?_)
  refine bm_if_true rfl ?_
  first
    | show wpAny _ _ (Builtin.Bytes.buffer? "bytes.__new__" (.ref a) true >>= _) _ _ _
    | (refine wpAny_bind ?_; show wpAny _ _ (Builtin.Bytes.buffer? "bytes.__new__" (.ref a) true >>= _) _ _ _)
  refine wpAny_bind (a_buffer x ?_)
  refine wpAny_bind (wpAny_rule ?_)
  refine wpAny_bind (wpAny_mkBytes ?_ (by rw [sizeLine_eq, List.size_toArray]; omega))
  first
    | exact wpAny_pure (h _)
    | exact wpAny_bind (wpAny_pure (h _))
    | exact wpAny_pure (wpAny_pure (h _))
theorem new_bytes_int {i : Int} {t : Tok} {Q : Value → Shared → Prop} (h0 : 0 ≤ i) (hz : i ≤ 1000000) (h : ∀ t, Q (.bytes (Array.replicate i.toNat 0) t) { s with toks := s.toks + 1 }) :
    codeAny (model prog w) A (.call (.builtin "bytes.__new__") ⟨[.type "bytes", .int i t], []⟩) (wants Q E) s := by
  refine codeAny_of_tree ?_
  show wpAny _ A.in1 (do checkBuiltinCall "bytes.__new__" ⟨[.type "bytes", .int i t], []⟩; again (.builtin "bytes.__new__" ⟨[.type "bytes", .int i t], []⟩)) _ _ s
  refine wpAny_bind (wpAny_of_eq (F.bm_newCall _) (wpAny_pure ⟨plainId_quiet F.bm_plain _, codeAny_builtin F.bm_entry ?_⟩))
  rw [Around.under_plainId F.bm_plain _]
  have hT := typeIs_int s i t
  unfold Builtin.«bytes.__new__»
  refine wpAny_bind (wpAny_of_eq (a := true) rfl ?_)
  refine bm_if_false rfl ?_
  refine wpAny_bind (wpAny_of_eq F.bm_sub ?_)
  refine bm_if_false rfl ?_
  refine wpAny_bind (wpAny_of_eq (F.bm_bind _) ?_)
  refine wpAny_bind (wpAny_of_eq (a := ()) rfl ?_)
  refine wpAny_bind (wpAny_of_eq (a := ()) rfl ?_)
  refine bm_if_false rfl ?_
  refine wpAny_bind (wpAny_specialOf hT BA.int_bytes ?_)
  refine wpAny_bind (wpAny_of_eq (a := false) rfl ?_)
  refine bm_if_false rfl ?_
  refine wpAny_bind (wpAny_specialOf hT F.slot_int_index.lookup ?_)
  refine bm_if_false rfl ?_
  refine wpAny_bind (wpAny_attempt (wpAny_of_eq (a := i) rfl ?_))
  dsimp only
  refine bm_if_false (by simp [Builtin.Bytes.fitsIndex]; omega) ?_
  split
  · omega
  split
  · omega
  refine bm_if_false (by simp [Builtin.Bytes.tooLong, sizeLine_eq]; omega) ?_
  refine wpAny_bind (wpAny_rule ?_)
  refine wpAny_bind (wpAny_mkBytes ?_ (by rw [sizeLine_eq, Array.size_replicate]; omega))
  exact wpAny_pure (h _)
theorem call_bytes_of {v : Value} {Q : Value → Shared → Prop}
    (h : ∀ {A' : Around}, codeAny (model prog w) A' (.call (.builtin "bytes.__new__") ⟨[.type "bytes", v], []⟩) (wants (fun obj s₁ => s₁.TypeIs obj "bytes" ∧ Q obj s₁) E) s) : wpAny (model prog w) A (call (.type "bytes") [v]) Q E s := by
  refine callType_codes (Q₁ := fun obj s₁ => s₁.TypeIs obj "bytes" ∧ Q obj s₁) F.bm_called (F.bm_typeCall _) F.entry_object_init h fun obj s₁ h₁ => ?_
  exact ⟨h₁.1, F.args_object_init_2 obj _, object_init_meets F.bm_called.init.lookup F.bm_called.made (by decide) prog w A.in1 _ s₁ ⟨h₁.1, rfl, h₁.2⟩⟩
end
end Mine
end
section
open PySem PySem.W PyProof.Rows PySem.Calls
set_option maxRecDepth 10000
namespace Mine
open PySem.Sem (wp)
section
variable {w : World} {O : OsState} {g : Heap} {L l : Addr} {s : Shared} {m : Str → Option Value} {led led' : Led} {A : Around} {E : Value → Shared → Prop} {i : Int} {t u : Tok} {Q : Value → Shared → Prop} {xs : List Value}

-- items
theorem gip {M : Model} {T id : String} {o : Value} {Q : Bool → Shared → Prop} (hT : s.TypeIs o T) (sl : Slot T "__getitem__" id) (h : Q false s) : wpC M A (getitemInPython o) Q E s := by
  unfold getitemInPython
  exact c_bind (c_any (wpAny_specialOf hT sl.lookup (c_pure h)))
theorem sub_of {M : Model} {T id : String} {o iv : Value} {v : PySem.Expr} (hT : s.TypeIs o T) (sl : Slot T "__getitem__" id) (h : wpC M A (getItem o iv) (fun r s₄ => wpC M A (letTemporaryGo v o r) (fun _ s₅ => Q r s₅) E s₄) E s) :
    wpC M A (getitemInPython o) (fun b s₃ => b = false ∧ wpC M A (getItem o iv) (fun r s₄ => wpC M A (letTemporaryGo v o r) (fun _ s₅ => Q r s₅) E s₄) E s₃) E s := gip hT sl ⟨rfl, h⟩
theorem lt_pure {M : Model} {v : PySem.Expr} {o r : Value} {Q : Unit → Shared → Prop} (e : letTemporaryGo v o r = pure ()) (h : Q () s) : wpC M A (letTemporaryGo v o r) Q E s := c_eq e (c_pure h)
/-- xs[i] of a list -/
theorem sub_list {v : PySem.Expr} {x : Value} (hl : s.heap.IsList l xs.toArray) (h0 : 0 ≤ i) (h1 : i < 1000000) (hx : xs[i.toNat]? = some x) (hg : letTemporaryGo v (.ref l) x = pure ()) (h : Q x s) :
    wpC (Mw w) A (getitemInPython (.ref l)) (fun b s₃ => b = false ∧ wpC (Mw w) A (getItem (.ref l) (.int i t)) (fun r s₄ => wpC (Mw w) A (letTemporaryGo v (.ref l) r) (fun _ s₅ => Q r s₅) E s₄) E s₃) E s :=
  sub_of hl.typeIs PySem.slot_list_getitem (c_any (wpAny_getItem_list hl h0 (by omega) (by simpa using hx) (lt_pure hg h)))
theorem sub_bytes {v : PySem.Expr} {b : List UInt8} (I : St w O g L s m led) (hz : b.length < 1000000) (h0 : 0 ≤ i) (h1 : i < b.length) (h : ∀ u s', St w O g L s' m led → Q (.int (b.getD i.toNat 0).toNat u) s')
    (hg : ∀ r, letTemporaryGo v (.bytes b.toArray t) r = pure () := by intro _; with_unfolding_all rfl) :
    wpC (Mw w) A (getitemInPython (.bytes b.toArray t)) (fun c s₃ => c = false ∧ wpC (Mw w) A (getItem (.bytes b.toArray t) (.int i u)) (fun r s₄ => wpC (Mw w) A (letTemporaryGo v (.bytes b.toArray t) r) (fun _ s₅ => Q r s₅) E s₄) E s₃) E s :=
  sub_of (typeIs_bytes _ _ _) FB.slot_bytes_getitem (c_any (getItem_bytes (by omega) h0 h1 (lt_pure (hg _) (h _ _ (I.grow (Sub.refl _))))))
theorem sub_str {v : PySem.Expr} {x : Str} {c : Nat} (I : St w O g L s m led) (h0 : 0 ≤ i) (h1 : i < 1000000) (hx : x.cps[i.toNat]? = some c) (h : ∀ u s', St w O g L s' m led → Q (.str ⟨#[c]⟩ u) s')
    (hg : ∀ r, letTemporaryGo v (.str x t) r = pure () := by intro _; with_unfolding_all rfl) :
    wpC (Mw w) A (getitemInPython (.str x t)) (fun c s₃ => c = false ∧ wpC (Mw w) A (getItem (.str x t) (.int i u)) (fun r s₄ => wpC (Mw w) A (letTemporaryGo v (.str x t) r) (fun _ s₅ => Q r s₅) E s₄) E s₃) E s := by
  refine sub_of (typeIs_str _ _ _) F.slot_str_getitem (c_any (P.getItem_str (c := c) ?_ ?_ (lt_pure (hg _) (h _ _ (I.grow (Sub.refl _))))))
  · rw [decide_eq_false (by omega), decide_eq_false (by omega)]; rfl
  · have hlt : i.toNat < x.cps.size := by
      rcases Nat.lt_or_ge i.toNat x.cps.size with q | q
      · exact q
      · rw [Array.getElem?_eq_none q] at hx; cases hx
    have : seqIndex? i x.length = some i.toNat := by
      have hn : ¬ i < 0 := by omega
      have hh : i < (x.length : Int) := by unfold Str.length; omega
      simp [seqIndex?, hn, h0, hh]
    rw [this]; exact hx
theorem mk_slice {M : Model} {lv uv : Value} (I : St w O g L s m led) (h : ∀ a s', s'.heap.IsSliceOf a lv uv .none → St w O g L s' m led → Q (.ref a) s') : wpC M A (newFields "slice" [lv, uv, .none]) Q E s := by
  refine c_any (wpAny_newObj_type (h _ _ (Heap.IsSliceOf.new _ _ _ _) (I.grow (sub_push _ _))))
theorem sub_bslice {v : PySem.Expr} {b : List UInt8} {a : Addr} {lv uv : Value} {lo hi : Option Int} (I : St w O g L s m led) (hl : IsPart lv lo) (hu : IsPart uv hi) (hs : s.heap.IsSliceOf a lv uv .none) (hz : b.length < 1000000)
    (h : ∀ u s', St w O g L s' m led → Q (.bytes ((b.drop (lo.elim 0 (clipAt b.length))).take (hi.elim b.length (clipAt b.length) - lo.elim 0 (clipAt b.length))).toArray u) s')
    (hg : ∀ r, letTemporaryGo v (.bytes b.toArray t) r = pure () := by intro _; with_unfolding_all rfl) :
    wpC (Mw w) A (getitemInPython (.bytes b.toArray t)) (fun c s₃ => c = false ∧ wpC (Mw w) A (getItem (.bytes b.toArray t) (.ref a)) (fun r s₄ => wpC (Mw w) A (letTemporaryGo v (.bytes b.toArray t) r) (fun _ s₅ => Q r s₅) E s₄) E s₃) E s := by
  have e := KBc.picked_eq b.toArray lo hi
  rw [List.size_toArray] at e
  refine sub_of (typeIs_bytes _ _ _) FB.slot_bytes_getitem (c_any (getItem_meets (typeIs_bytes _ _ _) (by decide) FB.slot_bytes_getitem FB.entry_bytes_getitem (FB.args_bytes_getitem_2 _ _) (KBc.meets_slice2 b.toArray t a hl hu)
    ⟨hs, Nat.le_trans (KBc.size_picked_le _ lo hi) (by rw [List.size_toArray, sizeLine_eq]; omega), fun t' k => lt_pure (hg _) ?_⟩))
  rw [e]
  exact h _ _ (I.grow (Sub.refl _))
/-- a text cut -/
theorem slice_pick {x : Str} {lo hi : Option Int} {a b : Nat} (e : Builtin.Str.strSliceIndices lo hi 1 x.length = (List.range (b - a)).map (fun k => a + k)) (hab : a ≤ b) (hb : b ≤ x.length) : Txt.slice x lo hi = ⟨((x.cps.toList.drop a).take (b - a)).toArray⟩ := by
  have e2 := StrLaws.sliced_plain x hab hb
  rw [StrLaws.strSliceIndices_plain hab hb, ← e] at e2
  unfold Txt.slice
  split
  · rename_i hc
    rw [e] at hc
    simp only [beq_self_eq_true, Bool.true_and, List.length_map, List.length_range, beq_iff_eq] at hc
    have ha : a = 0 := by omega
    subst ha
    have : x.cps.toList.length ≤ b - 0 := by simp [Str.length] at hc ⊢; omega
    rw [List.drop_zero, List.take_of_length_le this]
  · rw [e2]
theorem slice_to {x : Str} {n : Nat} (h : n ≤ x.length) : Txt.slice x none (some (n : Int)) = ⟨(x.cps.toList.take n).toArray⟩ := by
  have e : Builtin.Str.strSliceIndices none (some (n : Int)) 1 x.length = Builtin.Str.strSliceIndices (some ((0 : Nat) : Int)) (some (n : Int)) 1 x.length := by
    simp only [Builtin.Str.strSliceIndices]
    have h1 : ¬ (((0 : Nat) : Int) < 0) := by omega
    simp only [h1, if_false, show ((1 : Int) > 0) = True from by simp, if_true]
    congr 1
  rw [slice_pick (a := 0) (e.trans (StrLaws.strSliceIndices_plain (Nat.zero_le _) h)) (Nat.zero_le _) h]
  simp
theorem slice_last {x : Str} : Txt.slice x (some (-1)) none = ⟨(x.cps.toList.drop (x.length - 1)).toArray⟩ := by
  have e : Builtin.Str.strSliceIndices (some (-1)) none 1 x.length = Builtin.Str.strSliceIndices (some ((x.length - 1 : Nat) : Int)) (some ((x.length : Nat) : Int)) 1 x.length := by
    simp only [Builtin.Str.strSliceIndices]
    have h1 : ((-1 : Int) < 0) := by decide
    have h2 : ¬ (((x.length - 1 : Nat) : Int) < 0) := by omega
    have h3 : ¬ (((x.length : Nat) : Int) < 0) := by omega
    simp only [h1, h2, h3, if_true, if_false, show ((1 : Int) > 0) = True from by simp]
    congr 1 <;> omega
  rw [slice_pick (a := x.length - 1) (b := x.length) (e.trans (StrLaws.strSliceIndices_plain (by omega) (Nat.le_refl _))) (by omega) (Nat.le_refl _)]
  congr 2
  refine List.take_of_length_le ?_
  simp [Str.length]
theorem sub_sslice {v : PySem.Expr} {x : Str} {a : Addr} {lv uv : Option (Int × Tok)} (I : St w O g L s m led) (hs : s.heap.IsSliceOf a (lv.elim .none fun p => .int p.1 p.2) (uv.elim .none fun p => .int p.1 p.2) .none) (hz : x.length < 1000000)
    (h : ∀ u s', St w O g L s' m led → Q (.str (Txt.slice x (lv.map (·.1)) (uv.map (·.1))) u) s')
    (hg : ∀ r, letTemporaryGo v (.str x t) r = pure () := by intro _; with_unfolding_all rfl) :
    wpC (Mw w) A (getitemInPython (.str x t)) (fun c s₃ => c = false ∧ wpC (Mw w) A (getItem (.str x t) (.ref a)) (fun r s₄ => wpC (Mw w) A (letTemporaryGo v (.str x t) r) (fun _ s₅ => Q r s₅) E s₄) E s₃) E s := by
  refine sub_of (typeIs_str _ _ _) F.slot_str_getitem (c_any (wpAny_getItem_str_slice (l := lv) (u := uv) (st := none) ?_ rfl (post_val_or_str ⟨?_, fun t' k => lt_pure (hg _) ?_⟩)))
  · obtain ⟨o, e, c, d⟩ := hs
    exact ⟨o, e, c, by cases lv <;> cases uv <;> exact d⟩
  · exact Nat.le_trans (Txt.slice_le x _ _) (by rw [sizeLine_eq]; omega)
  · exact h _ _ (I.grow (Sub.refl _))
/-- f(x)[i] of a tuple that a call has given -/
theorem sub_tupT {v : PySem.Expr} {x : Value} {j : Nat} (I : St w O g L s m led) (hl : IsTup s.heap l xs.toArray) (h0 : 0 ≤ i) (h1 : i < 1000000) (hj : i.toNat = j) (hx : xs[j]? = some x)
    (h : ∀ s', St w O g L s' m led → Q x s') (hg : ∀ r, letTemporaryGo v (.ref l) r = (do let _ ← holding [r] (runValue (.builtin "proto.let_go" {}))) := by intro _; rfl) :
    wpC (Mw w) A (getitemInPython (.ref l)) (fun b s₃ => b = false ∧ wpC (Mw w) A (getItem (.ref l) (.int i t)) (fun r s₄ => wpC (Mw w) A (letTemporaryGo v (.ref l) r) (fun _ s₅ => Q r s₅) E s₄) E s₃) E s := by
  refine sub_of hl.typeIs PyProof.Rows.slot_tuple_getitem (c_any (getItem_tuple hl (by omega) (by omega) (j := j) ?_ (by simpa using hx) ?_))
  · have hlt : j < xs.length := by
      rcases Nat.lt_or_ge j xs.length with q | q
      · exact q
      · rw [List.getElem?_eq_none q] at hx; cases hx
    have hn : ¬ i < 0 := by omega
    have hh : i < (xs.length : Int) := by omega
    subst hj
    simp [seqIndex?, hn, h0, hh]
  · rw [hg]
    refine c_bind (c_holding (c_runValue (codeC_any (codeAny_builtin entry_let_go ?_))))
    exact wpAny_pure (c_pure (h _ I))
end
end Mine
end
section
open PySem PySem.W PyProof.Rows PySem.Calls
set_option maxRecDepth 10000
namespace Mine
open PySem.Sem (wp)
section
variable {w : World} {O : OsState} {g : Heap} {L l : Addr} {s : Shared} {m : Str → Option Value} {led led' : Led} {A : Around} {E : Value → Shared → Prop} {i : Int} {t u : Tok} {Q : Value → Shared → Prop} {xs : List Value}

theorem n_list {M : Model} {vs : List Value} (I : St w O g L s m led) (hz : vs.length < 1000000) (h : ∀ a s', St w O g L s' m ((a, .list vs) :: led) → Q (.ref a) s') : wpC M A (newList vs) Q E s := by
  refine c_any (wpAny_newObj_type (h _ _ (I.push (c := .list vs) ⟨0, rfl⟩ rfl)) ?_)
  show vs.toArray.size ≤ sizeLine
  rw [List.size_toArray, sizeLine_eq]; omega
theorem n_tup {M : Model} {vs : List Value} (I : St w O g L s m led) (hz : vs.length < 1000000) (h : ∀ a s', St w O g L s' m ((a, .tup vs) :: led) → Q (.ref a) s') : wpC M A (newTuple vs) Q E s := by
  refine c_any (wpAny_newObj_type (h _ _ (I.push (c := .tup vs) ⟨0, rfl⟩ rfl)) ?_)
  show vs.toArray.size ≤ sizeLine
  rw [List.size_toArray, sizeLine_eq]; omega
theorem c_lappend {x : Value} (I : St w O g L s m led) (y : At s.heap l (.list xs)) (hz : xs.length < 1000000) (r : Rep l (.list (xs ++ [x])) led led') (h : ∀ s', St w O g L s' m led' → Q .none s') : wpC (Mw w) A (call (.builtin "list.append") [.ref l, x]) Q E s := by
  refine c_any (wpAny_list_append_plain y.plain (fun h' hl' hs => h _ (I.rep r (fun b o e n => (hs.2 b n).trans e) (At.ofPlain ?_) I.gens I.os)) (by rw [List.size_toArray, sizeLine_eq]; omega))
  simpa using hl'
theorem c_lreverse (I : St w O g L s m led) (y : At s.heap l (.list xs)) (hz : xs.length < 1000000) (r : Rep l (.list xs.reverse) led led') (h : ∀ s', St w O g L s' m led' → Q .none s') : wpC (Mw w) A (call (.builtin "list.reverse") [.ref l]) Q E s := by
  refine c_slot F.slot_list_reverse (by decide +kernel) F.entry_list_reverse y.isList.typeIs (F.args_list_reverse_1 _) ?_
  obtain ⟨n, e⟩ := y.plain
  show wpC _ _ (updateSeq l (·.reverse) >>= fun _ => ret .none) _ _ _
  refine c_bind (c_any (wpAny_updateSeq e rfl (c_pure ⟨_, rfl, h _ (I.rep r (fun b o e' n' => ?_) (At.ofPlain ⟨n, ?_⟩) I.gens I.os)⟩) (hz := by rw [List.size_toArray, sizeLine_eq]; omega) (_hz' := by rw [Array.size_reverse, List.size_toArray, sizeLine_eq]; omega)))
  · show (s.heap.update l _).get? b = _
    rw [Heap.get?_update_other _ _ (Ne.symm n')]; exact e'
  · show (s.heap.update l _).get? l = _
    rw [Heap.get?_update_self _ e (by rfl)]
    show some (Obj.mapSeq _ _) = _
    unfold Obj.mapSeq
    simp
theorem c_lset {k : Nat} {v : Value} {Q : Unit → Shared → Prop} (I : St w O g L s m led) (y : s.heap.IsList l xs.toArray) (hk : k < xs.length) (hz : xs.length < 1000000) (r : Rep l (.lst (xs.set k v)) led led') (h : ∀ s', St w O g L s' m led' → Q () s') : wpC (Mw w) A (setItem (.ref l) (.int (k : Int) t) v) Q E s := by
  refine c_any (wpAny_setItem_list y (by omega) (by omega) (by simp; omega) fun h' hl' hs => h _ (I.rep r (fun b o e n => (hs.2 b n).trans e) (At.lst ?_) I.gens I.os))
  simpa using hl'

-- built-in functions
theorem c_bytes_ba {b : List UInt8} (I : St w O g L s m led) (y : At s.heap l (.ba b)) (hz : b.length ≤ 1000000) (h : ∀ t s', St w O g L s' m led → Q (.bytes b.toArray t) s') : wpC (Mw w) A (call (.type "bytes") [.ref l]) Q E s :=
  c_any (call_bytes_of (new_bytes_ba y hz fun t => ⟨typeIs_bytes _ _ _, h t _ (I.grow (Sub.refl _))⟩))
theorem c_bytes_int (I : St w O g L s m led) (h0 : 0 ≤ i) (hz : i ≤ 1000000) (h : ∀ t s', St w O g L s' m led → Q (.bytes (Array.replicate i.toNat 0) t) s') : wpC (Mw w) A (call (.type "bytes") [.int i t]) Q E s :=
  c_any (call_bytes_of (new_bytes_int h0 hz fun t => ⟨typeIs_bytes _ _ _, h t _ (I.grow (Sub.refl _))⟩))
theorem c_bytes_ints {ns : List Int} (hh : A.handled = none) (I : St w O g L s m led) (y : s.heap.IsList l xs.toArray) (hi : IntsAre xs ns) (hr : ∀ n ∈ ns, 0 ≤ n ∧ n < 256) (hz : xs.length ≤ 1000000) (h : ∀ t s', St w O g L s' m led → Q (.bytes (ns.map fun n => n.toNat.toUInt8).toArray t) s') : wpC (Mw w) A (call (.type "bytes") [.ref l]) Q E s :=
  c_any (call_bytes_ints y hi hr (by rw [sizeLine_eq]; omega) hh fun h' t k hk => h t _ (I.grow hk))
theorem c_max {a b : Int} (hh : A.handled = none) (I : St w O g L s m led) (h : ∀ t s', St w O g L s' m led → Q (.int (max a b) t) s') : wpC (Mw w) A (call (.builtin "max") [.int a t, .int b u]) Q E s := by
  refine c_any (max_two_ints hh fun h' tk k => ?_)
  split
  · rw [show b = max a b by omega]; exact h _ _ (I.grow k)
  · rw [show a = max a b by omega]; exact h _ _ (I.grow k)
theorem c_min {a b : Int} (hh : A.handled = none) (I : St w O g L s m led) (h : ∀ t s', St w O g L s' m led → Q (.int (min a b) t) s') : wpC (Mw w) A (call (.builtin "min") [.int a t, .int b u]) Q E s := by
  refine c_any (min_two_ints hh fun h' tk k => ?_)
  split
  · rw [show b = min a b by omega]; exact h _ _ (I.grow k)
  · rw [show a = min a b by omega]; exact h _ _ (I.grow k)
theorem c_int (h : Q (.int i t) s) : wpC (Mw w) A (call (.type "int") [.int i t]) Q E s := c_any (call_int_int h)
theorem c_intb {b : Bool} (I : St w O g L s m led) (h : ∀ t s', St w O g L s' m led → Q (.int (if b then 1 else 0) t) s') : wpC (Mw w) A (call (.type "int") [.bool b]) Q E s := c_any (call_int_bool (h _ _ (I.grow (Sub.refl _))))
end
namespace BA
theorem slot_lt : Slot "bytes" (cmpInfo .Lt).2.1 "bytes.__lt__" :=
  .of (owner := "bytes") (n := "__lt__") (by rw [typeLookup_type, builtinLookup_eq_fast]; kernel_rfl) (by decide +kernel) (by decide +kernel) (by decide +kernel)
    (by first | exact .inl (by decide +kernel) | exact .inr (by decide +kernel)) (by rw [isSubtype_type]; kernel_rfl)
theorem entry_lt : entryFor table "bytes.__lt__" = some Builtin.«bytes.__lt__» := entryFor_of_tree (by kernel_rfl)
theorem args_lt (a b : Value) : argsOk "bytes.__lt__" ⟨[a, b], []⟩ := by unfold argsOk; kernel_rfl
theorem gives_lt (b c : Array UInt8) (t u : Tok) : Gives (Builtin.«bytes.__lt__» ⟨[.bytes b t, .bytes c u], []⟩) (.val (.bool (Builtin.Bytes.order b.toList c.toList == .lt))) := by
  refine .of_wp fun M A E s Q hq => ?_
  show wpAny M A (isInstance (.bytes c u) (.type "bytes") >>= fun r => _) _ E s
  refine wpAny_bind (wpAny_isInstance (typeIs_bytes s c u) F.sub_bytes_bytes ?_)
  exact wpAny_pure ⟨_, rfl, hq⟩
end BA
/-- texts of one sign each -/
inductive Signs : List Value → List Nat → Prop where
  | nil : Signs [] []
  | cons {t : Tok} {c : Nat} {vs : List Value} {cs : List Nat} : Signs vs cs → Signs (.str ⟨#[c]⟩ t :: vs) (c :: cs)
theorem Signs.snoc {vs : List Value} {cs : List Nat} (h : Signs vs cs) {c : Nat} {t : Tok} : Signs (vs ++ [.str ⟨#[c]⟩ t]) (cs ++ [c]) := by
  induction h with
  | nil => exact .cons .nil
  | cons _ ih => exact .cons ih
theorem Signs.length {vs : List Value} {cs : List Nat} (h : Signs vs cs) : vs.length = cs.length := by
  induction h with
  | nil => rfl
  | cons _ ih => rw [List.length_cons, List.length_cons, ih]
theorem Signs.strs {vs : List Value} {cs : List Nat} (h : Signs vs cs) : ∃ ps : List (Str × Tok), vs = strValues ps ∧ ps.map (·.1) = cs.map fun c => ⟨#[c]⟩ := by
  induction h with
  | nil => exact ⟨[], rfl, rfl⟩
  | cons _ ih => obtain ⟨ps, e1, e2⟩ := ih; exact ⟨(_, _) :: ps, by rw [e1]; rfl, by rw [List.map_cons, e2]; rfl⟩
theorem join_signs0 : ∀ cs : List Nat, Str.join (Str.ofString "") (cs.map fun c => ⟨#[c]⟩) = ⟨cs.toArray⟩
  | [] => rfl
  | [c] => rfl
  | c :: d :: r => by
    show (⟨#[c]⟩ : Str) ++ Str.ofString "" ++ Str.join (Str.ofString "") ((d :: r).map fun c => ⟨#[c]⟩) = _
    rw [join_signs0 (d :: r)]
    apply congrArg Str.mk
    show (#[c] ++ #[]) ++ (d :: r).toArray = _
    simp
theorem join_signs (cs : List Nat) : Txt.join (Str.ofString "") (cs.map fun c => ⟨#[c]⟩) = ⟨cs.toArray⟩ := (StrLaws.glued_eq_join _ _).trans (join_signs0 cs)
section
variable {w : World} {O : OsState} {g : Heap} {L l : Addr} {s : Shared} {m : Str → Option Value} {led led' : Led} {A : Around} {E : Value → Shared → Prop} {i : Int} {t u : Tok} {Q : Value → Shared → Prop} {xs : List Value}
theorem q_ltb {b c : Array UInt8} (h : Q (.bool (Builtin.Bytes.order b.toList c.toList == .lt)) s) : wpC (Mw w) A (compareOp .Lt (.bytes b t) (.bytes c u)) Q E s :=
  c_any (compareOp_gives (op := .Lt) (typeIs_bytes s b t) (typeIs_bytes s c u) BA.slot_lt BA.entry_lt (BA.args_lt _ _) (BA.gives_lt b c t u) (fun e => nomatch e) h)
theorem c_sjoin {cs : List Nat} (I : St w O g L s m led) (y : s.heap.IsList l xs.toArray) (hx : Signs xs cs) (hz : cs.length < 1000000)
    (h : ∀ t s', St w O g L s' m led → Q (.str ⟨cs.toArray⟩ t) s') : wpC (Mw w) A (call (.builtin "str.join") [.str (Str.ofString "") t, .ref l]) Q E s := by
  obtain ⟨ps, rfl, e⟩ := hx.strs
  refine c_any (SC.join y rfl ?_ fun t' k => ?_)
  · have key : ∀ (cs : List Nat) (n : Nat), ((cs.map fun c => (⟨#[c]⟩ : Str)).foldl (fun a b => a + b.length + (Str.ofString "").length) n) = n + cs.length := by
      intro cs
      induction cs with
      | nil => intro n; rfl
      | cons c r ih => intro n; rw [List.map_cons, List.foldl_cons, ih]; show n + 1 + 0 + r.length = n + (r.length + 1); omega
    unfold JoinOk
    rw [e, List.foldl_toArray, key]
    unfold Builtin.Str.tooLong
    rw [sizeLine_eq]
    simp
    omega
  · rw [e, join_signs]
    exact h _ _ (I.grow (Sub.refl _))
end
end Mine
end
section
open PySem PySem.W PyProof.Rows PySem.Calls
set_option maxRecDepth 100000
namespace Mine
open PySem.Sem (wp)
namespace BA
theorem plainAttrs : PlainAttrs "bytearray" :=
  ⟨⟨"bytearray.__getattribute__", by rw [typeLookup_type, builtinLookup_eq_fast]; kernel_rfl, by decide +kernel⟩, by rw [typeLookup_type, builtinLookup_eq_fast]; kernel_rfl⟩
theorem type_append : typeOf (.builtin "bytearray.append") = pure (.type "method_descriptor") := by show builtinType _ = _; rw [builtinType_eq_fast]; kernel_rfl
theorem type_extend : typeOf (.builtin "bytearray.extend") = pure (.type "method_descriptor") := by show builtinType _ = _; rw [builtinType_eq_fast]; kernel_rfl
theorem type_bjoin : typeOf (.builtin "bytes.join") = pure (.type "method_descriptor") := by show builtinType _ = _; rw [builtinType_eq_fast]; kernel_rfl
theorem slot_bjoin : Slot "bytes" "join" "bytes.join" :=
  .of (owner := "bytes") (n := "join") (by rw [typeLookup_type, builtinLookup_eq_fast]; kernel_rfl) (by decide +kernel) (by decide +kernel) (by decide +kernel)
    (by first | exact .inl (by decide +kernel) | exact .inr (by decide +kernel)) (by rw [isSubtype_type]; kernel_rfl)
theorem entry_bjoin : entryFor table "bytes.join" = some Builtin.«bytes.join» := by first | exact entryFor_of_fast (by kernel_rfl) | exact entryFor_of_tree (by kernel_rfl)
theorem args_bjoin (a b : Value) : argsOk "bytes.join" ⟨[a, b], []⟩ := by unfold argsOk; kernel_rfl
end BA
section
variable {w : World} {O : OsState} {g : Heap} {L l : Addr} {s : Shared} {m : Str → Option Value} {led led' : Led} {A : Around} {E : Value → Shared → Prop} {i : Int} {t u : Tok} {Q : Value → Shared → Prop} {xs : List Value}

-- isinstance
theorem i_int_int (h : Q (.bool true) s) : wpC (Mw w) A (call (.builtin "isinstance") [.int i t, .type "int"]) Q E s := c_any (IsiPair.int_int h)
theorem i_int_str (I : St w O g L s m led) (h : ∀ s', St w O g L s' m led → Q (.bool false) s') : wpC (Mw w) A (call (.builtin "isinstance") [.int i t, .type "str"]) Q E s := c_any (IsiPair.int_str (h _ (I.grow (Sub.refl _))))
theorem i_int_bytes (I : St w O g L s m led) (h : ∀ s', St w O g L s' m led → Q (.bool false) s') : wpC (Mw w) A (call (.builtin "isinstance") [.int i t, .type "bytes"]) Q E s := c_any (IsiPair.int_bytes (h _ (I.grow (Sub.refl _))))
theorem i_str_int {x : Str} (I : St w O g L s m led) (h : ∀ s', St w O g L s' m led → Q (.bool false) s') : wpC (Mw w) A (call (.builtin "isinstance") [.str x t, .type "int"]) Q E s := c_any (IsiPair.str_int (h _ (I.grow (Sub.refl _))))
theorem i_str_str {x : Str} (h : Q (.bool true) s) : wpC (Mw w) A (call (.builtin "isinstance") [.str x t, .type "str"]) Q E s := c_any (IsiPair.str_str h)
theorem i_str_bytes {x : Str} (I : St w O g L s m led) (h : ∀ s', St w O g L s' m led → Q (.bool false) s') : wpC (Mw w) A (call (.builtin "isinstance") [.str x t, .type "bytes"]) Q E s := c_any (IsiPair.str_bytes (h _ (I.grow (Sub.refl _))))
theorem i_bytes_bytes {x : Array UInt8} (h : Q (.bool true) s) : wpC (Mw w) A (call (.builtin "isinstance") [.bytes x t, .type "bytes"]) Q E s := c_any (call_isinstance_yes (typeIs_bytes s x t) F.isi_meta_bytes F.sub_bytes_bytes h)
theorem sub_bytes_int : isSubtype (.type "bytes") (.type "int") = pure false := by rw [isSubtype_type]; kernel_rfl
theorem sub_bytes_str : isSubtype (.type "bytes") (.type "str") = pure false := by rw [isSubtype_type]; kernel_rfl
theorem i_bytes_no {T : String} {x : Array UInt8} (I : St w O g L s m led) (hne : (Value.type "bytes" == Value.type T) = false) (hty : typeOf (.type T) = pure (.type "type")) (hsub : isSubtype (.type "bytes") (.type T) = pure false)
    (h : ∀ s', St w O g L s' m led → Q (.bool false) s') : wpC (Mw w) A (call (.builtin "isinstance") [.bytes x t, .type T]) Q E s := by
  refine c_any (call_isinstance_of ?_)
  obtain ⟨hp, gg, d, tk, os⟩ := s
  exact isinstance_nested_false_bytes hne hty hsub (h _ (I.grow (Sub.refl _)))
theorem i_bytes_int {x : Array UInt8} (I : St w O g L s m led) (h : ∀ s', St w O g L s' m led → Q (.bool false) s') : wpC (Mw w) A (call (.builtin "isinstance") [.bytes x t, .type "int"]) Q E s := i_bytes_no I (by decide +kernel) F.isi_meta_int sub_bytes_int h
theorem i_bytes_str {x : Array UInt8} (I : St w O g L s m led) (h : ∀ s', St w O g L s' m led → Q (.bool false) s') : wpC (Mw w) A (call (.builtin "isinstance") [.bytes x t, .type "str"]) Q E s := i_bytes_no I (by decide +kernel) F.isi_meta_str sub_bytes_str h
theorem i_none_int (I : St w O g L s m led) (h : ∀ s', St w O g L s' m led → Q (.bool false) s') : wpC (Mw w) A (call (.builtin "isinstance") [.none, .type "int"]) Q E s := by
  obtain ⟨hp, gg, d, tk, os⟩ := s; exact c_any (IsiPair.NoneType_int (h _ (I.grow (Sub.refl _))))
theorem i_none_str (I : St w O g L s m led) (h : ∀ s', St w O g L s' m led → Q (.bool false) s') : wpC (Mw w) A (call (.builtin "isinstance") [.none, .type "str"]) Q E s := by
  obtain ⟨hp, gg, d, tk, os⟩ := s; exact c_any (IsiPair.NoneType_str (h _ (I.grow (Sub.refl _))))
theorem i_none_bytes (I : St w O g L s m led) (h : ∀ s', St w O g L s' m led → Q (.bool false) s') : wpC (Mw w) A (call (.builtin "isinstance") [.none, .type "bytes"]) Q E s := by
  obtain ⟨hp, gg, d, tk, os⟩ := s; exact c_any (IsiPair.NoneType_bytes (h _ (I.grow (Sub.refl _))))

-- methods
variable {M : Model} {pl : Sem Bool} {R : Value × List Value → Shared → Prop}
theorem g_ba {b : List UInt8} {a : Addr} {nm : Str} {id : String} (x : At s.heap a (.ba b)) (sl : Slot "bytearray" nm id) (ty : typeOf (.builtin id) = pure (.type "method_descriptor")) (h : R (.builtin id, [.ref a]) s) : wpC M A (getMethod (.ref a) nm pl) R E s := by
  refine c_any (getMethod_builtin x.baType BA.plainAttrs sl ty (fun b e => ?_) h)
  cases e
  obtain ⟨o, e, rfl⟩ := x
  exact ⟨_, e, rfl⟩
theorem g_baAppend {b : List UInt8} {a : Addr} (x : At s.heap a (.ba b)) (h : R (.builtin "bytearray.append", [.ref a]) s) : wpC M A (getMethod (.ref a) "append" pl) R E s := g_ba x BA.slot_append BA.type_append h
theorem g_baExtend {b : List UInt8} {a : Addr} (x : At s.heap a (.ba b)) (h : R (.builtin "bytearray.extend", [.ref a]) s) : wpC M A (getMethod (.ref a) "extend" pl) R E s := g_ba x BA.slot_extend BA.type_extend h
theorem g_l {a : Addr} {nm : Str} {id : String} (x : At s.heap a (.list xs)) (sl : Slot "list" nm id) (ty : typeOf (.builtin id) = pure (.type "method_descriptor")) (h : R (.builtin id, [.ref a]) s) : wpC M A (getMethod (.ref a) nm pl) R E s := by
  refine c_any (getMethod_builtin x.isList.typeIs F.plainAttrs_list sl ty (fun b e => ?_) h)
  cases e
  obtain ⟨o, e, n, rfl⟩ := x
  exact ⟨_, e, rfl⟩
theorem g_lAppend {a : Addr} (x : At s.heap a (.list xs)) (h : R (.builtin "list.append", [.ref a]) s) : wpC M A (getMethod (.ref a) "append" pl) R E s := g_l x F.slot_list_append F.type_list_append h
theorem g_lReverse {a : Addr} (x : At s.heap a (.list xs)) (h : R (.builtin "list.reverse", [.ref a]) s) : wpC M A (getMethod (.ref a) "reverse" pl) R E s := g_l x F.slot_list_reverse F.type_list_reverse h
theorem g_sjoin {x : Str} (h : R (.builtin "str.join", [.str x t]) s) : wpC M A (getMethod (.str x t) "join" pl) R E s := c_any (GM.join h)
theorem g_sencode {x : Str} (h : R (.builtin "str.encode", [.str x t]) s) : wpC M A (getMethod (.str x t) "encode" pl) R E s :=
  c_any (getMethod_builtin (typeIs_str _ _ _) F.plainAttrs_str F.slot_str_encode F.type_str_encode (fun _ e => nomatch e) h)
theorem g_bjoin {x : Array UInt8} (h : R (.builtin "bytes.join", [.bytes x t]) s) : wpC M A (getMethod (.bytes x t) "join" pl) R E s :=
  c_any (getMethod_builtin (typeIs_bytes _ _ _) FB.plainAttrs_bytes BA.slot_bjoin BA.type_bjoin (fun _ e => nomatch e) h)
end
end Mine
end
section
open PySem PySem.W PyProof.Rows PySem.Calls
set_option maxRecDepth 100000
namespace Mine
open PySem.Sem (wp)
noncomputable def enc (l : List Nat) : List UInt8 := l.flatMap Str.utf8Of
theorem a_turn {M : Model} {A : Around} {E : Value → Shared → Prop} {s : Shared} {β : Type} {l : List Nat} {x : Nat} {b : β} {f : Nat → β → Sem (ForInStep β)} {Q : β → Shared → Prop}
    (h : wpAny M A (f x b) (fun r s' => match r with | .done b' => Q b' s' | .yield b' => wpAny M A (forIn l b' f) Q E s') E s) : wpAny M A (forIn (x :: l) b f) Q E s := by
  rw [List.forIn_cons]
  refine wpAny_bind (wpAny_mono h (fun r s' hr => ?_) fun _ _ e => e)
  cases r with
  | done b' => exact wpAny_pure hr
  | yield b' => exact hr
theorem range_list {β : Type} (n : Nat) (b : β) (f : Nat → β → Sem (ForInStep β)) : forIn [:n] b f = forIn (List.range' 0 n 1) b f := by
  rw [Std.Legacy.Range.forIn_eq_forIn_range']
  have hsz : ([:n] : Std.Legacy.Range).size = n := by simp [Std.Legacy.Range.size]
  show forIn (List.range' 0 ([:n] : Std.Legacy.Range).size 1) b f = _
  rw [hsz]
theorem fold_enc : ∀ (l : List Nat) (out : Array UInt8), l.foldl (fun acc y => acc ++ (Str.utf8Of y).toArray) out = out ++ (enc l).toArray
  | [], out => by simp [enc]
  | c :: r, out => by
    rw [List.foldl_cons, fold_enc r]
    simp [enc]
theorem enc_one_le (c : Nat) : (Str.utf8Of c).length ≤ 4 := by
  unfold Str.utf8Of; split
  · simp
  split
  · simp
  split <;> simp
theorem enc_le : ∀ l : List Nat, (enc l).length ≤ 4 * l.length
  | [] => by simp [enc]
  | c :: r => by
    have := enc_le r; have := enc_one_le c
    simp only [enc, List.flatMap_cons, List.length_append, List.length_cons] at *
    omega
open Builtin._codecs in
theorem narrow {id : String} {self : Value} {x : Str} {M : Model} {A : Around} {E : Value → Shared → Prop} {s : Shared} {Q : Array UInt8 → Shared → Prop} (hs : ∀ c ∈ x.cps.toList, Str.isSurrogate c = false)
    (hz : 4 * x.length < 1000000) (h : Q (enc x.cps.toList).toArray s) : wpAny M A (encodeNarrow id utf8Codec none self x) Q E s := by
  unfold encodeNarrow
  simp only [range_list]
  have hnone : x.cps.findIdx? utf8Codec.bad = none := by
    rw [Array.findIdx?_eq_none_iff]
    intro c hc
    exact hs c (by simpa using hc)
  cases hl : x.length with
  | zero =>
    have e : x.cps.toList = [] := by simpa [Str.length] using hl
    rw [e] at h
    exact wpAny_bind (wpAny_pure (wpAny_pure h))
  | succ n =>
    rw [List.range'_succ]
    refine wpAny_bind (a_turn ?_)
    have hlt : 0 < x.cps.size := by unfold Str.length at hl; omega
    have e0 : x.cps[0]? = some x.cps[0] := Array.getElem?_eq_getElem hlt
    have hb : utf8Codec.bad x.cps[0] = false := hs _ (by simp)
    have hex : x.cps.extract 0 x.cps.size = x.cps := by simp
    simp only [e0, hb, hex, hnone]
    rw [if_neg (by rw [sizeLine_eq]; decide)]
    have efold : Array.foldl (fun acc y => acc ++ (utf8Codec.bytesOf y).toArray) #[] (x.cps.extract 0 x.cps.size) = (enc x.cps.toList).toArray := by
      rw [hex, ← Array.foldl_toList]
      exact (fold_enc _ _).trans (by simp)
    show wpAny M A (pure (ForInStep.yield (0 + x.cps.size, Array.foldl (fun acc y => acc ++ (utf8Codec.bytesOf y).toArray) #[] (x.cps.extract 0 x.cps.size), ({ } : Faults)))) _ _ _
    rw [efold]
    refine wpAny_pure ?_
    cases n with
    | zero => exact wpAny_pure (wpAny_pure h)
    | succ n =>
      rw [List.range'_succ]
      refine a_turn ?_
      have hno : x.cps[0 + x.cps.size]? = none := by rw [Nat.zero_add]; exact Array.getElem?_eq_none (Nat.le_refl _)
      rw [if_neg (by show ¬ (enc x.cps.toList).length > sizeLine; rw [sizeLine_eq]; have h1 : (enc x.cps.toList).length ≤ 4 * x.cps.toList.length := enc_le x.cps.toList; have h2 : x.cps.toList.length = x.cps.size := Array.length_toList; unfold Str.length at hz; omega)]
      simp only [hno]
      exact wpAny_pure (wpAny_pure h)
theorem enc_bind {u : Tok} : Builtin.Str.bindOptional "str.encode" "encode" 0 ["encoding", "errors"] [.str "utf-8" u] [] = pure [some (.str "utf-8" u), none] := by kernel_rfl
theorem enc_arg {u : Tok} : Builtin.Str.codecArg "str.encode" "encode" "'encoding'" (some (.str "utf-8" u)) = pure (some (Str.ofString "utf-8")) := by kernel_rfl
theorem c_encode {w : World} {O : OsState} {g : Heap} {L : Addr} {s : Shared} {m : Str → Option Value} {led : Led} {A : Around} {E : Value → Shared → Prop} {t u : Tok} {Q : Value → Shared → Prop} {x : Str} (I : St w O g L s m led)
    (hs : ∀ c ∈ x.cps.toList, Str.isSurrogate c = false) (hz : 4 * x.length < 1000000) (h : ∀ t s', St w O g L s' m led → Q (.bytes (enc x.cps.toList).toArray t) s') :
    wpC (Mw w) A (call (.builtin "str.encode") [.str x t, .str "utf-8" u]) Q E s := by
  refine c_slot F.slot_str_encode (by decide +kernel) F.entry_str_encode (typeIs_str _ _ _) (F.args_str_encode_2 _ _) (c_any ?_)
  unfold Builtin.«str.encode»
  refine wpAny_bind (wpAny_of_eq (a := (.str x t, x, [.str "utf-8" u])) rfl ?_)
  refine wpAny_bind (wpAny_of_eq (a := [some (.str "utf-8" u), none]) enc_bind ?_)
  refine wpAny_bind (wpAny_of_eq (a := some (Str.ofString "utf-8")) enc_arg ?_)
  refine wpAny_bind (wpAny_of_eq (a := none) rfl ?_)
  show wpAny _ _ (do
    ret (← Builtin._codecs.encodeRoad "str.encode" (.str x t) x (Str.ofString "utf-8") none)) _ _ _
  rw [encodeRoad_utf8]
  refine wpAny_bind (wpAny_bind (narrow hs hz ?_))
  refine wpAny_mkBytes (wpAny_pure ⟨_, rfl, h _ _ (I.grow (Sub.refl _))⟩) ?_
  have h1 : (enc x.cps.toList).length ≤ 4 * x.cps.toList.length := enc_le x.cps.toList
  have h2 : x.cps.toList.length = x.cps.size := Array.length_toList
  unfold Str.length at hz
  show (enc x.cps.toList).length ≤ sizeLine
  rw [sizeLine_eq]; omega
/-- octets -/
inductive Octs : List Value → List (List UInt8) → Prop where
  | nil : Octs [] []
  | cons {t : Tok} {b : List UInt8} {vs : List Value} {bs : List (List UInt8)} : Octs vs bs → Octs (.bytes b.toArray t :: vs) (b :: bs)
theorem Octs.snoc {vs : List Value} {bs : List (List UInt8)} (h : Octs vs bs) {b : List UInt8} {t : Tok} : Octs (vs ++ [.bytes b.toArray t]) (bs ++ [b]) := by
  induction h with
  | nil => exact .cons .nil
  | cons _ ih => exact .cons ih
theorem Octs.length {vs : List Value} {bs : List (List UInt8)} (h : Octs vs bs) : vs.length = bs.length := by
  induction h with
  | nil => rfl
  | cons _ ih => rw [List.length_cons, List.length_cons, ih]
theorem Octs.at {vs : List Value} {bs : List (List UInt8)} (h : Octs vs bs) {i : Nat} (hi : i < bs.length) : ∃ t b, bs[i]? = some b ∧ vs[i]? = some (.bytes b.toArray t) := by
  induction h generalizing i with
  | nil => simp at hi
  | cons _ ih => cases i with
    | zero => exact ⟨_, _, rfl, rfl⟩
    | succ i => exact ih (by simpa using hi)
theorem letgo_none {M : Model} {A : Around} {E : Value → Shared → Prop} {s : Shared} {keep : List Value} {Q : Unit → Shared → Prop} : ∀ (l : List (Value × Option Value)) (_ : ∀ p ∈ l, p.2 = none) (_ : Q () s), wpAny M A (Builtin.Bytes.joinLetGo l keep) Q E s
  | [], _, h => wpAny_pure h
  | (x, v) :: r, hl, h => by
    obtain rfl : v = none := hl _ List.mem_cons_self
    have ih := letgo_none (M := M) (A := A) (E := E) (keep := keep) r (fun p hp => hl p (List.mem_cons_of_mem _ hp)) h
    unfold Builtin.Bytes.joinLetGo
    exact wpAny_bind (wpAny_letGo ih)
theorem joined_flat (bs : List (List UInt8)) : Builtin.Bytes.joined #[] (bs.map (·.toArray)) = bs.flatten.toArray := by
  have key : ∀ (bs : List (List UInt8)) (k : Nat) (out : Array UInt8), ((bs.map (·.toArray)).zipIdx k).foldl (fun out (p, i) => (if i > 0 then out ++ #[] else out) ++ p) out = out ++ bs.flatten.toArray := by
    intro bs
    induction bs with
    | nil => intro k out; simp
    | cons b r ih =>
      intro k out
      rw [List.map_cons, List.zipIdx_cons, List.foldl_cons, ih]
      simp
  unfold Builtin.Bytes.joined
  rw [key]; simp
theorem size_flat (bs : List (List UInt8)) : ∀ n, (bs.map (·.toArray)).foldl (fun a b => a + b.size) n = n + bs.flatten.length := by
  induction bs with
  | nil => intro n; simp
  | cons b r ih => intro n; rw [List.map_cons, List.foldl_cons, ih]; simp; omega
theorem a_range {M : Model} {A : Around} {E : Value → Shared → Prop} {s : Shared} {β : Type} {n : Nat} {b : β} {f : Nat → β → Sem (ForInStep β)} {Q : β → Shared → Prop} (I : Nat → β → Shared → Prop) (h0 : I 0 b s)
    (turn : ∀ i b s, i < n → I i b s → wpAny M A (f i b) (fun r s' => match r with | .done _ => False | .yield b' => I (i + 1) b' s') E s) (hQ : ∀ b s, I n b s → Q b s) : wpAny M A (forIn [0 : n] b f) Q E s := by
  rw [range_list]
  have key : ∀ k i b s, i + k = n → I i b s → wpAny M A (forIn (List.range' i k 1) b f) Q E s := by
    intro k
    induction k with
    | zero => intro i b s e h; obtain rfl : i = n := by omega
              exact wpAny_pure (hQ _ _ h)
    | succ k ih =>
      intro i b s e h
      rw [List.range'_succ]
      refine a_turn (wpAny_mono (turn i b s (by omega) h) (fun r s' hr => ?_) fun _ _ e => e)
      cases r with
      | done b' => exact hr.elim
      | yield b' => exact ih _ _ _ (by omega) hr
  exact key n 0 b s (by omega) h0
theorem c_bjoin {w : World} {O : OsState} {g : Heap} {L l : Addr} {s : Shared} {m : Str → Option Value} {led : Led} {A : Around} {E : Value → Shared → Prop} {t : Tok} {Q : Value → Shared → Prop} {xs : List Value} {bs : List (List UInt8)} (I : St w O g L s m led)
    (hl : At s.heap l (.list xs)) (hx : Octs xs bs) (h2 : 2 ≤ bs.length) (hz : bs.flatten.length < 1000000) (h : ∀ t s', St w O g L s' m led → Q (.bytes bs.flatten.toArray t) s') :
    wpC (Mw w) A (call (.builtin "bytes.join") [.bytes #[] t, .ref l]) Q E s := by
  refine c_slot BA.slot_bjoin (by decide +kernel) BA.entry_bjoin (typeIs_bytes _ _ _) (BA.args_bjoin _ _) (c_any ?_)
  obtain ⟨o, e, n, rfl⟩ := id hl
  have hseq : ∀ {R : Option (Array Value) → Shared → Prop} {E' : Value → Shared → Prop}, R (some xs.toArray) s → wpAny (Mw w) A.in1 (seqItems? (.ref l)) R E' s := fun h => by
    unfold seqItems?
    exact wpAny_bind (wpAny_load e (wpAny_pure h))
  unfold Builtin.«bytes.join» Builtin.Bytes.joinM
  refine wpAny_bind (wpAny_of_eq (a := (.bytes #[] t, .ref l)) rfl ?_)
  refine wpAny_bind (show wpAny _ _ (Builtin.Bytes.joinItems (.ref l)) _ _ _ from ?_)
  unfold Builtin.Bytes.joinItems
  refine wpAny_bind (wpAny_typeOf hl.isList.typeIs ?_)
  refine wpAny_pure ?_
  refine wpAny_bind (hseq ?_)
  have hlen := hx.length
  obtain ⟨x, y, r, rfl⟩ : ∃ x y r, xs = x :: y :: r := by
    cases xs with
    | nil => simp at hlen; omega
    | cons x xs => cases xs with
      | nil => simp at hlen; omega
      | cons y r => exact ⟨x, y, r, rfl⟩
  refine wpAny_bind (m := forIn [0 : _] _ _) (a_range (fun i b s' => b = (((bs.take i).map (·.toArray)).toArray, ((x :: y :: r).take i).map fun v => (v, none)) ∧ s' = s) ⟨by simp, rfl⟩ (fun i b s' hi J => ?_) (fun b s' J => ?_))
  · obtain ⟨rfl, rfl⟩ := J
    dsimp only
    refine wpAny_bind (hseq ?_)
    rw [List.size_toArray] at hi
    obtain ⟨ti, bi, e1, e2⟩ := hx.at (i := i) (by omega)
    have eg : (x :: y :: r).toArray.getD i Value.none = .bytes bi.toArray ti := by
      rw [Array.getD_eq_getD_getElem?, List.getElem?_toArray, e2]; rfl
    dsimp only
    rw [eg]
    have hany : ((List.map (fun v => (v, (none : Option Value))) ((x :: y :: r).take i)).any fun x => x.fst.onHeap) = false := by
      rw [List.any_eq_false]
      intro p hp
      obtain ⟨v, hv, rfl⟩ := List.mem_map.mp hp
      obtain ⟨j, hj, ej⟩ := List.mem_iff_getElem.mp (List.mem_of_mem_take hv)
      obtain ⟨tj, bj, _, e3⟩ := hx.at (i := j) (by omega)
      rw [List.getElem?_eq_getElem hj, ej] at e3
      cases e3; simp [Value.onHeap]
    rw [hany]
    refine bm_if_false rfl ?_
    refine wpAny_bind (wpAny_holding (wpAny_of_eq b_take ?_))
    dsimp only
    refine wpAny_bind (hseq ?_)
    dsimp only
    rw [if_neg (by simp)]
    refine wpAny_pure ⟨?_, rfl⟩
    rw [List.take_add_one, List.take_add_one, e1, e2]
    simp
  · obtain ⟨rfl, rfl⟩ := J
    rw [List.size_toArray, List.take_of_length_le (Nat.le_refl _), List.take_of_length_le (by omega)]
    dsimp only
    refine wpAny_bind (wpAny_of_eq (a := #[]) rfl ?_)
    have esz : Array.foldl (fun x1 x2 => x1 + x2.size) ((#[] : Array UInt8).size * ((List.map (fun x => x.toArray) bs).toArray.size - 1)) (List.map (fun x => x.toArray) bs).toArray = bs.flatten.length := by
      rw [List.foldl_toArray, size_flat]; simp
    rw [esz]
    clear esz
    refine bm_if_false (by unfold Builtin.Bytes.tooLong; rw [sizeLine_eq]; exact decide_eq_false (by omega)) ?_
    show wpAny _ _ (mkBytes (Builtin.Bytes.joined #[] (List.map (fun x => x.toArray) bs)) >>= _) _ _ _
    rw [joined_flat]
    refine wpAny_bind (wpAny_mkBytes (wpAny_bind (wpAny_holding (wpAny_point (wpAny_bind (letgo_none _ (fun p hp => ?_) (wpAny_pure ⟨_, rfl, h _ _ (I.grow (Sub.refl _))⟩)))))) (by rw [List.size_toArray, sizeLine_eq]; omega))
    obtain ⟨v, _, rfl⟩ := List.mem_map.mp hp
    rfl

end Mine
end
section
open PySem PySem.W PyProof.Rows PySem.Calls
set_option maxRecDepth 100000
namespace Mine
open PySem.Sem (wp)
open PySem.MeetsSeq PySem.MeetsSeq2 PySem.MeetsSeq3 PySem.AutoSeq1
/-- whole numbers -/
inductive Ints : List Value → List Int → Prop where
  | nil : Ints [] []
  | cons {t : Tok} {b : Int} {vs : List Value} {bs : List Int} : Ints vs bs → Ints (.int b t :: vs) (b :: bs)
theorem Ints.snoc {vs : List Value} {bs : List Int} (h : Ints vs bs) {b : Int} {t : Tok} : Ints (vs ++ [.int b t]) (bs ++ [b]) := by
  induction h with
  | nil => exact .cons .nil
  | cons _ ih => exact .cons ih
theorem Ints.length {vs : List Value} {bs : List Int} (h : Ints vs bs) : vs.length = bs.length := by
  induction h with
  | nil => rfl
  | cons _ ih => rw [List.length_cons, List.length_cons, ih]
theorem Ints.at {vs : List Value} {bs : List Int} (h : Ints vs bs) {i : Nat} (hi : i < bs.length) : ∃ t, vs[i]? = some (.int (bs[i]) t) := by
  induction h generalizing i with
  | nil => simp at hi
  | cons _ ih => cases i with
    | zero => exact ⟨_, rfl⟩
    | succ i => exact ih (by simpa using hi)
noncomputable def lexlt : List Int → List Int → Bool
  | _, [] => false
  | [], _ :: _ => true
  | a :: r, b :: q => if a = b then lexlt r q else decide (a < b)
theorem lexlt_nil (l : List Int) : lexlt l [] = false := by cases l <;> rfl
theorem lt_loop (l b : Addr) (xs ys : List Value) (as bs : List Int) (hx : Ints xs as) (hy : Ints ys bs) (n n2 : Nat) (k : Nat) :
    ∀ i : Nat, i + k = xs.length → i ≤ ys.length → Meets (Builtin.«list.__eq__.loop» ⟨[.ref l, .ref b, rawInt i, rawInt 0], []⟩)
      (fun _ R s => s.heap.get? l = some { cls := .type "list", data := .seq xs.toArray n } ∧ s.heap.get? b = some { cls := .type "list", data := .seq ys.toArray n2 } ∧
        R (.ok (.ret (.bool (lexlt (as.drop i) (bs.drop i))))) s) := by
  have lx := hx.length
  have ly := hy.length
  induction k with
  | zero =>
    intro i hk hi prog w A R s h
    obtain ⟨hp, g, d, tk, os⟩ := s; obtain ⟨hl, hb, h⟩ := h
    wp_walk using wpAny_loadPart' hl, wpAny_loadPart' hb
    have hi1 : xs.toArray[((i : Nat) : Int).toNat]? = none := by simp; omega
    rw [hi1]
    wp_walk using wpAny_loadPart' hl, wpAny_loadPart' hb
    have e1 : as.drop i = [] := List.drop_eq_nil_of_le (by omega)
    rw [e1] at h
    have e2 : lexlt [] (bs.drop i) = decide (xs.toArray.size < ys.toArray.size) := by
      by_cases hlt : i < bs.length
      · rw [List.drop_eq_getElem_cons hlt]; symm; simp [lexlt]; omega
      · rw [List.drop_eq_nil_of_le (by omega)]; symm; simp [lexlt]; omega
    rw [e2] at h
    exact h
  | succ k ih =>
    intro i hk hi prog w A R s h
    obtain ⟨hp, g, d, tk, os⟩ := s; obtain ⟨hl, hb, h⟩ := h
    wp_walk using wpAny_loadPart' hl, wpAny_loadPart' hb
    have hlt : i < as.length := by omega
    obtain ⟨t1, e1⟩ := hx.at hlt
    have hi1 : xs.toArray[((i : Nat) : Int).toNat]? = some (.int as[i] t1) := by simpa using e1
    rw [hi1]
    by_cases hlt2 : i < bs.length
    · obtain ⟨t2, e2⟩ := hy.at hlt2
      have hi2 : ys.toArray[((i : Nat) : Int).toNat]? = some (.int bs[i] t2) := by simpa using e2
      rw [hi2]
      rw [List.drop_eq_getElem_cons hlt, List.drop_eq_getElem_cons hlt2] at h
      refine wpAny_bind (wpAny_eqBool_int ?_)
      by_cases he : as[i] = bs[i]
      · rw [beq_iff_eq.mpr he]
        simp only [lexlt, he, if_true] at h
        have hc : ((i : Int) + 1) = ((i + 1 : Nat) : Int) := by push_cast; rfl
        wp_walk
        rw [hc]
        exact ⟨plainId_quiet plain_eq_loop _, codeAny_builtin entry_eq_loop (by
          rw [Around.under_plainId plain_eq_loop _]
          exact ih (i + 1) (by omega) (by omega) prog w A R _ ⟨hl, hb, h⟩)⟩
      · rw [beq_eq_false_iff_ne.mpr he]
        simp only [lexlt, he, if_false] at h
        wp_walk using wpAny_loadPart' hl, wpAny_loadPart' hb
        rw [hi1, hi2]
        refine wpAny_bind (show wpAny _ _ (compareOp .Lt (.int as[i] t1) (.int bs[i] t2)) _ _ _ from P.lt_int ?_)
        wp_walk
        exact h
    · have hi2 : ys.toArray[((i : Nat) : Int).toNat]? = none := by simp; omega
      rw [hi2]
      wp_walk using wpAny_loadPart' hl, wpAny_loadPart' hb
      rw [List.drop_eq_nil_of_le (by omega : bs.length ≤ i), lexlt_nil] at h
      have e2 : false = decide (xs.toArray.size < ys.toArray.size) := by symm; simp; omega
      rw [e2] at h
      exact h
theorem list_lt (l b : Addr) (xs ys : List Value) (as bs : List Int) (hx : Ints xs as) (hy : Ints ys bs) (n n2 : Nat) : Meets (Builtin.«list.__lt__» ⟨[.ref l, .ref b], []⟩)
      (fun _ R s => s.heap.get? l = some { cls := .type "list", data := .seq xs.toArray n } ∧ s.heap.get? b = some { cls := .type "list", data := .seq ys.toArray n2 } ∧
        R (.ok (.ret (.bool (lexlt as bs)))) s) := by
  intro prog w A R s h
  obtain ⟨hp, g, d, tk, os⟩ := s; obtain ⟨hl, hb, h⟩ := h
  have f3 := AutoSeq1.sub_list_list
  wp_walk using wpAny_loadPart' hl, wpAny_loadPart' hb
  exact ⟨plainId_quiet plain_eq_loop _, codeAny_builtin entry_eq_loop (by
    rw [Around.under_plainId plain_eq_loop _]
    exact lt_loop l b xs ys as bs hx hy n n2 xs.length 0 (by omega) (by omega) prog w A R _ ⟨hl, hb, by simpa using h⟩)⟩
section
variable {prog : Program} {w : World} {A : Around} {E : Value → Shared → Prop} {s : Shared} {Q : Value → Shared → Prop} {l b : Addr} {xs ys : List Value} {as bs : List Int}
theorem rc_list_lt (x : At s.heap l (.list xs)) (y : At s.heap b (.list ys)) (hx : Ints xs as) (hy : Ints ys bs) (hu : A.units < cLine) (h : Q (.bool (lexlt as bs)) s) : wpAny (model prog w) A (richCompare .Lt (.ref l) (.ref b)) Q E s := by
  obtain ⟨o, e, n, rfl⟩ := id x
  obtain ⟨o', e', n', rfl⟩ := id y
  exact richCompare_meets_room x.isList.typeIs y.isList.typeIs F.slot_list_lt F.entry_list_lt (F.args_list_lt_2 _ _) (list_lt l b xs ys as bs hx hy n n') ⟨e, e', show Value.bool (lexlt as bs) ≠ .notImplemented ∧ Q (.bool (lexlt as bs)) s from ⟨(fun q => nomatch q), h⟩⟩ hu
end
/-- a class and its octets or signs -/
structure IsPair (h : Heap) (v : Value) (p : Int × List Int) : Prop where
  ok : ∃ a t l xs, v = .ref a ∧ At h a (.tup [.int p.1 t, .ref l]) ∧ At h l (.list xs) ∧ Ints xs p.2
noncomputable def pairlt (p q : Int × List Int) : Bool := if p.1 = q.1 then lexlt p.2 q.2 else decide (p.1 < q.1)
theorem Ints.reads {h : Heap} {vs : List Value} {bs : List Int} (x : Ints vs bs) : ReadsAll h vs (bs.map PyData.int) [] := by
  induction x with
  | nil => exact .nil
  | cons _ ih => exact .cons (.int _ _) ih
theorem IsPair.reads {h : Heap} {v : Value} {p : Int × List Int} (x : IsPair h v p) : ∃ as, Reads h v (.tuple [.int p.1, .list (p.2.map .int)]) as := by
  obtain ⟨a, t, l, xs, rfl, ⟨o, e, n, rfl⟩, ⟨o', e', n', rfl⟩, i⟩ := x.ok
  exact ⟨_, reads_tuple_at e rfl rfl (.cons (.int _ _) (.cons (reads_list_at e' rfl rfl i.reads) .nil))⟩
/-- a list of pairs -/
inductive Pairs (h : Heap) : List Value → List (Int × List Int) → Prop where
  | nil : Pairs h [] []
  | cons {v : Value} {p : Int × List Int} {vs : List Value} {ps : List (Int × List Int)} : IsPair h v p → Pairs h vs ps → Pairs h (v :: vs) (p :: ps)
noncomputable def pdat (p : Int × List Int) : PyData := .tuple [.int p.1, .list (p.2.map .int)]
theorem Pairs.reads {h : Heap} {vs : List Value} {ps : List (Int × List Int)} (x : Pairs h vs ps) : ∃ as, ReadsAll h vs (ps.map pdat) as := by
  induction x with
  | nil => exact ⟨_, .nil⟩
  | cons y _ ih => obtain ⟨as, r⟩ := y.reads; obtain ⟨bs, q⟩ := ih; exact ⟨_, .cons r q⟩
theorem eqv_ints : ∀ as bs : List Int, PyData.eqvAll (as.map .int) (bs.map .int) = decide (as = bs)
  | [], [] => by simp [PyData.eqvAll]
  | [], _ :: _ => by simp [PyData.eqvAll]
  | _ :: _, [] => by simp [PyData.eqvAll]
  | a :: r, b :: q => by
    rw [List.map_cons, List.map_cons, PyData.eqvAll, eqv_ints r q, PyData.eqv]
    by_cases h : a = b
    · subst h; simp
    · simp [h]
theorem eqv_pair (p q : Int × List Int) : PyData.eqv (pdat p) (pdat q) = decide (p = q) := by
  obtain ⟨a, as⟩ := p; obtain ⟨b, bs⟩ := q
  unfold pdat
  simp only [PyData.eqv, PyData.eqvAll, eqv_ints, Bool.and_true]
  by_cases h : a = b
  · subst h; simp
  · simp [h]
theorem eqv_pairs : ∀ ps qs : List (Int × List Int), PyData.eqvAll (ps.map pdat) (qs.map pdat) = decide (ps = qs)
  | [], [] => by simp [PyData.eqvAll]
  | [], _ :: _ => by simp [PyData.eqvAll]
  | _ :: _, [] => by simp [PyData.eqvAll]
  | a :: r, b :: q => by
    rw [List.map_cons, List.map_cons, PyData.eqvAll, eqv_pairs r q, eqv_pair]
    by_cases h : a = b
    · subst h; simp
    · simp [h]
theorem lay_ints : ∀ as : List Int, PyData.canLayAll0 (as.map .int) = true ∧ PyData.depthAll (as.map .int) ≤ 1
  | [] => by simp [PyData.canLayAll0, PyData.depthAll]
  | a :: r => by
    have := lay_ints r
    rw [List.map_cons, PyData.canLayAll0, PyData.depthAll, PyData.canLay0, PyData.depth]
    exact ⟨by simp [this.1], by have := this.2; omega⟩
theorem lay_pair (p : Int × List Int) : (pdat p).canLay0 = true ∧ (pdat p).depth ≤ 4 := by
  have := lay_ints p.2
  unfold pdat
  simp only [PyData.canLay0, PyData.depth, PyData.canLayAll0, PyData.depthAll, this.1]
  exact ⟨rfl, by have := this.2; omega⟩
theorem lay_pairs : ∀ ps : List (Int × List Int), PyData.canLayAll0 (ps.map pdat) = true ∧ PyData.depthAll (ps.map pdat) ≤ 4
  | [] => by simp [PyData.canLayAll0, PyData.depthAll]
  | a :: r => by
    have h1 := lay_pairs r
    have h2 := lay_pair a
    rw [List.map_cons, PyData.canLayAll0, PyData.depthAll]
    exact ⟨by simp [h1.1, h2.1], by have := h1.2; have := h2.2; omega⟩
theorem shaped_of {d : PyData} (h : d.canLay0 = true ∧ d.depth ≤ 10) : SeqAt.shaped d = true := by
  unfold SeqAt.shaped; rw [h.1, Bool.true_and]; exact decide_eq_true (by omega)
section
variable {w : World} {A : Around} {E : Value → Shared → Prop} {s : Shared} {Q : Value → Shared → Prop} {l b : Addr} {xs ys : List Value} {p q : Int × List Int} {ps qs : List (Int × List Int)} {u v : Value}
theorem q_eqp (hu : A.units < 9100) (x : IsPair s.heap u p) (y : IsPair s.heap v q) (h : Q (.bool (decide (p = q))) s) : wpC (Mw w) A (compareOp .Eq u v) Q E s := by
  obtain ⟨_, r1⟩ := x.reads; obtain ⟨_, r2⟩ := y.reads
  exact c_any (eq_dataH r1 r2 (shaped_of ⟨(lay_pair p).1, Nat.le_trans (lay_pair p).2 (by decide)⟩) (shaped_of ⟨(lay_pair q).1, Nat.le_trans (lay_pair q).2 (by decide)⟩) (by unfold cLine; omega) (by
    have e := eqv_pair p q
    unfold pdat at e
    rw [e]; exact h))
theorem lay_list (ps : List (Int × List Int)) : SeqAt.shaped (.list (ps.map pdat)) = true := by
  refine shaped_of ?_
  have := lay_pairs ps
  simp only [PyData.canLay0, PyData.depth]
  exact ⟨this.1, by omega⟩
theorem q_nel (hu : A.units < 9100) (x : At s.heap l (.list xs)) (y : At s.heap b (.list ys)) (hx : Pairs s.heap xs ps) (hy : Pairs s.heap ys qs) (h : Q (.bool (!decide (ps = qs))) s) : wpC (Mw w) A (compareOp .NotEq (.ref l) (.ref b)) Q E s := by
  obtain ⟨_, r1⟩ := hx.reads; obtain ⟨_, r2⟩ := hy.reads
  obtain ⟨o, e, n, rfl⟩ := x; obtain ⟨o', e', n', rfl⟩ := y
  refine c_any (ne_dataH (reads_list_at e rfl rfl r1) (reads_list_at e' rfl rfl r2) (lay_list ps) (lay_list qs) (by unfold cLine; omega) ?_)
  rw [PyData.eqv, eqv_pairs]; exact h
theorem q_eql (hu : A.units < 9100) (x : At s.heap l (.list xs)) (y : At s.heap b (.list ys)) (hx : Pairs s.heap xs ps) (hy : Pairs s.heap ys qs) (h : Q (.bool (decide (ps = qs))) s) : wpC (Mw w) A (compareOp .Eq (.ref l) (.ref b)) Q E s := by
  obtain ⟨_, r1⟩ := hx.reads; obtain ⟨_, r2⟩ := hy.reads
  obtain ⟨o, e, n, rfl⟩ := x; obtain ⟨o', e', n', rfl⟩ := y
  refine c_any (eq_dataH (reads_list_at e rfl rfl r1) (reads_list_at e' rfl rfl r2) (lay_list ps) (lay_list qs) (by unfold cLine; omega) ?_)
  rw [PyData.eqv, eqv_pairs]; exact h
theorem q_nen (hu : A.units < 9100) (x : At s.heap l (.list [])) (y : At s.heap b (.list [])) (h : Q (.bool false) s) : wpC (Mw w) A (compareOp .NotEq (.ref l) (.ref b)) Q E s :=
  q_nel hu x y .nil .nil (by simpa using h)
theorem lexlt_self : ∀ l : List Int, lexlt l l = false
  | [] => rfl
  | a :: r => by rw [lexlt, if_pos rfl, lexlt_self r]
set_option maxHeartbeats 4000000 in
theorem tup_lt0 {a l a' l' : Addr} {t t' : Tok} {xs xs' : List Value} {p q : Int × List Int} (n n' : Nat) : Meets (Builtin.«tuple.__lt__» ⟨[.ref a, .ref a'], []⟩)
      (fun A R s => A.units < 9200 ∧ s.heap.get? a = some { cls := .type "tuple", data := .seq #[.int p.1 t, .ref l] n } ∧ s.heap.get? a' = some { cls := .type "tuple", data := .seq #[.int q.1 t', .ref l'] n' } ∧
        At s.heap l (.list xs) ∧ At s.heap l' (.list xs') ∧ Ints xs p.2 ∧ Ints xs' q.2 ∧
        R (.ok (.ret (.bool (pairlt p q)))) s) := by
  intro prog w A R s h
  obtain ⟨hp, g, d, tk, os⟩ := s; obtain ⟨hu, e1, e2, x2, y2, x3, y3, h⟩ := h
  have f3 := AutoSeq1.sub_tuple_tuple
  have hu' : A.in1.units < cLine := by
    have h2 : A.in1.units = A.units + 1 := rfl
    unfold cLine; omega
  have heq : ∀ {E' : Value → Shared → Prop} {Q' : Bool → Shared → Prop}, Q' (decide (p.2 = q.2)) ⟨hp, g, d, tk, os⟩ → wpAny (model prog w) A.in1 (eqBool (.ref l) (.ref l')) Q' E' ⟨hp, g, d, tk, os⟩ := fun {E' Q'} k => by
    obtain ⟨o, e, n, rfl⟩ := id x2
    obtain ⟨o', e', n', rfl⟩ := id y2
    have r1 := reads_list_at e rfl rfl x3.reads
    have r2 := reads_list_at e' rfl rfl y3.reads
    refine PySem.SeqAt.eqBoolOverData prog w _ _ _ _ _ _ _ _ _ _ r1 r2 (lay_ints p.2).1 (lay_ints q.2).1 ?_ ?_
    · have h1 : (PyData.list (p.2.map PyData.int)).depth ≤ 2 := by rw [PyData.depth]; have := (lay_ints p.2).2; omega
      have h2 : A.in1.units = A.units + 1 := rfl
      have h3 := Nat.min_le_left (PyData.list (p.2.map PyData.int)).depth (PyData.list (q.2.map PyData.int)).depth
      unfold cLine
      omega
    · rw [PyData.eqv, eqv_ints]; exact k
  have hlt : ∀ {E' : Value → Shared → Prop} {Q' : Value → Shared → Prop}, Q' (.bool (lexlt p.2 q.2)) ⟨hp, g, d, tk, os⟩ → wpAny (model prog w) A.in1 (richCompare .Lt (.ref l) (.ref l')) Q' E' ⟨hp, g, d, tk, os⟩ := fun k => rc_list_lt x2 y2 x3 y3 hu' k
  have heqi : ∀ {E' : Value → Shared → Prop} {Q' : Bool → Shared → Prop}, Q' (p.1 == q.1) ⟨hp, g, d, tk, os⟩ → wpAny (model prog w) A.in1 (eqBool (.int p.1 t) (.int q.1 t')) Q' E' ⟨hp, g, d, tk, os⟩ := wpAny_eqBool_int
  have hlti : ∀ {E' : Value → Shared → Prop} {Q' : Value → Shared → Prop}, Q' (.bool (decide (p.1 < q.1))) ⟨hp, g, d, tk, os⟩ → wpAny (model prog w) A.in1 (richCompare .Lt (.int p.1 t) (.int q.1 t')) Q' E' ⟨hp, g, d, tk, os⟩ := fun k => P.lt_int k
  by_cases hpq : p.1 = q.1
  · have hb := beq_iff_eq.mpr hpq
    simp only [pairlt, hpq, if_true] at h
    by_cases hl : p.2 = q.2
    · rw [hl] at h
      have hd : decide (p.2 = q.2) = true := decide_eq_true hl
      rw [hd] at heq
      rw [hb] at heqi
      wp_walk using wpAny_loadPart' e1, wpAny_loadPart' e2, heq, heqi
      rw [lexlt_self] at h
      exact h
    · have hd : decide (p.2 = q.2) = false := decide_eq_false hl
      rw [hd] at heq
      rw [hb] at heqi
      wp_walk using wpAny_loadPart' e1, wpAny_loadPart' e2, heq, heqi, hlt
      exact h
  · have hb := beq_eq_false_iff_ne.mpr hpq
    simp only [pairlt, hpq, if_false] at h
    rw [hb] at heqi
    wp_walk using wpAny_loadPart' e1, wpAny_loadPart' e2, heqi, hlti
    exact h
theorem q_ltp (x : IsPair s.heap u p) (y : IsPair s.heap v q) (hu : A.units < 9100) (h : Q (.bool (pairlt p q)) s) : wpC (Mw w) A (compareOp .Lt u v) Q E s := by
  obtain ⟨a, t, l, xs, rfl, x1, x2, x3⟩ := x.ok
  obtain ⟨a', t', l', xs', rfl, y1, y2, y3⟩ := y.ok
  refine c_any (show wpAny _ _ (richCompare .Lt _ _) _ _ _ from ?_)
  obtain ⟨o, e, n, rfl⟩ := id x1
  obtain ⟨o', e', n', rfl⟩ := id y1
  exact richCompare_meets_room x1.isTup.typeIs y1.isTup.typeIs F.slot_tuple_lt F.entry_tuple_lt (F.args_tuple_lt_2 _ _) (tup_lt0 n n')
    ⟨by omega, e, e', x2, y2, x3, y3, show Value.bool (pairlt p q) ≠ .notImplemented ∧ Q (.bool (pairlt p q)) s from ⟨(fun q => nomatch q), h⟩⟩ (by unfold cLine; omega)
end
end Mine
end
section
open PySem PySem.W PyProof.Rows PySem.Calls
set_option maxRecDepth 100000
namespace Mine
open PySem.Sem (wp)

-- names, in any environment
section
variable {w : World} {O : OsState} {g : Heap} {L : Addr} {s : Shared} {m : Str → Option Value} {led : Led} {A : Around} {E : Value → Shared → Prop} {env : Env} {M : Model}
theorem v_loc {x : Str} {pos : Pos} {v : Value} {Q : Value → Shared → Prop} (I : St w O g L s m led) (hv : m x = some v) (h : Q v s) (hL : env.locals = L := by rfl)
    (hk : env.scope.kind = .function := by rfl) (hl : env.kindOf x = some .local := by with_unfolding_all rfl) (hd : (x == ("__debug__" : Str)) = false := by decide) : wpC M A (eval (.Name x pos) env) Q E s := by
  subst hL; exact c_any (wpAny_Name (wpAny_loadName_local hk hl I.ns hv h) hd)
theorem w_loc {x : Str} {v : Value} {Q : Value → Shared → Prop} (I : St w O g L s m led) (hv : m x = some v) (h : Q v s) (hL : env.locals = L := by rfl)
    (hk : env.scope.kind = .function := by rfl) (hl : env.kindOf x = some .local := by with_unfolding_all rfl) : wpC M A (loadName env x) Q E s := by
  subst hL; exact c_any (wpAny_loadName_local hk hl I.ns hv h)
theorem v_glob {x : Str} {pos : Pos} {v : Value} {Q : Value → Shared → Prop} (I : St w O g L s m led) (e : nsIn (Kf w) mainGlobals x = some (some v)) (h : Q v s) (hG : env.globals = mainGlobals := by rfl)
    (hk : env.scope.kind = .function := by rfl) (hx : env.kindOf x = some .globalImplicit := by with_unfolding_all rfl) (hd : (x == ("__debug__" : Str)) = false := by decide) : wpC M A (eval (.Name x pos) env) Q E s :=
  let ⟨_, G⟩ := I.stah.g
  c_any (Calls.Name_function_global hk hx (Calls.loadGlobal_global (env := env) (hG ▸ G) (mg_of I.stah.k G e) h) hd)
theorem v_built {x : Str} {pos : Pos} {v : Value} {Q : Value → Shared → Prop} (I : St w O g L s m led) (e : nsIn (Kf w) mainGlobals x = some none) (hv : bootBuiltins x = some v) (hn : x ≠ "__name__") (h : Q v s) (hG : env.globals = mainGlobals := by rfl)
    (hB : env.builtins = builtinsNs := by rfl) (hk : env.scope.kind = .function := by rfl) (hx : env.kindOf x = some .globalImplicit := by with_unfolding_all rfl) (hd : (x == ("__debug__" : Str)) = false := by decide) : wpC M A (eval (.Name x pos) env) Q E s :=
  let ⟨_, G⟩ := I.stah.g
  let ⟨_, B, hb⟩ := I.stah.b
  c_any (Calls.Name_function_global hk hx (Calls.loadGlobal_builtin (env := env) (hG ▸ G) (mg_none_of I.stah.k G e) (hB ▸ B) ((hb x hn).trans hv) h) hd)
theorem v_cell {x : Str} {pos : Pos} {c : Addr} {v : Value} {Q : Value → Shared → Prop} (I : St w O g L s m led) (hv : g.IsCell c (some v)) (h : Q v s) (hc : env.cells.lookup x = some c := by with_unfolding_all rfl)
    (hk : env.scope.kind = .function := by rfl) (hl : env.kindOf x = some .cell := by with_unfolding_all rfl) (hd : (x == ("__debug__" : Str)) = false := by decide) : wpC M A (eval (.Name x pos) env) Q E s :=
  c_any (wpAny_Name (wpAny_loadName_cell hk hl hc (hv.keeps I.keep) h) hd)
theorem v_store {x : Str} {v : Value} {Q : Unit → Shared → Prop} (I : St w O g L s m led)
    (h : ∀ s', St w O g L s' (fun y => if y = x then some v else m y) led → Q () s') (hL : env.locals = L := by rfl)
    (hk : env.scope.kind = .function := by rfl) (hl : env.kindOf x = some .local := by with_unfolding_all rfl) : wpC M A (storeName env x v) Q E s := by
  subst hL
  exact c_any (wpAny_storeName_local hl I.ns (fun h' hn hs => h _ (I.set hn hs)) (by rw [hk]; rfl))
end

-- comprehensions
section
variable {M : Model} {A : Around} {s : Shared} {env : Env}
noncomputable def postC (M : Model) (A : Around) (use : Option (Value → Sem Unit)) (Q : Value → Shared → Prop) (acc : Value) (C : Addr) (r : Result) (s' : Shared) : Prop :=
  match r, use with
  | .ok _, none => ∃ m, s'.heap.Ns C m ∧ ∀ h', Heap.SameBut C s'.heap h' → Q acc { s' with heap := h' }
  | .ok _, some u => wpC M A (u acc) (fun _ s'' => ∃ m, s''.heap.Ns C m ∧ ∀ h', Heap.SameBut C s''.heap h' → Q .none { s'' with heap := h' }) NoE s'
  | .error _, _ => False
theorem c_standIf {α : Type} {c : Prop} [Decidable c] {pos : Pos} {k : PUnit → Sem α} {E : Value → Shared → Prop} {Q : α → Shared → Prop} (h : wpC M A (k ()) Q E s) :
    wpC M A (if c then (standAt pos >>= k) else k ()) Q E s := by
  split
  · exact c_bind (c_stand h)
  · exact h
theorem c_comp {e : PySem.Expr} {scope : Scope} {pos : Pos} {newAcc first : Sem Value} {gc : Comprehension} {gs : List Comprehension} {cl : List (Str × Addr)} {use : Option (Value → Sem Unit)}
    {Q : Value → Shared → Prop}
    (hcl : clausesOf e = gc :: gs) (hs : ∀ x, foldedSetIterable gc.iter env x = pure x) (hclos : closureFor scope env = pure cl)
    (hkind : scope.kind = .function) (hnames : ∀ x ∈ scope.names, x.2 = .local → scope.names.lookup x.1 = some .local)
    (h : wpC M A first (fun x s₁ => wpC M A (pyIter x) (fun it s₂ => wpC M A newAcc (fun acc s₃ =>
      wpC M A (newFunctionEnv scope env.globals cl [] env.qual none .none (some env)) (fun cenv s₄ =>
        codeC M A (.compStart e 0 it acc { cenv with scope := relabel scope env }) (postC M A use Q acc cenv.locals) s₄) NoE s₃) NoE s₂) NoE s₁) NoE s) :
    wpC M A (comprehension e scope env pos newAcc false first use) Q NoE s := by
  unfold comprehension
  rw [hclos, hcl]
  refine c_bind (c_monoQ h fun x s₁ h₁ => c_bind (c_stand (c_bind (c_eq (hs x) (c_pure (c_bind (c_holding (c_monoQ h₁ fun it s₂ h₂ =>
    c_standIf (c_bind (c_monoQ h₂ fun acc s₃ h₃ => c_bind (c_pure (c_bind (c_monoQ h₃ fun cenv s₄ h₄ => ?_)))))))))))))
  dsimp only
  have hv : ∀ x ∈ (scope.names.filter fun x => (x.2 == .local || x.2 == .cell) && x.1 != (".0" : Str)).reverse, x.2 = .local →
      Env.kindOf { cenv with scope := relabel scope env } x.1 = some .local := fun x hx hl => lookup_relabel_local (hnames x (List.mem_filter.mp (List.mem_reverse.mp hx)).1 hl)
  have hv' : ∀ x ∈ (scope.names.filter fun x => (x.2 == .local || x.2 == .cell) && x.1 != (".0" : Str)).reverse.drop 1 ++ (scope.names.filter fun x => (x.2 == .local || x.2 == .cell) && x.1 != (".0" : Str)).reverse.take 1,
      x.2 = .local → Env.kindOf { cenv with scope := relabel scope env } x.1 = some .local := fun x hx hl => by
    rcases List.mem_append.mp hx with h1 | h1
    · exact hv x (List.mem_of_mem_drop h1) hl
    · exact hv x (List.mem_of_mem_take h1) hl
  refine c_holding (c_bind (c_attempt (c_holding (c_run (codeC_mono h₄ fun r s' hr => ?_)))))
  cases r with
  | ok f =>
    cases use with
    | none =>
      obtain ⟨m, hn, hr⟩ := hr
      exact c_bind (c_holding (c_any (wpAny_comp_letGo (cenv := { cenv with scope := relabel scope env }) hkind _ s' m hv hn fun h' m' _ hs' => c_pure (hr h' hs'))))
    | some u =>
      refine c_bind (c_rule (c_bind (c_holding (c_monoQ hr fun _ s'' hr' => ?_))))
      obtain ⟨m, hn, hr'⟩ := hr'
      exact c_bind (c_any (wpAny_comp_letGo (cenv := { cenv with scope := relabel scope env }) hkind _ s'' m hv' hn fun h' m' _ hs' => c_pure (hr' h' hs')))
  | error x => exact hr.elim
end
section
variable {prog : Program} {w : World} {A : Around} {R : Result → Shared → Prop} {s : Shared}
theorem c_notedAt {α : Type} {m : Sem α} {k : Value → Sem Unit} {M : Model} {E : Value → Shared → Prop} {Q : α → Shared → Prop} (h : wpC M A m Q NoE s) : wpC M A (m.onRaise k) Q E s :=
  c_onRaise (c_mono h (fun _ _ q => q) fun _ _ x => x.elim)
theorem codeC_compStart {elt target iter ifs rest scope pos it acc env}
    (h0 : codeC (model prog w) A (.compLoop (.ListComp elt (⟨target, iter, ifs, 0⟩ :: rest) scope pos) 0 it acc env) R s)
    (h : wpC (model prog w) A (pyIter it) (fun it' s' => codeC (model prog w) A (.compLoop (.ListComp elt (⟨target, iter, ifs, 0⟩ :: rest) scope pos) 0 it' acc env) R s') NoE s) :
    codeC (model prog w) A (.compStart (.ListComp elt (⟨target, iter, ifs, 0⟩ :: rest) scope pos) 0 it acc env) R s := by
  refine codeC_tree (fun _ _ => rfl) ?_
  show wpC _ A ((compStart (.ListComp elt (⟨target, iter, ifs, 0⟩ :: rest) scope pos) 0 it acc env).onRaise (fun x => do noteFrame x env; standAt theWindowsPlace)) _ _ s
  refine c_notedAt ?_
  unfold compStart
  show wpC _ _ (ask >>= _) _ _ s
  refine c_bind (c_any (wpAny_askSetting (c_ite ?_)))
  split
  · first
      | exact c_bind (c_pure (c_pure (And.intro rfl h0)))
      | exact c_pure (And.intro rfl h0)
  · first
      | exact c_bind (c_rule (c_bind (c_stand (c_bind (c_monoQ h fun it' s' h' => c_pure (And.intro rfl h'))))))
      | (refine c_bind (c_rule ?_); show wpC _ _ (standAt iter.pos >>= _) _ _ s; exact c_bind (c_stand (c_bind (c_monoQ h fun it' s' h' => c_pure (And.intro rfl h')))))
/-- the loop of a comprehension; its tests come as one -/
theorem codeC_compLoop {elt target iter : PySem.Expr} {ifs : List PySem.Expr} {scope : Scope} {pos : Pos} {it acc : Value} {env : Env} (I : Nat → Shared → Prop)
    (turn : ∀ n s, I n s → wpC (model prog w) A (pyNext it) (fun r s₁ => match r with
      | none => R (.ok .next) s₁
      | some v => wpC (model prog w) A (assign target env v) (fun _ s₂ =>
          wpC (model prog w) A (forIn ifs true fun c r => if r = true then do let ok ← isTrue c env (eval c env); pure (ForInStep.yield ok) else pure (ForInStep.yield r)) (fun ok s₃ =>
            if ok = true then wpC (model prog w) A (eval elt env) (fun x s₃ => wpC (model prog w) A (call (.builtin "list.append") [acc, x]) (fun _ s₄ => ∃ m, m < n ∧ I m s₄) NoE s₃) NoE s₃
            else ∃ m, m < n ∧ I m s₃) NoE s₂) NoE s₁) NoE s)
    (n : Nat) (h : I n s) (ht : ∀ v, letOwnedTupleGo target it v = pure () := by intro _; rfl) :
    codeC (model prog w) A (.compLoop (.ListComp elt [⟨target, iter, ifs, 0⟩] scope pos) 0 it acc env) R s := by
  refine codeC_loop (fun _ _ => rfl) rfl I (fun n s hI => ?_) n h
  show wpC _ _ ((compTurn (.ListComp elt [⟨target, iter, ifs, 0⟩] scope pos) 0 it acc env).onRaise (fun x => do noteFrame x env; theTreesLotGoes x)) _ _ s
  refine c_notedAt ?_
  rw [compTurn_list]
  refine c_bind (c_stand (c_bind (c_monoQ (turn n s hI) fun r s₁ h₁ => ?_)))
  cases r with
  | none => exact c_pure h₁
  | some v =>
    refine c_bind (c_eq (ht v) (c_pure ?_))
    refine c_bind (c_monoQ h₁ fun _ s₂ h₂ => c_bind (c_monoQ h₂ fun ok s₃ h₃ => ?_))
    cases ok with
    | true =>
      simp only [if_true] at h₃ ⊢
      first
        | exact c_bind (c_bind (c_monoQ h₃ fun x s₄ h₄ => c_bind (c_monoQ h₄ fun _ s₅ h₅ => c_pure (c_pure (.inl ⟨rfl, h₅⟩)))))
        | exact c_bind (c_monoQ h₃ fun x s₄ h₄ => c_bind (c_monoQ h₄ fun _ s₅ h₅ => c_pure (.inl ⟨rfl, h₅⟩)))
    | false =>
      simp only [Bool.false_eq_true, if_false] at h₃ ⊢
      first
        | exact c_pure (.inl ⟨rfl, h₃⟩)
        | exact c_bind (c_pure (c_pure (.inl ⟨rfl, h₃⟩)))
end
end Mine
end
section
open PySem PySem.W PyProof.Rows PySem.Calls
set_option maxRecDepth 100000
namespace Mine
open PySem.Sem (wp)
section
variable {w : World} {O : OsState} {g : Heap} {L : Addr} {s : Shared} {m : Str → Option Value} {led led' : Led}
theorem St.perm (I : St w O g L s m led) (h : led.Perm led') : St w O g L s m led' :=
  ⟨I.sta, I.ns, I.keep, I.nL, fun p hp => I.ld p (h.mem_iff.mpr hp), ((h.map (·.1)).cons L).nodup_iff.mp I.nd, I.gens, I.os⟩
/-- a namespace within: the outer one on the ledger -/
theorem St.inner (I : St w O g L s m led) {h : Heap} {tk : Nat} {C : Addr} {mC : Str → Option Value} (hC : s.heap.objs.size ≤ C) (hn : h.Ns C mC) (k : Sub s.heap h) :
    ∃ oL, (∀ h' : Heap, h'.get? L = some oL → h'.Ns L m) ∧ St w O g C { s with heap := h, toks := tk } mC ((L, .raw oL) :: led) := by
  obtain ⟨oL, es, ep, e, q⟩ := I.ns
  refine ⟨oL, fun h' e' => ⟨oL, es, ep, e', q⟩, ⟨I.sta, hn, I.keep.trans k, ?_, fun p hp => ?_, ?_, I.gens, I.os⟩⟩
  · cases e' : g.get? C with
    | none => rfl
    | some o => exact absurd (Heap.lt_size (I.keep _ _ e')) (Nat.not_lt.mpr hC)
  · rcases List.mem_cons.mp hp with rfl | hp
    · exact ⟨⟨oL, k _ _ e, rfl⟩, I.nL⟩
    · exact ⟨(I.ld p hp).1.sub k, (I.ld p hp).2⟩
  · have hlt : ∀ b ∈ L :: led.map (·.1), b < C := fun b hb => by
      rcases List.mem_cons.mp hb with rfl | hb
      · exact Nat.lt_of_lt_of_le (Heap.lt_size e) hC
      · obtain ⟨p, hp, rfl⟩ := List.mem_map.mp hb
        exact Nat.lt_of_lt_of_le (I.ld p hp).1.lt hC
    rw [List.map_cons, List.nodup_cons]
    exact ⟨fun hm => Nat.lt_irrefl _ (hlt _ hm), I.nd⟩
/-- and back -/
theorem St.outer {C : Addr} {mC : Str → Option Value} {oL : Obj} (I : St w O g C s mC ((L, .raw oL) :: led)) (hn : ∀ h' : Heap, h'.get? L = some oL → h'.Ns L m) {h : Heap} (hs : Heap.SameBut C s.heap h) {tk : Nat} : St w O g L { s with heap := h, toks := tk } m led := by
  have nd := I.nd
  rw [List.map_cons, List.nodup_cons] at nd
  have hk : ∀ b o, b ≠ C → s.heap.get? b = some o → h.get? b = some o := fun b o hb e => (hs.2 b hb).trans e
  have neC : ∀ b, b ∈ L :: led.map (·.1) → b ≠ C := fun b hb q => nd.1 (q ▸ hb)
  refine ⟨I.sta, hn _ ?_, fun b o e => hk b o (fun q => by rw [q, I.nL] at e; cases e) (I.keep b o e), (I.ld _ List.mem_cons_self).2, fun p hp => ?_, nd.2, I.gens, I.os⟩
  · obtain ⟨o, e, rfl⟩ := I.at List.mem_cons_self
    exact hk _ _ (neC _ List.mem_cons_self) e
  · obtain ⟨⟨o, e, i⟩, q⟩ := I.ld p (List.mem_cons_of_mem _ hp)
    exact ⟨⟨o, hk _ _ (neC _ (List.mem_cons_of_mem _ (List.mem_map_of_mem hp))) e, i⟩, q⟩
end
section
variable {w : World} {O : OsState} {g : Heap} {L : Addr} {s : Shared} {m : Str → Option Value} {led : Led} {A : Around} {env : Env}
theorem comp_core {elt iter : PySem.Expr} {x : Str} {px : Pos} {ifs : List PySem.Expr} {scope : Scope} {cl : List (Str × Addr)} {pos : Pos} {RR : Value → Addr → Result → Shared → Prop} {it : Value} (n : Nat) (P : Nat → Value → Prop)
    (J : Nat → Heap → List Value → Led → Prop) (hh : A.handled = none) (hcell : ∀ y ∈ scope.names, y.2 ≠ .cell) (hkind : scope.kind = .function) (hx : scope.names.lookup x = some .local) (hn : n < 1000000)
    (h0 : ∀ g', Sub g g' → J 0 g' [] led) (it0 : Iter w g L led n P it s) (I0 : St w O g L s m led)
    (turn : ∀ i g' C D s' mC led' ys v it o oL, Sub g g' → i < n → P i v → J i g' ys led' → St w O g' C s' mC ((it, .raw o) :: (L, .raw oL) :: (D, .list ys) :: led') → mC x = some v →
      wpC (Mw w) A (forIn ifs true fun c r => if r = true then do let ok ← isTrue c (compEnvC scope cl C env) (eval c (compEnvC scope cl C env)); pure (ForInStep.yield ok) else pure (ForInStep.yield r)) (fun ok s₃ =>
        if ok = true then wpC (Mw w) A (eval elt (compEnvC scope cl C env)) (fun y s₄ => ∃ g'' m'' led'', Sub g' g'' ∧ St w O g'' C s₄ m'' ((it, .raw o) :: (L, .raw oL) :: (D, .list ys) :: led'') ∧ J (i + 1) g'' (ys ++ [y]) led'') NoE s₃
        else ∃ g'' m'' led'', Sub g' g'' ∧ St w O g'' C s₃ m'' ((it, .raw o) :: (L, .raw oL) :: (D, .list ys) :: led'') ∧ J (i + 1) g'' ys led'') NoE s')
    (hR : ∀ g' s' C mC led' D ys oL, Sub g g' → St w O g' C s' mC ((L, .raw oL) :: (D, .list ys) :: led') → (∀ h' : Heap, h'.get? L = some oL → h'.Ns L m) → J n g' ys led' → RR (.ref D) C (.ok .next) s') :
    wpC (Mw w) A (newList []) (fun acc s₃ => wpC (Mw w) A (newFunctionEnv scope env.globals cl [] env.qual none .none (some env)) (fun cenv s₄ =>
      codeC (Mw w) A (.compStart (.ListComp elt [⟨.Name x px, iter, ifs, 0⟩] scope pos) 0 it acc { cenv with scope := relabel scope env }) (RR acc cenv.locals) s₄) NoE s₃) NoE s := by
  obtain ⟨I, fp, St', g₁, o, rfl, W, st0, hal, k1, I4, hfp⟩ := it0.start I0
  refine n_list I4 (by decide) fun D s₃ I5 => ?_
  have st3 : St' 0 s₃.heap := (W A hh).frame _ _ _ st0 fun b hb o' e => by
    by_cases hbI : b = I
    · subst hbI
      obtain ⟨y, ey, rfl⟩ := I4.at List.mem_cons_self
      obtain ⟨z, ez, rfl⟩ := I5.at (List.mem_cons_of_mem _ List.mem_cons_self)
      rw [ey] at e; rw [ez]; exact e
    · obtain ⟨z, hz⟩ := hfp b hb hbI
      have e1 := I4.keep _ _ hz
      rw [e1] at e; cases e
      exact I5.keep _ _ hz
  refine c_any (wpAny_newFunctionEnv hcell (by intro y hy; simp at hy) (fun h₁ hns₁ hsb₁ => ?_) hkind)
  try dsimp only at hns₁ hsb₁ ⊢
  have hsub : Sub s₃.heap h₁ := fun b o e => hsb₁.extBut b o (Nat.ne_of_lt (Heap.lt_size e)) (Heap.get?_push_of_some _ e)
  obtain ⟨oL, hnL, I6⟩ := I5.inner (tk := s₃.toks + ([] : List (Str × Value)).length) (Nat.le_refl _) hns₁ hsub
  have st4 : St' 0 h₁ := (W A hh).frame _ _ _ st3 fun b _ o e => hsub b o e
  have I7 := I6.perm (led' := (I, .raw o) :: (L, .raw oL) :: (D, .list []) :: led)
    (((List.Perm.swap _ _ _).cons _).trans (List.Perm.swap _ _ _))
  refine codeC_compStart ?_ (c_any ((W A hh).self 0 _ _ _ st4 ?_))
  all_goals
    show codeC (Mw w) A (.compLoop (.ListComp elt [⟨.Name x px, iter, ifs, 0⟩] scope pos) 0 (.ref I) (.ref D) (compEnvC scope cl s₃.heap.objs.size env)) _ _
    refine codeC_compLoop (fun k s' => ∃ i g' mC led' ys o, k = n + 1 - i ∧ i ≤ n ∧ ys.length ≤ i ∧ Sub g₁ g' ∧ St w O g' s₃.heap.objs.size s' mC ((I, .raw o) :: (L, .raw oL) :: (D, .list ys) :: led') ∧ J i g' ys led' ∧ St' i s'.heap)
      ?_ (n + 1) ⟨0, g₁, _, led, [], o, rfl, Nat.zero_le _, Nat.le_refl _, Sub.refl _, I7, h0 _ k1, st4⟩
    rintro k s' ⟨i, g', mC, led', ys, o, rfl, hi, hys, kg, IS, hJ, st⟩
    have hfp' : ∀ b ∈ fp, b ≠ I → ∃ o, g'.get? b = some o := fun b hb hne => let ⟨o, e⟩ := hfp b hb hne; ⟨o, kg _ _ e⟩
    refine Iter.turn (W A hh) hal rfl IS st (fun hlt v s₂ o' hP st' I5 => ?_) (fun hin s₂ I5 => ?_) hi
    · refine a_Name (v_store I5 (fun s₅ I8 => ?_) rfl (by exact hkind) (lookup_relabel_local hx))
      have st₅ : St' (i + 1) s₅.heap := Iter.kept (W A hh) hfp' I5 (Sub.refl _) I8 st'
      refine c_monoQ (turn i g' _ D s₅ _ led' ys v I o' oL (k1.trans kg) hlt hP hJ I8 (by simp)) fun ok s₆ h₆ => ?_
      cases ok with
      | false =>
        simp only [Bool.false_eq_true, if_false] at h₆ ⊢
        obtain ⟨g'', m'', led'', k3, I9, hJ'⟩ := h₆
        exact ⟨n + 1 - (i + 1), by omega, i + 1, g'', m'', led'', ys, o', rfl, hlt, by omega, kg.trans k3, I9, hJ', Iter.kept (W A hh) hfp' I8 k3 I9 st₅⟩
      | true =>
        simp only [if_true] at h₆ ⊢
        refine c_monoQ h₆ fun y s₇ h₇ => ?_
        obtain ⟨g'', m'', led'', k3, I9, hJ'⟩ := h₇
        refine c_lappend I9 (I9.at (List.mem_cons_of_mem _ (List.mem_cons_of_mem _ List.mem_cons_self))) (by omega) (.tail (.tail .head)) fun s₈ I10 => ?_
        exact ⟨n + 1 - (i + 1), by omega, i + 1, g'', m'', led'', _, o', rfl, hlt, by rw [List.length_append, List.length_singleton]; omega, kg.trans k3, I10, hJ', Iter.kept (W A hh) hfp' I8 k3 I10 st₅⟩
    · subst hin
      exact hR g' _ _ mC led' D ys oL (k1.trans kg) I5 hnL hJ
noncomputable abbrev testsC (ifs : List PySem.Expr) (e : Env) : Sem Bool := forIn ifs true fun c r => if r = true then do let ok ← isTrue c e (eval c e); pure (ForInStep.yield ok) else pure (ForInStep.yield r)
theorem t_none {M : Model} {E : Value → Shared → Prop} {Q : Bool → Shared → Prop} {e : Env} (h : Q true s) : wpC M A (testsC [] e) Q E s := c_pure h
theorem t_one {M : Model} {E : Value → Shared → Prop} {Q : Bool → Shared → Prop} {c : PySem.Expr} {e : Env} (h : wpC M A (isTrue c e (eval c e)) Q E s) : wpC M A (testsC [c] e) Q E s := by
  unfold testsC
  rw [List.forIn_cons]
  refine c_bind ?_
  simp only [if_true]
  refine c_bind (c_monoQ h fun b s' q => c_pure ?_)
  exact c_pure q
/-- [elt for x in iter ...] -/
theorem e_Comp {elt iter : PySem.Expr} {x : Str} {px : Pos} {ifs : List PySem.Expr} {scope : Scope} (cl : List (Str × Addr)) {pos : Pos} {Q : Value → Shared → Prop} (n : Nat) (P : Nat → Value → Prop)
    (J : Nat → Heap → List Value → Led → Prop) (hh : A.handled = none) (hn : n < 1000000)
    (h : wpC (Mw w) A (eval iter env) (fun xv s₁ => wpC (Mw w) A (pyIter xv) (fun it s₂ => Iter w g L led n P it s₂ ∧ St w O g L s₂ m led) NoE s₁) NoE s)
    (h0 : ∀ g', Sub g g' → J 0 g' [] led)
    (turn : ∀ i g' C D s' mC led' ys v it o oL, Sub g g' → i < n → P i v → J i g' ys led' → St w O g' C s' mC ((it, .raw o) :: (L, .raw oL) :: (D, .list ys) :: led') → mC x = some v →
      wpC (Mw w) A (testsC ifs (compEnvC scope cl C env)) (fun ok s₃ =>
        if ok = true then wpC (Mw w) A (eval elt (compEnvC scope cl C env)) (fun y s₄ => ∃ g'' m'' led'', Sub g' g'' ∧ St w O g'' C s₄ m'' ((it, .raw o) :: (L, .raw oL) :: (D, .list ys) :: led'') ∧ J (i + 1) g'' (ys ++ [y]) led'') NoE s₃
        else ∃ g'' m'' led'', Sub g' g'' ∧ St w O g'' C s₃ m'' ((it, .raw o) :: (L, .raw oL) :: (D, .list ys) :: led'') ∧ J (i + 1) g'' ys led'') NoE s')
    (hQ : ∀ g' s' led' D ys, Sub g g' → St w O g' L s' m ((D, .list ys) :: led') → J n g' ys led' → Q (.ref D) s')
    (hclos : closureFor scope env = pure cl := by rfl) (hcell : ∀ y ∈ scope.names, y.2 ≠ .cell := by decide) (hkind : scope.kind = .function := by rfl) (hx : scope.names.lookup x = some .local := by with_unfolding_all rfl)
    (hnames : ∀ x ∈ scope.names, x.2 = .local → scope.names.lookup x.1 = some .local := by decide)
    (hs : ∀ x, foldedSetIterable iter env x = pure x := by intro _; rfl) :
    wpC (Mw w) A (eval (.ListComp elt [⟨.Name x px, iter, ifs, 0⟩] scope pos) env) Q NoE s := by
  rw [eval_ListComp]
  refine c_comp (use := none) rfl hs hclos hkind hnames (c_monoQ h fun xv s₁ h₁ => c_monoQ h₁ fun it s₂ h₂ => ?_)
  refine comp_core (RR := fun acc C => postC (Mw w) A none Q acc C) n P J hh hcell hkind hx hn h0 h₂.1 h₂.2 turn fun g' s' C mC led' D ys oL k I hnL hJ => ?_
  exact ⟨mC, I.ns, fun h' hs' => hQ g' _ led' D ys k (I.outer hnL hs') hJ⟩
/-- the same, all known behind the iterable alone -/
theorem e_CompX {O : OsState} {elt iter : PySem.Expr} {x : Str} {px : Pos} {ifs : List PySem.Expr} {scope : Scope} {cl : List (Str × Addr)} {pos : Pos} {Q : Value → Shared → Prop} (hh : A.handled = none)
    (hclos : closureFor scope env = pure cl)
    (h : wpC (Mw w) A (eval iter env) (fun xv s₁ => wpC (Mw w) A (pyIter xv) (fun it s₂ => ∃ (n : Nat) (P : Nat → Value → Prop) (J : Nat → Heap → List Value → Led → Prop) (g : Heap) (m : Str → Option Value) (led : Led), n < 1000000 ∧ Iter w g env.locals led n P it s₂ ∧ St w O g env.locals s₂ m led ∧
      (∀ g', Sub g g' → J 0 g' [] led) ∧
      (∀ i g' C D s' mC led' ys v it o oL, Sub g g' → i < n → P i v → J i g' ys led' → St w O g' C s' mC ((it, .raw o) :: (env.locals, .raw oL) :: (D, .list ys) :: led') → mC x = some v →
        wpC (Mw w) A (testsC ifs (compEnvC scope cl C env)) (fun ok s₃ =>
          if ok = true then wpC (Mw w) A (eval elt (compEnvC scope cl C env)) (fun y s₄ => ∃ g'' m'' led'', Sub g' g'' ∧ St w O g'' C s₄ m'' ((it, .raw o) :: (env.locals, .raw oL) :: (D, .list ys) :: led'') ∧ J (i + 1) g'' (ys ++ [y]) led'') NoE s₃
          else ∃ g'' m'' led'', Sub g' g'' ∧ St w O g'' C s₃ m'' ((it, .raw o) :: (env.locals, .raw oL) :: (D, .list ys) :: led'') ∧ J (i + 1) g'' ys led'') NoE s') ∧
      (∀ g' s' led' D ys, Sub g g' → St w O g' env.locals s' m ((D, .list ys) :: led') → J n g' ys led' → Q (.ref D) s')) NoE s₁) NoE s)
    (hcell : ∀ y ∈ scope.names, y.2 ≠ .cell := by decide) (hkind : scope.kind = .function := by rfl) (hx : scope.names.lookup x = some .local := by with_unfolding_all rfl)
    (hnames : ∀ x ∈ scope.names, x.2 = .local → scope.names.lookup x.1 = some .local := by decide)
    (hs : ∀ x, foldedSetIterable iter env x = pure x := by intro _; rfl) :
    wpC (Mw w) A (eval (.ListComp elt [⟨.Name x px, iter, ifs, 0⟩] scope pos) env) Q NoE s := by
  rw [eval_ListComp]
  refine c_comp (use := none) rfl hs hclos hkind hnames (c_monoQ h fun xv s₁ h₁ => c_monoQ h₁ fun it s₂ h₂ => ?_)
  obtain ⟨n, P, J, g, m, led, hn, h1, h2, h0, turn, hQ⟩ := h₂
  refine comp_core (RR := fun acc C => postC (Mw w) A none Q acc C) n P J hh hcell hkind hx hn h0 h1 h2 turn fun g' s' C mC led' D ys oL k I hnL hJ => ?_
  exact ⟨mC, I.ns, fun h' hs' => hQ g' _ led' D ys k (I.outer hnL hs') hJ⟩
theorem x_AssignComp {elt iter : PySem.Expr} {x y : Str} {px py : Pos} {ifs : List PySem.Expr} {scope : Scope} (cl : List (Str × Addr)) {pos spos : Pos} {Q : Flow → Shared → Prop} (n : Nat) (P : Nat → Value → Prop)
    (J : Nat → Heap → List Value → Led → Prop) (hh : A.handled = none) (hn : n < 1000000)
    (h : wpC (Mw w) A (eval iter env) (fun xv s₁ => wpC (Mw w) A (pyIter xv) (fun it s₂ => Iter w g L led n P it s₂ ∧ St w O g L s₂ m led) NoE s₁) NoE s)
    (h0 : ∀ g', Sub g g' → J 0 g' [] led)
    (turn : ∀ i g' C D s' mC led' ys v it o oL, Sub g g' → i < n → P i v → J i g' ys led' → St w O g' C s' mC ((it, .raw o) :: (L, .raw oL) :: (D, .list ys) :: led') → mC x = some v →
      wpC (Mw w) A (testsC ifs (compEnvC scope cl C env)) (fun ok s₃ =>
        if ok = true then wpC (Mw w) A (eval elt (compEnvC scope cl C env)) (fun y s₄ => ∃ g'' m'' led'', Sub g' g'' ∧ St w O g'' C s₄ m'' ((it, .raw o) :: (L, .raw oL) :: (D, .list ys) :: led'') ∧ J (i + 1) g'' (ys ++ [y]) led'') NoE s₃
        else ∃ g'' m'' led'', Sub g' g'' ∧ St w O g'' C s₃ m'' ((it, .raw o) :: (L, .raw oL) :: (D, .list ys) :: led'') ∧ J (i + 1) g'' ys led'') NoE s')
    (hQ : ∀ g' s' led' D ys, Sub g g' → St w O g' L s' (fun z => if z = y then some (.ref D) else m z) ((D, .list ys) :: led') → J n g' ys led' → Q .next s')
    (hsw : swapsWith (.ListComp elt [⟨.Name x px, iter, ifs, 0⟩] scope pos) (some (.Name y py)) spos.line env = pure true := by rfl)
    (hclos : closureFor scope env = pure cl := by rfl) (hcell : ∀ y ∈ scope.names, y.2 ≠ .cell := by decide) (hkind : scope.kind = .function := by rfl) (hx : scope.names.lookup x = some .local := by with_unfolding_all rfl)
    (hnames : ∀ x ∈ scope.names, x.2 = .local → scope.names.lookup x.1 = some .local := by decide)
    (hs : ∀ x, foldedSetIterable iter env x = pure x := by intro _; rfl) (hL : env.locals = L := by rfl) (hk : env.scope.kind = .function := by rfl) (hl : env.kindOf y = some .local := by with_unfolding_all rfl) :
    wpC (Mw w) A (exec (.Assign [.Name y py] (.ListComp elt [⟨.Name x px, iter, ifs, 0⟩] scope pos) spos) env) Q NoE s := by
  rw [exec_Assign_Name_used _ _ _ _ hsw]
  refine c_bind (c_stand (c_bind ?_))
  show wpC _ A (do let _ ← comprehension (.ListComp elt [⟨.Name x px, iter, ifs, 0⟩] scope pos) scope env _ (newList []) false (eval iter env) (some (assign (.Name y py) env))) _ _ s
  refine c_bind (c_monoQ (c_comp (use := some (assign (.Name y py) env)) (Q := fun _ s' => Q .next s') rfl hs hclos hkind hnames
    (c_monoQ h fun xv s₁ h₁ => c_monoQ h₁ fun it s₂ h₂ => ?_)) fun _ s' hq => c_pure (c_pure hq))
  refine comp_core (RR := fun acc C => postC (Mw w) A (some (assign (.Name y py) env)) (fun _ s' => Q .next s') acc C) n P J hh hcell hkind hx hn h0 h₂.1 h₂.2 turn fun g' s' C mC led' D ys oL k I hnL hJ => ?_
  show wpC _ _ (assign (.Name y py) env (.ref D)) _ _ _
  have I1 := I.outer (tk := s'.toks) hnL (Heap.SameBut.refl C s'.heap)
  subst hL
  refine a_Name (c_any (wpAny_storeName_local hl I1.ns (fun h' hn' hs' => ?_) (by rw [hk]; rfl)))
  have nd := I.nd
  rw [List.map_cons, List.nodup_cons] at nd
  have hCL : C ≠ env.locals := fun q => nd.1 (q ▸ List.mem_cons_self)
  refine ⟨mC, I.ns.sameBut hs' hCL, fun h'' hs'' => ?_⟩
  have I2 := I1.set (tk := s'.toks + 1) hn' hs'
  -- the comprehension's own names go
  refine hQ g' _ led' D ys k ⟨I2.sta, I2.ns.sameBut hs'' (Ne.symm hCL), fun b o e => (hs''.2 b fun q => ?_).trans (I2.keep b o e), I2.nL, fun p hp => ?_, I2.nd, I2.gens, I2.os⟩ hJ
  · rw [q, I.nL] at e; cases e
  · obtain ⟨⟨o, e, i⟩, q⟩ := I2.ld p hp
    exact ⟨⟨o, (hs''.2 _ fun q => nd.1 (q ▸ List.mem_cons_of_mem _ (List.mem_map_of_mem hp))).trans e, i⟩, q⟩
end
end Mine
end
section
open PySem PySem.W PyProof.Rows PySem.Calls
set_option maxRecDepth 100000
namespace Mine
open PySem.Sem (wp)
section
variable {w : World} {O : OsState} {g : Heap} {s : Shared} {led : Led} {A : Around} {E : Value → Shared → Prop} {name : Str} {scope : Scope}
/-- the call of a def of the text that has cells -/
theorem c_enterC {qual : Str} {params : Arguments} {body : List Stmt} {dV kV doc pm cdv ct oc : Value} {an od : Option Addr} {osl : Array (Option Value)} {f : Addr} {args : List Value} {k : Nat} {Q : Value → Shared → Prop} (bs : List (Str × Value))
    (R : Room A k) (X : Sta w g) (hk : Sub g s.heap) (hl : ∀ p ∈ led, At s.heap p.1 p.2 ∧ g.get? p.1 = none) (nd : (led.map (·.1)).Nodup) (hg : s.gens = #[]) (ho' : s.os = O)
    (ho : (Kf w).lookup f = some ⟨oc, od, .func (fnOf name qual params body scope dV kV doc pm an cdv ct), osl⟩) (hcd : codeIn (Kf w) cdv qual = true)
    (hbind : bindArgs (fnOf name qual params body scope dV kV doc pm an cdv ct) ⟨args, []⟩ = pure bs)
    (hloc : ∀ x ∈ bs, scope.names.lookup x.1 = some .local ∨ (scope.names.lookup x.1 = some .cell ∧ ((cellsFrom (s.heap.objs.size + 1) scope.names []).lookup x.1).isSome = true))
    (h : ∀ L s₁ g₁, Sub g g₁ → St w O g₁ L s₁ (bindL (envOfC qual scope L f cdv).kindOf bs fun _ => none) led → (∀ x c, (cellsFrom (L + 1) scope.names []).lookup x = some c → g₁.IsCell c (bindC (envOfC qual scope L f cdv).kindOf bs (fun _ => none) x)) →
      wpC (Mw w) (A.deeper (envOfC qual scope L f cdv)) (execs body (envOfC qual scope L f cdv)) (fun fl s' => Q (fv fl) s') NoE s₁)
    (hco : scope.isCoroutine = false := by rfl) (hgen : scope.isGenerator = false := by rfl) (hfk : scope.kind = .function := by rfl) : wpC (Mw w) A (call (.ref f) args) Q E s := by
  have Xs := X.sub hk
  refine c_call (codeC_tree (cleanC_call _ _) ?_)
  show wpC _ A.in1 (callAny (.ref f) ⟨args, []⟩) _ _ s
  simp only [callAny]
  refine c_bind (c_any (wpAny_load (Xs.k _ _ ho) ?_))
  obtain ⟨c, oc', vs, tq, hc, hoc, hdc, hq⟩ := codeRec_of Xs.k hcd
  subst hc
  simp only [callFunction, hco, hgen]
  refine c_bind (m := field (.ref c) 1) (c_any (wpAny_field hoc hdc hq ?_))
  refine c_bind (c_pure (c_bind (c_eq hbind (c_pure ?_))))
  refine c_bind (c_any (wpAny_newFunctionEnv_cells hfk hloc fun env he s' x => ?_))
  subst he
  obtain ⟨h₁, tk, rfl⟩ := x.toInCall.same
  have hns := x.toInCall.ns
  have hsub : Sub s.heap h₁ := x.toInCall.keep
  refine c_bind (c_any (wpAny_enterFrame (Xs.lim.keeps hsub) (by show A.depth < recursionLimit; have := R.d; show A.depth < 1000; omega) ?_))
  refine c_pure ⟨rfl, ?_⟩
  have hgL : g.get? s.heap.objs.size = none := by
    cases e : g.get? s.heap.objs.size with
    | none => rfl
    | some x => exact absurd (Heap.lt_size (hk _ _ e)) (Nat.lt_irrefl _)
  have I : St w O g s.heap.objs.size { s with heap := h₁, toks := tk } (bindL (envOfC qual scope s.heap.objs.size f (.ref c)).kindOf bs fun _ => none) led :=
    ⟨X, hns, hk.trans hsub, hgL, fun p hp => ⟨(hl p hp).1.sub hsub, (hl p hp).2⟩, by
      rw [List.nodup_cons]
      exact ⟨fun hm => by obtain ⟨p, hp, e⟩ := List.mem_map.mp hm; exact absurd (hl p hp).1.lt (by rw [e]; exact Nat.lt_irrefl _), nd⟩, hg, ho'⟩
  obtain ⟨k1, k2, I2⟩ := I.base
  refine codeC_tree (cleanC_func _ _) ?_
  show wpC _ (A.deeper _) (do point; match ← (execs body _).onRaise (leaving _) with | .ret v => ret v | _ => ret .none) _ _ _
  refine c_bind (c_point (c_bind (c_onRaise (c_mono (h _ _ _ k1 I2 fun y c' e => ?_) (fun f s' h' => ?_) fun e s' h' => h'.elim))))
  · obtain ⟨o, eo, d⟩ := x.cell y c' e
    have hlt : s.heap.objs.size < c' := x.above y c' (mem_of_lookup e)
    exact ⟨o, base_get eo (Nat.ne_of_gt hlt) fun p hp q => Nat.lt_irrefl _ (Nat.lt_trans (q ▸ (hl p hp).1.lt) hlt), d⟩
  · cases f <;> exact c_pure h'
end

-- swapped and unpacked stores
section
variable {w : World} {O : OsState} {g : Heap} {L : Addr} {s : Shared} {m : Str → Option Value} {led : Led} {A : Around} {E : Value → Shared → Prop} {env : Env}
end
end Mine
end
section
open PySem PySem.W PyProof.Rows PySem.Calls
set_option maxRecDepth 100000
namespace Mine
open PySem.Sem (wp)
theorem look_ne {x y : Str} {u b v : Option Value} (h : x ≠ y) (e : b = v) : (if x = y then u else b) = v := (if_neg h).trans e
theorem look_eq {x : Str} {u b : Option Value} : (if x = x then u else b) = u := if_pos rfl
/-- what of h' is not in h -/
noncomputable def fresh (h h' : Heap) : Heap := hideAll h' ((List.range h.objs.size).filter fun b => (h.get? b).isSome)
theorem fresh_get {h h' : Heap} {b : Addr} {o : Obj} (e : h'.get? b = some o) (n : h.get? b = none) : (fresh h h').get? b = some o :=
  hideAll_get _ e fun q => by
    have := (List.mem_filter.mp q).2
    rw [n] at this; cases this
theorem of_fresh {h h' : Heap} {b : Addr} {o : Obj} (e : (fresh h h').get? b = some o) : h'.get? b = some o ∧ h.get? b = none := by
  refine ⟨of_hideAll _ e, ?_⟩
  cases q : h.get? b with
  | none => rfl
  | some x =>
    unfold fresh at e
    rw [hideAll_none _ (List.mem_filter.mpr ⟨List.mem_range.mpr (Heap.lt_size q), by rw [q]; rfl⟩)] at e
    cases e
theorem sub_fresh {h h' h'' : Heap} (k : Sub h' h'') : Sub (fresh h h') (fresh h h'') := fun _ _ e => fresh_get (k _ _ (of_fresh e).1) (of_fresh e).2
theorem fresh_sub {h h' : Heap} : Sub (fresh h h') h' := fun _ _ e => (of_fresh e).1
theorem sub_none {h h' : Heap} (k : Sub h h') {b : Addr} (e : h'.get? b = none) : h.get? b = none := by
  cases q : h.get? b with
  | none => rfl
  | some o => rw [k _ _ q] at e; cases e
theorem fresh_low {h₀ h h' : Heap} (k : Sub h₀ h) : Sub (fresh h h') (fresh h₀ h') := fun _ _ e => fresh_get (of_fresh e).1 (sub_none k (of_fresh e).2)
theorem IsPair.mono {h h' : Heap} {v : Value} {p : Int × List Int} (x : IsPair h v p) (k : Sub h h') : IsPair h' v p := by
  obtain ⟨a, t, l, xs, e, x1, x2, x3⟩ := x.ok
  exact ⟨a, t, l, xs, e, x1.sub k, x2.sub k, x3⟩
theorem Pairs.mono {h h' : Heap} {vs : List Value} {ps : List (Int × List Int)} (x : Pairs h vs ps) (k : Sub h h') : Pairs h' vs ps := by
  induction x with
  | nil => exact .nil
  | cons y _ ih => exact .cons (y.mono k) ih
theorem Pairs.snoc {h : Heap} {vs : List Value} {ps : List (Int × List Int)} {v : Value} {p : Int × List Int} (x : Pairs h vs ps) (y : IsPair h v p) : Pairs h (vs ++ [v]) (ps ++ [p]) := by
  induction x with
  | nil => exact .cons y .nil
  | cons z _ ih => exact .cons z ih
theorem Pairs.length {h : Heap} {vs : List Value} {ps : List (Int × List Int)} (x : Pairs h vs ps) : vs.length = ps.length := by
  induction x with
  | nil => rfl
  | cons _ _ ih => rw [List.length_cons, List.length_cons, ih]
theorem Pairs.at {h : Heap} {vs : List Value} {ps : List (Int × List Int)} (x : Pairs h vs ps) {i : Nat} {p : Int × List Int} (e : ps[i]? = some p) : ∃ v, vs[i]? = some v ∧ IsPair h v p := by
  induction x generalizing i with
  | nil => simp at e
  | cons y _ ih => cases i with
    | zero => simp at e; subst e; exact ⟨_, rfl, y⟩
    | succ i => exact ih (by simpa using e)

section
variable {w : World} {O : OsState} {g : Heap} {L : Addr} {s s' : Shared} {m : Str → Option Value} {led : Led}
/-- what a call has made, taken on the ledger -/
theorem St.take (I : St w O g L s m led) (G : Gr O s.heap s') {a : Addr} {c : Cell} (x : At s'.heap a c) (n : s.heap.get? a = none) : St w O g L s' m ((a, c) :: led) := by
  have J := I.gr G
  refine ⟨J.sta, J.ns, J.keep, J.nL, fun p hp => ?_, ?_, J.gens, J.os⟩
  · rcases List.mem_cons.mp hp with rfl | hp
    · exact ⟨x, sub_none I.keep n⟩
    · exact J.ld p hp
  · have nd := I.nd
    rw [List.nodup_cons] at nd
    rw [List.map_cons, List.nodup_cons, List.nodup_cons]
    refine ⟨fun hm => ?_, fun hm => ?_, nd.2⟩
    · rcases List.mem_cons.mp hm with q | q
      · obtain ⟨o, _, _, e, _⟩ := I.ns
        rw [q] at e
        rw [show s.heap.get? a = none from n] at e; cases e
      · exact nd.1 q
    · obtain ⟨p, hp, q⟩ := List.mem_map.mp hm
      obtain ⟨o, e, _⟩ := (I.ld p hp).1
      rw [q] at e; rw [n] at e; cases e
/-- what a call has made, frozen -/
theorem St.freeze (I : St w O g L s m led) (G : Gr O s.heap s') : Sub g (Mine.base s'.heap L led) ∧ St w O (Mine.base s'.heap L led) L s' m led ∧ Sub (fresh s.heap s'.heap) (Mine.base s'.heap L led) := by
  have J := I.gr G
  obtain ⟨k1, k2, k3⟩ := J.base
  refine ⟨k1, k3, fun b o e => ?_⟩
  obtain ⟨e1, e2⟩ := of_fresh e
  refine base_get e1 (fun q => ?_) fun p hp q => ?_
  · obtain ⟨o', _, _, e', _⟩ := I.ns
    rw [← q, e2] at e'; cases e'
  · obtain ⟨o', e', _⟩ := (I.ld p hp).1
    rw [q, e2] at e'; cases e'
end

-- stores of a tuple's items
section
variable {w : World} {O : OsState} {g : Heap} {L : Addr} {s : Shared} {m : Str → Option Value} {led : Led} {A : Around} {E : Value → Shared → Prop} {env : Env}
theorem c_unpack {t : Addr} {xs : List Value} {n : Nat} {Q : List Value → Shared → Prop} (hh : A.handled = none) (I : St w O g L s m led) (x : At s.heap t (.tup xs)) (hn : n = xs.length)
    (h : ∀ s', St w O g L s' m led → Q xs s') : wpC (Mw w) A (unpackItems (.ref t) n none) Q E s := by
  subst hn
  refine c_any ?_
  have e : xs.length = xs.toArray.size := rfl
  rw [e]
  exact unpackItems_tuple hh x.isTup fun h' he => h _ (I.grow (h := h') (tk := s.toks) fun b o q => he b o (Nat.ne_of_lt (Heap.lt_size q)) q)
theorem o_nil {M : Model} {xs : List Value} {Q : Unit → Shared → Prop} (h : Q () s) : wpC M A (assignInOrder [] xs) Q E s := c_pure h
theorem o_cons {M : Model} {t : Value → Sem Unit} {ts : List (Value → Sem Unit)} {x : Value} {xs : List Value} {Q : Unit → Shared → Prop}
    (h : wpC M A (t x) (fun _ s₁ => wpC M A (assignInOrder ts xs) Q E s₁) E s) : wpC M A (assignInOrder (t :: ts) (x :: xs)) Q E s := by
  show wpC M A (do holding xs (t x); assignInOrder ts xs) Q E s
  exact c_bind (c_holding h)
/-- a, b = (x, y): the stores swapped -/
theorem x_Swap {M : Model} {elts k tpos value pos} (names : List Str) {Q : Flow → Shared → Prop}
    (h : wpC M A (eval value env) (fun v s₁ => wpC M A (unpackItems v names.length none) (fun items s₂ =>
      wpC M A (assignInOrder (names.reverse.map fun n => bindName env n) items.reverse) (fun _ => Q .next) E s₂) E s₁) E s)
    (hs : swapsWithSole [.Tuple elts k tpos] value pos.line env = pure false := by rfl)
    (hw : swappedStores [.Tuple elts k tpos] value env = pure (some names) := by rfl) :
    wpC M A (exec (.Assign [.Tuple elts k tpos] value pos) env) Q E s := by
  rw [exec_Assign]
  refine c_bind (c_stand ?_)
  rw [hs]
  refine c_bind (c_pure ?_)
  rw [if_neg (by decide)]
  refine c_bind (c_monoQ h fun v s₁ h₁ => ?_)
  rw [hw]
  refine c_bind (c_pure ?_)
  show wpC M A (do rule "assign.swapped-stores"; let items ← unpackItems v names.length none; assignInOrder (names.reverse.map fun n => bindName env n) items.reverse; pure .next) Q E s₁
  exact c_bind (c_rule (c_bind (c_monoQ h₁ fun items s₂ h₂ => c_bind (c_monoQ h₂ fun _ _ x => c_pure x))))
/-- a, b = f(x) -/
theorem x_Unpack2 {M : Model} {x y : Str} {px py : Pos} {k tpos value pos} {Q : Flow → Shared → Prop}
    (h : wpC M A (eval value env) (fun v s₁ => wpC M A (unpackItems v 2 none) (fun items s₂ => ∃ a b, items = [a, b] ∧
      wpC M A (storeName env x a) (fun _ s₃ => wpC M A (storeName env y b) (fun _ => Q .next) E s₃) E s₂) E s₁) E s)
    (hs : swapsWithSole [.Tuple [.Name x px, .Name y py] k tpos] value pos.line env = pure false := by rfl)
    (hw : swappedStores [.Tuple [.Name x px, .Name y py] k tpos] value env = pure none := by rfl) :
    wpC M A (exec (.Assign [.Tuple [.Name x px, .Name y py] k tpos] value pos) env) Q E s := by
  rw [exec_Assign]
  refine c_bind (c_stand ?_)
  rw [hs]
  refine c_bind (c_pure ?_)
  rw [if_neg (by decide)]
  refine c_bind (c_monoQ h fun v s₁ h₁ => ?_)
  rw [hw]
  refine c_bind (c_pure ?_)
  show wpC M A (do assignAll v [assign (.Tuple [.Name x px, .Name y py] k tpos) env]; pure .next) Q E s₁
  refine c_bind ?_
  show wpC M A (assign (.Tuple [.Name x px, .Name y py] k tpos) env v) _ E s₁
  rw [assign_Tuple]
  refine c_bind (c_stand ?_)
  show wpC M A (do assignInOrder [assign (.Name x px) env, assign (.Name y py) env] (← holding [v] (unpackItems v 2 none))) _ E s₁
  refine c_bind (c_holding (c_monoQ h₁ fun items s₂ h₂ => ?_))
  obtain ⟨a, b, rfl, h₂⟩ := h₂
  exact o_cons (a_Name (c_monoQ h₂ fun _ s₃ h₃ => o_cons (a_Name (c_monoQ h₃ fun _ s₄ h₄ => o_nil (c_pure h₄)))))
theorem q_le1 {a b : Nat} {t u : Tok} {Q : Value → Shared → Prop} (h : Q (.bool (decide (a ≤ b))) s) : wpC (Mw w) A (compareOp .LtE (.str ⟨#[a]⟩ t) (.str ⟨#[b]⟩ u)) Q E s := by
  refine c_any (P.le_str ?_)
  have e : (!decide ((⟨#[b]⟩ : Str).cps.toList < (⟨#[a]⟩ : Str).cps.toList)) = decide (a ≤ b) := by
    by_cases hab : a ≤ b
    · have : ¬ ([b] < [a]) := by simp [List.cons_lt_cons_iff]; omega
      simp [hab, this]
    · have : [b] < [a] := by simp [List.cons_lt_cons_iff]; omega
      simp [hab, this]
  rw [e]; exact h
theorem cw_m0 {pos : Pos} {f : Value} {es : List PySem.Expr} {Q : Value → Shared → Prop} (hf : keeperOf f = pure Keeper.machine) (hp : (starEach es env).any (·.1) = false)
    (h : wpC (Mw w) A (spliced (backTo pos (starEach es env))) (fun vs s₁ => wpC (Mw w) A (call f vs) Q E s₁) E s) : wpC (Mw w) A (callWith pos f [] (backTo pos (starEach es env)) []) Q E s := cw_machine hf hp h
theorem cw_m1 {pos : Pos} {f x : Value} {es : List PySem.Expr} {Q : Value → Shared → Prop} (hf : keeperOf f = pure Keeper.machine) (hp : (starEach es env).any (·.1) = false)
    (h : wpC (Mw w) A (spliced (backTo pos (starEach es env))) (fun vs s₁ => wpC (Mw w) A (call f (x :: vs)) Q E s₁) E s) : wpC (Mw w) A (callWith pos f [x] (backTo pos (starEach es env)) []) Q E s := cw_machine hf hp h
theorem cw_f0 {pos : Pos} {a : Addr} {es : List PySem.Expr} {Q : Value → Shared → Prop} (hp : (starEach es env).any (·.1) = false)
    (h : wpC (Mw w) A (spliced (backTo pos (starEach es env))) (fun vs s₁ => (∃ o fd, s₁.heap.get? a = some o ∧ o.data = .func fd) ∧ wpC (Mw w) A (call (.ref a) vs) Q E s₁) E s) : wpC (Mw w) A (callWith pos (.ref a) [] (backTo pos (starEach es env)) []) Q E s := cw_fn hp h
theorem o_shrN (k : Nat) {a b : Int} {t u : Tok} {Q : Value → Shared → Prop} (hb : b = (k : Int)) (I : St w O g L s m led) (h : ∀ t s', St w O g L s' m led → Q (.int (a.fdiv (2 ^ k)) t) s') : wpC (Mw w) A (binaryOp .RShift (.int a t) (.int b u)) Q E s := by
  subst hb
  refine o_shr I (by omega) ?_
  rw [Int.toNat_natCast]; exact h
theorem o_ishrN (k : Nat) {a b : Int} {t u : Tok} {Q : Value → Shared → Prop} (hb : b = (k : Int)) (I : St w O g L s m led) (h : ∀ t s', St w O g L s' m led → Q (.int (a.fdiv (2 ^ k)) t) s') : wpC (Mw w) A (inplaceOp .RShift (.int a t) (.int b u)) Q E s := by
  subst hb
  refine o_ishr I (by omega) ?_
  rw [Int.toNat_natCast]; exact h
theorem q_isn_n {Q : Value → Shared → Prop} (h : Q (.bool true) s) : wpC (Mw w) A (compareOp .Is .none .none) Q E s := q_isnone h
theorem q_isn_i {i : Int} {t : Tok} {Q : Value → Shared → Prop} (h : Q (.bool false) s) : wpC (Mw w) A (compareOp .Is (.int i t) .none) Q E s := q_isnone h
theorem q_isn_s {i : Str} {t : Tok} {Q : Value → Shared → Prop} (h : Q (.bool false) s) : wpC (Mw w) A (compareOp .Is (.str i t) .none) Q E s := q_isnone h
theorem q_isn_b {i : Array UInt8} {t : Tok} {Q : Value → Shared → Prop} (h : Q (.bool false) s) : wpC (Mw w) A (compareOp .Is (.bytes i t) .none) Q E s := q_isnone h
theorem all_consA {M : Model} {x : PySem.Expr} {rest : List PySem.Expr} {Q : Bool → Shared → Prop} (h : wpC M A (isTrue x env (eval x env)) (fun b s₁ => if b = true then wpC M A (allTrue .And rest env) Q E s₁ else Q false s₁) E s) : wpC M A (allTrue .And (x :: rest) env) Q E s :=
  all_cons (c_monoQ h fun b s₁ h₁ => by cases b <;> exact h₁)
theorem all_consO {M : Model} {x : PySem.Expr} {rest : List PySem.Expr} {Q : Bool → Shared → Prop} (h : wpC M A (isTrue x env (eval x env)) (fun b s₁ => if b = true then Q true s₁ else wpC M A (allTrue .Or rest env) Q E s₁) E s) : wpC M A (allTrue .Or (x :: rest) env) Q E s :=
  all_cons (c_monoQ h fun b s₁ h₁ => by cases b <;> exact h₁)
theorem all_nilA {M : Model} {Q : Bool → Shared → Prop} (h : Q true s) : wpC M A (allTrue .And [] env) Q E s := all_nil h
theorem all_nilO {M : Model} {Q : Bool → Shared → Prop} (h : Q false s) : wpC M A (allTrue .Or [] env) Q E s := all_nil h
theorem e_And2 {M : Model} {x y : PySem.Expr} {pos : Pos} {Q : Value → Shared → Prop}
    (h : wpC M A (eval x env) (fun v s₁ => wpC M A (truthy v) (fun t s₂ => if t = true then wpC M A (eval y env) Q E s₂ else Q v s₂) E s₁) E s) : wpC M A (eval (.BoolOp .And [x, y] pos) env) Q E s :=
  e_BoolOp2 (c_monoQ h fun v s₁ h₁ => c_monoQ h₁ fun t s₂ h₂ => by cases t <;> exact h₂)
theorem e_Or2 {M : Model} {x y : PySem.Expr} {pos : Pos} {Q : Value → Shared → Prop}
    (h : wpC M A (eval x env) (fun v s₁ => wpC M A (truthy v) (fun t s₂ => if t = true then Q v s₂ else wpC M A (eval y env) Q E s₂) E s₁) E s) : wpC M A (eval (.BoolOp .Or [x, y] pos) env) Q E s :=
  e_BoolOp2 (c_monoQ h fun v s₁ h₁ => c_monoQ h₁ fun t s₂ h₂ => by cases t <;> exact h₂)
theorem br {c : Bool} {X Y : Prop} (h1 : c = true → X) (h2 : c = false → Y) : if c = true then X else Y := by
  cases c <;> simp_all
theorem br_t {c : Bool} {X Y : Prop} (e : c = true) (h : X) : if c = true then X else Y := by rw [if_pos e]; exact h
theorem br_f {c : Bool} {X Y : Prop} (e : c = false) (h : Y) : if c = true then X else Y := by rw [e]; exact h
end
end Mine
end
section
open PySem PySem.W PyProof.Rows PySem.Calls
set_option maxRecDepth 100000
namespace Mine
theorem gl_SqlError (w : World) : nsIn (Kf w) mainGlobals (Str.ofString "SqlError") = some (some (.ref 44)) := by with_unfolding_all rfl
theorem gl_MisuseError (w : World) : nsIn (Kf w) mainGlobals (Str.ofString "MisuseError") = some (some (.ref 56)) := by with_unfolding_all rfl
theorem gl_utf8 (w : World) : nsIn (Kf w) mainGlobals (Str.ofString "utf8") = some (some (.ref 65)) := by with_unfolding_all rfl
theorem fn_65 {w : World} {O : OsState} {g : Heap} {L : Addr} {s : Shared} {m : Str → Option Value} {led : Led} (I : St w O g L s m led) : ∃ o fd, s.heap.get? 65 = some o ∧ o.data = .func fd := ⟨_, _, I.stah.k _ _ (by with_unfolding_all rfl), rfl⟩
theorem gl_fold_ascii (w : World) : nsIn (Kf w) mainGlobals (Str.ofString "fold_ascii") = some (some (.ref 72)) := by with_unfolding_all rfl
theorem fn_72 {w : World} {O : OsState} {g : Heap} {L : Addr} {s : Shared} {m : Str → Option Value} {led : Led} (I : St w O g L s m led) : ∃ o fd, s.heap.get? 72 = some o ∧ o.data = .func fd := ⟨_, _, I.stah.k _ _ (by with_unfolding_all rfl), rfl⟩
theorem gl_storage_class (w : World) : nsIn (Kf w) mainGlobals (Str.ofString "storage_class") = some (some (.ref 79)) := by with_unfolding_all rfl
theorem fn_79 {w : World} {O : OsState} {g : Heap} {L : Addr} {s : Shared} {m : Str → Option Value} {led : Led} (I : St w O g L s m led) : ∃ o fd, s.heap.get? 79 = some o ∧ o.data = .func fd := ⟨_, _, I.stah.k _ _ (by with_unfolding_all rfl), rfl⟩
theorem gl_is_in_range (w : World) : nsIn (Kf w) mainGlobals (Str.ofString "is_in_range") = some (some (.ref 86)) := by with_unfolding_all rfl
theorem fn_86 {w : World} {O : OsState} {g : Heap} {L : Addr} {s : Shared} {m : Str → Option Value} {led : Led} (I : St w O g L s m led) : ∃ o fd, s.heap.get? 86 = some o ∧ o.data = .func fd := ⟨_, _, I.stah.k _ _ (by with_unfolding_all rfl), rfl⟩
theorem gl_collate (w : World) : nsIn (Kf w) mainGlobals (Str.ofString "collate") = some (some (.ref 93)) := by with_unfolding_all rfl
theorem fn_93 {w : World} {O : OsState} {g : Heap} {L : Addr} {s : Shared} {m : Str → Option Value} {led : Led} (I : St w O g L s m led) : ∃ o fd, s.heap.get? 93 = some o ∧ o.data = .func fd := ⟨_, _, I.stah.k _ _ (by with_unfolding_all rfl), rfl⟩
theorem gl_put_fixed (w : World) : nsIn (Kf w) mainGlobals (Str.ofString "put_fixed") = some (some (.ref 100)) := by with_unfolding_all rfl
theorem fn_100 {w : World} {O : OsState} {g : Heap} {L : Addr} {s : Shared} {m : Str → Option Value} {led : Led} (I : St w O g L s m led) : ∃ o fd, s.heap.get? 100 = some o ∧ o.data = .func fd := ⟨_, _, I.stah.k _ _ (by with_unfolding_all rfl), rfl⟩
theorem gl_put_ended (w : World) : nsIn (Kf w) mainGlobals (Str.ofString "put_ended") = some (some (.ref 107)) := by with_unfolding_all rfl
theorem fn_107 {w : World} {O : OsState} {g : Heap} {L : Addr} {s : Shared} {m : Str → Option Value} {led : Led} (I : St w O g L s m led) : ∃ o fd, s.heap.get? 107 = some o ∧ o.data = .func fd := ⟨_, _, I.stah.k _ _ (by with_unfolding_all rfl), rfl⟩
theorem gl_sort_part (w : World) : nsIn (Kf w) mainGlobals (Str.ofString "sort_part") = some (some (.ref 114)) := by with_unfolding_all rfl
theorem fn_114 {w : World} {O : OsState} {g : Heap} {L : Addr} {s : Shared} {m : Str → Option Value} {led : Led} (I : St w O g L s m led) : ∃ o fd, s.heap.get? 114 = some o ∧ o.data = .func fd := ⟨_, _, I.stah.k _ _ (by with_unfolding_all rfl), rfl⟩
theorem gl_law_pool (w : World) : nsIn (Kf w) mainGlobals (Str.ofString "_law_pool") = some (some (.ref 121)) := by with_unfolding_all rfl
theorem fn_121 {w : World} {O : OsState} {g : Heap} {L : Addr} {s : Shared} {m : Str → Option Value} {led : Led} (I : St w O g L s m led) : ∃ o fd, s.heap.get? 121 = some o ∧ o.data = .func fd := ⟨_, _, I.stah.k _ _ (by with_unfolding_all rfl), rfl⟩
theorem gl_law_take (w : World) : nsIn (Kf w) mainGlobals (Str.ofString "_law_take") = some (some (.ref 128)) := by with_unfolding_all rfl
theorem fn_128 {w : World} {O : OsState} {g : Heap} {L : Addr} {s : Shared} {m : Str → Option Value} {led : Led} (I : St w O g L s m led) : ∃ o fd, s.heap.get? 128 = some o ∧ o.data = .func fd := ⟨_, _, I.stah.k _ _ (by with_unfolding_all rfl), rfl⟩
theorem gl_law_one (w : World) : nsIn (Kf w) mainGlobals (Str.ofString "_law_one") = some (some (.ref 135)) := by with_unfolding_all rfl
theorem fn_135 {w : World} {O : OsState} {g : Heap} {L : Addr} {s : Shared} {m : Str → Option Value} {led : Led} (I : St w O g L s m led) : ∃ o fd, s.heap.get? 135 = some o ∧ o.data = .func fd := ⟨_, _, I.stah.k _ _ (by with_unfolding_all rfl), rfl⟩
theorem gl_law_signs (w : World) : nsIn (Kf w) mainGlobals (Str.ofString "_law_signs") = some (some (.ref 140)) := by with_unfolding_all rfl
theorem fn_140 {w : World} {O : OsState} {g : Heap} {L : Addr} {s : Shared} {m : Str → Option Value} {led : Led} (I : St w O g L s m led) : ∃ o fd, s.heap.get? 140 = some o ∧ o.data = .func fd := ⟨_, _, I.stah.k _ _ (by with_unfolding_all rfl), rfl⟩
theorem gl_law_turned (w : World) : nsIn (Kf w) mainGlobals (Str.ofString "_law_turned") = some (some (.ref 147)) := by with_unfolding_all rfl
theorem fn_147 {w : World} {O : OsState} {g : Heap} {L : Addr} {s : Shared} {m : Str → Option Value} {led : Led} (I : St w O g L s m led) : ∃ o fd, s.heap.get? 147 = some o ∧ o.data = .func fd := ⟨_, _, I.stah.k _ _ (by with_unfolding_all rfl), rfl⟩
theorem gl_law_beside (w : World) : nsIn (Kf w) mainGlobals (Str.ofString "_law_beside") = some (some (.ref 154)) := by with_unfolding_all rfl
theorem fn_154 {w : World} {O : OsState} {g : Heap} {L : Addr} {s : Shared} {m : Str → Option Value} {led : Led} (I : St w O g L s m led) : ∃ o fd, s.heap.get? 154 = some o ∧ o.data = .func fd := ⟨_, _, I.stah.k _ _ (by with_unfolding_all rfl), rfl⟩
theorem gl_law_value (w : World) : nsIn (Kf w) mainGlobals (Str.ofString "_law_value") = some (some (.ref 161)) := by with_unfolding_all rfl
theorem fn_161 {w : World} {O : OsState} {g : Heap} {L : Addr} {s : Shared} {m : Str → Option Value} {led : Led} (I : St w O g L s m led) : ∃ o fd, s.heap.get? 161 = some o ∧ o.data = .func fd := ⟨_, _, I.stah.k _ _ (by with_unfolding_all rfl), rfl⟩
theorem gl_law_kept (w : World) : nsIn (Kf w) mainGlobals (Str.ofString "_law_kept") = some (some (.ref 166)) := by with_unfolding_all rfl
theorem fn_166 {w : World} {O : OsState} {g : Heap} {L : Addr} {s : Shared} {m : Str → Option Value} {led : Led} (I : St w O g L s m led) : ∃ o fd, s.heap.get? 166 = some o ∧ o.data = .func fd := ⟨_, _, I.stah.k _ _ (by with_unfolding_all rfl), rfl⟩
theorem gl_law_rank (w : World) : nsIn (Kf w) mainGlobals (Str.ofString "_law_rank") = some (some (.ref 171)) := by with_unfolding_all rfl
theorem fn_171 {w : World} {O : OsState} {g : Heap} {L : Addr} {s : Shared} {m : Str → Option Value} {led : Led} (I : St w O g L s m led) : ∃ o fd, s.heap.get? 171 = some o ∧ o.data = .func fd := ⟨_, _, I.stah.k _ _ (by with_unfolding_all rfl), rfl⟩
theorem gl_law_told (w : World) : nsIn (Kf w) mainGlobals (Str.ofString "_law_told") = some (some (.ref 176)) := by with_unfolding_all rfl
theorem fn_176 {w : World} {O : OsState} {g : Heap} {L : Addr} {s : Shared} {m : Str → Option Value} {led : Led} (I : St w O g L s m led) : ∃ o fd, s.heap.get? 176 = some o ∧ o.data = .func fd := ⟨_, _, I.stah.k _ _ (by with_unfolding_all rfl), rfl⟩
theorem gl_law_body (w : World) : nsIn (Kf w) mainGlobals (Str.ofString "_law_body") = some (some (.ref 183)) := by with_unfolding_all rfl
theorem fn_183 {w : World} {O : OsState} {g : Heap} {L : Addr} {s : Shared} {m : Str → Option Value} {led : Led} (I : St w O g L s m led) : ∃ o fd, s.heap.get? 183 = some o ∧ o.data = .func fd := ⟨_, _, I.stah.k _ _ (by with_unfolding_all rfl), rfl⟩
theorem gl_law_read (w : World) : nsIn (Kf w) mainGlobals (Str.ofString "_law_read") = some (some (.ref 190)) := by with_unfolding_all rfl
theorem fn_190 {w : World} {O : OsState} {g : Heap} {L : Addr} {s : Shared} {m : Str → Option Value} {led : Led} (I : St w O g L s m led) : ∃ o fd, s.heap.get? 190 = some o ∧ o.data = .func fd := ⟨_, _, I.stah.k _ _ (by with_unfolding_all rfl), rfl⟩
theorem gl_law_right (w : World) : nsIn (Kf w) mainGlobals (Str.ofString "_law_right") = some (some (.ref 195)) := by with_unfolding_all rfl
theorem fn_195 {w : World} {O : OsState} {g : Heap} {L : Addr} {s : Shared} {m : Str → Option Value} {led : Led} (I : St w O g L s m led) : ∃ o fd, s.heap.get? 195 = some o ∧ o.data = .func fd := ⟨_, _, I.stah.k _ _ (by with_unfolding_all rfl), rfl⟩
theorem gl_law_is_ended (w : World) : nsIn (Kf w) mainGlobals (Str.ofString "_law_is_ended") = some (some (.ref 200)) := by with_unfolding_all rfl
theorem fn_200 {w : World} {O : OsState} {g : Heap} {L : Addr} {s : Shared} {m : Str → Option Value} {led : Led} (I : St w O g L s m led) : ∃ o fd, s.heap.get? 200 = some o ∧ o.data = .func fd := ⟨_, _, I.stah.k _ _ (by with_unfolding_all rfl), rfl⟩
theorem gl_law_refusal (w : World) : nsIn (Kf w) mainGlobals (Str.ofString "_law_refusal") = some (some (.ref 207)) := by with_unfolding_all rfl
theorem fn_207 {w : World} {O : OsState} {g : Heap} {L : Addr} {s : Shared} {m : Str → Option Value} {led : Led} (I : St w O g L s m led) : ∃ o fd, s.heap.get? 207 = some o ∧ o.data = .func fd := ⟨_, _, I.stah.k _ _ (by with_unfolding_all rfl), rfl⟩
theorem gl_MIN_INT (w : World) : nsIn (Kf w) mainGlobals (Str.ofString "MIN_INT") = some (some (.int (-9223372036854775808) 255)) := by with_unfolding_all rfl
theorem gl_MAX_INT (w : World) : nsIn (Kf w) mainGlobals (Str.ofString "MAX_INT") = some (some (.int (9223372036854775807) 261)) := by with_unfolding_all rfl
theorem gl_WORD (w : World) : nsIn (Kf w) mainGlobals (Str.ofString "WORD") = some (some (.int (18446744073709551616) 265)) := by with_unfolding_all rfl
theorem gl_NULL_TAG (w : World) : nsIn (Kf w) mainGlobals (Str.ofString "NULL_TAG") = some (some (.int (1) 311)) := by with_unfolding_all rfl
theorem gl_NUMBER_TAG (w : World) : nsIn (Kf w) mainGlobals (Str.ofString "NUMBER_TAG") = some (some (.int (2) 313)) := by with_unfolding_all rfl
theorem gl_TEXT_TAG (w : World) : nsIn (Kf w) mainGlobals (Str.ofString "TEXT_TAG") = some (some (.int (3) 315)) := by with_unfolding_all rfl
theorem gl_BLOB_TAG (w : World) : nsIn (Kf w) mainGlobals (Str.ofString "BLOB_TAG") = some (some (.int (4) 317)) := by with_unfolding_all rfl
theorem gb_isinstance (w : World) : nsIn (Kf w) mainGlobals (Str.ofString "isinstance") = some none := by with_unfolding_all rfl
theorem gb_len (w : World) : nsIn (Kf w) mainGlobals (Str.ofString "len") = some none := by with_unfolding_all rfl
theorem gb_int (w : World) : nsIn (Kf w) mainGlobals (Str.ofString "int") = some none := by with_unfolding_all rfl
theorem gb_str (w : World) : nsIn (Kf w) mainGlobals (Str.ofString "str") = some none := by with_unfolding_all rfl
theorem gb_bytes (w : World) : nsIn (Kf w) mainGlobals (Str.ofString "bytes") = some none := by with_unfolding_all rfl
theorem gb_bytearray (w : World) : nsIn (Kf w) mainGlobals (Str.ofString "bytearray") = some none := by with_unfolding_all rfl
theorem gb_range (w : World) : nsIn (Kf w) mainGlobals (Str.ofString "range") = some none := by with_unfolding_all rfl
theorem gb_ord (w : World) : nsIn (Kf w) mainGlobals (Str.ofString "ord") = some none := by with_unfolding_all rfl
theorem gb_chr (w : World) : nsIn (Kf w) mainGlobals (Str.ofString "chr") = some none := by with_unfolding_all rfl
theorem gb_max (w : World) : nsIn (Kf w) mainGlobals (Str.ofString "max") = some none := by with_unfolding_all rfl
theorem gb_min (w : World) : nsIn (Kf w) mainGlobals (Str.ofString "min") = some none := by with_unfolding_all rfl
section
variable {w : World} {O : OsState} {g : Heap} {L : Addr} {s : Shared} {m : Str → Option Value} {led : Led} {A : Around} {E : Value → Shared → Prop} {env : Env} {M : Model} {pos : Pos} {Q : Value → Shared → Prop}
theorem vb_isinstance (I : St w O g L s m led) (h : Q (.builtin "isinstance") s) (hG : env.globals = mainGlobals := by rfl) (hB : env.builtins = builtinsNs := by rfl) (hk : env.scope.kind = .function := by rfl) (hx : env.kindOf (Str.ofString "isinstance") = some .globalImplicit := by with_unfolding_all rfl) : wpC M A (eval (.Name (Str.ofString "isinstance") pos) env) Q E s := v_built I (gb_isinstance _) PyProof.Rows.Boot.«isinstance» (by decide +kernel) h hG hB hk hx (by decide +kernel)
theorem vb_len (I : St w O g L s m led) (h : Q (.builtin "len") s) (hG : env.globals = mainGlobals := by rfl) (hB : env.builtins = builtinsNs := by rfl) (hk : env.scope.kind = .function := by rfl) (hx : env.kindOf (Str.ofString "len") = some .globalImplicit := by with_unfolding_all rfl) : wpC M A (eval (.Name (Str.ofString "len") pos) env) Q E s := v_built I (gb_len _) PyProof.Rows.Boot.«len» (by decide +kernel) h hG hB hk hx (by decide +kernel)
theorem vb_int (I : St w O g L s m led) (h : Q (.type "int") s) (hG : env.globals = mainGlobals := by rfl) (hB : env.builtins = builtinsNs := by rfl) (hk : env.scope.kind = .function := by rfl) (hx : env.kindOf (Str.ofString "int") = some .globalImplicit := by with_unfolding_all rfl) : wpC M A (eval (.Name (Str.ofString "int") pos) env) Q E s := v_built I (gb_int _) PyProof.Rows.Boot.«int» (by decide +kernel) h hG hB hk hx (by decide +kernel)
theorem vb_str (I : St w O g L s m led) (h : Q (.type "str") s) (hG : env.globals = mainGlobals := by rfl) (hB : env.builtins = builtinsNs := by rfl) (hk : env.scope.kind = .function := by rfl) (hx : env.kindOf (Str.ofString "str") = some .globalImplicit := by with_unfolding_all rfl) : wpC M A (eval (.Name (Str.ofString "str") pos) env) Q E s := v_built I (gb_str _) PyProof.Rows.Boot.«str» (by decide +kernel) h hG hB hk hx (by decide +kernel)
theorem vb_bytes (I : St w O g L s m led) (h : Q (.type "bytes") s) (hG : env.globals = mainGlobals := by rfl) (hB : env.builtins = builtinsNs := by rfl) (hk : env.scope.kind = .function := by rfl) (hx : env.kindOf (Str.ofString "bytes") = some .globalImplicit := by with_unfolding_all rfl) : wpC M A (eval (.Name (Str.ofString "bytes") pos) env) Q E s := v_built I (gb_bytes _) PyProof.Rows.Boot.«bytes» (by decide +kernel) h hG hB hk hx (by decide +kernel)
theorem vb_bytearray (I : St w O g L s m led) (h : Q (.type "bytearray") s) (hG : env.globals = mainGlobals := by rfl) (hB : env.builtins = builtinsNs := by rfl) (hk : env.scope.kind = .function := by rfl) (hx : env.kindOf (Str.ofString "bytearray") = some .globalImplicit := by with_unfolding_all rfl) : wpC M A (eval (.Name (Str.ofString "bytearray") pos) env) Q E s := v_built I (gb_bytearray _) PyProof.Rows.Boot.«bytearray» (by decide +kernel) h hG hB hk hx (by decide +kernel)
theorem vb_range (I : St w O g L s m led) (h : Q (.type "range") s) (hG : env.globals = mainGlobals := by rfl) (hB : env.builtins = builtinsNs := by rfl) (hk : env.scope.kind = .function := by rfl) (hx : env.kindOf (Str.ofString "range") = some .globalImplicit := by with_unfolding_all rfl) : wpC M A (eval (.Name (Str.ofString "range") pos) env) Q E s := v_built I (gb_range _) PyProof.Rows.Boot.«range» (by decide +kernel) h hG hB hk hx (by decide +kernel)
theorem vb_ord (I : St w O g L s m led) (h : Q (.builtin "ord") s) (hG : env.globals = mainGlobals := by rfl) (hB : env.builtins = builtinsNs := by rfl) (hk : env.scope.kind = .function := by rfl) (hx : env.kindOf (Str.ofString "ord") = some .globalImplicit := by with_unfolding_all rfl) : wpC M A (eval (.Name (Str.ofString "ord") pos) env) Q E s := v_built I (gb_ord _) PyProof.Rows.Boot.«ord» (by decide +kernel) h hG hB hk hx (by decide +kernel)
theorem vb_chr (I : St w O g L s m led) (h : Q (.builtin "chr") s) (hG : env.globals = mainGlobals := by rfl) (hB : env.builtins = builtinsNs := by rfl) (hk : env.scope.kind = .function := by rfl) (hx : env.kindOf (Str.ofString "chr") = some .globalImplicit := by with_unfolding_all rfl) : wpC M A (eval (.Name (Str.ofString "chr") pos) env) Q E s := v_built I (gb_chr _) PyProof.Rows.Boot.«chr» (by decide +kernel) h hG hB hk hx (by decide +kernel)
theorem vb_max (I : St w O g L s m led) (h : Q (.builtin "max") s) (hG : env.globals = mainGlobals := by rfl) (hB : env.builtins = builtinsNs := by rfl) (hk : env.scope.kind = .function := by rfl) (hx : env.kindOf (Str.ofString "max") = some .globalImplicit := by with_unfolding_all rfl) : wpC M A (eval (.Name (Str.ofString "max") pos) env) Q E s := v_built I (gb_max _) PyProof.Rows.Boot.«max» (by decide +kernel) h hG hB hk hx (by decide +kernel)
theorem vb_min (I : St w O g L s m led) (h : Q (.builtin "min") s) (hG : env.globals = mainGlobals := by rfl) (hB : env.builtins = builtinsNs := by rfl) (hk : env.scope.kind = .function := by rfl) (hx : env.kindOf (Str.ofString "min") = some .globalImplicit := by with_unfolding_all rfl) : wpC M A (eval (.Name (Str.ofString "min") pos) env) Q E s := v_built I (gb_min _) PyProof.Rows.Boot.«min» (by decide +kernel) h hG hB hk hx (by decide +kernel)
end
end Mine
end
section
open PySem PySem.W PyProof.Rows PySem.Calls
set_option maxRecDepth 100000
namespace Mine
open PySem.Sem (wp)
section
variable {w : World} {O : OsState} {g : Heap} {L : Addr} {s : Shared} {m : Str → Option Value} {led : Led} {A : Around} {env : Env}
/-- a for loop: what holds ahead of each turn is J -/
theorem x_ForI {x : Str} {px pos : Pos} {iter : PySem.Expr} {body : List Stmt} {Q : Flow → Shared → Prop} (_I : St w O g L s m led) (n : Nat) (P : Nat → Value → Prop)
    (J : Nat → Heap → (Str → Option Value) → Led → Prop) (hh : A.handled = none)
    (h : wpC (Mw w) A (eval iter env) (fun xv s₁ => wpC (Mw w) A (pyIter xv) (fun it s₂ => Iter w g L led n P it s₂ ∧ St w O g L s₂ m led) NoE s₁) NoE s)
    (h0 : ∀ g', Sub g g' → J 0 g' m led)
    (turn : ∀ i g' s' m' led' v it o, Sub g g' → i < n → P i v → J i g' m' led' → St w O g' L s' (fun y => if y = x then some v else m' y) ((it, .raw o) :: led') →
      wpC (Mw w) A (execs body env) (fun f s'' => match f with
        | .next | .cont => ∃ g'' m'' led'', Sub g' g'' ∧ St w O g'' L s'' m'' ((it, .raw o) :: led'') ∧ J (i + 1) g'' m'' led''
        | .brk => False
        | .ret v => Q (.ret v) s'') NoE s')
    (hQ : ∀ g' s' m' led', Sub g g' → St w O g' L s' m' led' → J n g' m' led' → Q .next s')
    (hs : ∀ xv, foldedSetIterable iter env xv = pure xv := by intro _; rfl) (hL : env.locals = L := by rfl)
    (hk : env.scope.kind = .function := by rfl) (hl : env.kindOf x = some .local := by with_unfolding_all rfl) : wpC (Mw w) A (exec (.For (.Name x px) iter body [] pos) env) Q NoE s := by
  refine x_For (c_monoQ h fun xv s₁ h₁ => c_monoQ h₁ fun it s₂ h₂ => ?_) hs
  obtain ⟨I, fp, St', g₁, o, rfl, W, st0, hal, k1, I4, hfp⟩ := h₂.1.start h₂.2
  refine codeC_for (n := n + 1) (fun k s' => ∃ i g' m' led' o, k = n + 1 - i ∧ i ≤ n ∧ Sub g₁ g' ∧ St w O g' L s' m' ((I, .raw o) :: led') ∧ J i g' m' led' ∧ St' i s'.heap) (fun _ => rfl) ?_ ⟨0, g₁, m, led, o, rfl, Nat.zero_le _, Sub.refl _, I4, h0 _ k1, st0⟩
  rintro k s' ⟨i, g', m', led', o, rfl, hi, kg, IS, hJ, st⟩
  have hfp' : ∀ b ∈ fp, b ≠ I → ∃ o, g'.get? b = some o := fun b hb hne => let ⟨o, e⟩ := hfp b hb hne; ⟨o, kg _ _ e⟩
  refine Iter.turn (W A hh) hal rfl IS st (fun hlt v s₂ o' hP st' I5 => ?_) (fun hin s₂ I5 => ?_) hi
  · refine a_Name (v_store I5 (fun s₃ I6 => ?_) hL hk hl)
    have st₃ : St' (i + 1) s₃.heap := Iter.kept (W A hh) hfp' I5 (Sub.refl _) I6 st'
    refine c_monoQ (turn i g' s₃ m' led' v I o' (k1.trans kg) hlt hP hJ I6) fun f s₄ hf₄ => ?_
    have nxt : (∃ g'' m'' led'', Sub g' g'' ∧ St w O g'' L s₄ m'' ((I, .raw o') :: led'') ∧ J (i + 1) g'' m'' led'') →
        ∃ mm, mm < n + 1 - i ∧ ∃ i g' m' led' o, mm = n + 1 - i ∧ i ≤ n ∧ Sub g₁ g' ∧ St w O g' L s₄ m' ((I, .raw o) :: led') ∧ J i g' m' led' ∧ St' i s₄.heap := fun ⟨g'', m'', led'', k3, I7, hJ'⟩ =>
      ⟨n + 1 - (i + 1), by omega, i + 1, g'', m'', led'', o', rfl, hlt, kg.trans k3, I7, hJ', Iter.kept (W A hh) hfp' I6 k3 I7 st₃⟩
    cases f with
    | next => exact nxt hf₄
    | cont => exact nxt hf₄
    | brk => exact hf₄.elim
    | ret v => exact hf₄
  · subst hin
    exact x_nil (hQ g' _ m' led' (k1.trans kg) I5 hJ)
/-- a while loop -/
theorem x_WhileI {test : PySem.Expr} {body : List Stmt} {pos : Pos} {Q : Flow → Shared → Prop} (_I : St w O g L s m led)
    (J : Nat → Heap → (Str → Option Value) → Led → Prop) (n : Nat) (h0 : J n g m led)
    (turn : ∀ k g' s' m' led', Sub g g' → J k g' m' led' → St w O g' L s' m' led' → wpC (Mw w) A (isTrue test env (eval test env)) (fun b s₂ =>
      if b = true then wpC (Mw w) A (execs body env) (fun f s₃ => match f with
          | .next | .cont => ∃ j g'' m'' led'', j < k ∧ Sub g' g'' ∧ St w O g'' L s₃ m'' led'' ∧ J j g'' m'' led''
          | .brk => False
          | .ret v => Q (.ret v) s₃) NoE s₂
      else Q .next s₂) NoE s') : wpC (Mw w) A (exec (.While test body [] pos) env) Q NoE s := by
  refine x_While (codeC_while (fun k s' => ∃ g' m' led', Sub g g' ∧ J k g' m' led' ∧ St w O g' L s' m' led') (fun k s' hI => ?_) n ⟨g, m, led, Sub.refl _, h0, _I⟩)
  obtain ⟨g', m', led', kg, hJ, I⟩ := hI
  refine c_monoQ (turn k g' s' m' led' kg hJ I) fun b s₂ h₂ => ?_
  cases b with
  | false => simp only [Bool.false_eq_true, if_false] at h₂ ⊢; exact x_nil h₂
  | true =>
    simp only [if_true] at h₂ ⊢
    refine c_monoQ h₂ fun f s₃ h₃ => ?_
    have nxt : (∃ j g'' m'' led'', j < k ∧ Sub g' g'' ∧ St w O g'' L s₃ m'' led'' ∧ J j g'' m'' led'') → ∃ j, j < k ∧ ∃ g' m' led', Sub g g' ∧ J j g' m' led' ∧ St w O g' L s₃ m' led' := fun ⟨j, g'', m'', led'', hj, k3, I7, hJ'⟩ =>
      ⟨j, hj, g'', m'', led'', kg.trans k3, hJ', I7⟩
    cases f with
    | next => exact nxt h₃
    | cont => exact nxt h₃
    | brk => exact h₃.elim
    | ret v => exact h₃
theorem x_WhileX {test : PySem.Expr} {body : List Stmt} {pos : Pos} {Q : Flow → Shared → Prop} (_I : St w O g L s m led)
    (J : Nat → Heap → (Str → Option Value) → Led → Prop) (Ex : Heap → (Str → Option Value) → Led → Prop) (n : Nat) (h0 : J n g m led)
    (turn : ∀ k g' s' m' led', Sub g g' → J k g' m' led' → St w O g' L s' m' led' → wpC (Mw w) A (isTrue test env (eval test env)) (fun b s₂ =>
      if b = true then wpC (Mw w) A (execs body env) (fun f s₃ => match f with
          | .next | .cont => ∃ j g'' m'' led'', j < k ∧ Sub g' g'' ∧ St w O g'' L s₃ m'' led'' ∧ J j g'' m'' led''
          | .brk => False
          | .ret v => Q (.ret v) s₃) NoE s₂
      else ∃ g'' m'' led'', Sub g' g'' ∧ St w O g'' L s₂ m'' led'' ∧ Ex g'' m'' led'') NoE s')
    (hQ : ∀ g' s' m' led', Sub g g' → St w O g' L s' m' led' → Ex g' m' led' → Q .next s') : wpC (Mw w) A (exec (.While test body [] pos) env) Q NoE s :=
  x_WhileI _I J n h0 fun k g' s' m' led' kg hJ I => c_monoQ (turn k g' s' m' led' kg hJ I) fun b s₂ h₂ => by
    cases b with
    | true => exact h₂
    | false =>
      simp only [Bool.false_eq_true, if_false] at h₂ ⊢
      obtain ⟨g'', m'', led'', k2, I2, hx⟩ := h₂
      exact hQ g'' s₂ m'' led'' (kg.trans k2) I2 hx
theorem e_CompI {elt iter : PySem.Expr} {x : Str} {px : Pos} {ifs : List PySem.Expr} {scope : Scope} {cl : List (Str × Addr)} {pos : Pos} {Q : Value → Shared → Prop} (_I : St w O g L s m led) (n : Nat) (P : Nat → Value → Prop)
    (J : Nat → Heap → List Value → Led → Prop) (hh : A.handled = none) (hn : n < 1000000) (hclos : closureFor scope env = pure cl)
    (h : wpC (Mw w) A (eval iter env) (fun xv s₁ => wpC (Mw w) A (pyIter xv) (fun it s₂ => Iter w g L led n P it s₂ ∧ St w O g L s₂ m led) NoE s₁) NoE s)
    (h0 : ∀ g', Sub g g' → J 0 g' [] led)
    (turn : ∀ i g' C D s' mC led' ys v it o oL, Sub g g' → i < n → P i v → J i g' ys led' → St w O g' C s' mC ((it, .raw o) :: (L, .raw oL) :: (D, .list ys) :: led') → mC x = some v →
      wpC (Mw w) A (testsC ifs (compEnvC scope cl C env)) (fun ok s₃ =>
        if ok = true then wpC (Mw w) A (eval elt (compEnvC scope cl C env)) (fun y s₄ => ∃ g'' m'' led'', Sub g' g'' ∧ St w O g'' C s₄ m'' ((it, .raw o) :: (L, .raw oL) :: (D, .list ys) :: led'') ∧ J (i + 1) g'' (ys ++ [y]) led'') NoE s₃
        else ∃ g'' m'' led'', Sub g' g'' ∧ St w O g'' C s₃ m'' ((it, .raw o) :: (L, .raw oL) :: (D, .list ys) :: led'') ∧ J (i + 1) g'' ys led'') NoE s')
    (hQ : ∀ g' s' led' D ys, Sub g g' → St w O g' L s' m ((D, .list ys) :: led') → J n g' ys led' → Q (.ref D) s')
    (hcell : ∀ y ∈ scope.names, y.2 ≠ .cell := by decide) (hkind : scope.kind = .function := by rfl) (hx : scope.names.lookup x = some .local := by with_unfolding_all rfl)
    (hnames : ∀ x ∈ scope.names, x.2 = .local → scope.names.lookup x.1 = some .local := by decide)
    (hs : ∀ x, foldedSetIterable iter env x = pure x := by intro _; rfl) :
    wpC (Mw w) A (eval (.ListComp elt [⟨.Name x px, iter, ifs, 0⟩] scope pos) env) Q NoE s := e_Comp cl n P J hh hn h h0 turn hQ hclos hcell hkind hx hnames hs
theorem x_AssignCompI {elt iter : PySem.Expr} {x y : Str} {px py : Pos} {ifs : List PySem.Expr} {scope : Scope} {cl : List (Str × Addr)} {pos spos : Pos} {Q : Flow → Shared → Prop} (_I : St w O g L s m led) (n : Nat) (P : Nat → Value → Prop)
    (J : Nat → Heap → List Value → Led → Prop) (hh : A.handled = none) (hn : n < 1000000) (hclos : closureFor scope env = pure cl)
    (h : wpC (Mw w) A (eval iter env) (fun xv s₁ => wpC (Mw w) A (pyIter xv) (fun it s₂ => Iter w g L led n P it s₂ ∧ St w O g L s₂ m led) NoE s₁) NoE s)
    (h0 : ∀ g', Sub g g' → J 0 g' [] led)
    (turn : ∀ i g' C D s' mC led' ys v it o oL, Sub g g' → i < n → P i v → J i g' ys led' → St w O g' C s' mC ((it, .raw o) :: (L, .raw oL) :: (D, .list ys) :: led') → mC x = some v →
      wpC (Mw w) A (testsC ifs (compEnvC scope cl C env)) (fun ok s₃ =>
        if ok = true then wpC (Mw w) A (eval elt (compEnvC scope cl C env)) (fun y s₄ => ∃ g'' m'' led'', Sub g' g'' ∧ St w O g'' C s₄ m'' ((it, .raw o) :: (L, .raw oL) :: (D, .list ys) :: led'') ∧ J (i + 1) g'' (ys ++ [y]) led'') NoE s₃
        else ∃ g'' m'' led'', Sub g' g'' ∧ St w O g'' C s₃ m'' ((it, .raw o) :: (L, .raw oL) :: (D, .list ys) :: led'') ∧ J (i + 1) g'' ys led'') NoE s')
    (hQ : ∀ g' s' led' D ys, Sub g g' → St w O g' L s' (fun z => if z = y then some (.ref D) else m z) ((D, .list ys) :: led') → J n g' ys led' → Q .next s')
    (hsw : swapsWith (.ListComp elt [⟨.Name x px, iter, ifs, 0⟩] scope pos) (some (.Name y py)) spos.line env = pure true := by rfl)
    (hcell : ∀ y ∈ scope.names, y.2 ≠ .cell := by decide) (hkind : scope.kind = .function := by rfl) (hx : scope.names.lookup x = some .local := by with_unfolding_all rfl)
    (hnames : ∀ x ∈ scope.names, x.2 = .local → scope.names.lookup x.1 = some .local := by decide)
    (hs : ∀ x, foldedSetIterable iter env x = pure x := by intro _; rfl) (hL : env.locals = L := by rfl) (hk : env.scope.kind = .function := by rfl) (hl : env.kindOf y = some .local := by with_unfolding_all rfl) :
    wpC (Mw w) A (exec (.Assign [.Name y py] (.ListComp elt [⟨.Name x px, iter, ifs, 0⟩] scope pos) spos) env) Q NoE s := x_AssignComp cl n P J hh hn h h0 turn hQ hsw hclos hcell hkind hx hnames hs hL hk hl
end
end Mine
end
section
open PySem PySem.W PyProof.Rows PySem.Calls
set_option maxRecDepth 100000
set_option maxHeartbeats 4000000
namespace Mine
open PySem.Sem (wp)

/-- an exception of class C on its way out of a call that met the heap h -/
noncomputable def Flies (O : OsState) (B : Heap) (l : List Env) (C : Addr) (h : Heap) (e : Value) (s : Shared) : Prop :=
  ∃ a a0, e = .ref a ∧ Heap.FlyingW B l a (.ref C) a0 s.heap ∧ h.UpToSlots s.heap ∧ s.gens = #[] ∧ s.os = O
section
variable {w : World} {O : OsState} {g B : Heap} {L a : Addr} {s : Shared} {m : Str → Option Value} {led : Led} {A : Around} {E : Value → Shared → Prop} {name : Str} {scope : Scope} {cd : Value} {l : List Env} {C : Addr}
theorem Sub.slots {h h' : Heap} (k : Sub h h') : h.UpToSlots h' := Heap.UpToSlots.of_keeps k
/-- a def's own frame on top of those around -/
theorem Below.own (K : Below A B l g) (I : St w O g L s m led) (hk : scope.kind = .function := by rfl) : Below (A.deeper (envOf name scope L a cd)) B (envOf name scope L a cd :: l) s.heap := by
  refine ⟨by show A.frames.map _ = _; rw [K.stack]; rfl, fun b o e => I.keep b o (K.stays b o e), ?_⟩
  have hB : B.get? L = none := by
    cases e : B.get? L with
    | none => rfl
    | some o => have := K.stays _ _ e; rw [I.nL] at this; cases this
  exact Heap.FunFrames.cons (by show scope.kind ≠ .module; rw [hk]; decide) rfl I.ns hB (K.frames.of_keeps fun b o e _ => ⟨o, I.keep b o e, rfl⟩)
/-- behind the frame in which it was made -/
theorem leave_made {e t dx : Addr} {Q : Unit → Shared → Prop} (K : Below A B (envOf name scope L a cd :: l) s.heap) {h' : Heap} {tk : Nat} (k : Sub s.heap h') (hn : s.heap.get? e = none)
    (he : h'.get? e = some { cls := .ref C, dict := some dx, data := .fields #[.ref t, .none, .none, .none, .bool false, .none] }) (hg : s.gens = #[]) (ho : s.os = O)
    (h : ∀ s', Flies O B l C s.heap (.ref e) s' → Q () s') : wpAny (Mw w) A (leaving (envOf name scope L a cd) (.ref e)) Q E { s with heap := h', toks := tk } := by
  have hB : B.get? e = none := by
    cases q : B.get? e with
    | none => rfl
    | some o => have := K.stays _ _ q; rw [hn] at this; cases this
  refine wpAny_leaving_firstW (base := B) (outer := l) (a0 := .ref t) K.stack (K.frames.of_keeps fun b o q _ => ⟨o, k b o q, rfl⟩) rfl he (fun b o q => k b o (K.stays b o q)) hB rfl rfl rfl fun h'' hL => ?_
  obtain ⟨x1, ⟨_, _, x2⟩, x3, x4⟩ := hL
  exact h _ ⟨e, _, rfl, ⟨x1, hB, x2, x3⟩, k.slots.trans x4, hg, ho⟩
/-- behind a frame that it passes -/
theorem leave_on {e : Value} {h₀ : Heap} {Q : Unit → Shared → Prop} (hfr : A.frames = some (envOf name scope L a cd :: l)) (F : Flies O B (envOf name scope L a cd :: l) C h₀ e s) {h₁ : Heap} (k : h₁.UpToSlots h₀)
    (h : ∀ s', Flies O B l C h₁ e s' → Q () s') : wpAny (Mw w) A (leaving (envOf name scope L a cd) e) Q E s := by
  obtain ⟨e, a0, rfl, hf, hu, hg, ho⟩ := F
  exact wpAny_leaves_onW hfr rfl hf fun h' hf' hu' => h _ ⟨e, a0, rfl, hf', (k.trans hu).trans hu', hg, ho⟩

/-- raise of an exception just made -/
theorem raise_made {env : Env} {s : Shared} {x : Sem Value} {Q : Flow → Shared → Prop} (Y : ExcC w C) (hh : A.handled = none)
    (h : wpAny (Mw w) A x (fun v s₁ => ∃ e t dx, v = .ref e ∧ (Kf w).In s₁.heap ∧
      s₁.heap.get? e = some { cls := .ref C, dict := some dx, data := .fields #[.ref t, .none, .none, .none, .bool false, .none] } ∧ E (.ref e) s₁) E s) :
    wpAny (Mw w) A (raiseStmt env (some x) none) Q E s := by
  obtain ⟨nm, q, N, bs, hdct, sn, sub, ab, col, dd, k0, k1, k2, k3, k5, hdt, hC₀⟩ := Y.obj
  have hcB : (Value.ref C :: excTail).contains (.type "BaseException") = true := by simp
  unfold raiseStmt
  refine wpAny_bind (wpAny_mono h (fun v s₁ h₁ => ?_) fun _ _ x => x)
  obtain ⟨e, t, dx, rfl, hX, he, hE⟩ := h₁
  have hC := hX _ _ hC₀
  obtain ⟨hp, g, d, tk, os⟩ := s₁
  repeat (first | with_reducible refine wpAny_loadPart_at he ?_ | with_reducible refine wpAny_loadPart_at hC ?_ | (with_reducible refine wpAny_isSubtype_exc hC ?_; rw [hcB]) | wp_step)
  exact wpAny_raiseNew_none hh hE
theorem exc_raise {env : Env} {s : Shared} {x : Str} {np cpos pos : Pos} {arg : PySem.Expr} {Q : Flow → Shared → Prop} (Y : ExcC w C) (hh : A.handled = none) (hd : A.depth < 800)
    (h : wpAny (Mw w) A (eval (.Name x np) env) (fun f s₁ => f = .ref C ∧ wpAny (Mw w) A (eval arg env) (fun v s₂ => Sta w s₂.heap ∧
      ∀ h' tk e t dx, Sub s₂.heap h' → s₂.heap.get? e = none → h'.get? e = some { cls := .ref C, dict := some dx, data := .fields #[.ref t, .none, .none, .none, .bool false, .none] } → E (.ref e) { s₂ with heap := h', toks := tk }) E s₁) E s)
    (he : starEach [arg] env = [(false, eval arg env)] := by rfl) :
    wpAny (Mw w) A (exec (.Raise (some (.Call (.Name x np) [arg] [] cpos)) none pos) env) Q E s := by
  obtain ⟨nm, q, N, bs, hdct, sn, sub, ab, col, dd, k0, k1, k2, k3, k5, hdt, hC₀⟩ := Y.obj
  rw [arm_exec_Raise]
  refine wpAny_bind (wpAny_standAt (raise_made Y hh ?_))
  refine wpAny_bind (wpAny_mono (wpAny_Call_ofName (wpAny_mono h (fun f s₁ h₁ => ?_) fun _ _ x => x)) (fun v s₃ h₃ => wpAny_bind (wpAny_standAt (wpAny_pure h₃))) fun _ _ x => x)
  obtain ⟨rfl, h₁⟩ := h₁
  rw [he]
  unfold callWith
  refine wpAny_bind (wpAny_holding ?_)
  refine Calls.evalArgs_plain (Calls.spliced_cons (wpAny_mono h₁ (fun v s₂ h₂ => Calls.spliced_nil (wpAny_bind (wpAny_standAt ?_))) fun _ _ x => x))
  obtain ⟨X, h₂⟩ := h₂
  have hC := X.k _ _ hC₀
  have hsg : ((backTo cpos [(false, eval arg env)]).any fun x => x.1) = false := rfl
  have hsk : ((backToKw cpos (keywordEach [] env)).any fun x => x.1.isNone) = false := rfl
  obtain ⟨hp, g, d, tk, os⟩ := s₂
  simp only [hsg, hsk]
  refine wpAny_bind (wpAny_keeperOf_exc hC ?_)
  refine wpAny_bind (exc_make Y X hd fun h' tk e t dx k hn he => wpAny_bind (wpAny_holding (wpAny_point (wpAny_pure ?_))))
  exact ⟨e, t, dx, rfl, X.k.keeps k, he, h₂ h' tk e t dx k hn he⟩
/-- raise C(arg) in a def of the text: what flies then -/
theorem x_Raise {x : Str} {np cpos pos : Pos} {arg : PySem.Expr} {Q : Flow → Shared → Prop} {g₀ : Heap} (Y : ExcC w C) (I : St w O g L s m led) (K : Below A B l g) (hh : A.handled = none) (hd : A.depth < 790)
    (hx : nsIn (Kf w) mainGlobals x = some (some (.ref C)))
    (harg : ∀ {E' : Value → Shared → Prop} {Q' : Value → Shared → Prop}, (∀ v s', St w O g L s' m led → Q' v s') → wpAny (Mw w) (A.deeper (envOf name scope L a cd)) (eval arg (envOf name scope L a cd)) Q' E' s)
    (hg : g₀.UpToSlots g)
    (h : ∀ e s', Flies O B l C g₀ e s' → E e s')
    (hk : scope.kind = .function := by rfl) (hkx : (envOf name scope L a cd).kindOf x = some .globalImplicit := by with_unfolding_all rfl) (hdx : (x == ("__debug__" : Str)) = false := by decide)
    (he : starEach [arg] (envOf name scope L a cd) = [(false, eval arg (envOf name scope L a cd))] := by rfl) :
    wpC (Mw w) (A.deeper (envOf name scope L a cd)) (exec (.Raise (some (.Call (.Name x np) [arg] [] cpos)) none pos) (envOf name scope L a cd)) Q
      (fun e s' => wpC (Mw w) (A.deeper (envOf name scope L a cd)) (leaving (envOf name scope L a cd) e) (fun _ s'' => E e s'') E s') s := by
  refine c_any (exc_raise Y hh (by show A.depth + 1 < 800; omega) ?_ he)
  obtain ⟨_, G⟩ := I.stah.g
  refine Calls.Name_function_global hk hkx (Calls.loadGlobal_global (env := envOf name scope L a cd) G (mg_of I.stah.k G hx) ⟨rfl, harg fun v s₂ I₂ => ⟨I₂.stah, ?_⟩⟩) hdx
  intro h' tk e t dx k hn he'
  refine c_any (leave_made (Below.own K I₂ hk) k hn he' I₂.gens I₂.os fun s' F => h _ _ ?_)
  obtain ⟨e', a0, q, F1, F2, F3, F4⟩ := F
  exact ⟨e', a0, q, F1, (hg.trans (Sub.slots I₂.keep)).trans F2, F3, F4⟩

/-- does an exception of class C match the class C' -/
theorem exc_matches {C' : Addr} {e : Addr} {s : Shared} {Q : Bool → Shared → Prop} {b : Bool} (Y : ExcC w C) (Y' : ExcC w C') (X : (Kf w).In s.heap) (he : ∃ oe, s.heap.get? e = some oe ∧ oe.cls = .ref C)
    (hb : (Value.ref C :: excTail).contains (.ref C') = b) (hq : Q b s) : wpAny (Mw w) A (excMatches (.ref e) (.ref C')) Q E s := by
  obtain ⟨nm, q, N, bs, hdct, sn, sub, ab, col, dd, k0, k1, k2, k3, k5, hdt, hC₀⟩ := Y.obj
  obtain ⟨nm', q', N', bs', hdct', sn', sub', ab', col', dd', k0', k1', k2', k3', k5', hdt', hC₀'⟩ := Y'.obj
  have hC := X _ _ hC₀
  have hC' := X _ _ hC₀'
  obtain ⟨oe, he, hcls⟩ := he
  obtain ⟨hp, g, d, tk, os⟩ := s
  have hcB : (Value.ref C' :: excTail).contains (.type "BaseException") = true := by simp
  have f := tc_notTuple
  unfold excMatches
  repeat (first | (with_reducible refine wpAny_loadPart_at he ?_; rw [hcls]) | with_reducible refine wpAny_loadPart_at hC' ?_ | with_reducible refine wpAny_loadPart_at hC ?_ | (with_reducible refine wpAny_isSubtype_exc hC' ?_; rw [hcB]) | (with_reducible refine wpAny_isSubtype_exc hC ?_; rw [hb]) | wp_step)
  cases b
  · repeat (first | exact hq | wp_step)
  · repeat (first | exact hq | wp_step)

/-- behind a catch: what stands -/
noncomputable def Stands (O : OsState) (B h : Heap) (s : Shared) : Prop := B.StaysIn s.heap ∧ h.UpToSlots s.heap ∧ s.gens = #[] ∧ s.os = O
/-- the two clauses of the text -/
theorem caught {h₀ : Heap} {e : Value} {np1 np2 cp1 cp2 rp1 rp2 hp1 hp2 : Pos} {r1 r2 : Str} {j1 j2 : Nat} {Q : Flow → Shared → Prop}
    (F : Flies O B (envOf name scope L a cd :: l) C h₀ e s) (Y : ExcC w C) (hC : C = 56 ∨ C = 44) (XB : Sta w B) (hfr : A.frames = some (envOf name scope L a cd :: l))
    (h : ∀ t s', Stands O B h₀ s' → Q (.ret (.str (if C = 56 then r1 else r2) t)) s')
    (hk : scope.kind = .function := by rfl) (hk1 : (envOf name scope L a cd).kindOf (Str.ofString "MisuseError") = some .globalImplicit := by with_unfolding_all rfl)
    (hk2 : (envOf name scope L a cd).kindOf (Str.ofString "SqlError") = some .globalImplicit := by with_unfolding_all rfl)
    (hn1 : nsIn (Kf w) mainGlobals (Str.ofString "MisuseError") = some (some (.ref 56)) := by exact gl_MisuseError _) (hn2 : nsIn (Kf w) mainGlobals (Str.ofString "SqlError") = some (some (.ref 44)) := by exact gl_SqlError _) :
    wpAny (Mw w) A (noteFrame e (envOf name scope L a cd)) (fun _ s₂ => wpAny (Mw w) A (setFlight e none) (fun _ s₃ => wpAny (Mw w) A (handleBy e (envOf name scope L a cd)
      [.ExceptHandler (some (.Name (Str.ofString "MisuseError") np1)) none [.Return (some (.Constant (.str r1) j1 cp1)) rp1] hp1,
       .ExceptHandler (some (.Name (Str.ofString "SqlError") np2)) none [.Return (some (.Constant (.str r2) j2 cp2)) rp2] hp2]) Q E s₃) E s₂) E s := by
  obtain ⟨e, a0, rfl, hf, hu, hg, ho⟩ := F
  refine wpAny_looks_onW hfr rfl hf fun h₄ hheld hu₄ => ?_
  refine wpAny_landsW hheld fun h₅ hf₅ hu₅ => ?_
  have X₅ : Sta w h₅ := XB.sub hf₅.1
  obtain ⟨_, G⟩ := X₅.g
  have ther : ∃ oe, h₅.get? e = some oe ∧ oe.cls = .ref C := hf₅.there
  have suite : ∀ {r : Str} {j : Nat} {cp rp hp : Pos} {R : Result → Shared → Prop}, (∀ t s', Stands O B h₀ s' → R (.ok (.ret (.str r t))) s') →
      codeAny (Mw w) (A.mark (some (.ref e))) (.handlers (.ref e) [.ExceptHandler none none [.Return (some (.Constant (.str r) j cp)) rp] hp] (envOf name scope L a cd)) R { s with heap := h₅ } := by
    intro r j cp rp hp R hR
    refine codeAny_handlers_suite ?_
    refine lands_againW hf₅ fun h₆ hf₆ hu₆ => ?_
    rw [execs_cons]
    refine wpAny_bind (wpAny_Return_some (wpAny_Constant_str (wpAny_pure (hR _ _ ?_))))
    exact ⟨hf₆.1, ((hu.trans hu₄).trans hu₅).trans hu₆, hg, ho⟩
  rcases hC with rfl | rfl
  · refine wpAny_handleBy_cons (codeAny_handlers_test (Calls.Name_function_global hk hk1 (Calls.loadGlobal_global (env := envOf name scope L a cd) G (mg_of X₅.k G hn1) ?_) (by decide))) (by intro q; cases q)
    exact exc_matches (b := true) Y (exc_misuse w) X₅.k ther (by decide) (suite fun t s' hs => h t s' hs)
  · refine wpAny_handleBy_cons (codeAny_handlers_test (Calls.Name_function_global hk hk1 (Calls.loadGlobal_global (env := envOf name scope L a cd) G (mg_of X₅.k G hn1) ?_) (by decide))) (by intro q; cases q)
    refine exc_matches (b := false) Y (exc_misuse w) X₅.k ther (by decide) ?_
    refine wpAny_handleBy_cons (codeAny_handlers_test (Calls.Name_function_global hk hk2 (Calls.loadGlobal_global (env := envOf name scope L a cd) G (mg_of X₅.k G hn2) ?_) (by decide))) (by intro q; cases q)
    exact exc_matches (b := true) Y (exc_sql w) X₅.k ther (by decide) (suite fun t s' hs => h t s' hs)
/-- a try whose body may be any -/
theorem x_Try {env : Env} {body orelse : List Stmt} {h₀ : ExceptHandler} {hs : List ExceptHandler} {pos : Pos} {Q : Flow → Shared → Prop}
    (h : wpC (Mw w) A (execs body env) (fun f s₁ => match f with | .next => wpC (Mw w) A (execs orelse env) Q E s₁ | f => Q f s₁)
      (fun e s₁ => wpAny (Mw w) A (noteFrame e env) (fun _ s₂ => wpAny (Mw w) A (setFlight e none) (fun _ s₃ => wpAny (Mw w) A (handleBy e env (h₀ :: hs)) Q E s₃) E s₂) E s₁) s) :
    wpC (Mw w) A (exec (.Try body (h₀ :: hs) orelse [] pos) env) Q E s := by
  rw [arm_exec_Try]
  refine c_bind (c_stand ?_)
  unfold tryStmt
  simp only [List.isEmpty_nil, if_true, List.isEmpty_cons, Bool.false_and, Bool.false_eq_true, if_false]
  refine c_bind (c_attempt (c_mono h (fun f s₁ h₁ => ?_) fun e s₁ h₁ => ?_))
  · cases f <;> first | exact h₁ | exact c_pure h₁
  · exact c_any (wpAny_bind (wpAny_mono h₁ (fun _ _ h₂ => wpAny_bind h₂) fun _ _ x => x))
theorem x_ExprAny {env : Env} {e : PySem.Expr} {pos : Pos} {Q : Flow → Shared → Prop} (h : wpC (Mw w) A (eval e env) (fun _ => Q .next) E s)
    (hi : interactive env = false := by rfl) (hs : swapsWith e none pos.line env = pure false := by rfl) : wpC (Mw w) A (exec (.Expr e pos) env) Q E s := by
  rw [exec_Expr env e pos hi hs]
  exact c_bind (c_stand (c_bind (c_monoQ h fun v s' h' => c_any (wpAny_dropValue h'))))
/-- back in the frame that called the catching def -/
theorem Stands.st (I : St w O g L s m led) {s' : Shared} (K : Stands O (hideAll s.heap [L]) s.heap s') : St w O g L s' m led := by
  obtain ⟨k, u, hg, ho⟩ := K
  have nd := I.nd
  rw [List.nodup_cons] at nd
  refine ⟨I.sta, u.ns I.ns, fun b o e => k b o (hideAll_get _ (I.keep b o e) fun q => ?_), I.nL, fun p hp => ?_, I.nd, hg, ho⟩
  · rw [List.mem_singleton.mp q, I.nL] at e; cases e
  · obtain ⟨⟨o, e, i⟩, n⟩ := I.ld p hp
    refine ⟨⟨o, k _ o (hideAll_get _ e fun q => nd.1 ?_), i⟩, n⟩
    rw [← List.mem_singleton.mp q]; exact List.mem_map_of_mem hp
theorem below_hide (I : St w O g L s m led) (hfr : A.frames = some [envOf name scope L a cd]) (hk : scope.kind = .function) : Below A (hideAll s.heap [L]) [envOf name scope L a cd] s.heap :=
  ⟨hfr, fun _ _ e => of_hideAll _ e, Heap.FunFrames.cons (by show scope.kind ≠ .module; rw [hk]; decide) rfl I.ns (hideAll_none _ List.mem_cons_self) trivial⟩
theorem St.hide (I : St w O g L s m led) : Sta w (hideAll s.heap [L]) := I.sta.sub fun b o e => hideAll_get _ (I.keep b o e) fun q => by rw [List.mem_singleton.mp q, I.nL] at e; cases e
end
end Mine
end
section
open PySem PySem.W PyProof.Rows PySem.Calls
set_option maxRecDepth 100000
namespace Mine
open PySem.Sem (wp)
/-! what is still to be shown behind a part of the text, under names: the same rules, their terms smaller -/
section
variable (M : Model) (A : Around) (env : Env)
noncomputable abbrev KCons (rest : List Stmt) (Q : Flow → Shared → Prop) (E : Value → Shared → Prop) : Flow → Shared → Prop := fun f s' => match f with | .next => wpC M A (execs rest env) Q E s' | f => Q f s'
noncomputable abbrev KIf (body orelse : List Stmt) (Q : Flow → Shared → Prop) (E : Value → Shared → Prop) : Bool → Shared → Prop := fun b s₂ => if b = true then wpC M A (execs body env) Q E s₂ else wpC M A (execs orelse env) Q E s₂
noncomputable abbrev KRet (Q : Flow → Shared → Prop) : Value → Shared → Prop := fun v => Q (.ret v)
noncomputable abbrev KDrop (Q : Flow → Shared → Prop) : Value → Shared → Prop := fun v s' => (∀ a, v ≠ .ref a) ∧ Q .next s'
noncomputable abbrev KNext (Q : Flow → Shared → Prop) : Unit → Shared → Prop := fun _ => Q .next
noncomputable abbrev KAsg (x : Str) (Q : Flow → Shared → Prop) (E : Value → Shared → Prop) : Value → Shared → Prop := fun v s₁ => wpC M A (storeName env x v) (KNext Q) E s₁
noncomputable abbrev KBin2 (op : Operator) (a : Value) (Q : Value → Shared → Prop) (E : Value → Shared → Prop) : Value → Shared → Prop := fun b s₂ => wpC M A (binaryOp op a b) Q E s₂
noncomputable abbrev KBin (op : Operator) (r : PySem.Expr) (Q : Value → Shared → Prop) (E : Value → Shared → Prop) : Value → Shared → Prop := fun a s₁ => wpC M A (eval r env) (KBin2 M A op a Q E) E s₁
noncomputable abbrev KUn (op : UnaryOp) (Q : Value → Shared → Prop) (E : Value → Shared → Prop) : Value → Shared → Prop := fun v s₁ => wpC M A (unaryOp op v) Q E s₁
noncomputable abbrev KIfE (body orelse : PySem.Expr) (Q : Value → Shared → Prop) (E : Value → Shared → Prop) : Bool → Shared → Prop := fun b s₁ => if b = true then wpC M A (eval body env) Q E s₁ else wpC M A (eval orelse env) Q E s₁
noncomputable abbrev KCmp2 (op : CmpOp) (a : Value) (Q : Value → Shared → Prop) (E : Value → Shared → Prop) : Value → Shared → Prop := fun b s₂ => wpC M A (compareOp op a b) Q E s₂
noncomputable abbrev KCmp (op : CmpOp) (r : PySem.Expr) (Q : Value → Shared → Prop) (E : Value → Shared → Prop) : Value → Shared → Prop := fun a s₁ => wpC M A (eval r env) (KCmp2 M A op a Q E) E s₁
noncomputable abbrev KTr (Q : Bool → Shared → Prop) (E : Value → Shared → Prop) : Value → Shared → Prop := fun v s₁ => wpC M A (truthy v) Q E s₁
noncomputable abbrev KNot (Q : Bool → Shared → Prop) : Bool → Shared → Prop := fun b s₁ => Q (!b) s₁
noncomputable abbrev KAnd (rest : List PySem.Expr) (Q : Bool → Shared → Prop) (E : Value → Shared → Prop) : Bool → Shared → Prop := fun b s₁ => if b = true then wpC M A (allTrue .And rest env) Q E s₁ else Q false s₁
noncomputable abbrev KOr (rest : List PySem.Expr) (Q : Bool → Shared → Prop) (E : Value → Shared → Prop) : Bool → Shared → Prop := fun b s₁ => if b = true then Q true s₁ else wpC M A (allTrue .Or rest env) Q E s₁
noncomputable abbrev KIt2 (v : Value) (Q : List Value → Shared → Prop) : List Value → Shared → Prop := fun vs s₂ => Q (v :: vs) s₂
noncomputable abbrev KIt (pos : Pos) (rest : List PySem.Expr) (Q : List Value → Shared → Prop) (E : Value → Shared → Prop) : Value → Shared → Prop := fun v s₁ => wpC M A (spliced (backTo pos (starEach rest env))) (KIt2 v Q) E s₁
noncomputable abbrev KTup (Q : Value → Shared → Prop) (E : Value → Shared → Prop) : List Value → Shared → Prop := fun vs s₁ => wpC M A (newTuple vs) Q E s₁
noncomputable abbrev KLst (Q : Value → Shared → Prop) (E : Value → Shared → Prop) : List Value → Shared → Prop := fun vs s₁ => wpC M A (newList vs) Q E s₁
noncomputable abbrev KCall (pos : Pos) (args : List PySem.Expr) (Q : Value → Shared → Prop) (E : Value → Shared → Prop) : Value → Shared → Prop := fun f s₁ => wpC M A (callWith pos f [] (backTo pos (starEach args env)) []) Q E s₁
noncomputable abbrev KMet2 (pos : Pos) (args : List PySem.Expr) (Q : Value → Shared → Prop) (E : Value → Shared → Prop) : Value × List Value → Shared → Prop := fun fx s₂ => wpC M A (callWith pos fx.1 fx.2 (backTo pos (starEach args env)) []) Q E s₂
noncomputable abbrev KMet (o : PySem.Expr) (name : Str) (pos : Pos) (args : List PySem.Expr) (Q : Value → Shared → Prop) (E : Value → Shared → Prop) : Value → Shared → Prop := fun ov s₁ => wpC M A (getMethod ov name (do return (← importBound o env).getD true)) (KMet2 M A env pos args Q E) E s₁
noncomputable abbrev KSub4 (v : PySem.Expr) (o : Value) (Q : Value → Shared → Prop) (E : Value → Shared → Prop) : Value → Shared → Prop := fun r s₄ => wpC M A (letTemporaryGo v o r) (fun _ s₅ => Q r s₅) E s₄
noncomputable abbrev KSub3 (v : PySem.Expr) (o i : Value) (Q : Value → Shared → Prop) (E : Value → Shared → Prop) : Bool → Shared → Prop := fun b s₃ => b = false ∧ wpC M A (getItem o i) (KSub4 M A v o Q E) E s₃
noncomputable abbrev KSub2 (v : PySem.Expr) (o : Value) (Q : Value → Shared → Prop) (E : Value → Shared → Prop) : Value → Shared → Prop := fun i s₂ => wpC M A (getitemInPython o) (KSub3 M A v o i Q E) E s₂
noncomputable abbrev KSub (v sl : PySem.Expr) (Q : Value → Shared → Prop) (E : Value → Shared → Prop) : Value → Shared → Prop := fun o s₁ => wpC M A (eval sl env) (KSub2 M A v o Q E) E s₁
noncomputable abbrev KCw (f : Value) (Q : Value → Shared → Prop) (E : Value → Shared → Prop) : List Value → Shared → Prop := fun vs s₁ => wpC M A (call f vs) Q E s₁
noncomputable abbrev KCw1 (f x : Value) (Q : Value → Shared → Prop) (E : Value → Shared → Prop) : List Value → Shared → Prop := fun vs s₁ => wpC M A (call f (x :: vs)) Q E s₁
noncomputable abbrev KCwF (a : Addr) (Q : Value → Shared → Prop) (E : Value → Shared → Prop) : List Value → Shared → Prop := fun vs s₁ => (∃ o fd, s₁.heap.get? a = some o ∧ o.data = .func fd) ∧ wpC M A (call (.ref a) vs) Q E s₁
end
section
variable {M : Model} {A : Around} {E : Value → Shared → Prop} {s : Shared} {env : Env}
theorem x_consK {st rest} {Q : Flow → Shared → Prop} (h : wpC M A (exec st env) (KCons M A env rest Q E) E s) : wpC M A (execs (st :: rest) env) Q E s := x_cons h
theorem x_IfK {test body orelse pos} {Q : Flow → Shared → Prop} (h : wpC M A (isTrue test env (eval test env)) (KIf M A env body orelse Q E) E s) : wpC M A (exec (.If test body orelse pos) env) Q E s := x_If h
theorem x_ReturnK {e pos} {Q : Flow → Shared → Prop} (h : wpC M A (eval e env) (KRet Q) E s) : wpC M A (exec (.Return (some e) pos) env) Q E s := x_Return h
theorem x_ExprK {e pos} {Q : Flow → Shared → Prop} (h : wpC M A (eval e env) (KDrop Q) E s) (hi : interactive env = false := by rfl) (hs : swapsWith e none pos.line env = pure false := by rfl) : wpC M A (exec (.Expr e pos) env) Q E s := x_Expr h hi hs
theorem x_AssignK {x pos' value pos} {Q : Flow → Shared → Prop} (h : wpC M A (eval value env) (KAsg M A env x Q E) E s) (hs : swapsWith value (some (.Name x pos')) pos.line env = pure false := by rfl) : wpC M A (exec (.Assign [.Name x pos'] value pos) env) Q E s := x_Assign h hs
theorem e_BinOpK {l op r pos} {Q : Value → Shared → Prop} (h : wpC M A (eval l env) (KBin M A env op r Q E) E s) : wpC M A (eval (.BinOp l op r pos) env) Q E s := e_BinOp h
theorem e_UnaryOpK {op : UnaryOp} {x : PySem.Expr} {pos : Pos} {Q : Value → Shared → Prop} (h : wpC M A (eval x env) (KUn M A op Q E) E s) : wpC M A (eval (.UnaryOp op x pos) env) Q E s := e_UnaryOp h
theorem e_IfExpK {test body orelse : PySem.Expr} {pos : Pos} {Q : Value → Shared → Prop} (h : wpC M A (isTrue test env (eval test env)) (KIfE M A env body orelse Q E) E s) : wpC M A (eval (.IfExp test body orelse pos) env) Q E s := e_IfExp h
theorem e_Compare1K {l op r pos} {Q : Value → Shared → Prop} (h : wpC M A (eval l env) (KCmp M A env op r Q E) E s) (hm : behindInMarks op r = false := by with_unfolding_all rfl) : wpC M A (eval (.Compare l [op] [r] pos) env) Q E s := e_Compare1 h hm
theorem t_Compare1K {l op r pos whole} {Q : Bool → Shared → Prop} (h : wpC M A (eval l env) (KCmp M A env op r (KTr M A Q E) E) E s) (hm : behindInMarks op r = false := by with_unfolding_all rfl) : wpC M A (isTrue (.Compare l [op] [r] pos) env whole) Q E s := t_Compare1 h hm
theorem t_valueK {e : PySem.Expr} {whole : Sem Value} {Q : Bool → Shared → Prop} (h : wpC M A whole (KTr M A Q E) E s) (he : isTrue e env whole = (do let v ← whole; standAt e.pos; holding [v] (truthy v)) := by rfl) : wpC M A (isTrue e env whole) Q E s := t_value h he
theorem t_NotK {x : PySem.Expr} {pos : Pos} {whole : Sem Value} {Q : Bool → Shared → Prop} (h : wpC M A (isTrue x env (eval x env)) (KNot Q) E s) : wpC M A (isTrue (.UnaryOp .Not x pos) env whole) Q E s := t_Not h
theorem it_consK {pos : Pos} {e : PySem.Expr} {rest : List PySem.Expr} {Q : List Value → Shared → Prop} (h : wpC M A (eval e env) (KIt M A env pos rest Q E) E s) (he : starEach (e :: rest) env = (false, eval e env) :: starEach rest env := by rfl) : wpC M A (spliced (backTo pos (starEach (e :: rest) env))) Q E s := it_cons h he
theorem e_TupleK {elts : List PySem.Expr} {k : Nat} {pos : Pos} {Q : Value → Shared → Prop} (h : wpC M A (spliced (backTo pos (starEach elts env))) (KTup M A Q E) E s) : wpC M A (eval (.Tuple elts k pos) env) Q E s := e_Tuple h
theorem e_ListK {elts : List PySem.Expr} {pos : Pos} {Q : Value → Shared → Prop} (h : wpC M A (spliced (backTo pos (starEach elts env))) (KLst M A Q E) E s) : wpC M A (eval (.List elts pos) env) Q E s := e_List h
theorem e_CallK {id : Str} {p : Pos} {args : List PySem.Expr} {pos : Pos} {Q : Value → Shared → Prop} (h : wpC M A (eval (.Name id p) env) (KCall M A env pos args Q E) E s) : wpC M A (eval (.Call (.Name id p) args [] pos) env) Q E s := e_Call h
theorem e_MethodK {o : PySem.Expr} {name : Str} {apos pos : Pos} {args : List PySem.Expr} {Q : Value → Shared → Prop}
    (hb : ∀ whole, attributeBase o name env whole = whole) (hp : (starEach args env).any (·.1) = false) (hl : args.length < 30) (hln : apos.endLine = pos.line)
    (h : wpC M A (eval o env) (KMet M A env o name pos args Q E) E s) : wpC M A (eval (.Call (.Attribute o name apos) args [] pos) env) Q E s := e_Method hb hp hl hln h
theorem e_SubscriptK {v sl : PySem.Expr} {pos : Pos} {Q : Value → Shared → Prop} (h : wpC M A (eval v env) (KSub M A env v sl Q E) E s) : wpC M A (eval (.Subscript v sl pos) env) Q E s := e_Subscript h
end
section
variable {w : World} {A : Around} {E : Value → Shared → Prop} {s : Shared} {env : Env}
theorem all_consAK {M : Model} {x : PySem.Expr} {rest : List PySem.Expr} {Q : Bool → Shared → Prop} (h : wpC M A (isTrue x env (eval x env)) (KAnd M A env rest Q E) E s) : wpC M A (allTrue .And (x :: rest) env) Q E s := all_consA h
theorem all_consOK {M : Model} {x : PySem.Expr} {rest : List PySem.Expr} {Q : Bool → Shared → Prop} (h : wpC M A (isTrue x env (eval x env)) (KOr M A env rest Q E) E s) : wpC M A (allTrue .Or (x :: rest) env) Q E s := all_consO h
theorem cw_m0K {pos : Pos} {f : Value} {es : List PySem.Expr} {Q : Value → Shared → Prop} (hf : keeperOf f = pure Keeper.machine) (hp : (starEach es env).any (·.1) = false)
    (h : wpC (Mw w) A (spliced (backTo pos (starEach es env))) (KCw (Mw w) A f Q E) E s) : wpC (Mw w) A (callWith pos f [] (backTo pos (starEach es env)) []) Q E s := cw_m0 hf hp h
theorem cw_m1K {pos : Pos} {f x : Value} {es : List PySem.Expr} {Q : Value → Shared → Prop} (hf : keeperOf f = pure Keeper.machine) (hp : (starEach es env).any (·.1) = false)
    (h : wpC (Mw w) A (spliced (backTo pos (starEach es env))) (KCw1 (Mw w) A f x Q E) E s) : wpC (Mw w) A (callWith pos f [x] (backTo pos (starEach es env)) []) Q E s := cw_m1 hf hp h
theorem cw_f0K {pos : Pos} {a : Addr} {es : List PySem.Expr} {Q : Value → Shared → Prop} (hp : (starEach es env).any (·.1) = false)
    (h : wpC (Mw w) A (spliced (backTo pos (starEach es env))) (KCwF (Mw w) A a Q E) E s) : wpC (Mw w) A (callWith pos (.ref a) [] (backTo pos (starEach es env)) []) Q E s := cw_f0 hp h
end
end Mine
end
section
open PySem PySem.W PyProof.Rows PySem.Calls
set_option maxRecDepth 100000
namespace Mine
open PySem.Sem (wp)
-- a local's value
local macro_rules | `(tactic| tm_at "v") => `(tactic| ((repeat (refine look_ne (by decide +kernel) ?_)); first | with_reducible exact look_eq | with_reducible assumption | with_unfolding_all rfl))
-- which object of the ledger changes
local macro_rules | `(tactic| tm_at "r") => `(tactic| first | exact Rep.head | exact Rep.tail Rep.head | exact Rep.tail (Rep.tail Rep.head) | exact Rep.tail (Rep.tail (Rep.tail Rep.head)) | exact Rep.tail (Rep.tail (Rep.tail (Rep.tail Rep.head))))
-- what stands on the ledger
local macro_rules | `(tactic| tm_at "m") => `(tactic| first | with_reducible exact List.mem_cons_self | with_reducible exact List.mem_cons_of_mem _ (List.mem_cons_self) | with_reducible exact List.mem_cons_of_mem _ (List.mem_cons_of_mem _ (List.mem_cons_self)) | with_reducible exact List.mem_cons_of_mem _ (List.mem_cons_of_mem _ (List.mem_cons_of_mem _ (List.mem_cons_self))) | with_reducible exact List.mem_cons_of_mem _ (List.mem_cons_of_mem _ (List.mem_cons_of_mem _ (List.mem_cons_of_mem _ (List.mem_cons_self)))) | with_reducible exact List.mem_cons_of_mem _ (List.mem_cons_of_mem _ (List.mem_cons_of_mem _ (List.mem_cons_of_mem _ (List.mem_cons_of_mem _ (List.mem_cons_self))))))
-- sizes
local macro_rules | `(tactic| tm_at "z") => `(tactic| first | omega | (simp only [List.length_append, List.length_cons, List.length_nil]; omega))
-- one step of the walk: the tree's head says which rule
local macro_rules | `(tactic| tm_at "s") => `(tactic| first
  | ((with_reducible show wpC _ _ (execs _ _) _ _ _); first
    | ((with_reducible show wpC _ _ (execs (_ :: _) _) _ _ _); refine x_consK ?_)
    | ((with_reducible show wpC _ _ (execs [] _) _ _ _); refine x_nil ?_))
  | ((with_reducible show wpC _ _ (exec _ _) _ _ _); first
    | ((with_reducible show wpC _ _ (exec (Stmt.Assign [PySem.Expr.Name _ _] _ _) _) _ _ _); refine x_AssignK ?_)
    | ((with_reducible show wpC _ _ (exec (Stmt.Assign [PySem.Expr.Subscript _ _ _] _ _) _) _ _ _); refine x_AssignItem ?_)
    | ((with_reducible show wpC _ _ (exec (Stmt.AugAssign (PySem.Expr.Name _ _) _ _ _) _) _ _ _); refine x_Aug ?_)
    | ((with_reducible show wpC _ _ (exec (Stmt.If _ _ _ _) _) _ _ _); refine x_IfK ?_)
    | ((with_reducible show wpC _ _ (exec (Stmt.Return (some _) _) _) _ _ _); refine x_ReturnK ?_)
    | ((with_reducible show wpC _ _ (exec (Stmt.Expr _ _) _) _ _ _); refine x_ExprK ?_))
  | ((with_reducible show wpC _ _ (eval _ _) _ _ _); first
    | ((with_reducible show wpC _ _ (eval (PySem.Expr.Constant _ _ _) _) _ _ _); first
      | ((with_reducible show wpC _ _ (eval (PySem.Expr.Constant (Const.int _) _ _) _) _ _ _); refine k_int (by with_reducible assumption) ?_; intro t s' I')
      | ((with_reducible show wpC _ _ (eval (PySem.Expr.Constant (Const.str _) _ _) _) _ _ _); refine k_str (by with_reducible assumption) ?_; intro t s' I')
      | ((with_reducible show wpC _ _ (eval (PySem.Expr.Constant (Const.bytes _) _ _) _) _ _ _); refine k_bytes (by with_reducible assumption) ?_; intro t s' I')
      | ((with_reducible show wpC _ _ (eval (PySem.Expr.Constant (Const.bool _) _ _) _) _ _ _); refine k_bool ?_)
      | ((with_reducible show wpC _ _ (eval (PySem.Expr.Constant Const.none _ _) _) _ _ _); refine k_none ?_))
    | ((with_reducible show wpC _ _ (eval (PySem.Expr.Name _ _) _) _ _ _); first
      | ((with_reducible show wpC _ _ (eval (PySem.Expr.Name (Str.ofString "isinstance") _) _) _ _ _); refine vb_isinstance (by with_reducible assumption) ?_)
      | ((with_reducible show wpC _ _ (eval (PySem.Expr.Name (Str.ofString "len") _) _) _ _ _); refine vb_len (by with_reducible assumption) ?_)
      | ((with_reducible show wpC _ _ (eval (PySem.Expr.Name (Str.ofString "int") _) _) _ _ _); refine vb_int (by with_reducible assumption) ?_)
      | ((with_reducible show wpC _ _ (eval (PySem.Expr.Name (Str.ofString "str") _) _) _ _ _); refine vb_str (by with_reducible assumption) ?_)
      | ((with_reducible show wpC _ _ (eval (PySem.Expr.Name (Str.ofString "bytes") _) _) _ _ _); refine vb_bytes (by with_reducible assumption) ?_)
      | ((with_reducible show wpC _ _ (eval (PySem.Expr.Name (Str.ofString "bytearray") _) _) _ _ _); refine vb_bytearray (by with_reducible assumption) ?_)
      | ((with_reducible show wpC _ _ (eval (PySem.Expr.Name (Str.ofString "range") _) _) _ _ _); refine vb_range (by with_reducible assumption) ?_)
      | ((with_reducible show wpC _ _ (eval (PySem.Expr.Name (Str.ofString "ord") _) _) _ _ _); refine vb_ord (by with_reducible assumption) ?_)
      | ((with_reducible show wpC _ _ (eval (PySem.Expr.Name (Str.ofString "chr") _) _) _ _ _); refine vb_chr (by with_reducible assumption) ?_)
      | ((with_reducible show wpC _ _ (eval (PySem.Expr.Name (Str.ofString "max") _) _) _ _ _); refine vb_max (by with_reducible assumption) ?_)
      | ((with_reducible show wpC _ _ (eval (PySem.Expr.Name (Str.ofString "min") _) _) _ _ _); refine vb_min (by with_reducible assumption) ?_)
      | ((with_reducible show wpC _ _ (eval (PySem.Expr.Name _ _) _) _ _ _); first
      | refine v_glob (by with_reducible assumption) (by with_reducible first | exact gl_SqlError _ | exact gl_MisuseError _ | exact gl_utf8 _ | exact gl_fold_ascii _ | exact gl_storage_class _ | exact gl_is_in_range _ | exact gl_collate _ | exact gl_put_fixed _ | exact gl_put_ended _ | exact gl_sort_part _ | exact gl_law_pool _ | exact gl_law_take _ | exact gl_law_one _ | exact gl_law_signs _ | exact gl_law_turned _ | exact gl_law_beside _ | exact gl_law_value _ | exact gl_law_kept _ | exact gl_law_rank _ | exact gl_law_told _ | exact gl_law_body _ | exact gl_law_read _ | exact gl_law_right _ | exact gl_law_is_ended _ | exact gl_law_refusal _ | exact gl_MIN_INT _ | exact gl_MAX_INT _ | exact gl_WORD _ | exact gl_NULL_TAG _ | exact gl_NUMBER_TAG _ | exact gl_TEXT_TAG _ | exact gl_BLOB_TAG _) ?_
      | refine v_loc (by with_reducible assumption) (by tm_at "v") ?_))
    | ((with_reducible show wpC _ _ (eval (PySem.Expr.BinOp _ _ _ _) _) _ _ _); refine e_BinOpK ?_)
    | ((with_reducible show wpC _ _ (eval (PySem.Expr.UnaryOp _ _ _) _) _ _ _); refine e_UnaryOpK ?_)
    | ((with_reducible show wpC _ _ (eval (PySem.Expr.IfExp _ _ _ _) _) _ _ _); refine e_IfExpK ?_)
    | ((with_reducible show wpC _ _ (eval (PySem.Expr.Compare _ [_] [_] _) _) _ _ _); refine e_Compare1K ?_)
    | ((with_reducible show wpC _ _ (eval (PySem.Expr.Compare _ [_, _] [_, _] _) _) _ _ _); refine chain2 ?_)
    | ((with_reducible show wpC _ _ (eval (PySem.Expr.BoolOp BoolOp.And [_, _] _) _) _ _ _); refine e_And2 ?_)
    | ((with_reducible show wpC _ _ (eval (PySem.Expr.BoolOp BoolOp.Or [_, _] _) _) _ _ _); refine e_Or2 ?_)
    | ((with_reducible show wpC _ _ (eval (PySem.Expr.Tuple _ _ _) _) _ _ _); refine e_TupleK ?_)
    | ((with_reducible show wpC _ _ (eval (PySem.Expr.List _ _) _) _ _ _); refine e_ListK ?_)
    | ((with_reducible show wpC _ _ (eval (PySem.Expr.Subscript _ _ _) _) _ _ _); refine e_SubscriptK ?_)
    | ((with_reducible show wpC _ _ (eval (PySem.Expr.Slice _ _ none _) _) _ _ _); refine e_Slice ?_)
    | ((with_reducible show wpC _ _ (eval (PySem.Expr.Call (PySem.Expr.Name _ _) _ [] _) _) _ _ _); refine e_CallK ?_)
    | ((with_reducible show wpC _ _ (eval (PySem.Expr.Call (PySem.Expr.Attribute _ _ _) _ [] _) _) _ _ _); refine e_MethodK (fun _ => by rfl) (by with_unfolding_all rfl) (by decide) (by rfl) ?_))
  | ((with_reducible show wpC _ _ (valueOrNone _) _ _ _); first
    | ((with_reducible show wpC _ _ (valueOrNone (evalOpt (some _) _)) _ _ _); refine vn_some ?_)
    | ((with_reducible show wpC _ _ (valueOrNone (evalOpt none _)) _ _ _); refine vn_none ?_))
  | ((with_reducible show wpC _ _ (isTrue _ _ _) _ _ _); first
    | ((with_reducible show wpC _ _ (isTrue (PySem.Expr.Compare _ [_] [_] _) _ _) _ _ _); refine t_Compare1K ?_)
    | ((with_reducible show wpC _ _ (isTrue (PySem.Expr.Compare _ [_, _] [_, _] _) _ _) _ _ _); refine tchain2 ?_)
    | ((with_reducible show wpC _ _ (isTrue (PySem.Expr.UnaryOp UnaryOp.Not _ _) _ _) _ _ _); refine t_NotK ?_)
    | ((with_reducible show wpC _ _ (isTrue (PySem.Expr.BoolOp _ _ _) _ _) _ _ _); refine t_BoolOp ?_)
    | ((with_reducible show wpC _ _ (isTrue _ _ _) _ _ _); refine t_valueK ?_))
  | ((with_reducible show wpC _ _ (allTrue _ _ _) _ _ _); first
    | ((with_reducible show wpC _ _ (allTrue BoolOp.And (_ :: _) _) _ _ _); refine all_consAK ?_)
    | ((with_reducible show wpC _ _ (allTrue BoolOp.Or (_ :: _) _) _ _ _); refine all_consOK ?_)
    | ((with_reducible show wpC _ _ (allTrue BoolOp.And [] _) _ _ _); refine all_nilA ?_)
    | ((with_reducible show wpC _ _ (allTrue BoolOp.Or [] _) _ _ _); refine all_nilO ?_))
  | ((with_reducible show wpC _ _ (spliced _) _ _ _); first
    | ((with_reducible show wpC _ _ (spliced (backTo _ (starEach (_ :: _) _))) _ _ _); refine it_consK ?_)
    | ((with_reducible show wpC _ _ (spliced (backTo _ (starEach [] _))) _ _ _); refine it_nil ?_))
  | ((with_reducible show wpC _ _ (callWith _ _ _ _ _) _ _ _); first
    | ((with_reducible show wpC _ _ (callWith _ (Value.builtin _) [] _ _) _ _ _); refine cw_m0K rfl (by with_unfolding_all rfl) ?_)
    | ((with_reducible show wpC _ _ (callWith _ (Value.builtin _) [_] _ _) _ _ _); refine cw_m1K rfl (by with_unfolding_all rfl) ?_)
    | ((with_reducible show wpC _ _ (callWith _ (Value.type _) [] _ _) _ _ _); refine cw_m0K rfl (by with_unfolding_all rfl) ?_)
    | ((with_reducible show wpC _ _ (callWith _ (Value.ref _) [] _ _) _ _ _); refine cw_f0K (by with_unfolding_all rfl) ?_))
  | ((with_reducible show (∃ o fd, _ = some o ∧ _ = Data.func fd) ∧ _); refine ⟨(by with_reducible first | exact fn_65 (by with_reducible assumption) | exact fn_72 (by with_reducible assumption) | exact fn_79 (by with_reducible assumption) | exact fn_86 (by with_reducible assumption) | exact fn_93 (by with_reducible assumption) | exact fn_100 (by with_reducible assumption) | exact fn_107 (by with_reducible assumption) | exact fn_114 (by with_reducible assumption) | exact fn_121 (by with_reducible assumption) | exact fn_128 (by with_reducible assumption) | exact fn_135 (by with_reducible assumption) | exact fn_140 (by with_reducible assumption) | exact fn_147 (by with_reducible assumption) | exact fn_154 (by with_reducible assumption) | exact fn_161 (by with_reducible assumption) | exact fn_166 (by with_reducible assumption) | exact fn_171 (by with_reducible assumption) | exact fn_176 (by with_reducible assumption) | exact fn_183 (by with_reducible assumption) | exact fn_190 (by with_reducible assumption) | exact fn_195 (by with_reducible assumption) | exact fn_200 (by with_reducible assumption) | exact fn_207 (by with_reducible assumption)), ?_⟩)
  | ((with_reducible show (∀ a, Value.none ≠ Value.ref a) ∧ _); refine ⟨(fun _ e => nomatch e), ?_⟩)
  | ((with_reducible show (if true = true then _ else _)); with_reducible refine br_t rfl ?_)
  | ((with_reducible show (if false = true then _ else _)); with_reducible refine br_f rfl ?_)
  | ((with_reducible show (if (!true) = true then _ else _)); refine br_f Bool.not_true ?_)
  | ((with_reducible show (if (!false) = true then _ else _)); refine br_t Bool.not_false ?_)
  | ((with_reducible show wpC _ _ (storeName _ _ _) _ _ _); refine v_store (by with_reducible assumption) ?_; intro s' I')
  | ((with_reducible show wpC _ _ (truthy (Value.bool _)) _ _ _); refine b_bool ?_)
  | ((with_reducible show wpC _ _ (binaryOp _ _ _) _ _ _); first
    | ((with_reducible show wpC _ _ (binaryOp Operator.Add (Value.int _ _) (Value.int _ _)) _ _ _); refine o_add (by with_reducible assumption) ?_; intro t s' I')
    | ((with_reducible show wpC _ _ (binaryOp Operator.Sub (Value.int _ _) (Value.int _ _)) _ _ _); refine o_sub (by with_reducible assumption) ?_; intro t s' I')
    | ((with_reducible show wpC _ _ (binaryOp Operator.BitAnd (Value.int _ _) (Value.int _ _)) _ _ _); refine o_and (by with_reducible assumption) ?_; intro t s' I')
    | ((with_reducible show wpC _ _ (binaryOp Operator.BitOr (Value.int _ _) (Value.int _ _)) _ _ _); refine o_or (by with_reducible assumption) ?_; intro t s' I')
    | ((with_reducible show wpC _ _ (binaryOp Operator.RShift (Value.int _ _) (Value.int 6 _)) _ _ _); refine o_shrN 6 rfl (by with_reducible assumption) ?_; intro t s' I')
    | ((with_reducible show wpC _ _ (binaryOp Operator.RShift (Value.int _ _) (Value.int 12 _)) _ _ _); refine o_shrN 12 rfl (by with_reducible assumption) ?_; intro t s' I')
    | ((with_reducible show wpC _ _ (binaryOp Operator.RShift (Value.int _ _) (Value.int 18 _)) _ _ _); refine o_shrN 18 rfl (by with_reducible assumption) ?_; intro t s' I')
    | ((with_reducible show wpC _ _ (binaryOp Operator.Mod (Value.int _ _) (Value.int _ _)) _ _ _); refine o_mod (by with_reducible assumption) (by omega) ?_; intro t s' I')
    | ((with_reducible show wpC _ _ (binaryOp Operator.FloorDiv (Value.int _ _) (Value.int _ _)) _ _ _); refine o_div (by with_reducible assumption) (by omega) (by omega) ?_; intro t s' I'))
  | ((with_reducible show wpC _ _ (inplaceOp _ _ _) _ _ _); first
    | ((with_reducible show wpC _ _ (inplaceOp Operator.RShift (Value.int _ _) (Value.int 8 _)) _ _ _); refine o_ishrN 8 rfl (by with_reducible assumption) ?_; intro t s' I')
    | ((with_reducible show wpC _ _ (inplaceOp Operator.Sub (Value.int _ _) (Value.int _ _)) _ _ _); refine o_isub (by with_reducible assumption) ?_; intro t s' I'))
  | ((with_reducible show wpC _ _ (unaryOp UnaryOp.USub (Value.int _ _)) _ _ _); refine o_neg (by with_reducible assumption) ?_; intro t s' I')
  | ((with_reducible show wpC _ _ (compareOp _ _ _) _ _ _); first
    | ((with_reducible show wpC _ _ (compareOp CmpOp.Eq (Value.int _ _) (Value.int _ _)) _ _ _); refine q_eq ?_)
    | ((with_reducible show wpC _ _ (compareOp CmpOp.NotEq (Value.int _ _) (Value.int _ _)) _ _ _); refine q_ne ?_)
    | ((with_reducible show wpC _ _ (compareOp CmpOp.Lt (Value.int _ _) (Value.int _ _)) _ _ _); refine q_lt ?_)
    | ((with_reducible show wpC _ _ (compareOp CmpOp.LtE (Value.int _ _) (Value.int _ _)) _ _ _); refine q_le ?_)
    | ((with_reducible show wpC _ _ (compareOp CmpOp.Gt (Value.int _ _) (Value.int _ _)) _ _ _); refine q_gt ?_)
    | ((with_reducible show wpC _ _ (compareOp CmpOp.GtE (Value.int _ _) (Value.int _ _)) _ _ _); refine q_ge ?_)
    | ((with_reducible show wpC _ _ (compareOp CmpOp.Eq (Value.str _ _) (Value.str _ _)) _ _ _); refine q_eqs ?_)
    | ((with_reducible show wpC _ _ (compareOp CmpOp.NotEq (Value.str _ _) (Value.str _ _)) _ _ _); refine q_nes ?_)
    | ((with_reducible show wpC _ _ (compareOp CmpOp.Eq (Value.bytes _ _) (Value.bytes _ _)) _ _ _); refine q_eqb ?_)
    | ((with_reducible show wpC _ _ (compareOp CmpOp.NotEq (Value.bool _) (Value.bool _)) _ _ _); refine q_neb ?_)
    | ((with_reducible show wpC _ _ (compareOp CmpOp.Is _ Value.none) _ _ _); first | with_reducible refine q_isn_n ?_ | with_reducible refine q_isn_i ?_ | with_reducible refine q_isn_s ?_ | with_reducible refine q_isn_b ?_)
    | ((with_reducible show wpC _ _ (compareOp CmpOp.LtE (Value.str _ _) (Value.str _ _)) _ _ _); refine q_le1 ?_))
  | ((with_reducible show wpC _ _ (call _ _) _ _ _); first
    | ((with_reducible show wpC _ _ (call (Value.builtin "ord") [Value.str _ _]) _ _ _); refine c_ord (by with_reducible assumption) ?_; intro t s' I')
    | ((with_reducible show wpC _ _ (call (Value.builtin "isinstance") [Value.none, Value.type "int"]) _ _ _); refine i_none_int (by with_reducible assumption) ?_; intro s' I')
    | ((with_reducible show wpC _ _ (call (Value.builtin "isinstance") [Value.none, Value.type "str"]) _ _ _); refine i_none_str (by with_reducible assumption) ?_; intro s' I')
    | ((with_reducible show wpC _ _ (call (Value.builtin "isinstance") [Value.none, Value.type "bytes"]) _ _ _); refine i_none_bytes (by with_reducible assumption) ?_; intro s' I')
    | ((with_reducible show wpC _ _ (call (Value.builtin "isinstance") [Value.int _ _, Value.type "int"]) _ _ _); refine i_int_int ?_)
    | ((with_reducible show wpC _ _ (call (Value.builtin "isinstance") [Value.int _ _, Value.type "str"]) _ _ _); refine i_int_str (by with_reducible assumption) ?_; intro s' I')
    | ((with_reducible show wpC _ _ (call (Value.builtin "isinstance") [Value.int _ _, Value.type "bytes"]) _ _ _); refine i_int_bytes (by with_reducible assumption) ?_; intro s' I')
    | ((with_reducible show wpC _ _ (call (Value.builtin "isinstance") [Value.str _ _, Value.type "int"]) _ _ _); refine i_str_int (by with_reducible assumption) ?_; intro s' I')
    | ((with_reducible show wpC _ _ (call (Value.builtin "isinstance") [Value.str _ _, Value.type "str"]) _ _ _); refine i_str_str ?_)
    | ((with_reducible show wpC _ _ (call (Value.builtin "isinstance") [Value.str _ _, Value.type "bytes"]) _ _ _); refine i_str_bytes (by with_reducible assumption) ?_; intro s' I')
    | ((with_reducible show wpC _ _ (call (Value.builtin "isinstance") [Value.bytes _ _, Value.type "int"]) _ _ _); refine i_bytes_int (by with_reducible assumption) ?_; intro s' I')
    | ((with_reducible show wpC _ _ (call (Value.builtin "isinstance") [Value.bytes _ _, Value.type "str"]) _ _ _); refine i_bytes_str (by with_reducible assumption) ?_; intro s' I')
    | ((with_reducible show wpC _ _ (call (Value.builtin "isinstance") [Value.bytes _ _, Value.type "bytes"]) _ _ _); refine i_bytes_bytes ?_)
    | ((with_reducible show wpC _ _ (call (Value.type "bytearray") []) _ _ _); refine c_ba (by with_reducible assumption) ?_; intro a s' I')
    | ((with_reducible show wpC _ _ (call (Value.type "int") [Value.int _ _]) _ _ _); refine c_int ?_)
    | ((with_reducible show wpC _ _ (call (Value.type "int") [Value.bool _]) _ _ _); refine c_intb (by with_reducible assumption) ?_; intro t s' I')
    | ((with_reducible show wpC _ _ (call (Value.builtin "list.append") [Value.ref _, _]) _ _ _); refine c_lappend (by with_reducible assumption) (St.at (by with_reducible assumption) (by tm_at "m")) (by tm_at "z") (by with_reducible tm_at "r") ?_; intro s' I'))
  | ((with_reducible show wpC _ _ (loadName _ _) _ _ _); refine w_loc (by with_reducible assumption) (by tm_at "v") ?_)
  | ((with_reducible show wpC _ _ (newList _) _ _ _); refine n_list (by with_reducible assumption) (by simp) ?_; intro a s' I')
  | ((with_reducible show wpC _ _ (newTuple _) _ _ _); refine n_tup (by with_reducible assumption) (by simp) ?_; intro a s' I')
  | ((with_reducible show wpC _ _ (getMethod _ _ _) _ _ _); first
    | ((with_reducible show wpC _ _ (getMethod (Value.ref _) (Str.ofString "append") _) _ _ _); first
      | refine g_baAppend (St.at (by with_reducible assumption) (by tm_at "m")) ?_
      | refine g_lAppend (St.at (by with_reducible assumption) (by tm_at "m")) ?_)
    | ((with_reducible show wpC _ _ (getMethod (Value.ref _) (Str.ofString "extend") _) _ _ _); refine g_baExtend (St.at (by with_reducible assumption) (by tm_at "m")) ?_)
    | ((with_reducible show wpC _ _ (getMethod (Value.ref _) (Str.ofString "reverse") _) _ _ _); refine g_lReverse (St.at (by with_reducible assumption) (by tm_at "m")) ?_)
    | ((with_reducible show wpC _ _ (getMethod (Value.str _ _) (Str.ofString "join") _) _ _ _); refine g_sjoin ?_)
    | ((with_reducible show wpC _ _ (getMethod (Value.str _ _) (Str.ofString "encode") _) _ _ _); refine g_sencode ?_)
    | ((with_reducible show wpC _ _ (getMethod (Value.bytes _ _) _ _) _ _ _); refine g_bjoin ?_))
  | ((with_reducible show wpC _ _ (newFields "slice" [_, _, Value.none]) _ _ _); refine mk_slice (by with_reducible assumption) ?_; intro a s' hS I'))

set_option maxHeartbeats 4000000
section
/-- a value of the database -/
inductive Dv where
  | none | int (i : Int) | str (cs : List Nat) | oct (b : List UInt8)
  deriving DecidableEq
noncomputable def Dv.is : Dv → Value → Prop
  | .none, v => v = .none
  | .int i, v => ∃ t, v = .int i t
  | .str cs, v => ∃ t, v = .str ⟨cs.toArray⟩ t
  | .oct b, v => ∃ t, v = .bytes b.toArray t
noncomputable def Dv.kind : Dv → Str
  | .none => "null"
  | .int _ => "integer"
  | .str _ => "text"
  | .oct _ => "blob"
section
variable {w : World} {O : OsState} {s : Shared} {A : Around} {E : Value → Shared → Prop} {Q : Value → Shared → Prop}
theorem c_enter1 {scope : Scope} {name qual : Str} {params : Arguments} {body : List Stmt} {dV kV doc pm cdv ct oc : Value} {an od : Option Addr} {osl : Array (Option Value)} {f : Addr} {args : List Value} {k : Nat} (rb : List (Str × Value))
    (R : Room A k) (X : Sta w s.heap) (hg : s.gens = #[]) (ho' : s.os = O)
    (ho : (Kf w).lookup f = some ⟨oc, od, .func (fnOf name qual params body scope dV kV doc pm an cdv ct), osl⟩) (hcd : codeIn (Kf w) cdv qual = true)
    (hbind : bindArgs (fnOf name qual params body scope dV kV doc pm an cdv ct) ⟨args, []⟩ = pure rb.reverse) (hloc : ∀ y ∈ rb.reverse, scope.names.lookup y.1 = some .local)
    (h : ∀ L s₁, St w O s.heap L s₁ (fun y => rb.lookup y) [] →
      wpC (Mw w) (A.deeper (envOf qual scope L f cdv)) (execs body (envOf qual scope L f cdv)) (fun fl s' => Q (fv fl) s') (fun _ _ => False) s₁)
    (hco : scope.isCoroutine = false := by rfl) (hgen : scope.isGenerator = false := by rfl) (hfk : scope.kind = .function := by rfl)
    (hcell : ∀ x ∈ scope.names, x.2 ≠ .cell := by decide) : wpC (Mw w) A (call (.ref f) args) Q E s :=
  c_enter0 (g := s.heap) (led := []) rb R X (Sub.refl _) (fun _ h => nomatch h) List.nodup_nil hg ho' ho hcd hbind hloc (fun L s₁ I _ => h L s₁ I) hco hgen hfk hcell

theorem f_in_range {n : Int} {t : Tok} (R : Room A 1) (X : Sta w s.heap) (hg : s.gens = #[]) (ho : s.os = O)
    (h : ∀ s', Gr O s.heap s' → Q (.bool (decide (-9223372036854775808 ≤ n ∧ n ≤ 9223372036854775807))) s') : wpC (Mw w) A (call (.ref 86) [.int n t]) Q E s := by
  refine c_enter1 [("n", .int n t)] R X hg ho (by with_unfolding_all rfl) (by with_unfolding_all rfl) (by with_unfolding_all rfl) (locs (by with_unfolding_all rfl)) ?_
  intro L s₁ I
  repeat tm_at "s"
  refine br (fun h1 => ?_) (fun h1 => ?_)
  · repeat tm_at "s"
    have := h _ I.out
    simpa [fv, of_decide_eq_true h1] using this
  · have := h _ I.out
    have e : ¬ (-9223372036854775808 ≤ n) := of_decide_eq_false h1
    simpa [fv, e] using this
theorem f_class {d : Dv} {v : Value} (hv : d.is v) (R : Room A 1) (X : Sta w s.heap) (hg : s.gens = #[]) (ho : s.os = O)
    (h : ∀ t s', Gr O s.heap s' → Q (.str d.kind t) s') : wpC (Mw w) A (call (.ref 79) [v]) Q E s := by
  refine c_enter1 [("v", v)] R X hg ho (by with_unfolding_all rfl) (by with_unfolding_all rfl) (by with_unfolding_all rfl) (locs (by with_unfolding_all rfl)) ?_
  intro L s₁ I
  cases d with
  | none =>
    obtain rfl := hv
    repeat tm_at "s"
    exact h _ _ (St.out (by with_reducible assumption))
  | int i =>
    obtain ⟨u, rfl⟩ := hv
    repeat tm_at "s"
    exact h _ _ (St.out (by with_reducible assumption))
  | str cs =>
    obtain ⟨u, rfl⟩ := hv
    repeat tm_at "s"
    exact h _ _ (St.out (by with_reducible assumption))
  | oct b =>
    obtain ⟨u, rfl⟩ := hv
    repeat tm_at "s"
    exact h _ _ (St.out (by with_reducible assumption))
end
end
section
theorem bor_nat (a b : Nat) : Builtin.bitOr (a : Int) (b : Int) = ((a ||| b : Nat) : Int) := by
  unfold Builtin.bitOr Builtin.bitAnd Builtin.bitNot
  have h1 : decide (0 ≤ -(a : Int) - 1) = false := by simp; omega
  have h2 : decide (0 ≤ -(b : Int) - 1) = false := by simp; omega
  rw [h1, h2]
  have e1 : (-(-(a : Int) - 1) - 1).toNat = a := by omega
  have e2 : (-(-(b : Int) - 1) - 1).toNat = b := by omega
  simp only [e1, e2]
  omega
theorem bor_add (q k x : Nat) (h : x < 2 ^ k) : Builtin.bitOr ((2 ^ k * q : Nat) : Int) (x : Int) = ((2 ^ k * q + x : Nat) : Int) := by
  rw [bor_nat, Nat.two_pow_add_eq_or_of_lt h]
theorem shr_nat (c k : Nat) : (c : Int).fdiv (2 ^ k) = ((c / 2 ^ k : Nat) : Int) := by
  rw [Int.fdiv_eq_ediv_of_nonneg _ (Int.pow_nonneg (by decide))]
  push_cast; rfl
theorem tail_oct (x : Nat) : Builtin.bitOr 128 (Builtin.bitAnd (x : Int) 63) = ((128 + x % 64 : Nat) : Int) := by
  rw [bitAnd_m6]
  have := bor_add 2 6 (x % 64) (Nat.mod_lt _ (by decide))
  simpa using this
theorem lead2 (c : Nat) (h : c < 2048) : Builtin.bitOr 192 ((c : Int).fdiv (2 ^ 6)) = ((192 + c / 64 : Nat) : Int) := by
  rw [shr_nat]
  exact bor_add 3 6 (c / 2 ^ 6) (by omega)
theorem lead3 (c : Nat) (h : c < 65536) : Builtin.bitOr 224 ((c : Int).fdiv (2 ^ 12)) = ((224 + c / 4096 : Nat) : Int) := by
  rw [shr_nat]
  exact bor_add 14 4 (c / 2 ^ 12) (by omega)
theorem lead4 (c : Nat) (h : c < 2097152) : Builtin.bitOr 240 ((c : Int).fdiv (2 ^ 18)) = ((240 + c / 262144 : Nat) : Int) := by
  rw [shr_nat]
  exact bor_add 30 3 (c / 2 ^ 18) (by omega)
theorem mid6 (c : Nat) : Builtin.bitOr 128 (Builtin.bitAnd ((c : Int).fdiv (2 ^ 6)) 63) = ((128 + c / 64 % 64 : Nat) : Int) := by
  rw [shr_nat]; exact tail_oct _
theorem mid12 (c : Nat) : Builtin.bitOr 128 (Builtin.bitAnd ((c : Int).fdiv (2 ^ 12)) 63) = ((128 + c / 4096 % 64 : Nat) : Int) := by
  rw [shr_nat]; exact tail_oct _
theorem lt2048 (c : Nat) (h : c < 2048) : c / 64 < 32 := by omega
end
section
section
variable {w : World} {O : OsState} {s : Shared} {A : Around} {E : Value → Shared → Prop} {Q : Value → Shared → Prop}
theorem c_appendE {g : Heap} {L a : Addr} {m : Str → Option Value} {led led' : Led} {b : List UInt8} {i : Int} {n : Nat} {t : Tok} (e : i = n) (hn : n < 256) (I : St w O g L s m led) (x : At s.heap a (.ba b)) (hz : b.length < 1000000) (r : Rep a (.ba (b ++ [n.toUInt8])) led led')
    (h : ∀ s', St w O g L s' m led' → Q .none s') : wpC (Mw w) A (call (.builtin "bytearray.append") [.ref a, .int i t]) Q E s := by
  subst e
  exact c_append I x (by omega) (by omega) hz (by rwa [Int.toNat_natCast]) h
theorem nat0 : (0 : Int) = ((0 : Nat) : Int) := rfl
theorem nat1 : (1 : Int) = ((1 : Nat) : Int) := rfl
theorem nat2 : (2 : Int) = ((2 : Nat) : Int) := rfl
theorem nat3 : (3 : Int) = ((3 : Nat) : Int) := rfl
theorem nat4 : (4 : Int) = ((4 : Nat) : Int) := rfl
theorem nat255 : (255 : Int) = ((255 : Nat) : Int) := rfl
theorem oct_lt (c : UInt8) : c.toNat < 256 := UInt8.toNat_lt c
end
end
-- the append
local macro_rules | `(tactic| tm_at "s") => `(tactic| ((with_reducible show wpC _ _ (call (Value.builtin "bytearray.append") [Value.ref _, Value.int _ _]) _ _ _); refine c_appendE (by with_reducible first | exact tail_oct _ | exact mid6 _ | exact mid12 _ | exact lead2 _ (by omega) | exact lead3 _ (by omega) | exact lead4 _ (by omega) | exact (rfl : ((_ : Nat) : Int) = _) | exact nat0 | exact nat1 | exact nat2 | exact nat3 | exact nat4 | exact nat255) (by first | exact oct_lt _ | omega) (by with_reducible assumption) (St.at (by with_reducible assumption) (by tm_at "m")) (by tm_at "z") (by with_reducible tm_at "r") ?_; intro s' I'))

section
section
variable {w : World} {O : OsState} {s : Shared} {A : Around} {E : Value → Shared → Prop} {Q : Value → Shared → Prop}
theorem enc_take {cs : List Nat} {i : Nat} {c : Nat} (e : cs[i]? = some c) : enc (cs.take (i + 1)) = enc (cs.take i) ++ Str.utf8Of c := by
  rw [List.take_add_one, e]; simp [enc]
theorem enc_len {cs : List Nat} {i : Nat} (hz : cs.length < 10000) : (enc (cs.take i)).length < 50000 := by
  have h1 := enc_le (cs.take i)
  have h2 : (cs.take i).length ≤ cs.length := List.length_take_le' ..
  omega
theorem f_utf8 {cs : List Nat} {t : Tok} (hc : ∀ c ∈ cs, c ≤ 1114111) (hz : cs.length < 10000) (R : Room A 1) (X : Sta w s.heap) (hg : s.gens = #[]) (ho : s.os = O)
    (h : ∀ t s', Gr O s.heap s' → Q (.bytes (enc cs).toArray t) s') : wpC (Mw w) A (call (.ref 65) [.str ⟨cs.toArray⟩ t]) Q E s := by
  refine c_enter1 [("text", .str ⟨cs.toArray⟩ t)] R X hg ho (by with_unfolding_all rfl) (by with_unfolding_all rfl) (by with_unfolding_all rfl) (locs (by with_unfolding_all rfl)) ?_
  intro L s₁ I
  repeat tm_at "s"
  rename_i a _ _ _ _
  refine x_ForI (by with_reducible assumption) cs.length (SignAt ⟨cs.toArray⟩) (fun i g' m' led' => m' (Str.ofString "found") = some (.ref a) ∧ led' = [(a, .ba (enc (cs.take i)))]) R.h ?_ ?_ ?_ ?_
  · repeat tm_at "s"
    exact iter_str (by with_reducible assumption) rfl fun it s' y I' => ⟨y, I'⟩
  · intro g' k
    exact ⟨rfl, rfl⟩
  · rintro i g' s' m' led' v it o k hi ⟨c, u, ec, rfl⟩ ⟨hm, rfl⟩ I3
    have ec' : cs[i]? = some c := by simpa using ec
    have hcc : c ≤ 1114111 := hc c (List.mem_of_getElem? ec')
    have hl := enc_len (i := i) hz
    have et := enc_take ec'
    repeat tm_at "s"
    with_reducible refine br (fun h1 => ?_) (fun h1 => ?_)
    · have h1 := of_decide_eq_true h1
      have eu : Str.utf8Of c = [c.toUInt8] := by unfold Str.utf8Of; rw [if_pos (by omega)]
      repeat tm_at "s"
      exact ⟨_, _, _, Sub.refl _, by with_reducible assumption, by tm_at "v", by rw [et, eu]⟩
    repeat tm_at "s"
    have h1 := of_decide_eq_false h1
    with_reducible refine br (fun h2 => ?_) (fun h2 => ?_)
    · have h2 := of_decide_eq_true h2
      have eu : Str.utf8Of c = [(192 + c / 64).toUInt8, (128 + c % 64).toUInt8] := by unfold Str.utf8Of; rw [if_neg (by omega), if_pos (by omega)]
      repeat tm_at "s"
      refine ⟨_, _, _, Sub.refl _, by with_reducible assumption, by tm_at "v", by rw [et, eu]; simp⟩
    repeat tm_at "s"
    have h2 := of_decide_eq_false h2
    with_reducible refine br (fun h3 => ?_) (fun h3 => ?_)
    · have h3 := of_decide_eq_true h3
      have eu : Str.utf8Of c = [(224 + c / 4096).toUInt8, (128 + c / 64 % 64).toUInt8, (128 + c % 64).toUInt8] := by unfold Str.utf8Of; rw [if_neg (by omega), if_neg (by omega), if_pos (by omega)]
      repeat tm_at "s"
      refine ⟨_, _, _, Sub.refl _, by with_reducible assumption, by tm_at "v", by rw [et, eu]; simp⟩
    have h3 := of_decide_eq_false h3
    have eu : Str.utf8Of c = [(240 + c / 262144).toUInt8, (128 + c / 4096 % 64).toUInt8, (128 + c / 64 % 64).toUInt8, (128 + c % 64).toUInt8] := by unfold Str.utf8Of; rw [if_neg (by omega), if_neg (by omega), if_neg (by omega)]
    repeat tm_at "s"
    refine ⟨_, _, _, Sub.refl _, by with_reducible assumption, by tm_at "v", by rw [et, eu]; simp⟩
  · rintro g' s' m' led' k I3 ⟨hm, rfl⟩
    have hl := enc_len (i := cs.length) hz
    rw [List.take_of_length_le (Nat.le_refl _)] at hl I3
    repeat tm_at "s"
    refine c_bytes_ba (by with_reducible assumption) (St.at (by with_reducible assumption) (by tm_at "m")) (by omega) fun t s' I4 => ?_
    exact h _ _ (Gr.trans k I4.out)
end
end
section
/-- octets with an end mark -/
noncomputable def esc (o : UInt8) : List UInt8 := if o = 0 then [0, 255] else [o]
noncomputable def ended (b : List UInt8) : List UInt8 := b.flatMap esc ++ [0, 0]
theorem esc_take {b : List UInt8} {i : Nat} {c : UInt8} (e : b[i]? = some c) : (b.take (i + 1)).flatMap esc = (b.take i).flatMap esc ++ esc c := by
  rw [List.take_add_one, e]; simp
theorem esc_le : ∀ b : List UInt8, (b.flatMap esc).length ≤ 2 * b.length
  | [] => by simp
  | o :: r => by
    have := esc_le r
    simp only [List.flatMap_cons, List.length_append, List.length_cons]
    unfold esc; split <;> simp only [List.length_cons, List.length_nil] <;> unfold esc at this <;> omega
noncomputable def OctAt (b : List UInt8) (i : Nat) (v : Value) : Prop := ∃ c u, b.toArray[i]? = some c ∧ v = .int (c.toNat : Int) u
section
variable {w : World} {O : OsState} {s : Shared} {A : Around} {E : Value → Shared → Prop} {Q : Value → Shared → Prop}
theorem f_put_ended {b : List UInt8} {t : Tok} (hz : b.length < 100000) (R : Room A 1) (X : Sta w s.heap) (hg : s.gens = #[]) (ho : s.os = O)
    (h : ∀ a s', Gr O s.heap s' → At s'.heap a (.ba (ended b)) → s.heap.get? a = none → Q (.ref a) s') : wpC (Mw w) A (call (.ref 107) [.bytes b.toArray t]) Q E s := by
  refine c_enter1 [("octets", .bytes b.toArray t)] R X hg ho (by with_unfolding_all rfl) (by with_unfolding_all rfl) (by with_unfolding_all rfl) (locs (by with_unfolding_all rfl)) ?_
  intro L s₁ I
  repeat tm_at "s"
  rename_i a _ _ _ _
  refine x_ForI (by with_reducible assumption) b.toArray.size (OctAt b) (fun i g' m' led' => m' (Str.ofString "found") = some (.ref a) ∧ led' = [(a, .ba ((b.take i).flatMap esc))]) R.h ?_ ?_ ?_ ?_
  · repeat tm_at "s"
    exact iter_bytes (by with_reducible assumption) rfl fun it s' y I' => ⟨y, I'⟩
  · intro g' k
    exact ⟨rfl, rfl⟩
  · rintro i g' s' m' led' v it o k hi ⟨c, u, ec, rfl⟩ ⟨hm, rfl⟩ I3
    have ec' : b[i]? = some c := by simpa using ec
    have et := esc_take ec'
    have hl := esc_le (b.take i)
    have hl2 := List.length_take_le' i b
    have hc : c.toNat.toUInt8 = c := by simp
    repeat tm_at "s"
    with_reducible refine br (fun h1 => ?_) (fun h1 => ?_)
    · have h1 : c = 0 := by
        have := beq_iff_eq.mp h1
        exact UInt8.toNat_inj.mp (by simpa using this)
      repeat tm_at "s"
      refine ⟨_, _, _, Sub.refl _, by with_reducible assumption, by tm_at "v", ?_⟩
      rw [et, hc, h1]; simp [esc]
    · have h1 : c ≠ 0 := fun q => by
        rw [q] at h1; simp at h1
      repeat tm_at "s"
      refine ⟨_, _, _, Sub.refl _, by with_reducible assumption, by tm_at "v", ?_⟩
      rw [et, hc]; simp [esc, h1]
  · rintro g' s' m' led' k I3 ⟨hm, rfl⟩
    have hl := esc_le (b.take b.toArray.size)
    have hl2 := List.length_take_le' b.toArray.size b
    repeat tm_at "s"
    rename_i I9
    refine h _ _ (Gr.trans k I9.out) ?_ (sub_none k (I9.ld _ List.mem_cons_self).2)
    have := I9.at List.mem_cons_self
    have e : b.take b.toArray.size = b := List.take_of_length_le (by simp)
    rw [e] at this
    unfold ended
    simpa using this
end
end
section
noncomputable def fold1 (c : Nat) : Nat := if 65 ≤ c ∧ c ≤ 90 then c + 32 else c
theorem ofA : Str.ofString "A" = ⟨#[65]⟩ := by decide +kernel
theorem ofZ : Str.ofString "Z" = ⟨#[90]⟩ := by decide +kernel
theorem ofBlank : Str.ofString " " = ⟨#[32]⟩ := by decide +kernel
section
variable {w : World} {O : OsState} {s : Shared} {A : Around} {E : Value → Shared → Prop} {Q : Value → Shared → Prop}
theorem q_leA {b : Nat} {t u : Tok} (h : Q (.bool (decide (65 ≤ b))) s) : wpC (Mw w) A (compareOp .LtE (.str (Str.ofString "A") t) (.str ⟨#[b]⟩ u)) Q E s := by rw [ofA]; exact q_le1 h
theorem q_leZ {b : Nat} {t u : Tok} (h : Q (.bool (decide (b ≤ 90))) s) : wpC (Mw w) A (compareOp .LtE (.str ⟨#[b]⟩ t) (.str (Str.ofString "Z") u)) Q E s := by rw [ofZ]; exact q_le1 h
local macro_rules | `(tactic| tm_at "s") => `(tactic| first
  | ((with_reducible show wpC _ _ (compareOp CmpOp.LtE (Value.str (Str.ofString "A") _) (Value.str _ _)) _ _ _); refine q_leA ?_)
  | ((with_reducible show wpC _ _ (compareOp CmpOp.LtE (Value.str _ _) (Value.str (Str.ofString "Z") _)) _ _ _); refine q_leZ ?_)
  | ((with_reducible show wpC _ _ (call (Value.builtin "chr") [Value.int _ _]) _ _ _); refine c_chr (by with_reducible assumption) (by omega) (by omega) ?_; intro t s' I'))
theorem f_fold {cs : List Nat} {t : Tok} (hz : cs.length < 10000) (R : Room A 1) (X : Sta w s.heap) (hg : s.gens = #[]) (ho : s.os = O)
    (h : ∀ t s', Gr O s.heap s' → Q (.str ⟨(cs.map fold1).toArray⟩ t) s') : wpC (Mw w) A (call (.ref 72) [.str ⟨cs.toArray⟩ t]) Q E s := by
  refine c_enter1 [("text", .str ⟨cs.toArray⟩ t)] R X hg ho (by with_unfolding_all rfl) (by with_unfolding_all rfl) (by with_unfolding_all rfl) (locs (by with_unfolding_all rfl)) ?_
  intro L s₁ I
  repeat tm_at "s"
  rename_i a _ _ _ _
  refine x_ForI (by with_reducible assumption) cs.length (SignAt ⟨cs.toArray⟩) (fun i g' m' led' => m' (Str.ofString "signs") = some (.ref a) ∧ ∃ xs, led' = [(a, .list xs)] ∧ Signs xs ((cs.take i).map fold1)) R.h ?_ ?_ ?_ ?_
  · repeat tm_at "s"
    exact iter_str (by with_reducible assumption) rfl fun it s' y I' => ⟨y, I'⟩
  · intro g' k
    exact ⟨rfl, _, rfl, .nil⟩
  · rintro i g' s' m' led' v it o k hi ⟨c, u, ec, rfl⟩ ⟨hm, xs, rfl, hx⟩ I3
    have ec' : cs[i]? = some c := by simpa using ec
    have hl := hx.length
    rw [List.length_map] at hl
    have hl2 := List.length_take_le' i cs
    have et : (cs.take (i + 1)).map fold1 = (cs.take i).map fold1 ++ [fold1 c] := by rw [List.take_add_one, ec']; simp
    repeat tm_at "s"
    with_reducible refine br (fun h1 => ?_) (fun h1 => ?_)
    · have h1 := of_decide_eq_true h1
      repeat tm_at "s"
      with_reducible refine br (fun h2 => ?_) (fun h2 => ?_)
      · have h2 := of_decide_eq_true h2
        repeat tm_at "s"
        dsimp only
        refine ⟨_, _, _, Sub.refl _, by with_reducible assumption, by tm_at "v", _, rfl, ?_⟩
        rw [et]
        have : fold1 c = ((c : Int) + 32).toNat := by unfold fold1; rw [if_pos ⟨h1, h2⟩]; omega
        rw [this]; exact hx.snoc
      · have h2 := of_decide_eq_false h2
        repeat tm_at "s"
        dsimp only
        refine ⟨_, _, _, Sub.refl _, by with_reducible assumption, by tm_at "v", _, rfl, ?_⟩
        rw [et]
        have : fold1 c = c := by unfold fold1; rw [if_neg (by omega)]
        rw [this]; exact hx.snoc
    · have h1 := of_decide_eq_false h1
      repeat tm_at "s"
      dsimp only
      refine ⟨_, _, _, Sub.refl _, by with_reducible assumption, by tm_at "v", _, rfl, ?_⟩
      rw [et]
      have : fold1 c = c := by unfold fold1; rw [if_neg (by omega)]
      rw [this]; exact hx.snoc
  · rintro g' s' m' led' k I3 ⟨hm, xs, rfl, hx⟩
    rw [List.take_of_length_le (Nat.le_refl _)] at hx
    repeat tm_at "s"
    refine c_sjoin (by with_reducible assumption) (St.at (by with_reducible assumption) (by tm_at "m")).isList hx (by simpa using by omega) fun t s' I4 => ?_
    exact h _ _ (Gr.trans k I4.out)
end
end
section
inductive Col where
  | binary | nocase | rtrim
  deriving DecidableEq
noncomputable def Col.name : Col → Str
  | .binary => "binary"
  | .nocase => "nocase"
  | .rtrim => "rtrim"
/-- the blanks at the end gone -/
noncomputable def trimR (cs : List Nat) : List Nat := (cs.reverse.dropWhile (· == 32)).reverse
noncomputable def Col.of : Col → List Nat → List Nat
  | .binary, cs => cs
  | .nocase, cs => cs.map fold1
  | .rtrim, cs => trimR cs
theorem trimR_snoc (cs : List Nat) (c : Nat) : trimR (cs ++ [c]) = if c = 32 then trimR cs else cs ++ [c] := by
  unfold trimR
  rw [List.reverse_append, List.reverse_singleton, List.singleton_append, List.dropWhile_cons]
  by_cases h : c = 32
  · rw [if_pos h, if_pos (by simpa using h)]
  · rw [if_neg h, if_neg (by simpa using h)]; simp
theorem trimR_len (cs : List Nat) : (trimR cs).length ≤ cs.length := by
  unfold trimR
  rw [List.length_reverse]
  have := (List.dropWhile_sublist (fun x => x == 32) (l := cs.reverse)).length_le
  simpa using this
theorem bl_eq (c : Nat) : ((⟨#[c]⟩ : Str).cps.toList == (Str.ofString " ").cps.toList) = decide (c = 32) := by
  rw [ofBlank]
  by_cases h : c = 32
  · subst h; rfl
  · rw [decide_eq_false h]; simp [h]
theorem trimR_down {cs : List Nat} {e c : Nat} (he : 0 < e) (ec : cs[e - 1]? = some c) : trimR (cs.take e) = if c = 32 then trimR (cs.take (e - 1)) else cs.take e := by
  have e1 : cs.take e = cs.take (e - 1) ++ [c] := by
    have : e = e - 1 + 1 := by omega
    conv => lhs; rw [this]
    rw [List.take_add_one, ec]; simp
  rw [e1, trimR_snoc]
section
variable {w : World} {O : OsState} {s : Shared} {A : Around} {E : Value → Shared → Prop} {Q : Value → Shared → Prop}
theorem f_collate {c : Col} {cs : List Nat} {t₀ u : Tok} (hz : cs.length < 10000) (R : Room A 2) (X : Sta w s.heap) (hg : s.gens = #[]) (ho : s.os = O)
    (h : ∀ t s', Gr O s.heap s' → Q (.str ⟨(c.of cs).toArray⟩ t) s') : wpC (Mw w) A (call (.ref 93) [.str ⟨cs.toArray⟩ t₀, .str c.name u]) Q E s := by
  refine c_enter1 [("collation", .str c.name u), ("text", .str ⟨cs.toArray⟩ t₀)] R X hg ho (by with_unfolding_all rfl) (by with_unfolding_all rfl) (by with_unfolding_all rfl) (locs (by with_unfolding_all rfl)) ?_
  intro L s₁ I
  cases c with
  | binary =>
    repeat tm_at "s"
    refine br_t (by decide +kernel) ?_
    repeat tm_at "s"
    exact h _ _ (St.out (by with_reducible assumption))
  | nocase =>
    repeat tm_at "s"
    refine br_f (by decide +kernel) ?_
    repeat tm_at "s"
    refine br_t (by decide +kernel) ?_
    repeat tm_at "s"
    rename_i I1
    refine f_fold hz (R.deeper _) I1.stah I1.gens I1.os fun t s' G => ?_
    exact h _ _ (I1.gr G).out
  | rtrim =>
    repeat tm_at "s"
    refine br_f (by decide +kernel) ?_
    repeat tm_at "s"
    refine br_f (by decide +kernel) ?_
    repeat tm_at "s"
    refine br_t (by decide +kernel) ?_
    repeat tm_at "s"
    refine c_lens (by with_reducible assumption) (by show cs.toArray.size < 1000000; rw [List.size_toArray]; omega) fun t s' I' => ?_
    have el : (⟨cs.toArray⟩ : Str).length = cs.length := rfl
    rw [el]
    repeat tm_at "s"
    refine x_WhileX (by with_reducible assumption) (fun k g' m' led' => ∃ e ei t', ei = ((e : Nat) : Int) ∧ m' (Str.ofString "end") = some (.int ei t') ∧ m' (Str.ofString "text") = some (.str ⟨cs.toArray⟩ t₀) ∧ led' = [] ∧ e ≤ cs.length ∧ trimR (cs.take e) = trimR cs ∧ k = e)
      (fun g' m' led' => ∃ e ei t', ei = ((e : Nat) : Int) ∧ m' (Str.ofString "end") = some (.int ei t') ∧ m' (Str.ofString "text") = some (.str ⟨cs.toArray⟩ t₀) ∧ led' = [] ∧ e ≤ cs.length ∧ trimR cs = cs.take e) cs.length
      ⟨cs.length, _, _, rfl, by tm_at "v", by tm_at "v", rfl, Nat.le_refl _, by rw [List.take_of_length_le (Nat.le_refl _)], rfl⟩ ?_ ?_
    · rintro k g' s' m' led' kg ⟨e, _, t', rfl, he, ht, rfl, hle, htr, rfl⟩ I3
      repeat tm_at "s"
      with_reducible refine br (fun h1 => ?_) (fun h1 => ?_)
      · have h1 := of_decide_eq_true h1
        have ec : cs[k - 1]? = some cs[k - 1] := List.getElem?_eq_getElem (by omega)
        have hd := trimR_down (by omega) ec
        repeat tm_at "s"
        refine sub_str (by with_reducible assumption) (c := cs[k - 1]) (by omega) (by omega) (by rw [show ((k : Int) - 1).toNat = k - 1 by omega]; simpa using ec) fun u s' I' => ?_
        repeat tm_at "s"
        with_reducible refine br (fun h2 => ?_) (fun h2 => ?_)
        · rw [bl_eq] at h2
          rw [if_pos (of_decide_eq_true h2)] at hd
          repeat tm_at "s"
          refine ⟨k - 1, _, _, _, by omega, Sub.refl _, by with_reducible assumption, k - 1, _, _, ?_, by tm_at "v", by tm_at "v", rfl, by omega, by rw [← hd, htr], rfl⟩
          omega
        · rw [bl_eq] at h2
          rw [if_neg (of_decide_eq_false h2)] at hd
          repeat tm_at "s"
          exact ⟨_, _, _, Sub.refl _, by with_reducible assumption, k, _, _, rfl, he, ht, rfl, hle, by rw [← htr, hd]⟩
      · have h1 := of_decide_eq_false h1
        have hk : k = 0 := by omega
        subst hk
        repeat tm_at "s"
        exact ⟨_, _, _, Sub.refl _, by with_reducible assumption, 0, _, _, rfl, he, ht, rfl, hle, by rw [← htr]; rfl⟩
    · rintro g' s' m' led' kg I3 ⟨e, _, t', rfl, he, ht, rfl, hle, htr⟩
      repeat tm_at "s"
      refine sub_sslice (lv := none) (uv := some ((e : Int), t')) (by with_reducible assumption) (by assumption) (by show cs.toArray.size < 1000000; rw [List.size_toArray]; omega) fun u s' I' => ?_
      have hs := slice_to (x := ⟨cs.toArray⟩) (n := e) hle
      have := h u s' (Gr.trans kg I'.out)
      rw [show Col.rtrim.of cs = cs.take e from htr] at this
      rw [← hs] at this
      exact this
end
end
section
/-- the octets of a whole number, the least first -/
noncomputable def les (n k : Nat) : List Int := (List.range k).map fun j => ((n / 256 ^ j % 256 : Nat) : Int)
noncomputable def be8 (n : Nat) : List UInt8 := (les n 8).reverse.map fun i => i.toNat.toUInt8
theorem les_succ (n k : Nat) : les n (k + 1) = les n k ++ [((n / 256 ^ k % 256 : Nat) : Int)] := by
  unfold les; rw [List.range_succ]; simp
theorem les_len (n k : Nat) : (les n k).length = k := by unfold les; simp
theorem les_mem {n k : Nat} {i : Int} (h : i ∈ les n k) : 0 ≤ i ∧ i < 256 := by
  unfold les at h
  obtain ⟨j, _, rfl⟩ := List.mem_map.mp h
  have := Nat.mod_lt (n / 256 ^ j) (by decide : 0 < 256)
  omega
theorem Ints.are {vs : List Value} {bs : List Int} (h : Ints vs bs) : IntsAre vs bs := by
  induction h with
  | nil => exact .nil
  | cons _ ih => exact .cons _ _ ih
theorem Ints.rev {vs : List Value} {bs : List Int} (h : Ints vs bs) : Ints vs.reverse bs.reverse := by
  induction h with
  | nil => exact .nil
  | cons _ ih => rw [List.reverse_cons, List.reverse_cons]; exact ih.snoc
section
variable {w : World} {O : OsState} {s : Shared} {A : Around} {E : Value → Shared → Prop} {Q : Value → Shared → Prop}
theorem f_put_fixed {n : Nat} {t u : Tok} (hn : n < 18446744073709551616) (R : Room A 1) (X : Sta w s.heap) (hg : s.gens = #[]) (ho : s.os = O)
    (h : ∀ t s', Gr O s.heap s' → Q (.bytes (be8 n).toArray t) s') : wpC (Mw w) A (call (.ref 100) [.int (n : Int) t, .int 8 u]) Q E s := by
  refine c_enter1 [("size", .int 8 u), ("n", .int (n : Int) t)] R X hg ho (by with_unfolding_all rfl) (by with_unfolding_all rfl) (by with_unfolding_all rfl) (locs (by with_unfolding_all rfl)) ?_
  intro L s₁ I
  repeat tm_at "s"
  refine o_pow (by with_reducible assumption) (by decide) (by decide) (by decide) fun t s' I' => ?_
  refine o_mod (by with_reducible assumption) (by decide) fun t s' I' => ?_
  have e : (n : Int).fmod (256 ^ Int.toNat 8) = ((n / 256 ^ 0 : Nat) : Int) := by
    rw [Int.fmod_eq_emod_of_nonneg _ (by decide)]
    have : (256 : Int) ^ Int.toNat 8 = 18446744073709551616 := by decide
    rw [this]; omega
  rw [e]
  repeat tm_at "s"
  rename_i a _ _ _ _
  refine x_ForI (by with_reducible assumption) 8 (fun i v => ∃ t, v = .int (i : Int) t) (fun i g' m' led' => m' (Str.ofString "found") = some (.ref a) ∧ (∃ ri t, ri = ((n / 256 ^ i : Nat) : Int) ∧ m' (Str.ofString "rest") = some (.int ri t)) ∧ ∃ xs, led' = [(a, .list xs)] ∧ Ints xs (les n i)) R.h ?_ ?_ ?_ ?_
  · repeat tm_at "s"
    refine call_range (by with_reducible assumption) rfl fun r _ _ s' hr I' => ?_
    exact iter_range (n := 8) (by with_reducible assumption) rfl hr (by decide) fun it s' y I' => ⟨y, I'⟩
  · intro g' k
    exact ⟨by tm_at "v", ⟨_, _, rfl, by tm_at "v"⟩, _, rfl, .nil⟩
  · rintro i g' s' m' led' v it o k hi ⟨t, rfl⟩ ⟨hm, ⟨_, t', rfl, hr⟩, xs, rfl, hx⟩ I3
    have hl := hx.length
    rw [les_len] at hl
    repeat tm_at "s"
    have ea : Builtin.bitAnd ((n / 256 ^ i : Nat) : Int) 255 = ((n / 256 ^ i % 256 : Nat) : Int) := by rw [bitAnd_m8]; omega
    have es : (((n / 256 ^ i : Nat) : Int)).fdiv (2 ^ 8) = ((n / 256 ^ (i + 1) : Nat) : Int) := by
      rw [shr_nat, Nat.div_div_eq_div_mul, Nat.pow_succ]; rfl
    refine ⟨_, _, _, Sub.refl _, by with_reducible assumption, by tm_at "v", ⟨_, _, es, by tm_at "v"⟩, _, rfl, ?_⟩
    rw [les_succ, ea]; exact hx.snoc
  · rintro g' s' m' led' k I3 ⟨hm, _, xs, rfl, hx⟩
    have hl := hx.length
    rw [les_len] at hl
    repeat tm_at "s"
    refine c_lreverse (by with_reducible assumption) (St.at (by with_reducible assumption) (by tm_at "m")) (by omega) (by tm_at "r") fun s' I' => ?_
    repeat tm_at "s"
    refine c_bytes_ints (ns := (les n 8).reverse) R.h (by with_reducible assumption) (St.at (by with_reducible assumption) (by tm_at "m")).isList hx.rev.are (fun i hi => les_mem (List.mem_reverse.mp hi)) (by rw [List.length_reverse]; omega) fun t s' I4 => ?_
    exact h _ _ (Gr.trans k I4.out)
end
end
section
noncomputable def part (c : Col) : Dv → List UInt8
  | .none => [1]
  | .int i => 2 :: be8 (i + 9223372036854775808).toNat
  | .str cs => 3 :: ended (enc (c.of cs))
  | .oct b => 4 :: ended b
/-- of the sizes that the law builds -/
noncomputable def Dv.ok : Dv → Prop
  | .none => True
  | .int i => -9223372036854775808 ≤ i ∧ i ≤ 9223372036854775807
  | .str cs => (∀ c ∈ cs, c ≤ 1114111) ∧ cs.length < 1000
  | .oct b => b.length < 1000
theorem Col.of_len (c : Col) (cs : List Nat) : (c.of cs).length ≤ cs.length := by
  cases c with
  | binary => exact Nat.le_refl _
  | nocase => exact Nat.le_of_eq (List.length_map ..)
  | rtrim => exact trimR_len cs
theorem Col.of_le (c : Col) {cs : List Nat} (h : ∀ x ∈ cs, x ≤ 1114111) : ∀ x ∈ c.of cs, x ≤ 1114111 := by
  cases c with
  | binary => exact h
  | nocase =>
    intro x hx
    obtain ⟨y, hy, rfl⟩ := List.mem_map.mp hx
    have := h y hy
    unfold fold1; split <;> omega
  | rtrim =>
    intro x hx
    unfold Col.of trimR at hx
    exact h x (List.mem_reverse.mp ((List.dropWhile_sublist _).mem (List.mem_reverse.mp hx)))
theorem be8_len (n : Nat) : (be8 n).length = 8 := by unfold be8; simp [les_len]
theorem ended_len (b : List UInt8) : (ended b).length ≤ 2 * b.length + 2 := by
  have := esc_le b
  unfold ended; rw [List.length_append]; simp only [List.length_cons, List.length_nil]; omega
section
variable {w : World} {O : OsState} {s : Shared} {A : Around} {E : Value → Shared → Prop} {Q : Value → Shared → Prop}
variable {g : Heap} {L : Addr} {m : Str → Option Value} {led : Led}
theorem k_class {d : Dv} {v : Value} {k : Nat} (hv : d.is v) (R : Room A (k + 1)) (I : St w O g L s m led) (h : ∀ t s', St w O g L s' m led → Q (.str d.kind t) s') : wpC (Mw w) A (call (.ref 79) [v]) Q E s :=
  f_class hv (R.less (by omega)) I.stah I.gens I.os fun t s' G => h t s' (I.gr G)
theorem k_in_range {n : Int} {t : Tok} {k : Nat} (R : Room A (k + 1)) (I : St w O g L s m led) (h : ∀ s', St w O g L s' m led → Q (.bool (decide (-9223372036854775808 ≤ n ∧ n ≤ 9223372036854775807))) s') : wpC (Mw w) A (call (.ref 86) [.int n t]) Q E s :=
  f_in_range (R.less (by omega)) I.stah I.gens I.os fun s' G => h s' (I.gr G)
theorem k_utf8 {cs : List Nat} {t : Tok} {k : Nat} (hc : ∀ c ∈ cs, c ≤ 1114111) (hz : cs.length < 10000) (R : Room A (k + 1)) (I : St w O g L s m led) (h : ∀ t s', St w O g L s' m led → Q (.bytes (enc cs).toArray t) s') : wpC (Mw w) A (call (.ref 65) [.str ⟨cs.toArray⟩ t]) Q E s :=
  f_utf8 hc hz (R.less (by omega)) I.stah I.gens I.os fun t s' G => h t s' (I.gr G)
theorem k_collate {c : Col} {cs : List Nat} {t u : Tok} {k : Nat} (hz : cs.length < 10000) (R : Room A (k + 2)) (I : St w O g L s m led) (h : ∀ t s', St w O g L s' m led → Q (.str ⟨(c.of cs).toArray⟩ t) s') : wpC (Mw w) A (call (.ref 93) [.str ⟨cs.toArray⟩ t, .str c.name u]) Q E s :=
  f_collate hz (R.less (by omega)) I.stah I.gens I.os fun t s' G => h t s' (I.gr G)
theorem k_put_fixed {n : Nat} {t u : Tok} {k : Nat} (hn : n < 18446744073709551616) (R : Room A (k + 1)) (I : St w O g L s m led) (h : ∀ t s', St w O g L s' m led → Q (.bytes (be8 n).toArray t) s') : wpC (Mw w) A (call (.ref 100) [.int (n : Int) t, .int 8 u]) Q E s :=
  f_put_fixed hn (R.less (by omega)) I.stah I.gens I.os fun t s' G => h t s' (I.gr G)
theorem k_put_ended {b : List UInt8} {t : Tok} {k : Nat} (hz : b.length < 100000) (R : Room A (k + 1)) (I : St w O g L s m led) (h : ∀ a s', St w O g L s' m ((a, .ba (ended b)) :: led) → Q (.ref a) s') : wpC (Mw w) A (call (.ref 107) [.bytes b.toArray t]) Q E s :=
  f_put_ended hz (R.less (by omega)) I.stah I.gens I.os fun a s' G x n => h a s' (I.take G x n)
theorem f_sort_part {d : Dv} {v : Value} {c : Col} {u : Tok} (hv : d.is v) (hd : d.ok) (R : Room A 4) (X : Sta w s.heap) (hg : s.gens = #[]) (ho : s.os = O)
    (h : ∀ a s', Gr O s.heap s' → At s'.heap a (.ba (part c d)) → s.heap.get? a = none → Q (.ref a) s') : wpC (Mw w) A (call (.ref 114) [v, .str c.name u]) Q E s := by
  refine c_enter1 [("collation", .str c.name u), ("v", v)] R X hg ho (by with_unfolding_all rfl) (by with_unfolding_all rfl) (by with_unfolding_all rfl) (locs (by with_unfolding_all rfl)) ?_
  intro L s₁ I
  repeat tm_at "s"
  refine k_class hv (R.deeper _) (by with_reducible assumption) fun t s' I' => ?_
  repeat tm_at "s"
  cases d with
  | none =>
    obtain rfl := hv
    refine br_t (by decide +kernel) ?_
    repeat tm_at "s"
    rename_i I9
    exact h _ _ I9.out (I9.at List.mem_cons_self) (I9.ld _ List.mem_cons_self).2
  | int i =>
    obtain ⟨ti, rfl⟩ := hv
    refine br_f (by exact (by decide +kernel : ((Str.ofString "integer").cps.toList == (Str.ofString "null").cps.toList) = false)) ?_
    repeat tm_at "s"
    refine br_t (by exact (by decide +kernel : ((Str.ofString "integer").cps.toList == (Str.ofString "integer").cps.toList) = true)) ?_
    repeat tm_at "s"
    refine k_in_range (R.deeper _) (by with_reducible assumption) fun s' I' => ?_
    rw [decide_eq_true (show -9223372036854775808 ≤ i ∧ i ≤ 9223372036854775807 from hd)]
    repeat tm_at "s"
    obtain ⟨hd1, hd2⟩ := hd
    have e : i + Int.fdiv 18446744073709551616 2 = (((i + 9223372036854775808).toNat : Nat) : Int) := by
      have : Int.fdiv 18446744073709551616 2 = 9223372036854775808 := by decide
      rw [this]; omega
    rw [e]
    refine k_put_fixed (by omega) (R.deeper _) (by with_reducible assumption) fun t s' I' => ?_
    repeat tm_at "s"
    have hb := be8_len (i + 9223372036854775808).toNat
    refine c_extendB (by with_reducible assumption) (St.at (by with_reducible assumption) (by tm_at "m")) (by tm_at "z") (by tm_at "r") fun s' I' => ?_
    repeat tm_at "s"
    exact h _ _ I'.out (I'.at List.mem_cons_self) (I'.ld _ List.mem_cons_self).2
  | str cs =>
    obtain ⟨ti, rfl⟩ := hv
    obtain ⟨hd1, hd2⟩ := hd
    refine br_f (by exact (by decide +kernel : ((Str.ofString "text").cps.toList == (Str.ofString "null").cps.toList) = false)) ?_
    repeat tm_at "s"
    refine br_f (by exact (by decide +kernel : ((Str.ofString "text").cps.toList == (Str.ofString "integer").cps.toList) = false)) ?_
    repeat tm_at "s"
    refine br_t (by exact (by decide +kernel : ((Str.ofString "text").cps.toList == (Str.ofString "text").cps.toList) = true)) ?_
    repeat tm_at "s"
    have hl := c.of_len cs
    have he := enc_le (c.of cs)
    have hn := ended_len (enc (c.of cs))
    refine k_collate (by omega) (R.deeper _) (by with_reducible assumption) fun t s' I' => ?_
    repeat tm_at "s"
    refine k_utf8 (c.of_le hd1) (by omega) (R.deeper _) (by with_reducible assumption) fun t s' I' => ?_
    repeat tm_at "s"
    refine k_put_ended (by omega) (R.deeper _) (by with_reducible assumption) fun a s' I' => ?_
    repeat tm_at "s"
    refine c_extend (by with_reducible assumption) (St.at (by with_reducible assumption) (by tm_at "m")) (St.at (by with_reducible assumption) (by tm_at "m")) (by tm_at "z") (by tm_at "r") fun s' I' => ?_
    repeat tm_at "s"
    exact h _ _ I'.out (I'.at (List.mem_cons_of_mem _ List.mem_cons_self)) (I'.ld _ (List.mem_cons_of_mem _ List.mem_cons_self)).2
  | oct b =>
    obtain ⟨ti, rfl⟩ := hv
    have hn := ended_len b
    have hd : b.length < 1000 := hd
    refine br_f (by exact (by decide +kernel : ((Str.ofString "blob").cps.toList == (Str.ofString "null").cps.toList) = false)) ?_
    repeat tm_at "s"
    refine br_f (by exact (by decide +kernel : ((Str.ofString "blob").cps.toList == (Str.ofString "integer").cps.toList) = false)) ?_
    repeat tm_at "s"
    refine br_f (by exact (by decide +kernel : ((Str.ofString "blob").cps.toList == (Str.ofString "text").cps.toList) = false)) ?_
    repeat tm_at "s"
    refine k_put_ended (by omega) (R.deeper _) (by with_reducible assumption) fun a s' I' => ?_
    repeat tm_at "s"
    refine c_extend (by with_reducible assumption) (St.at (by with_reducible assumption) (by tm_at "m")) (St.at (by with_reducible assumption) (by tm_at "m")) (by tm_at "z") (by tm_at "r") fun s' I' => ?_
    repeat tm_at "s"
    exact h _ _ I'.out (I'.at (List.mem_cons_of_mem _ List.mem_cons_self)) (I'.ld _ (List.mem_cons_of_mem _ List.mem_cons_self)).2
end
end
section
/-- the law's source: two whole numbers -/
noncomputable def Src2 (xs : List Value) : Prop := ∃ a b t u, xs = [.int a t, .int b u] ∧ 0 ≤ b ∧ b < 2147483647
local macro_rules | `(tactic| tm_at "s") => `(tactic| ((with_reducible show wpC _ _ (getitemInPython (Value.ref _)) _ _ _); refine sub_list (St.at (by with_reducible assumption) (by tm_at "m")).isLst (by decide) (by decide) (by rfl) (by with_unfolding_all rfl) ?_))
theorem fmod_range {a b : Int} (h : 0 < b) : 0 ≤ a.fmod b ∧ a.fmod b < b := ⟨Int.fmod_nonneg_of_pos _ h, Int.fmod_lt_of_pos _ h⟩
theorem mul_ok {a b : Int} (ha : -18446744073709551616 < a) (ha' : a < 18446744073709551616) : IntMulOk a b := .of_left (intBits_le_iff.mpr (by omega))
theorem mul_ok' {a b : Int} (ha : -18446744073709551616 < b) (ha' : b < 18446744073709551616) : IntMulOk a b := .of_right (intBits_le_iff.mpr (by omega))
section
variable {w : World} {O : OsState} {s : Shared} {A : Around} {E : Value → Shared → Prop} {Q : Value → Shared → Prop}
theorem f_take {src : Addr} {xs : List Value} {top : Int} {t : Tok} (hx : Src2 xs) (hs : At s.heap src (.lst xs)) (h0 : 0 < top) (h1 : top < 1000) (R : Room A 1) (X : Sta w (s.heap.hide src)) (hg : s.gens = #[]) (ho : s.os = O)
    (h : ∀ r t s' xs', 0 ≤ r → r < top → Src2 xs' → At s'.heap src (.lst xs') → (∀ b o, s.heap.get? b = some o → b ≠ src → s'.heap.get? b = some o) → s'.gens = #[] → s'.os = O → Q (.int r t) s') : wpC (Mw w) A (call (.ref 128) [.ref src, .int top t]) Q E s := by
  refine c_enter0 [("top", .int top t), ("source", .ref src)] (g := s.heap.hide src) (led := [(src, .lst xs)]) R X (fun b o e => Heap.of_hide e) (fun p hp => by
    rw [List.mem_singleton.mp hp]; exact ⟨hs, Heap.hide_self _ _⟩) (by simp) hg ho (by with_unfolding_all rfl) (by with_unfolding_all rfl) (by with_unfolding_all rfl) (locs (by with_unfolding_all rfl)) ?_
  intro L s₁ I _
  obtain ⟨a, b, ta, tb, rfl, hb0, hb1⟩ := hx
  have out : ∀ r t s' xs' g' m', Sub (s.heap.hide src) g' → St w O g' L s' m' [(src, .lst xs')] → 0 ≤ r → r < top → Src2 xs' → Q (.int r t) s' := fun r t s' xs' g' m' k I' hr0 hr1 hx' =>
    h r t s' xs' hr0 hr1 hx' (I'.at List.mem_cons_self) (fun b o e n => I'.keep _ _ (k _ _ ((Heap.hide_ne _ n).trans e))) I'.gens I'.os
  repeat tm_at "s"
  with_reducible refine br (fun h1 => ?_) (fun h1 => ?_)
  · repeat tm_at "s"
    have hr := fmod_range (a := a) h0
    refine c_lset (k := 0) (by with_reducible assumption) (St.at (by with_reducible assumption) (by tm_at "m")).isLst (by simp) (by simp) (by tm_at "r") fun s' I' => ?_
    repeat tm_at "s"
    exact out _ _ _ _ _ _ (Sub.refl _) I' hr.1 hr.2 ⟨_, _, _, _, rfl, hb0, hb1⟩
  · repeat tm_at "s"
    refine o_mul (by with_reducible assumption) (mul_ok' (by decide) (by decide)) fun t s' I' => ?_
    repeat tm_at "s"
    have hr := fmod_range (a := b * 39373 + 7) (b := 2147483647) (by decide)
    refine c_lset (k := 1) (by with_reducible assumption) (St.at (by with_reducible assumption) (by tm_at "m")).isLst (by simp) (by simp) (by tm_at "r") fun s' I' => ?_
    repeat tm_at "s"
    refine o_mul (by with_reducible assumption) (mul_ok (by omega) (by omega)) fun t s' I' => ?_
    repeat tm_at "s"
    rename_i I9
    exact out _ _ _ _ _ _ (Sub.refl _) I9 (fmod_range h0).1 (fmod_range h0).2 ⟨_, _, _, _, rfl, hr.1, hr.2⟩
variable {g : Heap} {L : Addr} {m : Str → Option Value} {led : Led}
theorem k_take {src : Addr} {xs : List Value} {top : Int} {t : Tok} {k : Nat} (led' : List Value → Led) (I : St w O g L s m led) (x : (src, .lst xs) ∈ led) (hrep : ∀ xs', Rep src (.lst xs') led (led' xs')) (hx : Src2 xs) (h0 : 0 < top) (h1 : top < 1000) (R : Room A (k + 1))
    (h : ∀ r t s' xs', 0 ≤ r → r < top → Src2 xs' → St w O g L s' m (led' xs') → Q (.int r t) s') : wpC (Mw w) A (call (.ref 128) [.ref src, .int top t]) Q E s :=
  f_take hx (I.at x) h0 h1 (R.less (by omega)) (I.sta.sub fun b o e => (Heap.hide_ne _ fun q => by
      have := (I.ld _ x).2
      rw [q] at e; rw [show g.get? src = none from this] at e; cases e).trans (I.keep _ _ e)) I.gens I.os
    fun r t s' xs' hr0 hr1 hx' hs' k hg ho => h r t s' xs' hr0 hr1 hx' (I.rep (hrep xs') k hs' hg ho)
end
end
section
section
variable {w : World} {O : OsState} {s : Shared} {A : Around} {E : Value → Shared → Prop} {Q : Value → Shared → Prop}
theorem f_one {src th : Addr} {xs ts : List Value} (hx : Src2 xs) (hs : At s.heap src (.lst xs)) (ht : At s.heap th (.list ts)) (hne : th ≠ src) (h0 : 0 < ts.length) (h1 : ts.length < 1000) (R : Room A 2) (X : Sta w (s.heap.hide src)) (hg : s.gens = #[]) (ho : s.os = O)
    (h : ∀ v s' xs', v ∈ ts → Src2 xs' → At s'.heap src (.lst xs') → (∀ b o, s.heap.get? b = some o → b ≠ src → s'.heap.get? b = some o) → s'.gens = #[] → s'.os = O → Q v s') : wpC (Mw w) A (call (.ref 135) [.ref src, .ref th]) Q E s := by
  refine c_enter0 [("things", .ref th), ("source", .ref src)] (g := s.heap.hide src) (led := [(src, .lst xs)]) R X (fun b o e => Heap.of_hide e) (fun p hp => by
    rw [List.mem_singleton.mp hp]; exact ⟨hs, Heap.hide_self _ _⟩) (by simp) hg ho (by with_unfolding_all rfl) (by with_unfolding_all rfl) (by with_unfolding_all rfl) (locs (by with_unfolding_all rfl)) ?_
  intro L s₁ I _
  have htg : At (s.heap.hide src) th (.list ts) := let ⟨o, e, i⟩ := ht; ⟨o, (Heap.hide_ne _ hne).trans e, i⟩
  repeat tm_at "s"
  refine c_lenl (by with_reducible assumption) (htg.sub (St.keep (by with_reducible assumption))) (by omega) fun t s' I' => ?_
  repeat tm_at "s"
  refine k_take (fun xs' => [(src, .lst xs')]) (by with_reducible assumption) (by tm_at "m") (fun _ => by tm_at "r") hx (by omega) (by omega) (R.deeper _) fun r t s' xs' hr0 hr1 hx' I' => ?_
  repeat tm_at "s"
  have hi : r.toNat < ts.length := by omega
  refine sub_list (x := ts[r.toNat]) (htg.sub I'.keep).isList hr0 (by omega) (List.getElem?_eq_getElem hi) (by with_unfolding_all rfl) ?_
  exact h _ _ _ (List.getElem_mem hi) hx' (I'.at List.mem_cons_self) (fun b o e n => I'.keep _ _ ((Heap.hide_ne _ n).trans e)) I'.gens I'.os
variable {g : Heap} {L : Addr} {m : Str → Option Value} {led : Led}
theorem St.hid {src : Addr} {c : Cell} (I : St w O g L s m led) (x : (src, c) ∈ led) : Sta w (s.heap.hide src) := I.sta.sub fun b o e => (Heap.hide_ne _ fun q => by
      have := (I.ld _ x).2
      rw [q] at e; rw [show g.get? src = none from this] at e; cases e).trans (I.keep _ _ e)
theorem k_one {src th : Addr} {xs ts : List Value} {k : Nat} (led' : List Value → Led) (I : St w O g L s m led) (x : (src, .lst xs) ∈ led) (hrep : ∀ xs', Rep src (.lst xs') led (led' xs')) (hx : Src2 xs) (ht : At s.heap th (.list ts)) (hne : th ≠ src) (h0 : 0 < ts.length) (h1 : ts.length < 1000) (R : Room A (k + 2))
    (h : ∀ v s' xs', v ∈ ts → Src2 xs' → St w O g L s' m (led' xs') → Q v s') : wpC (Mw w) A (call (.ref 135) [.ref src, .ref th]) Q E s :=
  f_one hx (I.at x) ht hne h0 h1 (R.less (by omega)) (I.hid x) I.gens I.os
    fun v s' xs' hv hx' hs' k hg ho => h v s' xs' hv hx' (I.rep (hrep xs') k hs' hg ho)
end
end
section
section
variable {w : World} {O : OsState} {s : Shared} {A : Around} {E : Value → Shared → Prop} {Q : Value → Shared → Prop} {g : Heap} {L : Addr} {m : Str → Option Value} {led : Led}
theorem cell_sub {h h' : Heap} {c : Addr} {v : Option Value} (x : h.IsCell c v) (k : Sub h h') : h'.IsCell c v := x.keeps k
theorem v_cellE {M : Model} {env : Env} {x : Str} {pos : Pos} {c : Addr} {v : Value} (hc : env.cells.lookup x = some c) (I : St w O g L s m led) (hv : g.IsCell c (some v)) (h : Q v s)
    (hk : env.scope.kind = .function := by rfl) (hl : env.kindOf x = some .cell := by with_unfolding_all rfl) (hd : (x == ("__debug__" : Str)) = false := by decide) : wpC M A (eval (.Name x pos) env) Q E s := v_cell I hv h hc hk hl hd
theorem call_rangeN {E : Value → Shared → Prop} {n : Int} {t : Tok} (I : St w O g L s m led) (h : ∀ r u v s', IsRange s'.heap r 0 n 1 u t v → St w O g L s' m led → Q (.ref r) s') : wpC (Mw w) A (call (.type "range") [.int n t]) Q E s := call_range I rfl h
-- a name in a cell
local macro_rules | `(tactic| tm_at "c") => `(tactic| ((with_reducible show wpC _ _ (eval (PySem.Expr.Name _ _) _) _ _ _); refine v_cellE (by with_unfolding_all rfl) (by with_reducible assumption) (by first | with_reducible assumption | exact cell_sub (by with_reducible assumption) (by with_reducible assumption)) ?_))
theorem f_signs {src th : Addr} {xs ts : List Value} (hx : Src2 xs) (hs : At s.heap src (.lst xs)) (ht : At s.heap th (.list ts)) (hne : th ≠ src) (h0 : 0 < ts.length) (h1 : ts.length < 1000) (R : Room A 3) (X : Sta w (s.heap.hide src)) (hg : s.gens = #[]) (ho : s.os = O)
    (h : ∀ a ys s' xs', (∀ y ∈ ys, y ∈ ts) → ys.length < 5 → Src2 xs' → At s'.heap src (.lst xs') → At s'.heap a (.list ys) → s.heap.get? a = none → (∀ b o, s.heap.get? b = some o → b ≠ src → s'.heap.get? b = some o) → s'.gens = #[] → s'.os = O → Q (.ref a) s') : wpC (Mw w) A (call (.ref 140) [.ref src, .ref th]) Q E s := by
  have htg : At (s.heap.hide src) th (.list ts) := let ⟨o, e, i⟩ := ht; ⟨o, (Heap.hide_ne _ hne).trans e, i⟩
  refine c_enterC [("source", .ref src), ("signs", .ref th)] (g := s.heap.hide src) (led := [(src, .lst xs)]) R X (fun b o e => Heap.of_hide e) (fun p hp => by
    rw [List.mem_singleton.mp hp]; exact ⟨hs, Heap.hide_self _ _⟩) (by simp) hg ho (by with_unfolding_all rfl) (by with_unfolding_all rfl) (by with_unfolding_all rfl) (fun x hx => by
      rcases List.mem_cons.mp hx with rfl | hx
      · exact .inr ⟨by with_unfolding_all rfl, by with_unfolding_all rfl⟩
      · rw [List.mem_singleton.mp hx]; exact .inr ⟨by with_unfolding_all rfl, by with_unfolding_all rfl⟩) ?_
  intro L s₁ g₁ k₁ I hc
  have c1 : g₁.IsCell (L + 1) (some (.ref src)) := hc (Str.ofString "source") _ (by with_unfolding_all rfl)
  have c2 : g₁.IsCell (L + 1 + 1) (some (.ref th)) := hc (Str.ofString "signs") _ (by with_unfolding_all rfl)
  repeat tm_at "s"
  refine e_CompX (O := O) R.h (by rfl) ?_
  repeat tm_at "s"
  tm_at "c"
  repeat tm_at "s"
  refine k_take (fun xs' => [(src, .lst xs')]) (by with_reducible assumption) (by tm_at "m") (fun _ => by tm_at "r") hx (by omega) (by omega) (R.deeper _) fun r t s' xs' hr0 hr1 hx' I' => ?_
  obtain ⟨r, rfl⟩ := Int.eq_ofNat_of_zero_le hr0
  repeat tm_at "s"
  refine call_rangeN (by with_reducible assumption) fun r' ru rv s' hr I' => ?_
  refine iter_range (by with_reducible assumption) rfl hr (by omega) fun it s' y I' => ?_
  refine ⟨r, _, fun i g' ys led' => ys.length = i ∧ (∀ y ∈ ys, y ∈ ts) ∧ ∃ xs, led' = [(src, .lst xs)] ∧ Src2 xs, _, _, _, by omega, y, I', ?_, ?_, ?_⟩
  · intro g' _
    exact ⟨rfl, (fun _ q => nomatch q), _, rfl, hx'⟩
  · rintro i g' C D s' mC led' ys v it o oL kg hi ⟨tv, rfl⟩ ⟨hl, hys, xs', rfl, hx''⟩ I3 hm
    refine t_none ?_
    repeat tm_at "s"
    tm_at "c"
    repeat tm_at "s"
    tm_at "c"
    repeat tm_at "s"
    refine k_one (fun xs' => [(it, .raw o), (L, .raw oL), (D, .list ys), (src, .lst xs')]) (by with_reducible assumption) (by tm_at "m") (fun _ => by tm_at "r") hx'' (htg.sub (k₁.trans (kg.trans (St.keep (by with_reducible assumption))))) hne h0 h1 (R.deeper _) fun v s' xs' hv hx' I' => ?_
    exact ⟨_, _, _, Sub.refl _, I', by rw [List.length_append, List.length_singleton, hl], fun y hy => by
      rcases List.mem_append.mp hy with hy | hy
      · exact hys y hy
      · rw [List.mem_singleton.mp hy]; exact hv, _, rfl, hx'⟩
  · rintro g' s' led' D ys kg I3 ⟨hl, hys, xs', rfl, hx''⟩
    have k2 := k₁.trans kg
    exact h D ys s' xs' hys (by omega) hx'' (I3.at (List.mem_cons_of_mem _ List.mem_cons_self)) (I3.at List.mem_cons_self) (by
      have e := (I3.ld _ List.mem_cons_self).2
      cases q : s.heap.get? D with
      | none => rfl
      | some o =>
        have hD : D ≠ src := fun z => by
          have := I3.nd
          rw [z] at this
          simp at this
        have := k2 D o ((Heap.hide_ne _ hD).trans q)
        rw [show g'.get? D = none from e] at this; cases this) (fun b o e n => I3.keep _ _ (k2 _ _ ((Heap.hide_ne _ n).trans e))) I3.gens I3.os
theorem k_signs {src th : Addr} {xs ts : List Value} {k : Nat} (led' : List Value → Led) (I : St w O g L s m led) (x : (src, .lst xs) ∈ led) (hrep : ∀ xs', Rep src (.lst xs') led (led' xs')) (hx : Src2 xs) (ht : At s.heap th (.list ts)) (hne : th ≠ src) (h0 : 0 < ts.length) (h1 : ts.length < 1000) (R : Room A (k + 3))
    (h : ∀ a ys s' xs', (∀ y ∈ ys, y ∈ ts) → ys.length < 5 → Src2 xs' → St w O g L s' m ((a, .list ys) :: led' xs') → Q (.ref a) s') : wpC (Mw w) A (call (.ref 140) [.ref src, .ref th]) Q E s := by
  refine f_signs hx (I.at x) ht hne h0 h1 (R.less (by omega)) (I.hid x) I.gens I.os fun a ys s' xs' hys hl hx' hs' ha hf k hg ho => h a ys s' xs' hys hl hx' ?_
  have J := I.rep (hrep xs') k hs' hg ho
  refine ⟨J.sta, J.ns, J.keep, J.nL, fun p hp => ?_, ?_, J.gens, J.os⟩
  · rcases List.mem_cons.mp hp with rfl | hp
    · exact ⟨ha, sub_none I.keep hf⟩
    · exact J.ld p hp
  · have nd := J.nd
    rw [List.nodup_cons] at nd
    rw [List.map_cons, List.nodup_cons, List.nodup_cons]
    refine ⟨fun hm => ?_, fun hm => ?_, nd.2⟩
    · rcases List.mem_cons.mp hm with q | q
      · obtain ⟨o, _, _, e, _⟩ := I.ns
        rw [q] at e; rw [show s.heap.get? a = none from hf] at e; cases e
      · exact nd.1 q
    · rw [(hrep xs').fst] at hm
      obtain ⟨p, hp, q⟩ := List.mem_map.mp hm
      obtain ⟨o, e, _⟩ := (I.ld p hp).1
      rw [q] at e; rw [show s.heap.get? a = none from hf] at e; cases e
end
end
section
/-- a letter from A to Z, of either form -/
noncomputable def letter (c : Nat) : Bool := (decide (65 ≤ c) && decide (c ≤ 90)) || (decide (97 ≤ c) && decide (c ≤ 122))
noncomputable def turn1 (c : Nat) : Nat := if letter c = true then (c + 32) % 64 + 64 else c
theorem str_app (a b : List Nat) : ((⟨a.toArray⟩ : Str) ++ ⟨b.toArray⟩) = ⟨(a ++ b).toArray⟩ := by
  apply congrArg Str.mk
  show a.toArray ++ b.toArray = _
  simp
theorem ofEmpty : Str.ofString "" = ⟨([] : List Nat).toArray⟩ := rfl
section
variable {w : World} {O : OsState} {s : Shared} {A : Around} {E : Value → Shared → Prop} {Q : Value → Shared → Prop}
theorem f_turned {cs : List Nat} {t : Tok} (hz : cs.length < 10000) (R : Room A 1) (X : Sta w s.heap) (hg : s.gens = #[]) (ho : s.os = O)
    (h : ∀ t s', Gr O s.heap s' → Q (.str ⟨(cs.map turn1).toArray⟩ t) s') : wpC (Mw w) A (call (.ref 147) [.str ⟨cs.toArray⟩ t]) Q E s := by
  refine c_enter1 [("text", .str ⟨cs.toArray⟩ t)] R X hg ho (by with_unfolding_all rfl) (by with_unfolding_all rfl) (by with_unfolding_all rfl) (locs (by with_unfolding_all rfl)) ?_
  intro L s₁ I
  repeat tm_at "s"
  refine x_ForI (by with_reducible assumption) cs.length (SignAt ⟨cs.toArray⟩) (fun i g' m' led' => led' = [] ∧ ∃ x t, x = (⟨((cs.take i).map turn1).toArray⟩ : Str) ∧ m' (Str.ofString "found") = some (.str x t)) R.h ?_ ?_ ?_ ?_
  · repeat tm_at "s"
    exact iter_str (by with_reducible assumption) rfl fun it s' y I' => ⟨y, I'⟩
  · intro g' k
    exact ⟨rfl, _, _, ofEmpty, by tm_at "v"⟩
  · rintro i g' s' m' led' v it o k hi ⟨c, u, ec, rfl⟩ ⟨rfl, _, t', rfl, hm⟩ I3
    have ec' : cs[i]? = some c := by simpa using ec
    have hl2 := List.length_take_le' i cs
    have et : (cs.take (i + 1)).map turn1 = (cs.take i).map turn1 ++ [turn1 c] := by rw [List.take_add_one, ec']; simp
    tm_at "s"
    tm_at "s"
    refine c_monoQ (Q := fun v s'' => v = .bool (letter c) ∧ St w O g' L s'' (fun y => if y = Str.ofString "sign" then some (.str ⟨#[c]⟩ u) else m' y) [(it, .raw o)]) ?_ ?_
    · have key : ∀ b, letter c = b → (Value.bool b = .bool (letter c)) := fun b e => by rw [e]
      repeat tm_at "s"
      with_reducible refine br (fun h1 => ?_) (fun h1 => ?_)
      · repeat tm_at "s"
        have q1 := of_decide_eq_true h1
        with_reducible refine br (fun h2 => ?_) (fun h2 => ?_)
        · have q2 := of_decide_eq_true h2
          refine ⟨key _ ?_, by with_reducible assumption⟩
          rw [h2]; unfold letter; simp; omega
        · have q2 := of_decide_eq_false h2
          repeat tm_at "s"
          with_reducible refine br (fun h3 => ?_) (fun h3 => ?_)
          · repeat tm_at "s"
            refine ⟨key _ ?_, by with_reducible assumption⟩
            have q3 := of_decide_eq_true h3
            unfold letter; rw [Bool.eq_iff_iff]; simp; omega
          · have q3 := of_decide_eq_false h3
            refine ⟨key _ ?_, by with_reducible assumption⟩
            rw [h3]; unfold letter; rw [Bool.eq_iff_iff]; simp; omega
      · have q1 := of_decide_eq_false h1
        repeat tm_at "s"
        with_reducible refine br_f h1 ?_
        repeat tm_at "s"
        with_reducible refine br (fun h3 => ?_) (fun h3 => ?_)
        · have q3 := of_decide_eq_true h3
          omega
        · refine ⟨key _ ?_, by with_reducible assumption⟩
          rw [h3]; unfold letter; rw [Bool.eq_iff_iff]; simp; omega
    · rintro v s'' ⟨rfl, I4⟩
      repeat tm_at "s"
      have hlen : ((cs.take i).map turn1).length ≤ cs.length := by rw [List.length_map]; exact hl2
      with_reducible refine br (fun h1 => ?_) (fun h1 => ?_)
      · repeat tm_at "s"
        have hf := fmod_range (a := (c : Int) + 32) (b := 64) (by decide)
        refine c_chr (by with_reducible assumption) (by omega) (by omega) fun t s' I' => ?_
        repeat tm_at "s"
        refine o_adds (by with_reducible assumption) (by show ((cs.take i).map turn1).toArray.size + 1 < 1000000; rw [List.size_toArray]; omega) fun t s' I' => ?_
        repeat tm_at "s"
        refine ⟨_, _, _, Sub.refl _, by with_reducible assumption, rfl, _, _, ?_, by tm_at "v"⟩
        rw [et]
        have e : (((c : Int) + 32).fmod 64 + 64).toNat = turn1 c := by
          unfold turn1; rw [if_pos h1, Int.fmod_eq_emod_of_nonneg _ (by decide)]; omega
        rw [e]
        exact str_app _ [turn1 c]
      · repeat tm_at "s"
        refine o_adds (by with_reducible assumption) (by show ((cs.take i).map turn1).toArray.size + 1 < 1000000; rw [List.size_toArray]; omega) fun t s' I' => ?_
        repeat tm_at "s"
        refine ⟨_, _, _, Sub.refl _, by with_reducible assumption, rfl, _, _, ?_, by tm_at "v"⟩
        rw [et]
        have e : turn1 c = c := by unfold turn1; rw [if_neg (by rw [h1]; decide)]
        rw [e]
        exact str_app _ [c]
  · rintro g' s' m' led' k I3 ⟨rfl, _, t', rfl, hm⟩
    rw [List.take_of_length_le (Nat.le_refl _)] at hm
    repeat tm_at "s"
    exact h _ _ (Gr.trans k (St.out (by with_reducible assumption)))
end
end
section
theorem ofz : Str.ofString "z" = ⟨#[122]⟩ := by decide +kernel
/-- a sign that is no surrogate -/
noncomputable def sign (c : Nat) : Prop := c ≤ 1114111 ∧ Str.isSurrogate c = false
noncomputable def Dv.good (n : Nat) : Dv → Prop
  | .none => True
  | .int i => -9223372036854775808 ≤ i ∧ i ≤ 9223372036854775807
  | .str cs => (∀ c ∈ cs, sign c) ∧ cs.length ≤ n
  | .oct b => b.length ≤ n
theorem Dv.good.ok {n : Nat} {d : Dv} (h : d.good n) (hn : n < 1000) : d.ok := by
  cases d with
  | none => trivial
  | int i => exact h
  | str cs => exact ⟨fun c hc => (h.1 c hc).1, by have := h.2; omega⟩
  | oct b => exact Nat.lt_of_le_of_lt h hn
theorem sign_small {c : Nat} (h : c < 256) : sign c := ⟨by omega, by unfold Str.isSurrogate; simp; omega⟩
theorem sign_turn {c : Nat} (h : sign c) : sign (turn1 c) := by
  unfold turn1; split
  · exact sign_small (by omega)
  · exact h
theorem signs_of {P : Nat → Prop} : ∀ {ys : List Value}, (∀ y ∈ ys, ∃ c t, y = .str ⟨#[c]⟩ t ∧ P c) → ∃ cs, Signs ys cs ∧ (∀ c ∈ cs, P c)
  | [], _ => ⟨[], .nil, fun _ h => nomatch h⟩
  | y :: r, h => by
    obtain ⟨c, t, rfl, hc⟩ := h y List.mem_cons_self
    obtain ⟨cs, hs, hp⟩ := signs_of fun z hz => h z (List.mem_cons_of_mem _ hz)
    exact ⟨c :: cs, .cons hs, fun d hd => by
      rcases List.mem_cons.mp hd with rfl | hd
      · exact hc
      · exact hp d hd⟩
theorem ints_of {P : Int → Prop} : ∀ {ys : List Value}, (∀ y ∈ ys, ∃ c t, y = .int c t ∧ P c) → ∃ cs, Ints ys cs ∧ (∀ c ∈ cs, P c)
  | [], _ => ⟨[], .nil, fun _ h => nomatch h⟩
  | y :: r, h => by
    obtain ⟨c, t, rfl, hc⟩ := h y List.mem_cons_self
    obtain ⟨cs, hs, hp⟩ := ints_of fun z hz => h z (List.mem_cons_of_mem _ hz)
    exact ⟨c :: cs, .cons hs, fun d hd => by
      rcases List.mem_cons.mp hd with rfl | hd
      · exact hc
      · exact hp d hd⟩
section
variable {w : World} {O : OsState} {s : Shared} {A : Around} {E : Value → Shared → Prop} {Q : Value → Shared → Prop} {g : Heap} {L : Addr} {m : Str → Option Value} {led : Led}
theorem St.ne {a b : Addr} {c c' : Cell} (I : St w O g L s m ((a, c) :: led)) (x : (b, c') ∈ led) : a ≠ b := fun q => by
  have nd := I.nd
  rw [List.map_cons, List.nodup_cons, List.nodup_cons] at nd
  have z := List.mem_map_of_mem (f := fun p : Addr × Cell => p.1) x
  exact nd.2.1 (by rw [q]; exact z)
theorem k_turned {cs : List Nat} {t : Tok} {k : Nat} (hz : cs.length < 10000) (R : Room A (k + 1)) (I : St w O g L s m led) (h : ∀ t s', St w O g L s' m led → Q (.str ⟨(cs.map turn1).toArray⟩ t) s') : wpC (Mw w) A (call (.ref 147) [.str ⟨cs.toArray⟩ t]) Q E s :=
  f_turned hz (R.less (by omega)) I.stah I.gens I.os fun t s' G => h t s' (I.gr G)
theorem f_beside {src : Addr} {xs : List Value} {d : Dv} {v : Value} {n : Nat} (hd : d.good n) (hv : d.is v) (hn : n < 100) (hx : Src2 xs) (hs : At s.heap src (.lst xs)) (R : Room A 3) (X : Sta w (s.heap.hide src)) (hg : s.gens = #[]) (ho : s.os = O)
    (h : ∀ (d' : Dv) v' s' xs', d'.good (n + 1) → d'.is v' → Src2 xs' → At s'.heap src (.lst xs') → (∀ b o, s.heap.get? b = some o → b ≠ src → s'.heap.get? b = some o) → s'.gens = #[] → s'.os = O → Q v' s') : wpC (Mw w) A (call (.ref 154) [.ref src, v]) Q E s := by
  refine c_enter0 [("ahead", v), ("source", .ref src)] (g := s.heap.hide src) (led := [(src, .lst xs)]) R X (fun b o e => Heap.of_hide e) (fun p hp => by
    rw [List.mem_singleton.mp hp]; exact ⟨hs, Heap.hide_self _ _⟩) (by simp) hg ho (by with_unfolding_all rfl) (by with_unfolding_all rfl) (by with_unfolding_all rfl) (locs (by with_unfolding_all rfl)) ?_
  intro L s₁ I _
  have out : ∀ (d' : Dv) v' s' xs' g' m' led', Sub (s.heap.hide src) g' → St w O g' L s' m' led' → (src, .lst xs') ∈ led' → d'.good (n + 1) → d'.is v' → Src2 xs' → Q v' s' := fun d' v' s' xs' g' m' led' k I' x h1 h2 h3 =>
    h d' v' s' xs' h1 h2 h3 (I'.at x) (fun b o e n => I'.keep _ _ (k _ _ ((Heap.hide_ne _ n).trans e))) I'.gens I'.os
  cases d with
  | none =>
    obtain rfl := hv
    repeat tm_at "s"
    rename_i I9
    exact out (.oct []) _ _ _ _ _ _ (Sub.refl _) I9 (by tm_at "m") (Nat.zero_le _) ⟨_, rfl⟩ hx
  | int i =>
    obtain ⟨u, rfl⟩ := hv
    repeat tm_at "s"
    obtain ⟨hd1, hd2⟩ := hd
    with_reducible refine br (fun h1 => ?_) (fun h1 => ?_)
    · have h1 := of_decide_eq_true h1
      repeat tm_at "s"
      rename_i I9
      exact out (.int (i - 1)) _ _ _ _ _ _ (Sub.refl _) I9 (by tm_at "m") ⟨by omega, by omega⟩ ⟨_, rfl⟩ hx
    · have h1 := of_decide_eq_false h1
      repeat tm_at "s"
      rename_i I9
      exact out (.int (i + 1)) _ _ _ _ _ _ (Sub.refl _) I9 (by tm_at "m") ⟨by omega, by omega⟩ ⟨_, rfl⟩ hx
  | str cs =>
    obtain ⟨u, rfl⟩ := hv
    obtain ⟨hd1, hd2⟩ := hd
    repeat tm_at "s"
    refine k_take (fun xs' => [(src, .lst xs')]) (by with_reducible assumption) (by tm_at "m") (fun _ => by tm_at "r") hx (by omega) (by omega) (R.deeper _) fun r t s' xs' hr0 hr1 hx' I' => ?_
    repeat tm_at "s"
    with_reducible refine br (fun h1 => ?_) (fun h1 => ?_)
    · repeat tm_at "s"
      refine k_turned (by omega) (R.deeper _) (by with_reducible assumption) fun t s' I' => ?_
      refine out (.str (cs.map turn1)) _ _ _ _ _ _ (Sub.refl _) I' (by tm_at "m") ⟨fun c hc => ?_, by rw [List.length_map]; omega⟩ ⟨_, rfl⟩ hx'
      obtain ⟨y, hy, rfl⟩ := List.mem_map.mp hc
      exact sign_turn (hd1 y hy)
    · repeat tm_at "s"
      refine c_chr (by with_reducible assumption) (by decide) (by decide) fun t s' I' => ?_
      repeat tm_at "s"
      refine c_chr (by with_reducible assumption) (by decide) (by decide) fun t s' I' => ?_
      repeat tm_at "s"
      rename_i th s9 I9
      refine k_one (fun xs' => [(th, .list _), (src, .lst xs')]) I9 (by tm_at "m") (fun _ => by tm_at "r") hx' (I9.at List.mem_cons_self) (I9.ne List.mem_cons_self) (by simp) (by simp) (R.deeper _) fun v s' xs' hv hx' I' => ?_
      obtain ⟨c, tc, rfl, hc⟩ : ∃ c tc, v = .str ⟨#[c]⟩ tc ∧ sign c := by
        simp only [List.mem_cons, List.not_mem_nil, or_false] at hv
        rcases hv with rfl | rfl | rfl | rfl
        · exact ⟨0, _, rfl, sign_small (by decide)⟩
        · exact ⟨1, _, rfl, sign_small (by decide)⟩
        · exact ⟨32, _, by rw [ofBlank], sign_small (by decide)⟩
        · exact ⟨122, _, by rw [ofz], sign_small (by decide)⟩
      refine o_adds I' (by show cs.toArray.size + 1 < 1000000; rw [List.size_toArray]; omega) fun t s' I' => ?_
      have e : ((⟨cs.toArray⟩ : Str) ++ ⟨#[c]⟩) = ⟨(cs ++ [c]).toArray⟩ := str_app cs [c]
      refine out (.str (cs ++ [c])) _ _ _ _ _ _ (Sub.refl _) I' (by tm_at "m") ⟨fun y hy => ?_, by rw [List.length_append, List.length_singleton]; omega⟩ ⟨t, by rw [e]; rfl⟩ hx'
      rcases List.mem_append.mp hy with hy | hy
      · exact hd1 y hy
      · rw [List.mem_singleton.mp hy]; exact hc
  | oct b =>
    obtain ⟨u, rfl⟩ := hv
    have hd : b.length ≤ n := hd
    repeat tm_at "s"
    rename_i th s9 I9
    refine k_one (fun xs' => [(th, .list _), (src, .lst xs')]) I9 (by tm_at "m") (fun _ => by tm_at "r") hx (I9.at List.mem_cons_self) (I9.ne List.mem_cons_self) (by simp) (by simp) (R.deeper _) fun v s' xs' hv hx' I' => ?_
    obtain ⟨c, tc, rfl, hc⟩ : ∃ c tc, v = .int c tc ∧ (0 ≤ c ∧ c < 256) := by
      simp only [List.mem_cons, List.not_mem_nil, or_false] at hv
      rcases hv with rfl | rfl | rfl <;> exact ⟨_, _, rfl, by decide, by decide⟩
    repeat tm_at "s"
    refine c_bytes_ints (ns := [c]) R.h (by with_reducible assumption) (St.at (by with_reducible assumption) (by tm_at "m")).isList (Ints.cons .nil).are (fun i hi => by rw [List.mem_singleton.mp hi]; exact hc) (by simp) fun t s' I' => ?_
    repeat tm_at "s"
    refine o_addb (by with_reducible assumption) (by simp; omega) fun t s' I' => ?_
    refine out (.oct (b ++ [c.toNat.toUInt8])) _ _ _ _ _ _ (Sub.refl _) I' (by tm_at "m") (by show (b ++ [c.toNat.toUInt8]).length ≤ n + 1; rw [List.length_append, List.length_singleton]; omega) ⟨t, by simp [fv]⟩ hx'
end
end
section
theorem of_a : Str.ofString "a" = ⟨#[97]⟩ := by decide +kernel
theorem of_br : Str.ofString "[" = ⟨#[91]⟩ := by decide +kernel
section
variable {w : World} {O : OsState} {s : Shared} {A : Around} {E : Value → Shared → Prop} {Q : Value → Shared → Prop} {g : Heap} {L : Addr} {m : Str → Option Value} {led : Led}
local macro_rules | `(tactic| tm_at "s") => `(tactic| first
  | ((with_reducible show wpC _ _ (binaryOp Operator.Pow (Value.int _ _) (Value.int _ _)) _ _ _); refine o_pow (by with_reducible assumption) (by decide) (by decide) (by decide) ?_; intro t s' I')
  | ((with_reducible show wpC _ _ (call (Value.builtin "chr") [Value.int _ _]) _ _ _); refine c_chr (by with_reducible assumption) (by decide) (by decide) ?_; intro t s' I'))
theorem k_beside {src : Addr} {xs : List Value} {d : Dv} {v : Value} {n k : Nat} (led' : List Value → Led) (I : St w O g L s m led) (x : (src, .lst xs) ∈ led) (hrep : ∀ xs', Rep src (.lst xs') led (led' xs')) (hx : Src2 xs) (hd : d.good n) (hv : d.is v) (hn : n < 100) (R : Room A (k + 3))
    (h : ∀ (d' : Dv) v' s' xs', d'.good (n + 1) → d'.is v' → Src2 xs' → St w O g L s' m (led' xs') → Q v' s') : wpC (Mw w) A (call (.ref 154) [.ref src, v]) Q E s :=
  f_beside hd hv hn hx (I.at x) (R.less (by omega)) (I.hid x) I.gens I.os fun d' v' s' xs' h1 h2 h3 hs' k hg ho => h d' v' s' xs' h1 h2 h3 (I.rep (hrep xs') k hs' hg ho)
theorem f_value {src : Addr} {xs : List Value} {d : Dv} {v : Value} {n : Nat} (hd : d.good n) (hv : d.is v) (hn : n < 100) (h4 : 4 ≤ n) (hx : Src2 xs) (hs : At s.heap src (.lst xs)) (R : Room A 4) (X : Sta w (s.heap.hide src)) (hg : s.gens = #[]) (ho : s.os = O)
    (h : ∀ (d' : Dv) v' s' xs', d'.good (n + 1) → d'.is v' → Src2 xs' → At s'.heap src (.lst xs') → (∀ b o, s.heap.get? b = some o → b ≠ src → s'.heap.get? b = some o) → s'.gens = #[] → s'.os = O → Q v' s') : wpC (Mw w) A (call (.ref 161) [.ref src, v]) Q E s := by
  refine c_enter0 [("ahead", v), ("source", .ref src)] (g := s.heap.hide src) (led := [(src, .lst xs)]) R X (fun b o e => Heap.of_hide e) (fun p hp => by
    rw [List.mem_singleton.mp hp]; exact ⟨hs, Heap.hide_self _ _⟩) (by simp) hg ho (by with_unfolding_all rfl) (by with_unfolding_all rfl) (by with_unfolding_all rfl) (locs (by with_unfolding_all rfl)) ?_
  intro L s₁ I _
  have out : ∀ (d' : Dv) v' s' xs' g' m' led', Sub (s.heap.hide src) g' → St w O g' L s' m' led' → (src, .lst xs') ∈ led' → d'.good (n + 1) → d'.is v' → Src2 xs' → Q v' s' := fun d' v' s' xs' g' m' led' k I' x h1 h2 h3 =>
    h d' v' s' xs' h1 h2 h3 (I'.at x) (fun b o e n => I'.keep _ _ (k _ _ ((Heap.hide_ne _ n).trans e))) I'.gens I'.os
  repeat tm_at "s"
  refine k_take (fun xs' => [(src, .lst xs')]) (by with_reducible assumption) (by tm_at "m") (fun _ => by tm_at "r") hx (by omega) (by omega) (R.deeper _) fun r t s' xs' hr0 hr1 hx' I' => ?_
  repeat tm_at "s"
  with_reducible refine br (fun h1 => ?_) (fun h1 => ?_)
  · repeat tm_at "s"
    rename_i I9
    exact out .none _ _ _ _ _ _ (Sub.refl _) I9 (by tm_at "m") trivial rfl hx'
  repeat tm_at "s"
  with_reducible refine br (fun h2 => ?_) (fun h2 => ?_)
  · repeat tm_at "s"
    rename_i th s9 I9
    refine k_one (fun xs' => [(th, .list _), (src, .lst xs')]) I9 (by tm_at "m") (fun _ => by tm_at "r") hx' (I9.at List.mem_cons_self) (I9.ne List.mem_cons_self) (by simp) (by simp) (R.deeper _) fun v s' xs' hv hx' I' => ?_
    obtain ⟨c, tc, rfl, hc⟩ : ∃ c tc, v = .int c tc ∧ (-9223372036854775808 ≤ c ∧ c ≤ 9223372036854775807) := by
      simp only [List.mem_cons, List.not_mem_nil, or_false] at hv
      rcases hv with rfl | rfl | rfl | rfl | rfl | rfl | rfl | rfl | rfl <;> exact ⟨_, _, rfl, by decide, by decide⟩
    exact out (.int c) _ _ _ _ _ _ (Sub.refl _) I' (by tm_at "m") hc ⟨_, rfl⟩ hx'
  repeat tm_at "s"
  with_reducible refine br (fun h3 => ?_) (fun h3 => ?_)
  · repeat tm_at "s"
    rename_i th s8 I8 s9 I9 tz s10 I10
    refine k_signs (fun xs' => [(th, .list _), (src, .lst xs')]) I10 (by tm_at "m") (fun _ => by tm_at "r") hx' (I10.at List.mem_cons_self) (I10.ne List.mem_cons_self) (by simp) (by simp) (R.deeper _) fun a ys s' xs' hys hl hx' I' => ?_
    obtain ⟨cs, hs', hc⟩ := signs_of (P := sign) (ys := ys) fun y hy => by
      have hv := hys y hy
      simp only [List.mem_cons, List.not_mem_nil, or_false] at hv
      rcases hv with rfl | rfl | rfl | rfl | rfl | rfl | rfl | rfl | rfl | rfl
      · exact ⟨0, _, rfl, sign_small (by decide)⟩
      · exact ⟨1, _, rfl, sign_small (by decide)⟩
      · exact ⟨32, _, by rw [ofBlank], sign_small (by decide)⟩
      · exact ⟨97, _, by rw [of_a], sign_small (by decide)⟩
      · exact ⟨65, _, by rw [ofA], sign_small (by decide)⟩
      · exact ⟨90, _, by rw [ofZ], sign_small (by decide)⟩
      · exact ⟨91, _, by rw [of_br], sign_small (by decide)⟩
      · exact ⟨233, _, rfl, sign_small (by decide)⟩
      · exact ⟨65535, _, rfl, by decide, by decide⟩
      · exact ⟨1114111, _, rfl, by decide, by decide⟩
    have hl2 := hs'.length
    repeat tm_at "s"
    refine c_sjoin (by with_reducible assumption) (St.at (by with_reducible assumption) (by tm_at "m")).isList hs' (by omega) fun t s' I' => ?_
    exact out (.str cs) _ _ _ _ _ _ (Sub.refl _) I' (by tm_at "m") ⟨hc, by omega⟩ ⟨t, rfl⟩ hx'
  repeat tm_at "s"
  with_reducible refine br (fun h5 => ?_) (fun h5 => ?_)
  · repeat tm_at "s"
    rename_i th s9 I9
    refine k_signs (fun xs' => [(th, .list _), (src, .lst xs')]) I9 (by tm_at "m") (fun _ => by tm_at "r") hx' (I9.at List.mem_cons_self) (I9.ne List.mem_cons_self) (by simp) (by simp) (R.deeper _) fun a ys s' xs' hys hl hx' I' => ?_
    obtain ⟨ns, hs', hc⟩ := ints_of (P := fun c => 0 ≤ c ∧ c < 256) (ys := ys) fun y hy => by
      have hv := hys y hy
      simp only [List.mem_cons, List.not_mem_nil, or_false] at hv
      rcases hv with rfl | rfl | rfl | rfl | rfl | rfl <;> exact ⟨_, _, rfl, by decide, by decide⟩
    have hl2 := hs'.length
    repeat tm_at "s"
    refine c_bytes_ints (ns := ns) R.h (by with_reducible assumption) (St.at (by with_reducible assumption) (by tm_at "m")).isList hs'.are hc (by omega) fun t s' I' => ?_
    exact out (.oct (ns.map fun i => i.toNat.toUInt8)) _ _ _ _ _ _ (Sub.refl _) I' (by tm_at "m") (by show (ns.map _).length ≤ n + 1; rw [List.length_map]; omega) ⟨t, rfl⟩ hx'
  · repeat tm_at "s"
    refine k_beside (fun xs' => [(src, .lst xs')]) (by with_reducible assumption) (by tm_at "m") (fun _ => by tm_at "r") hx' hd hv hn (R.deeper _) fun d' v' s' xs' h1 h2 h3 I' => ?_
    exact out d' _ _ _ _ _ _ (Sub.refl _) I' (by tm_at "m") h1 h2 h3
end
end
section
noncomputable def kept (c : Col) : Dv → Dv
  | .str cs => .str (c.of cs)
  | d => d
theorem last_eq {cs : List Nat} {e : Nat} (he : e ≤ cs.length) : (((⟨(((⟨(cs.take e).toArray⟩ : Str).cps.toList.drop ((⟨(cs.take e).toArray⟩ : Str).length - 1))).toArray⟩ : Str).cps.toList == (Str.ofString " ").cps.toList) = true) ↔ (0 < e ∧ cs[e - 1]? = some 32) := by
  rw [ofBlank]
  have h1 : (⟨(cs.take e).toArray⟩ : Str).length = e := by
    show (cs.take e).toArray.size = e
    rw [List.size_toArray, List.length_take]; omega
  rw [h1]
  show ((List.drop (e - 1) (List.take e cs) : List Nat) == [32]) = true ↔ _
  by_cases h0 : e = 0
  · subst h0; simp
  · have hlt : e - 1 < cs.length := by omega
    have : List.drop (e - 1) (List.take e cs) = [cs[e - 1]] := by
      have e2 : cs.take e = cs.take (e - 1) ++ [cs[e - 1]] := by
        conv => lhs; rw [show e = e - 1 + 1 by omega]
        rw [List.take_add_one, List.getElem?_eq_getElem hlt]; simp
      rw [e2, List.drop_append_of_le_length (by rw [List.length_take]; omega), List.drop_of_length_le (by rw [List.length_take]; omega)]
      simp
    rw [this, List.getElem?_eq_getElem hlt]
    simp; omega
section
variable {w : World} {O : OsState} {s : Shared} {A : Around} {E : Value → Shared → Prop} {Q : Value → Shared → Prop} {g : Heap} {L : Addr} {m : Str → Option Value} {led : Led}
local macro_rules | `(tactic| tm_at "s") => `(tactic| ((with_reducible show wpC _ _ (call (Value.builtin "chr") [Value.int _ _]) _ _ _); refine c_chr (by with_reducible assumption) (by omega) (by omega) ?_; intro t s' I'))
theorem f_kept {d : Dv} {v : Value} {c : Col} {u : Tok} {n : Nat} (hv : d.is v) (hd : d.good n) (hn : n < 1000) (R : Room A 2) (X : Sta w s.heap) (hg : s.gens = #[]) (ho : s.os = O)
    (h : ∀ v' s', Gr O s.heap s' → (kept c d).is v' → Q v' s') : wpC (Mw w) A (call (.ref 166) [v, .str c.name u]) Q E s := by
  refine c_enter1 [("collation", .str c.name u), ("value", v)] R X hg ho (by with_unfolding_all rfl) (by with_unfolding_all rfl) (by with_unfolding_all rfl) (locs (by with_unfolding_all rfl)) ?_
  intro L s₁ I
  cases d with
  | none =>
    obtain rfl := hv
    repeat tm_at "s"
    exact h _ _ (St.out (by with_reducible assumption)) rfl
  | int i =>
    obtain ⟨u, rfl⟩ := hv
    repeat tm_at "s"
    exact h _ _ (St.out (by with_reducible assumption)) ⟨_, rfl⟩
  | oct b =>
    obtain ⟨u, rfl⟩ := hv
    repeat tm_at "s"
    exact h _ _ (St.out (by with_reducible assumption)) ⟨_, rfl⟩
  | str cs =>
    obtain ⟨t₀, rfl⟩ := hv
    obtain ⟨hd1, hd2⟩ := hd
    cases c with
    | binary =>
      repeat tm_at "s"
      refine br_t (by decide +kernel) ?_
      repeat tm_at "s"
      exact h _ _ (St.out (by with_reducible assumption)) ⟨_, rfl⟩
    | rtrim =>
      repeat tm_at "s"
      refine br_f (by decide +kernel) ?_
      repeat tm_at "s"
      refine br_t (by decide +kernel) ?_
      repeat tm_at "s"
      refine c_lens (by with_reducible assumption) (by show cs.toArray.size < 1000000; rw [List.size_toArray]; omega) fun t s' I' => ?_
      have el : (⟨cs.toArray⟩ : Str).length = cs.length := rfl
      rw [el]
      repeat tm_at "s"
      refine x_WhileX (by with_reducible assumption) (fun k g' m' led' => ∃ e ei t', ei = ((e : Nat) : Int) ∧ m' (Str.ofString "many") = some (.int ei t') ∧ m' (Str.ofString "value") = some (.str ⟨cs.toArray⟩ t₀) ∧ led' = [] ∧ e ≤ cs.length ∧ trimR (cs.take e) = trimR cs ∧ k = e)
        (fun g' m' led' => ∃ e ei t', ei = ((e : Nat) : Int) ∧ m' (Str.ofString "many") = some (.int ei t') ∧ m' (Str.ofString "value") = some (.str ⟨cs.toArray⟩ t₀) ∧ led' = [] ∧ e ≤ cs.length ∧ trimR cs = cs.take e) cs.length
        ⟨cs.length, _, _, rfl, by tm_at "v", by tm_at "v", rfl, Nat.le_refl _, by rw [List.take_of_length_le (Nat.le_refl _)], rfl⟩ ?_ ?_
      · rintro k g' s' m' led' kg ⟨e, _, t', rfl, he, ht, rfl, hle, htr, rfl⟩ I3
        repeat tm_at "s"
        refine sub_sslice (lv := none) (uv := some ((k : Int), t')) (by with_reducible assumption) (by assumption) (by show cs.toArray.size < 1000000; rw [List.size_toArray]; omega) fun u s' I' => ?_
        have hs := slice_to (x := ⟨cs.toArray⟩) (n := k) hle
        rw [show Txt.slice ⟨cs.toArray⟩ (Option.map (fun p : Int × Tok => p.1) none) (Option.map (fun p : Int × Tok => p.1) (some ((k : Int), t'))) = ⟨(cs.take k).toArray⟩ from hs]
        repeat tm_at "s"
        refine sub_sslice (lv := some (-1, _)) (uv := none) (by with_reducible assumption) (by assumption) (by show (cs.take k).toArray.size < 1000000; rw [List.size_toArray, List.length_take]; omega) fun u s' I' => ?_
        rw [show Txt.slice ⟨(cs.take k).toArray⟩ (Option.map (fun p : Int × Tok => p.1) (some (-1, _))) (Option.map (fun p : Int × Tok => p.1) none) = _ from slice_last]
        repeat tm_at "s"
        with_reducible refine br (fun h2 => ?_) (fun h2 => ?_)
        · obtain ⟨h3, ec⟩ := (last_eq hle).mp h2
          have hd := trimR_down h3 ec
          rw [if_pos rfl] at hd
          repeat tm_at "s"
          refine ⟨k - 1, _, _, _, by omega, Sub.refl _, by with_reducible assumption, k - 1, _, _, ?_, by tm_at "v", by tm_at "v", rfl, by omega, by rw [← hd, htr], rfl⟩
          omega
        · have h3 : ¬ (0 < k ∧ cs[k - 1]? = some 32) := fun q => by rw [(last_eq hle).mpr q] at h2; cases h2
          repeat tm_at "s"
          refine ⟨_, _, _, Sub.refl _, by with_reducible assumption, k, _, _, rfl, he, ht, rfl, hle, ?_⟩
          rw [← htr]
          rcases Nat.eq_zero_or_pos k with rfl | hk
          · rfl
          · have ec : cs[k - 1]? = some cs[k - 1] := List.getElem?_eq_getElem (by omega)
            rw [trimR_down hk ec, if_neg fun q => h3 ⟨hk, by rw [ec, q]⟩]
      · rintro g' s' m' led' kg I3 ⟨e, _, t', rfl, he, ht, rfl, hle, htr⟩
        repeat tm_at "s"
        refine sub_sslice (lv := none) (uv := some ((e : Int), t')) (by with_reducible assumption) (by assumption) (by show cs.toArray.size < 1000000; rw [List.size_toArray]; omega) fun u s' I' => ?_
        have hs := slice_to (x := ⟨cs.toArray⟩) (n := e) hle
        refine h _ _ (Gr.trans kg I'.out) ⟨u, ?_⟩
        show Value.str _ u = Value.str ⟨(trimR cs).toArray⟩ u
        rw [htr]
        exact congrArg (fun z => Value.str z u) hs
    | nocase =>
      repeat tm_at "s"
      refine br_f (by decide +kernel) ?_
      repeat tm_at "s"
      refine br_f (by decide +kernel) ?_
      repeat tm_at "s"
      refine e_CompI (by with_reducible assumption) cs.length (SignAt ⟨cs.toArray⟩) (fun i g' ys led' => led' = [] ∧ Signs ys ((cs.take i).map fold1)) R.h (by omega) (by rfl) ?_ ?_ ?_ ?_
      · repeat tm_at "s"
        exact iter_str (by with_reducible assumption) rfl fun it s' y I' => ⟨y, I'⟩
      · intro g' _
        exact ⟨rfl, .nil⟩
      · rintro i g' C D s' mC led' ys v it o oL kg hi ⟨c, u, ec, rfl⟩ ⟨rfl, hx⟩ I3 hm
        have ec' : cs[i]? = some c := by simpa using ec
        have hcc := (hd1 c (List.mem_of_getElem? ec')).1
        have et : (cs.take (i + 1)).map fold1 = (cs.take i).map fold1 ++ [fold1 c] := by rw [List.take_add_one, ec']; simp
        refine t_none ?_
        repeat tm_at "s"
        with_reducible refine br (fun h1 => ?_) (fun h1 => ?_)
        · repeat tm_at "s"
          have q1 := of_decide_eq_true h1
          with_reducible refine br (fun h2 => ?_) (fun h2 => ?_)
          · have q2 := of_decide_eq_true h2
            repeat tm_at "s"
            refine ⟨_, _, _, Sub.refl _, by with_reducible assumption, rfl, ?_⟩
            rw [et]
            have : fold1 c = ((c : Int) + 32).toNat := by unfold fold1; rw [if_pos ⟨by omega, by omega⟩]; omega
            rw [this]; exact hx.snoc
          · have q2 := of_decide_eq_false h2
            repeat tm_at "s"
            refine ⟨_, _, _, Sub.refl _, by with_reducible assumption, rfl, ?_⟩
            rw [et]
            have : fold1 c = c := by unfold fold1; rw [if_neg (by omega)]
            rw [this]; exact hx.snoc
        · have q1 := of_decide_eq_false h1
          repeat tm_at "s"
          refine ⟨_, _, _, Sub.refl _, by with_reducible assumption, rfl, ?_⟩
          rw [et]
          have : fold1 c = c := by unfold fold1; rw [if_neg (by omega)]
          rw [this]; exact hx.snoc
      · rintro g' s' led' D ys kg I3 ⟨rfl, hx⟩
        rw [List.take_of_length_le (Nat.le_refl _)] at hx
        repeat tm_at "s"
        refine c_sjoin (by with_reducible assumption) (St.at (by with_reducible assumption) (by tm_at "m")).isList hx (by rw [List.length_map]; omega) fun t s' I4 => ?_
        exact h _ _ (Gr.trans kg I4.out) ⟨t, rfl⟩
end
end
section
/-- a value's class and itself: signs as numbers -/
noncomputable def rank : Dv → Int × List Int
  | .none => (1, [])
  | .int i => (2, [i])
  | .str cs => (3, cs.map fun c : Nat => (c : Int))
  | .oct b => (4, b.map fun o => (o.toNat : Int))
/-- the same, a text as its octets -/
noncomputable def told : Dv → Int × List Int
  | .str cs => (3, (enc cs).map fun o => (o.toNat : Int))
  | d => rank d
section
variable {w : World} {O : OsState} {s : Shared} {A : Around} {E : Value → Shared → Prop} {Q : Value → Shared → Prop} {g : Heap} {L : Addr} {m : Str → Option Value} {led : Led}
theorem St.pair (I : St w O g L s m led) {h₀ : Heap} (k : Sub h₀ g) {a l : Addr} {i : Int} {t : Tok} {xs : List Value} {ns : List Int} (x : (a, .tup [.int i t, .ref l]) ∈ led) (y : (l, .list xs) ∈ led) (hx : Ints xs ns) : IsPair (fresh h₀ s.heap) (.ref a) (i, ns) := by
  obtain ⟨⟨o, e, c⟩, n⟩ := I.ld _ x
  obtain ⟨⟨o', e', c'⟩, n'⟩ := I.ld _ y
  exact ⟨a, t, l, xs, rfl, ⟨o, fresh_get e (sub_none k n), c⟩, ⟨o', fresh_get e' (sub_none k n'), c'⟩, hx⟩
theorem f_rank {d : Dv} {v : Value} {n : Nat} (hv : d.is v) (hd : d.good n) (hn : n < 1000) (R : Room A 1) (X : Sta w s.heap) (hg : s.gens = #[]) (ho : s.os = O)
    (h : ∀ v' s', Gr O s.heap s' → IsPair (fresh s.heap s'.heap) v' (rank d) → Q v' s') : wpC (Mw w) A (call (.ref 171) [v]) Q E s := by
  refine c_enter1 [("value", v)] R X hg ho (by with_unfolding_all rfl) (by with_unfolding_all rfl) (by with_unfolding_all rfl) (locs (by with_unfolding_all rfl)) ?_
  intro L s₁ I
  cases d with
  | none =>
    obtain rfl := hv
    repeat tm_at "s"
    rename_i I9
    exact h _ _ I9.out (I9.pair (Sub.refl _) (by tm_at "m") (by tm_at "m") .nil)
  | int i =>
    obtain ⟨u, rfl⟩ := hv
    repeat tm_at "s"
    rename_i I9
    exact h _ _ I9.out (I9.pair (Sub.refl _) (by tm_at "m") (by tm_at "m") (.cons .nil))
  | str cs =>
    obtain ⟨u, rfl⟩ := hv
    obtain ⟨hd1, hd2⟩ := hd
    repeat tm_at "s"
    refine e_CompI (by with_reducible assumption) cs.length (SignAt ⟨cs.toArray⟩) (fun i g' ys led' => led' = [] ∧ Ints ys ((cs.take i).map fun c : Nat => (c : Int))) R.h (by omega) (by rfl) ?_ ?_ ?_ ?_
    · repeat tm_at "s"
      exact iter_str (by with_reducible assumption) rfl fun it s' y I' => ⟨y, I'⟩
    · intro g' _
      exact ⟨rfl, .nil⟩
    · rintro i g' C D s' mC led' ys v it o oL kg hi ⟨c, u, ec, rfl⟩ ⟨rfl, hx⟩ I3 hm
      have ec' : cs[i]? = some c := by simpa using ec
      refine t_none ?_
      repeat tm_at "s"
      refine ⟨_, _, _, Sub.refl _, by with_reducible assumption, rfl, ?_⟩
      rw [List.take_add_one, ec']
      simpa using hx.snoc
    · rintro g' s' led' D ys kg I3 ⟨rfl, hx⟩
      rw [List.take_of_length_le (Nat.le_refl _)] at hx
      repeat tm_at "s"
      rename_i I9
      exact h _ _ (Gr.trans kg I9.out) (I9.pair kg (by tm_at "m") (by tm_at "m") hx)
  | oct b =>
    obtain ⟨u, rfl⟩ := hv
    have hd : b.length ≤ n := hd
    repeat tm_at "s"
    refine e_CompI (by with_reducible assumption) b.toArray.size (OctAt b) (fun i g' ys led' => led' = [] ∧ Ints ys ((b.take i).map fun o => (o.toNat : Int))) R.h (by rw [List.size_toArray]; omega) (by rfl) ?_ ?_ ?_ ?_
    · repeat tm_at "s"
      exact iter_bytes (by with_reducible assumption) rfl fun it s' y I' => ⟨y, I'⟩
    · intro g' _
      exact ⟨rfl, .nil⟩
    · rintro i g' C D s' mC led' ys v it o oL kg hi ⟨c, u, ec, rfl⟩ ⟨rfl, hx⟩ I3 hm
      have ec' : b[i]? = some c := by simpa using ec
      refine t_none ?_
      repeat tm_at "s"
      refine ⟨_, _, _, Sub.refl _, by with_reducible assumption, rfl, ?_⟩
      rw [List.take_add_one, ec']
      simpa using hx.snoc
    · rintro g' s' led' D ys kg I3 ⟨rfl, hx⟩
      rw [List.take_of_length_le (by simp)] at hx
      repeat tm_at "s"
      rename_i I9
      exact h _ _ (Gr.trans kg I9.out) (I9.pair kg (by tm_at "m") (by tm_at "m") hx)
end
end
section
section
variable {w : World} {O : OsState} {s : Shared} {A : Around} {E : Value → Shared → Prop} {Q : Value → Shared → Prop} {g : Heap} {L : Addr} {m : Str → Option Value} {led : Led}
theorem k_rankG {d : Dv} {v : Value} {n k : Nat} (hv : d.is v) (hd : d.good n) (hn : n < 1000) (R : Room A (k + 1)) (I : St w O g L s m led) (h : ∀ v' s', Gr O s.heap s' → St w O g L s' m led → IsPair (fresh s.heap s'.heap) v' (rank d) → Q v' s') : wpC (Mw w) A (call (.ref 171) [v]) Q E s :=
  f_rank hv hd hn (R.less (by omega)) I.stah I.gens I.os fun v' s' G p => h v' s' G (I.gr G) p
theorem f_told {d : Dv} {v : Value} {n : Nat} (hv : d.is v) (hd : d.good n) (hn : n < 1000) (R : Room A 2) (X : Sta w s.heap) (hg : s.gens = #[]) (ho : s.os = O)
    (h : ∀ v' s', Gr O s.heap s' → IsPair (fresh s.heap s'.heap) v' (told d) → Q v' s') : wpC (Mw w) A (call (.ref 176) [v]) Q E s := by
  refine c_enter1 [("value", v)] R X hg ho (by with_unfolding_all rfl) (by with_unfolding_all rfl) (by with_unfolding_all rfl) (locs (by with_unfolding_all rfl)) ?_
  intro L s₁ I
  cases d with
  | none =>
    obtain rfl := hv
    repeat tm_at "s"
    exact k_rankG (d := .none) rfl trivial hn (R.deeper _) (by with_reducible assumption) fun v' s' G I' p => h v' s' I'.out (p.mono (fresh_low (St.keep (by with_reducible assumption))))
  | int i =>
    obtain ⟨u, rfl⟩ := hv
    repeat tm_at "s"
    exact k_rankG (d := .int i) ⟨_, rfl⟩ hd hn (R.deeper _) (by with_reducible assumption) fun v' s' G I' p => h v' s' I'.out (p.mono (fresh_low (St.keep (by with_reducible assumption))))
  | oct b =>
    obtain ⟨u, rfl⟩ := hv
    repeat tm_at "s"
    exact k_rankG (d := .oct b) ⟨_, rfl⟩ hd hn (R.deeper _) (by with_reducible assumption) fun v' s' G I' p => h v' s' I'.out (p.mono (fresh_low (St.keep (by with_reducible assumption))))
  | str cs =>
    obtain ⟨u, rfl⟩ := hv
    obtain ⟨hd1, hd2⟩ := hd
    have he := enc_le cs
    repeat tm_at "s"
    refine e_CompI (by with_reducible assumption) (enc cs).toArray.size (OctAt (enc cs)) (fun i g' ys led' => led' = [] ∧ Ints ys (((enc cs).take i).map fun o => (o.toNat : Int))) R.h (by rw [List.size_toArray]; omega) (by rfl) ?_ ?_ ?_ ?_
    · repeat tm_at "s"
      refine c_encode (by with_reducible assumption) (fun c hc => (hd1 c (by simpa using hc)).2) (by show 4 * cs.toArray.size < 1000000; rw [List.size_toArray]; omega) fun t s' I' => ?_
      exact iter_bytes (by with_reducible assumption) rfl fun it s' y I' => ⟨y, I'⟩
    · intro g' _
      exact ⟨rfl, .nil⟩
    · rintro i g' C D s' mC led' ys v it o oL kg hi ⟨c, u, ec, rfl⟩ ⟨rfl, hx⟩ I3 hm
      have ec' : (enc cs)[i]? = some c := by simpa using ec
      refine t_none ?_
      repeat tm_at "s"
      refine ⟨_, _, _, Sub.refl _, by with_reducible assumption, rfl, ?_⟩
      rw [List.take_add_one, ec']
      simpa using hx.snoc
    · rintro g' s' led' D ys kg I3 ⟨rfl, hx⟩
      rw [List.take_of_length_le (by simp)] at hx
      repeat tm_at "s"
      rename_i I9
      exact h _ _ (Gr.trans kg I9.out) (I9.pair kg (by tm_at "m") (by tm_at "m") hx)
end
end
section
noncomputable def nums (b : List UInt8) : List Int := b.map fun o => (o.toNat : Int)
theorem clipAt_nat {n : Nat} {k : Nat} (h : k ≤ n) : clipAt n (k : Int) = k := by
  unfold clipAt; split <;> omega
theorem esc_ge : ∀ b : List UInt8, b.length ≤ (b.flatMap esc).length
  | [] => by simp
  | o :: r => by
    have := esc_ge r
    have h1 : 1 ≤ (esc o).length := by unfold esc; split <;> simp
    simp only [List.flatMap_cons, List.length_append, List.length_cons]
    omega
/-- what stands behind so many octets of the escaped ones -/
theorem tail_at {pre x rest : List UInt8} {i : Nat} (_h : i ≤ x.length) : (pre ++ (ended x ++ rest)).drop (pre.length + ((x.take i).flatMap esc).length) = (x.drop i).flatMap esc ++ ([0, 0] ++ rest) := by
  have e : x.flatMap esc = (x.take i).flatMap esc ++ (x.drop i).flatMap esc := by rw [← List.flatMap_append, List.take_append_drop]
  unfold ended
  rw [e, List.drop_append, List.drop_of_length_le (by omega), List.nil_append, show pre.length + ((x.take i).flatMap esc).length - pre.length = ((x.take i).flatMap esc).length by omega]
  simp only [List.append_assoc]
  rw [List.drop_left]
theorem cut_at {l t : List UInt8} {a n m : Nat} (h : l.drop a = t) (ha : a + n ≤ l.length) (_hm : m = a + n) : (l.drop a).take (m - a) = t.take n := by
  subst _hm; rw [h]; congr 1; omega
section
variable {w : World} {O : OsState} {s : Shared} {A : Around} {E : Value → Shared → Prop} {Q : Value → Shared → Prop} {g : Heap} {L : Addr} {m : Str → Option Value} {led : Led}
theorem f_body {pre x rest : List UInt8} {t u : Tok} (hz : (pre ++ (ended x ++ rest)).length < 100000) (R : Room A 1) (X : Sta w s.heap) (hg : s.gens = #[]) (ho : s.os = O)
    (h : ∀ a l xs tt s', Gr O s.heap s' → At s'.heap a (.tup [.ref l, .int ((pre.length + (ended x).length : Nat) : Int) tt]) → At s'.heap l (.list xs) → Ints xs (nums x) → s.heap.get? a = none → s.heap.get? l = none → a ≠ l → Q (.ref a) s') :
    wpC (Mw w) A (call (.ref 183) [.bytes (pre ++ (ended x ++ rest)).toArray t, .int (pre.length : Int) u]) Q E s := by
  refine c_enter1 [("at", .int (pre.length : Int) u), ("octets", .bytes (pre ++ (ended x ++ rest)).toArray t)] R X hg ho (by with_unfolding_all rfl) (by with_unfolding_all rfl) (by with_unfolding_all rfl) (locs (by with_unfolding_all rfl)) ?_
  intro L s₁ I
  generalize hl : pre ++ (ended x ++ rest) = l at *
  have hlen : l.length = pre.length + ((ended x).length + rest.length) := by rw [← hl]; simp
  have hel : (ended x).length = (x.flatMap esc).length + 2 := by unfold ended; simp
  repeat tm_at "s"
  rename_i a _ _ _ _
  refine x_WhileX (by with_reducible assumption) (fun k g' m' led' => ∃ i ai ti xs, i ≤ x.length ∧ k = x.length - i ∧ ai = ((pre.length + ((x.take i).flatMap esc).length : Nat) : Int) ∧ m' (Str.ofString "at") = some (.int ai ti) ∧
      m' (Str.ofString "octets") = some (.bytes l.toArray t) ∧ m' (Str.ofString "found") = some (.ref a) ∧ led' = [(a, .list xs)] ∧ Ints xs (nums (x.take i))) (fun _ _ _ => False) x.length
    ⟨0, _, _, [], Nat.zero_le _, rfl, rfl, by tm_at "v", by tm_at "v", by tm_at "v", rfl, .nil⟩ ?_ (fun _ _ _ _ _ _ q => q.elim)
  rintro k g' s' m' led' kg ⟨i, _, ti, xs, hi, rfl, rfl, ha, ht, hf, rfl, hx⟩ I3
  have htl := tail_at (pre := pre) (rest := rest) hi
  rw [hl] at htl
  have hxl := hx.length
  have hnl : (nums (x.take i)).length = i := by unfold nums; rw [List.length_map, List.length_take]; omega
  have hesc : (x.flatMap esc).length = ((x.take i).flatMap esc).length + ((x.drop i).flatMap esc).length := by
    have e : x.flatMap esc = (x.take i).flatMap esc ++ (x.drop i).flatMap esc := by rw [← List.flatMap_append, List.take_append_drop]
    rw [e, List.length_append]
  generalize hp : pre.length + ((x.take i).flatMap esc).length = p at *
  have hget : ∀ j, l[p + j]? = ((x.drop i).flatMap esc ++ ([0, 0] ++ rest))[j]? := fun j => by rw [← htl, List.getElem?_drop]
  repeat tm_at "s"
  refine c_lenb (by with_reducible assumption) (by rw [List.size_toArray]; omega) fun t s' I' => ?_
  repeat tm_at "s"
  refine br_t (by rw [decide_eq_true_eq, List.size_toArray]; omega) ?_
  repeat tm_at "s"
  refine sub_bytes (by with_reducible assumption) (by omega) (by omega) (by omega) fun u s' I' => ?_
  have hge0 := esc_ge x
  have cut2 : ∀ (q n : Nat) (c : List UInt8), (l.drop q).take n = c → q + n ≤ l.length → (List.take ((some ((q + n : Nat) : Int)).elim l.length (clipAt l.length) - (some ((q : Nat) : Int)).elim 0 (clipAt l.length)) (List.drop ((some ((q : Nat) : Int)).elim 0 (clipAt l.length)) l)).toArray = c.toArray := fun q n c e hq => by
    show (List.take (clipAt l.length ((q + n : Nat) : Int) - clipAt l.length ((q : Nat) : Int)) (List.drop (clipAt l.length ((q : Nat) : Int)) l)).toArray = _
    rw [clipAt_nat hq, clipAt_nat (by omega), show q + n - q = n by omega, e]
  have dr : ∀ j, l.drop (p + j) = ((x.drop i).flatMap esc ++ ([0, 0] ++ rest)).drop j := fun j => by rw [← htl, List.drop_drop]
  rcases Nat.lt_or_ge i x.length with hlt | hge
  · have hdrop : x.drop i = x[i] :: x.drop (i + 1) := List.drop_eq_getElem_cons hlt
    have et := esc_take (b := x) (i := i) (List.getElem?_eq_getElem hlt)
    have nt : nums (x.take (i + 1)) = nums (x.take i) ++ [(x[i].toNat : Int)] := by unfold nums; rw [List.take_add_one, List.getElem?_eq_getElem hlt, List.map_append]; rfl
    rw [hdrop] at hget dr
    generalize x[i] = o at hget dr et nt
    by_cases ho0 : o = 0
    · subst ho0
      have g0 : l.getD ((p : Int)).toNat 0 = 0 := by
        have := hget 0
        rw [List.getD_eq_getElem?_getD, Int.toNat_natCast]
        rw [Nat.add_zero] at this; rw [this]; rfl
      rw [g0]
      repeat tm_at "s"
      refine br_f (by decide) ?_
      repeat tm_at "s"
      refine sub_bslice (by with_reducible assumption) (IsPart.int _ _) (IsPart.int _ _) (by assumption) (by omega) fun u s' I' => ?_
      rw [show ((p : Int) + 1) = ((p + 1 : Nat) : Int) by omega, show ((p : Int) + 2) = ((p + 1 + 1 : Nat) : Int) by omega, cut2 (p + 1) 1 [255] (by rw [dr]; simp [esc]) (by omega)]
      repeat tm_at "s"
      refine c_bytes_ints (ns := [255]) R.h (by with_reducible assumption) (St.at (by with_reducible assumption) (by tm_at "m")).isList (Ints.cons .nil).are (fun i hi => by rw [List.mem_singleton.mp hi]; decide) (by simp) fun t s' I' => ?_
      repeat tm_at "s"
      refine br_t (by decide) ?_
      repeat tm_at "s"
      rename_i I9
      have I10 := I9.drop (led' := [(a, _)]) (List.sublist_cons_self ..)
      refine ⟨x.length - (i + 1), _, _, _, by omega, Sub.refl _, I10, i + 1, _, _, _, hlt, rfl, ?_, by tm_at "v", by tm_at "v", by tm_at "v", rfl, ?_⟩
      · rw [et, List.length_append, show esc 0 = [0, 255] from rfl]; simp only [List.length_cons, List.length_nil]; omega
      · rw [nt]; exact hx.snoc
    · have g0 : l.getD ((p : Int)).toNat 0 = o := by
        have := hget 0
        rw [List.getD_eq_getElem?_getD, Int.toNat_natCast]
        rw [Nat.add_zero] at this; rw [this]; simp [esc, ho0]
      rw [g0]
      have hpos : 0 < o.toNat := by
        rcases Nat.eq_zero_or_pos o.toNat with q | q
        · exact absurd (UInt8.toNat_inj.mp (q.trans rfl)) ho0
        · exact q
      repeat tm_at "s"
      refine br_t (decide_eq_true (by omega)) ?_
      repeat tm_at "s"
      refine sub_bytes (by with_reducible assumption) (by omega) (by omega) (by omega) fun u s' I' => ?_
      rw [g0]
      repeat tm_at "s"
      refine ⟨x.length - (i + 1), _, _, _, by omega, Sub.refl _, by with_reducible assumption, i + 1, _, _, _, hlt, rfl, ?_, by tm_at "v", by tm_at "v", by tm_at "v", rfl, ?_⟩
      · rw [et, List.length_append, show esc o = [o] from if_neg ho0]; simp only [List.length_cons, List.length_nil]; omega
      · rw [nt]; exact hx.snoc
  · have hdrop : x.drop i = [] := List.drop_eq_nil_of_le hge
    rw [hdrop] at hget dr
    have g0 : l.getD ((p : Int)).toNat 0 = 0 := by
        have := hget 0
        rw [List.getD_eq_getElem?_getD, Int.toNat_natCast]
        rw [Nat.add_zero] at this; rw [this]; rfl
    rw [g0]
    repeat tm_at "s"
    refine br_f (by decide) ?_
    repeat tm_at "s"
    refine sub_bslice (by with_reducible assumption) (IsPart.int _ _) (IsPart.int _ _) (by assumption) (by omega) fun u s' I' => ?_
    rw [show ((p : Int) + 1) = ((p + 1 : Nat) : Int) by omega, show ((p : Int) + 2) = ((p + 1 + 1 : Nat) : Int) by omega, cut2 (p + 1) 1 [0] (by rw [dr]; simp [esc]) (by omega)]
    repeat tm_at "s"
    refine c_bytes_ints (ns := [255]) R.h (by with_reducible assumption) (St.at (by with_reducible assumption) (by tm_at "m")).isList (Ints.cons .nil).are (fun i hi => by rw [List.mem_singleton.mp hi]; decide) (by simp) fun t s' I' => ?_
    repeat tm_at "s"
    refine br_f (by decide) ?_
    repeat tm_at "s"
    refine sub_bslice (by with_reducible assumption) (IsPart.int _ _) (IsPart.int _ _) (by assumption) (by omega) fun u s' I' => ?_
    rw [show ((p : Int) + 2) = ((p + 2 : Nat) : Int) by omega, cut2 p 2 [0, 0] (by rw [← Nat.add_zero p, dr]; simp) (by omega)]
    repeat tm_at "s"
    refine c_bytes_int (by with_reducible assumption) (by decide) (by decide) fun t s' I' => ?_
    repeat tm_at "s"
    refine br_t (by decide) ?_
    repeat tm_at "s"
    rename_i I9
    have hx' : Ints xs (nums x) := by rw [List.take_of_length_le hge] at hx; exact hx
    have e : (p : Int) + 2 = ((pre.length + (ended x).length : Nat) : Int) := by
      rw [List.take_of_length_le hge] at hp; omega
    rw [e] at I9
    exact h _ _ _ _ _ (Gr.trans kg I9.out) (I9.at List.mem_cons_self) (I9.at (by tm_at "m")) hx' (sub_none kg (I9.ld _ List.mem_cons_self).2) (sub_none kg (I9.ld (a, _) (by tm_at "m")).2) (I9.ne (b := a) (c' := .list xs) (by tm_at "m"))
end
end
section
theorem be8_at {n j : Nat} (h : j < 8) : (be8 n)[j]? = some (n / 256 ^ (7 - j) % 256).toUInt8 := by
  unfold be8 les
  rw [List.getElem?_map, List.getElem?_reverse (by simpa using h), List.length_map, List.length_range, List.getElem?_map, List.getElem?_range (by omega)]
  simp only [Option.map_some, Int.toNat_natCast]
theorem be8_step {n j : Nat} (h : j < 8) : n / 256 ^ (8 - j) * 256 + n / 256 ^ (7 - j) % 256 = n / 256 ^ (8 - (j + 1)) := by
  have e : 256 ^ (8 - j) = 256 ^ (7 - j) * 256 := by rw [show 8 - j = 7 - j + 1 by omega, Nat.pow_succ]
  rw [e, ← Nat.div_div_eq_div_mul, show 8 - (j + 1) = 7 - j by omega]
  have := Nat.div_add_mod (n / 256 ^ (7 - j)) 256
  omega
noncomputable def flat (c : Col) (ds : List Dv) : List UInt8 := (ds.map (part c)).flatten
noncomputable def toldK (c : Col) (d : Dv) : Int × List Int := told (kept c d)
section
variable {w : World} {O : OsState} {s : Shared} {A : Around} {E : Value → Shared → Prop} {Q : Value → Shared → Prop} {g : Heap} {L : Addr} {m : Str → Option Value} {led : Led}
/-- a pair, frozen with the rest -/
theorem St.pairB (I : St w O g L s m led) {h₀ : Heap} (k : Sub h₀ g) {led' : Led} (hs : led'.Sublist led) {a l : Addr} {i : Int} {t : Tok} {xs : List Value} {ns : List Int} (x : (a, .tup [.int i t, .ref l]) ∈ led) (y : (l, .list xs) ∈ led) (hx : Ints xs ns)
    (na : a ∉ led'.map (·.1)) (nl : l ∉ led'.map (·.1)) : Sub g (Mine.base s.heap L led') ∧ St w O (Mine.base s.heap L led') L s m led' ∧ IsPair (fresh h₀ (Mine.base s.heap L led')) (.ref a) (i, ns) := by
  obtain ⟨k1, _, k3⟩ := (I.drop hs).base
  obtain ⟨⟨o, e, c⟩, n⟩ := I.ld _ x
  obtain ⟨⟨o', e', c'⟩, n'⟩ := I.ld _ y
  have nd := I.nd
  rw [List.nodup_cons] at nd
  have hb : ∀ {b o}, (∃ c, (b, c) ∈ led) → b ∉ led'.map (·.1) → s.heap.get? b = some o → (Mine.base s.heap L led').get? b = some o := fun {b o} ⟨c, hm⟩ hn e => base_get e (fun q => nd.1 (by
    have z := List.mem_map_of_mem (f := fun p : Addr × Cell => p.1) hm
    rw [← q]; exact z)) fun p hp q => hn (by
    have z := List.mem_map_of_mem (f := fun p : Addr × Cell => p.1) hp
    rw [← q]; exact z)
  exact ⟨k1, k3, ⟨a, t, l, xs, rfl, ⟨o, fresh_get (hb ⟨_, x⟩ na e) (sub_none k n), c⟩, ⟨o', fresh_get (hb ⟨_, y⟩ nl e') (sub_none k n'), c'⟩, hx⟩⟩
theorem k_body {pre x rest : List UInt8} {l : List UInt8} {at' : Int} {t u : Tok} {k : Nat} (hl : l = pre ++ (ended x ++ rest)) (ha : at' = (pre.length : Int)) (hz : l.length < 100000) (R : Room A (k + 1)) (I : St w O g L s m led)
    (h : ∀ a l xs tt s', St w O g L s' m ((a, .tup [.ref l, .int ((pre.length + (ended x).length : Nat) : Int) tt]) :: (l, .list xs) :: led) → Ints xs (nums x) → Q (.ref a) s') :
    wpC (Mw w) A (call (.ref 183) [.bytes l.toArray t, .int at' u]) Q E s := by
  subst hl ha
  refine f_body hz (R.less (by omega)) I.stah I.gens I.os fun a l xs tt s' G ha hl hx na nl hne => h a l xs tt s' ?_ hx
  have J := I.take G hl nl
  refine ⟨J.sta, J.ns, J.keep, J.nL, fun p hp => ?_, ?_, J.gens, J.os⟩
  · rcases List.mem_cons.mp hp with rfl | hp
    · exact ⟨ha, sub_none I.keep na⟩
    · exact J.ld p hp
  · have nd := J.nd
    rw [List.nodup_cons] at nd
    rw [List.map_cons, List.nodup_cons, List.nodup_cons]
    refine ⟨fun hm => ?_, fun hm => ?_, nd.2⟩
    · rcases List.mem_cons.mp hm with q | q
      · obtain ⟨o, _, _, e, _⟩ := I.ns
        rw [q] at e; rw [show s.heap.get? a = none from na] at e; cases e
      · exact nd.1 q
    · rcases List.mem_cons.mp (by simpa using hm : a ∈ l :: led.map (·.1)) with q | q
      · exact hne q
      · obtain ⟨p, hp, q⟩ := List.mem_map.mp q
        obtain ⟨o, e, _⟩ := (I.ld p hp).1
        rw [q] at e; rw [show s.heap.get? a = none from na] at e; cases e
end
end
section
theorem flat_take {c : Col} {ds : List Dv} {i : Nat} {d : Dv} (e : ds[i]? = some d) : flat c (ds.take (i + 1)) = flat c (ds.take i) ++ part c d := by
  unfold flat; rw [List.take_add_one, e]; simp
theorem flat_split {c : Col} {ds : List Dv} {i : Nat} {d : Dv} (e : ds[i]? = some d) : flat c ds = flat c (ds.take i) ++ (part c d ++ flat c (ds.drop (i + 1))) := by
  have h : ds = ds.take i ++ d :: ds.drop (i + 1) := by
    conv => lhs; rw [← List.take_append_drop i ds]
    congr 1
    obtain ⟨hi, rfl⟩ := List.getElem?_eq_some_iff.mp e
    exact List.drop_eq_getElem_cons hi
  conv => lhs; rw [h]
  unfold flat
  rw [List.map_append, List.flatten_append, List.map_cons, List.flatten_cons]
theorem part_ne (c : Col) (d : Dv) : 0 < (part c d).length := by cases d <;> simp [part]
theorem flat_ge (c : Col) : ∀ ds : List Dv, ds.length ≤ (flat c ds).length
  | [] => Nat.zero_le _
  | d :: r => by
    have := flat_ge c r
    have := part_ne c d
    unfold flat at *
    rw [List.map_cons, List.flatten_cons, List.length_append, List.length_cons]; omega
theorem cutB {l c : List UInt8} {lo hi : Int} (q n : Nat) (hlo : lo = (q : Int)) (hhi : hi = ((q + n : Nat) : Int)) (e : (l.drop q).take n = c) (hq : q + n ≤ l.length) : (List.take ((some hi).elim l.length (clipAt l.length) - (some lo).elim 0 (clipAt l.length)) (List.drop ((some lo).elim 0 (clipAt l.length)) l)).toArray = c.toArray := by
  subst hlo hhi
  show (List.take (clipAt l.length ((q + n : Nat) : Int) - clipAt l.length ((q : Nat) : Int)) (List.drop (clipAt l.length ((q : Nat) : Int)) l)).toArray = _
  rw [clipAt_nat hq, clipAt_nat (by omega), show q + n - q = n by omega, e]
theorem toldK_take {c : Col} {ds : List Dv} {i : Nat} {d : Dv} (e : ds[i]? = some d) : (ds.take (i + 1)).map (toldK c) = (ds.take i).map (toldK c) ++ [toldK c d] := by
  rw [List.take_add_one, e]; simp
section
variable {w : World} {O : OsState} {s : Shared} {A : Around} {E : Value → Shared → Prop} {Q : Value → Shared → Prop} {g : Heap} {L : Addr} {m : Str → Option Value} {led : Led}
theorem St.out1 {a b : Addr} {c c' : Cell} (I : St w O g L s m ((a, c) :: led)) (x : (b, c') ∈ led) : a ∉ ([(b, c')] : Led).map (·.1) := fun q => I.ne x (by simpa using q)
theorem St.out2 {p : Addr × Cell} {a b : Addr} {c c' : Cell} (I : St w O g L s m (p :: (a, c) :: led)) (x : (b, c') ∈ led) : a ∉ ([(b, c')] : Led).map (·.1) := (I.drop (List.sublist_cons_self ..)).out1 x
theorem f_read {c : Col} {ds : List Dv} {t : Tok} {n : Nat} (hd : ∀ d ∈ ds, d.good n) (hz : (flat c ds).length < 100000) (R : Room A 2) (X : Sta w s.heap) (hg : s.gens = #[]) (ho : s.os = O)
    (h : ∀ a xs s', Gr O s.heap s' → At s'.heap a (.list xs) → Pairs (fresh s.heap s'.heap) xs (ds.map (toldK c)) → s.heap.get? a = none → Q (.ref a) s') :
    wpC (Mw w) A (call (.ref 190) [.bytes (flat c ds).toArray t]) Q E s := by
  refine c_enter1 [("octets", .bytes (flat c ds).toArray t)] R X hg ho (by with_unfolding_all rfl) (by with_unfolding_all rfl) (by with_unfolding_all rfl) (locs (by with_unfolding_all rfl)) ?_
  intro L s₁ I
  repeat tm_at "s"
  refine x_Swap [Str.ofString "found", Str.ofString "at"] ?_
  repeat tm_at "s"
  rename_i a _ _ _ _ _ _ _ I9
  refine c_unpack R.h I9 (I9.at List.mem_cons_self) rfl fun s' I' => ?_
  have I' := I'.drop (led' := [(a, .list [])]) (List.sublist_cons_self ..)
  refine o_cons (c_bindName ?_)
  repeat tm_at "s"
  refine o_cons (c_bindName ?_)
  repeat tm_at "s"
  refine o_nil ?_
  repeat tm_at "s"
  generalize hl : flat c ds = l at *
  refine x_WhileX (by with_reducible assumption) (fun k g' m' led' => ∃ i ai ti xs, i ≤ ds.length ∧ k = ds.length - i ∧ ai = (((flat c (ds.take i)).length : Nat) : Int) ∧ m' (Str.ofString "at") = some (.int ai ti) ∧
      m' (Str.ofString "octets") = some (.bytes l.toArray t) ∧ m' (Str.ofString "found") = some (.ref a) ∧ led' = [(a, .list xs)] ∧ Pairs (fresh s.heap g') xs ((ds.take i).map (toldK c)))
    (fun g' m' led' => ∃ ai ti xs, ai = ((l.length : Nat) : Int) ∧ m' (Str.ofString "at") = some (.int ai ti) ∧
      m' (Str.ofString "octets") = some (.bytes l.toArray t) ∧ m' (Str.ofString "found") = some (.ref a) ∧ led' = [(a, .list xs)] ∧ Pairs (fresh s.heap g') xs (ds.map (toldK c))) ds.length
    ⟨0, _, _, [], Nat.zero_le _, rfl, rfl, by tm_at "v", by tm_at "v", by tm_at "v", rfl, .nil⟩ ?_ ?_
  · rintro k g' s' m' led' kg ⟨i, _, ti, xs, hi, rfl, rfl, ha, ht, hf, rfl, hx⟩ I3
    repeat tm_at "s"
    refine c_lenb (by with_reducible assumption) (by rw [List.size_toArray]; omega) fun tl s' I' => ?_
    repeat tm_at "s"
    rcases Nat.lt_or_ge i ds.length with hlt | hge
    · obtain ⟨d, ed⟩ : ∃ d, ds[i]? = some d := ⟨_, List.getElem?_eq_getElem hlt⟩
      have hgd := hd d (List.mem_of_getElem? ed)
      have hsp := flat_split (c := c) ed
      have hft := flat_take (c := c) ed
      have htt := toldK_take (c := c) ed
      rw [hl] at hsp
      have hpn := part_ne c d
      have hlen : l.length = (flat c (ds.take i)).length + ((part c d).length + (flat c (ds.drop (i + 1))).length) := by rw [hsp]; simp
      refine br_t (by rw [decide_eq_true_eq, List.size_toArray]; omega) ?_
      repeat tm_at "s"
      refine x_Swap [Str.ofString "tag", Str.ofString "at"] ?_
      repeat tm_at "s"
      refine sub_bytes (by with_reducible assumption) (by omega) (by omega) (by omega) fun u s' I' => ?_
      have hg0 : l.getD ((((flat c (ds.take i)).length : Nat) : Int)).toNat 0 = (part c d).headD 0 := by
        rw [List.getD_eq_getElem?_getD, Int.toNat_natCast, hsp, List.getElem?_append_right (Nat.le_refl _), Nat.sub_self, List.getElem?_append_left hpn]
        cases hq : part c d with
        | nil => rw [hq] at hpn; simp at hpn
        | cons x r => rfl
      rw [hg0]
      repeat tm_at "s"
      rename_i I9
      refine c_unpack R.h I9 (I9.at List.mem_cons_self) rfl fun s' I' => ?_
      have I' := I'.drop (led' := [(a, .list xs)]) (List.sublist_cons_self ..)
      refine o_cons (c_bindName ?_)
      repeat tm_at "s"
      refine o_cons (c_bindName ?_)
      repeat tm_at "s"
      refine o_nil ?_
      repeat tm_at "s"
      generalize hp : flat c (ds.take i) = pre at *
      have hxl := hx.length
      have hxl2 : ((ds.take i).map (toldK c)).length ≤ ds.length := by rw [List.length_map, List.length_take]; omega
      have hdl : ds.length < 1000000 := by have := flat_ge c ds; rw [hl] at this; omega
      cases d with
      | none =>
        refine br_t (by rfl) ?_
        repeat tm_at "s"
        rename_i I9
        obtain ⟨k1, I10, hpair⟩ := I9.pairB (led' := [(a, _)]) kg (.cons _ (.cons _ (List.Sublist.refl _))) (i := 1) (ns := []) (by tm_at "m") (by tm_at "m") .nil (I9.out1 (by tm_at "m")) (I9.out2 (by tm_at "m"))
        refine ⟨ds.length - (i + 1), _, _, _, by omega, k1, I10, i + 1, _, _, _, hlt, rfl, ?_, by tm_at "v", by tm_at "v", by tm_at "v", rfl, ?_⟩
        · rw [hft, List.length_append]; simp [part]
        · rw [htt]; exact (hx.mono (sub_fresh k1)).snoc hpair
      | int z =>
        refine br_f (by rfl) ?_
        repeat tm_at "s"
        refine br_t (by rfl) ?_
        repeat tm_at "s"
        have hz8 := be8_len (z + 9223372036854775808).toNat
        obtain ⟨hz1, hz2⟩ := hgd
        have hpl : (part c (.int z)).length = 9 := by unfold part; rw [List.length_cons, hz8]
        have hcut : (l.drop (pre.length + 1)).take 8 = be8 (z + 9223372036854775808).toNat := by
          rw [hsp, List.drop_append, List.drop_of_length_le (by omega), List.nil_append, show pre.length + 1 - pre.length = 1 by omega]
          show List.take 8 (be8 _ ++ _) = _
          rw [← hz8, List.take_left]
        generalize hzz : (z + 9223372036854775808).toNat = zz at *
        have hzl : zz < 18446744073709551616 := by omega
        refine x_ForI (by with_reducible assumption) (be8 zz).toArray.size (OctAt (be8 zz)) (fun j g2 m2 led2 => led2 = [(a, .list xs)] ∧ (∃ ni t, ni = ((zz / 256 ^ (8 - j) : Nat) : Int) ∧ m2 (Str.ofString "number") = some (.int ni t)) ∧ (∃ t, m2 (Str.ofString "at") = some (.int ((pre.length : Int) + 1) t)) ∧ m2 (Str.ofString "octets") = some (.bytes l.toArray t) ∧ m2 (Str.ofString "found") = some (.ref a) ∧
            (∃ t, m2 (Str.ofString "tag") = some (.int (((part c (.int z)).headD 0).toNat : Int) t))) R.h ?_ ?_ ?_ ?_
        · repeat tm_at "s"
          refine sub_bslice (by with_reducible assumption) (IsPart.int _ _) (IsPart.int _ _) (by assumption) (by omega) fun u s' I' => ?_
          rw [cutB (pre.length + 1) 8 (by omega) (by omega) hcut (by omega)]
          exact iter_bytes I' rfl fun it s' y I' => ⟨y, I'⟩
        · intro g2 k2
          exact ⟨rfl, ⟨_, _, by rw [show zz / 256 ^ (8 - 0) = 0 from Nat.div_eq_of_lt hzl], by tm_at "v"⟩, ⟨_, by tm_at "v"⟩, by tm_at "v", by tm_at "v", ⟨_, by tm_at "v"⟩⟩
        · rintro j g2 s' m2 led2 v it o k2 hj ⟨cc, uu, ec, rfl⟩ ⟨rfl, ⟨_, tn, rfl, hnum⟩, ⟨tat, hat⟩, hoc, hfo, ⟨ttg, htg⟩⟩ I4
          have hj8 : j < 8 := by rw [List.size_toArray, hz8] at hj; exact hj
          have ec' : cc = (zz / 256 ^ (7 - j) % 256).toUInt8 := by
            have e2 := be8_at (n := zz) hj8
            have e1 : (be8 zz)[j]? = some cc := by simpa using ec
            rw [e1] at e2; exact Option.some.inj e2
          repeat tm_at "s"
          refine o_mul (by with_reducible assumption) (mul_ok' (by decide) (by decide)) fun t s' I' => ?_
          repeat tm_at "s"
          refine ⟨_, _, _, Sub.refl _, by with_reducible assumption, rfl, ⟨_, _, ?_, by tm_at "v"⟩, ⟨_, by tm_at "v"⟩, by tm_at "v", by tm_at "v", ⟨_, by tm_at "v"⟩⟩
          rw [← be8_step hj8, ec']
          have : (zz / 256 ^ (7 - j) % 256).toUInt8.toNat = zz / 256 ^ (7 - j) % 256 := by
            have := Nat.mod_lt (zz / 256 ^ (7 - j)) (by decide : 0 < 256)
            simp
          rw [this]
          push_cast; rfl
        · rintro g2 s' m2 led2 k2 I4 ⟨rfl, ⟨_, tn, rfl, hnum⟩, ⟨tat, hat⟩, hoc, hfo, ⟨ttg, htg⟩⟩
          repeat tm_at "s"
          refine o_pow (by with_reducible assumption) (by decide) (by decide) (by decide) fun t s' I' => ?_
          repeat tm_at "s"
          rename_i I9
          have ez : (((zz / 256 ^ (8 - (be8 zz).toArray.size) : Nat) : Int)) - 2 ^ Int.toNat 63 = z := by
            rw [List.size_toArray, hz8]
            have : (2 : Int) ^ Int.toNat 63 = 9223372036854775808 := by decide
            rw [this]; omega
          obtain ⟨k3, I10, hpair⟩ := I9.pairB (led' := [(a, _)]) (kg.trans k2) (.cons _ (.cons _ (List.Sublist.refl _))) (i := 2) (by tm_at "m") (by tm_at "m") (Ints.cons .nil) (I9.out1 (by tm_at "m")) (I9.out2 (by tm_at "m"))
          refine ⟨ds.length - (i + 1), _, _, _, by omega, k2.trans k3, I10, i + 1, _, _, _, hlt, rfl, ?_, by tm_at "v", by tm_at "v", by tm_at "v", rfl, ?_⟩
          · rw [hft, List.length_append, hpl]; omega
          · rw [htt, ez] at *
            exact (hx.mono (sub_fresh (k2.trans k3))).snoc hpair
      | str cs =>
        refine br_f (by rfl) ?_
        repeat tm_at "s"
        refine br_f (by rfl) ?_
        repeat tm_at "s"
        refine br_t (by rfl) ?_
        repeat tm_at "s"
        refine x_Unpack2 ?_
        repeat tm_at "s"
        refine k_body (pre := pre ++ [3]) (x := enc (c.of cs)) (rest := flat c (ds.drop (i + 1))) (by rw [hsp]; simp [part]) (by rw [List.length_append]; simp) hz (R.deeper _) (by with_reducible assumption) fun ab lb xb tt s' I' hxb => ?_
        refine c_unpack R.h I' (I'.at List.mem_cons_self) rfl fun s' I' => ?_
        have I' := I'.drop (led' := [(lb, .list xb), (a, .list xs)]) (List.sublist_cons_self ..)
        refine ⟨_, _, rfl, ?_⟩
        repeat tm_at "s"
        rename_i I9
        obtain ⟨k1, I10, hpair⟩ := I9.pairB (led' := [(a, _)]) kg (.cons _ (.cons _ (List.Sublist.refl _))) (ns := nums (enc (c.of cs))) (List.mem_cons_self) (List.mem_cons_of_mem _ List.mem_cons_self) hxb (I9.out1 (by tm_at "m")) (I9.out2 (by tm_at "m"))
        refine ⟨ds.length - (i + 1), _, _, _, by omega, k1, I10, i + 1, _, _, _, hlt, rfl, ?_, by tm_at "v", by tm_at "v", by tm_at "v", rfl, ?_⟩
        · rw [hft, List.length_append, List.length_append]; simp [part]; omega
        · rw [htt]; exact (hx.mono (sub_fresh k1)).snoc hpair
      | oct b =>
        refine br_f (by rfl) ?_
        repeat tm_at "s"
        refine br_f (by rfl) ?_
        repeat tm_at "s"
        refine br_f (by rfl) ?_
        repeat tm_at "s"
        refine br_t (by rfl) ?_
        repeat tm_at "s"
        refine x_Unpack2 ?_
        repeat tm_at "s"
        refine k_body (pre := pre ++ [4]) (x := b) (rest := flat c (ds.drop (i + 1))) (by rw [hsp]; simp [part]) (by rw [List.length_append]; simp) hz (R.deeper _) (by with_reducible assumption) fun ab lb xb tt s' I' hxb => ?_
        refine c_unpack R.h I' (I'.at List.mem_cons_self) rfl fun s' I' => ?_
        have I' := I'.drop (led' := [(lb, .list xb), (a, .list xs)]) (List.sublist_cons_self ..)
        refine ⟨_, _, rfl, ?_⟩
        repeat tm_at "s"
        rename_i I9
        obtain ⟨k1, I10, hpair⟩ := I9.pairB (led' := [(a, _)]) kg (.cons _ (.cons _ (List.Sublist.refl _))) (ns := nums (b)) (List.mem_cons_self) (List.mem_cons_of_mem _ List.mem_cons_self) hxb (I9.out1 (by tm_at "m")) (I9.out2 (by tm_at "m"))
        refine ⟨ds.length - (i + 1), _, _, _, by omega, k1, I10, i + 1, _, _, _, hlt, rfl, ?_, by tm_at "v", by tm_at "v", by tm_at "v", rfl, ?_⟩
        · rw [hft, List.length_append, List.length_append]; simp [part]; omega
        · rw [htt]; exact (hx.mono (sub_fresh k1)).snoc hpair
    · have hge' : i = ds.length := by omega
      subst hge'
      rw [List.take_of_length_le (Nat.le_refl _), hl] at ha
      rw [List.take_of_length_le (Nat.le_refl _)] at hx
      rw [List.take_of_length_le (Nat.le_refl _), hl]
      refine br_f (by simp) ?_
      exact ⟨_, _, _, Sub.refl _, by with_reducible assumption, _, _, _, rfl, by tm_at "v", ht, hf, rfl, hx⟩
  · rintro g' s' m' led' kg I3 ⟨_, ti, xs, rfl, ha, ht, hf, rfl, hx⟩
    repeat tm_at "s"
    refine c_lenb (by with_reducible assumption) (by rw [List.size_toArray]; omega) fun tl s' I' => ?_
    repeat tm_at "s"
    refine br_t (by simp) ?_
    repeat tm_at "s"
    exact h a xs _ (Gr.trans kg I'.out) (I'.at List.mem_cons_self) (hx.mono (sub_fresh I'.keep)) (sub_none kg (I'.ld _ List.mem_cons_self).2)
end
end
section
noncomputable def octs : Dv → List UInt8
  | .str cs => enc cs
  | .oct b => b
  | _ => [0, 0, 0]
section
variable {w : World} {O : OsState} {s : Shared} {A : Around} {E : Value → Shared → Prop} {Q : Value → Shared → Prop} {g : Heap} {L : Addr} {m : Str → Option Value} {led : Led}
theorem At.fresh {h h' : Heap} {a : Addr} {c : Cell} (x : At h' a c) (n : h.get? a = none) : At (fresh h h') a c := let ⟨o, e, i⟩ := x; ⟨o, fresh_get e n, i⟩
theorem k_read {c : Col} {ds : List Dv} {t : Tok} {n k : Nat} (hd : ∀ d ∈ ds, d.good n) (hz : (flat c ds).length < 100000) (R : Room A (k + 2)) (I : St w O g L s m led)
    (h : ∀ a xs s' g2, Sub g g2 → St w O g2 L s' m led → At g2 a (.list xs) → Pairs g2 xs (ds.map (toldK c)) → Q (.ref a) s') : wpC (Mw w) A (call (.ref 190) [.bytes (flat c ds).toArray t]) Q E s :=
  f_read hd hz (R.less (by omega)) I.stah I.gens I.os fun a xs s' G ha hp hf => by
    obtain ⟨k1, I2, k2⟩ := I.freeze G
    exact h a xs s' _ k1 I2 ((ha.fresh hf).sub k2) (hp.mono k2)
theorem k_told {d : Dv} {v : Value} {n k : Nat} (hv : d.is v) (hd : d.good n) (hn : n < 1000) (R : Room A (k + 2)) (I : St w O g L s m led)
    (h : ∀ v' s' g2, Sub g g2 → St w O g2 L s' m led → IsPair g2 v' (told d) → Q v' s') : wpC (Mw w) A (call (.ref 176) [v]) Q E s :=
  f_told hv hd hn (R.less (by omega)) I.stah I.gens I.os fun v' s' G hp => by
    obtain ⟨k1, I2, k2⟩ := I.freeze G
    exact h v' s' _ k1 I2 (hp.mono k2)
theorem k_rank {d : Dv} {v : Value} {n k : Nat} (hv : d.is v) (hd : d.good n) (hn : n < 1000) (R : Room A (k + 1)) (I : St w O g L s m led)
    (h : ∀ v' s' g2, Sub g g2 → St w O g2 L s' m led → IsPair g2 v' (rank d) → Q v' s') : wpC (Mw w) A (call (.ref 171) [v]) Q E s :=
  f_rank hv hd hn (R.less (by omega)) I.stah I.gens I.os fun v' s' G hp => by
    obtain ⟨k1, I2, k2⟩ := I.freeze G
    exact h v' s' _ k1 I2 (hp.mono k2)
theorem nums_back (b : List UInt8) : (nums b).map (fun n => n.toNat.toUInt8) = b := by
  unfold nums
  rw [List.map_map]
  conv => rhs; rw [← List.map_id b]
  refine List.map_congr_left fun x _ => ?_
  simp
theorem nums_mem {b : List UInt8} {i : Int} (h : i ∈ nums b) : 0 ≤ i ∧ i < 256 := by
  obtain ⟨o, _, rfl⟩ := List.mem_map.mp h
  have := oct_lt o; omega
theorem f_is_ended {d : Dv} {v : Value} {n : Nat} (hv : d.is v) (hd : d.good n) (hn : n < 1000) (R : Room A 3) (X : Sta w s.heap) (hg : s.gens = #[]) (ho : s.os = O)
    (h : ∀ s', Gr O s.heap s' → Q (.bool true) s') : wpC (Mw w) A (call (.ref 200) [v]) Q E s := by
  refine c_enter1 [("value", v)] R X hg ho (by with_unfolding_all rfl) (by with_unfolding_all rfl) (by with_unfolding_all rfl) (locs (by with_unfolding_all rfl)) ?_
  intro L s₁ I
  tm_at "s"
  tm_at "s"
  have hol : (octs d).length < 5000 := by
    cases d with
    | none => exact (by decide : 3 < 5000)
    | int i => exact (by decide : 3 < 5000)
    | str cs => have := enc_le cs; have := hd.2; show (enc cs).length < 5000; omega
    | oct b => have : b.length ≤ n := hd; show b.length < 5000; omega
  refine c_monoQ (Q := fun r s'' => ∃ g2 t, Sub s.heap g2 ∧ r = .bytes (octs d).toArray t ∧ St w O g2 L s'' (fun y => List.lookup y [(Str.ofString "value", v)]) []) ?_ ?_
  · cases d with
    | none =>
      obtain rfl := hv
      repeat tm_at "s"
      exact c_bytes_int (by with_reducible assumption) (by decide) (by decide) fun t s' I' => ⟨_, t, Sub.refl _, rfl, I'⟩
    | int i =>
      obtain ⟨u, rfl⟩ := hv
      repeat tm_at "s"
      exact c_bytes_int (by with_reducible assumption) (by decide) (by decide) fun t s' I' => ⟨_, t, Sub.refl _, rfl, I'⟩
    | str cs =>
      obtain ⟨u, rfl⟩ := hv
      repeat tm_at "s"
      refine k_told (d := .str cs) ⟨_, rfl⟩ hd hn (R.deeper _) (by with_reducible assumption) fun v' s' g2 k2 I' hp => ?_
      obtain ⟨a, t, l, xs, rfl, x1, x2, x3⟩ := hp.ok
      repeat tm_at "s"
      refine sub_tupT (j := 1) (by with_reducible assumption) (x1.sub (St.keep (by with_reducible assumption))).isTup (by decide) (by decide) rfl rfl fun s' I' => ?_
      repeat tm_at "s"
      refine c_bytes_ints (ns := nums (enc cs)) R.h (by with_reducible assumption) (x2.sub (St.keep (by with_reducible assumption))).isList x3.are (fun i hi => nums_mem hi) (by have := x3.length; rw [this]; show ((enc cs).map _).length ≤ _; rw [List.length_map]; exact Nat.le_of_lt (Nat.lt_trans hol (by decide))) fun t s' I' => ?_
      exact ⟨_, t, k2, by rw [nums_back]; rfl, I'⟩
    | oct b =>
      obtain ⟨u, rfl⟩ := hv
      repeat tm_at "s"
      refine k_told (d := .oct b) ⟨_, rfl⟩ hd hn (R.deeper _) (by with_reducible assumption) fun v' s' g2 k2 I' hp => ?_
      obtain ⟨a, t, l, xs, rfl, x1, x2, x3⟩ := hp.ok
      repeat tm_at "s"
      refine sub_tupT (j := 1) (by with_reducible assumption) (x1.sub (St.keep (by with_reducible assumption))).isTup (by decide) (by decide) rfl rfl fun s' I' => ?_
      repeat tm_at "s"
      refine c_bytes_ints (ns := nums (b)) R.h (by with_reducible assumption) (x2.sub (St.keep (by with_reducible assumption))).isList x3.are (fun i hi => nums_mem hi) (by have := x3.length; rw [this]; show ((b).map _).length ≤ _; rw [List.length_map]; exact Nat.le_of_lt (Nat.lt_trans hol (by decide))) fun t s' I' => ?_
      exact ⟨_, t, k2, by rw [nums_back]; rfl, I'⟩
  · rintro r s'' ⟨g2, t, k2, rfl, I2⟩
    repeat tm_at "s"
    refine c_bytes_ints (ns := [4]) R.h (by with_reducible assumption) (St.at (by with_reducible assumption) (by tm_at "m")).isList (Ints.cons .nil).are (fun i hi => by rw [List.mem_singleton.mp hi]; decide) (by simp) fun t4 s' I' => ?_
    repeat tm_at "s"
    have hel := ended_len (octs d)
    refine k_put_ended (by omega) (R.deeper _) (by with_reducible assumption) fun ab s' I' => ?_
    repeat tm_at "s"
    refine c_bytes_ba (by with_reducible assumption) (St.at (by with_reducible assumption) (by tm_at "m")) (by omega) fun t5 s' I' => ?_
    repeat tm_at "s"
    refine o_addb (by with_reducible assumption) (by simp; omega) fun t6 s' I' => ?_
    repeat tm_at "s"
    have e : ([(4 : Int)].map fun n => n.toNat.toUInt8).toArray ++ (ended (octs d)).toArray = (flat .binary [.oct (octs d)]).toArray := by simp [flat, part]
    rw [e]
    refine k_read (n := 5000) (fun d' hd' => by rw [List.mem_singleton.mp hd']; exact Nat.le_of_lt hol) (by simp [flat, part]; omega) (R.deeper _) (by with_reducible assumption) fun ra rx s' g3 k3 I' hra hrp => ?_
    have I' := I'.drop (led' := []) (List.nil_sublist _)
    repeat tm_at "s"
    refine e_CompI (by with_reducible assumption) (octs d).toArray.size (OctAt (octs d)) (fun i g' ys led' => led' = [] ∧ Ints ys (nums ((octs d).take i))) R.h (by rw [List.size_toArray]; omega) (by rfl) ?_ ?_ ?_ ?_
    · repeat tm_at "s"
      exact iter_bytes (by with_reducible assumption) rfl fun it s' y I' => ⟨y, I'⟩
    · intro g' _
      exact ⟨rfl, .nil⟩
    · rintro i g' C D s' mC led' ys v it o oL kg hi ⟨c, u, ec, rfl⟩ ⟨rfl, hx⟩ I3 hm
      have ec' : (octs d)[i]? = some c := by simpa using ec
      refine t_none ?_
      repeat tm_at "s"
      refine ⟨_, _, _, Sub.refl _, by with_reducible assumption, rfl, ?_⟩
      have : nums ((octs d).take (i + 1)) = nums ((octs d).take i) ++ [(c.toNat : Int)] := by unfold nums; rw [List.take_add_one, ec', List.map_append]; rfl
      rw [this]; exact hx.snoc
    · rintro g' s' led' D ys kg I3 ⟨rfl, hx⟩
      rw [List.take_of_length_le (by simp)] at hx
      repeat tm_at "s"
      rename_i tp s8 I8 ls s9 I9
      have hpp : IsPair s9.heap (.ref tp) (4, nums (octs d)) := ⟨tp, _, D, ys, rfl, I9.at (c := .tup [.int 4 _, .ref D]) (List.mem_cons_of_mem _ List.mem_cons_self), I9.at (c := .list ys) (List.mem_cons_of_mem _ (List.mem_cons_of_mem _ List.mem_cons_self)), hx⟩
      refine q_eql (show A.units + 3 < 9100 by have := R.u; omega) (hra.sub (kg.trans I9.keep)) (I9.at List.mem_cons_self) (hrp.mono (kg.trans I9.keep)) (.cons hpp .nil) ?_
      rw [decide_eq_true (show [Dv.oct (octs d)].map (toldK .binary) = [(4, nums (octs d))] from rfl)]
      exact h _ (Gr.trans (k2.trans (k3.trans kg)) I9.out)
end
end
section
/-- the values of a list -/
inductive Dvs : List Value → List Dv → Prop where
  | nil : Dvs [] []
  | cons {v : Value} {d : Dv} {vs : List Value} {ds : List Dv} : d.is v → Dvs vs ds → Dvs (v :: vs) (d :: ds)
theorem Dvs.snoc {vs : List Value} {ds : List Dv} (h : Dvs vs ds) {v : Value} {d : Dv} (x : d.is v) : Dvs (vs ++ [v]) (ds ++ [d]) := by
  induction h with
  | nil => exact .cons x .nil
  | cons y _ ih => exact .cons y ih
theorem Dvs.length {vs : List Value} {ds : List Dv} (h : Dvs vs ds) : vs.length = ds.length := by
  induction h with
  | nil => rfl
  | cons _ _ ih => rw [List.length_cons, List.length_cons, ih]
theorem Dvs.at {vs : List Value} {ds : List Dv} (h : Dvs vs ds) {i : Nat} {v : Value} (e : vs[i]? = some v) : ∃ d, ds[i]? = some d ∧ d.is v := by
  induction h generalizing i with
  | nil => simp at e
  | cons x _ ih => cases i with
    | zero => simp at e; subst e; exact ⟨_, rfl, x⟩
    | succ i => exact ih (by simpa using e)
theorem take_snoc {α β : Type} {f : α → β} {l : List α} {i : Nat} {x : α} (e : l[i]? = some x) : (l.take (i + 1)).map f = (l.take i).map f ++ [f x] := by
  rw [List.take_add_one, e]; simp
theorem kept_good {c : Col} {d : Dv} {n : Nat} (h : d.good n) : (kept c d).good n := by
  cases d with
  | str cs =>
    refine ⟨fun x hx => ?_, Nat.le_trans (c.of_len cs) h.2⟩
    cases c with
    | binary => exact h.1 x hx
    | nocase =>
      obtain ⟨y, hy, rfl⟩ := List.mem_map.mp hx
      unfold fold1; split
      · exact sign_small (by omega)
      · exact h.1 y hy
    | rtrim => exact h.1 x (List.mem_reverse.mp ((List.dropWhile_sublist _).mem (List.mem_reverse.mp hx)))
  | _ => exact h
theorem takeB (l : List UInt8) (k : Nat) : List.take ((some ((k : Nat) : Int)).elim l.length (clipAt l.length) - (none : Option Int).elim 0 (clipAt l.length)) (List.drop ((none : Option Int).elim 0 (clipAt l.length)) l) = l.take k := by
  show List.take (clipAt l.length (k : Int) - 0) (List.drop 0 l) = _
  rw [List.drop_zero, Nat.sub_zero]
  rcases Nat.le_total k l.length with h | h
  · rw [clipAt_nat h]
  · have : clipAt l.length (k : Int) = l.length := by unfold clipAt; split <;> omega
    rw [this, List.take_of_length_le (Nat.le_refl _), List.take_of_length_le h]
theorem part_len {c : Col} {d : Dv} {n : Nat} (h : d.good n) (hn : n < 100) : (part c d).length < 2000 := by
  cases d with
  | none => exact (by decide : 1 < 2000)
  | int i => show (be8 _).length + 1 < 2000; rw [be8_len]; decide
  | str cs =>
    have h1 := ended_len (enc (c.of cs)); have h2 := enc_le (c.of cs); have h3 := c.of_len cs; have h4 := h.2
    show (ended _).length + 1 < 2000; omega
  | oct b =>
    have h1 := ended_len b; have h2 : b.length ≤ n := h
    show (ended _).length + 1 < 2000; omega
theorem flat_len {c : Col} {n : Nat} (hn : n < 100) : ∀ ds : List Dv, (∀ d ∈ ds, d.good n) → (flat c ds).length ≤ 2000 * ds.length
  | [], _ => Nat.zero_le _
  | d :: r, h => by
    have h1 := flat_len (c := c) hn r fun x hx => h x (List.mem_cons_of_mem _ hx)
    have h2 := part_len (c := c) (h d List.mem_cons_self) hn
    unfold flat at *
    rw [List.map_cons, List.flatten_cons, List.length_append, List.length_cons]; omega
section
variable {w : World} {O : OsState} {s : Shared} {A : Around} {E : Value → Shared → Prop} {Q : Value → Shared → Prop} {g : Heap} {L : Addr} {m : Str → Option Value} {led : Led}
-- a name in a cell
local macro_rules | `(tactic| tm_at "c") => `(tactic| ((with_reducible show wpC _ _ (eval (PySem.Expr.Name _ _) _) _ _ _); refine v_cellE (by with_unfolding_all rfl) (by with_reducible assumption) (by first | with_reducible assumption | exact cell_sub (by with_reducible assumption) (by with_reducible assumption)) ?_))
theorem St.freezeAll (I : St w O g L s m led) : ∃ g8, Sub g g8 ∧ St w O g8 L s m [] ∧ ∀ p ∈ led, At g8 p.1 p.2 := by
  obtain ⟨k1, _, I2⟩ := (I.drop (led' := []) (List.nil_sublist _)).base
  refine ⟨_, k1, I2, fun p hp => ?_⟩
  obtain ⟨o, e, c⟩ := (I.ld p hp).1
  have nd := I.nd
  rw [List.nodup_cons] at nd
  exact ⟨o, base_get e (fun q => nd.1 (by rw [← q]; exact List.mem_map_of_mem hp)) (fun _ q => absurd q List.not_mem_nil), c⟩
theorem iter_listB {M : Model} {E : Value → Shared → Prop} {l : Addr} {xs : List Value} (I : St w O g L s m led) (hM : M = Mw w) (hl : At g l (.list xs)) (h : ∀ it s', Iter w g L led xs.length (fun i v => xs[i]? = some v) it s' → St w O g L s' m led → Q it s') : wpC M A (pyIter (.ref l)) Q E s :=
  iter_list I hM (hl.sub I.keep) (fun q => by
    obtain ⟨o, e, _⟩ := hl
    rw [q, I.nL] at e; cases e) (fun p hp q => by
    obtain ⟨o, e, _⟩ := hl
    have := (I.ld p hp).2
    rw [q] at this; rw [show g.get? l = none from this] at e; cases e) h
theorem k_kept {d : Dv} {v : Value} {c : Col} {u : Tok} {n k : Nat} (hv : d.is v) (hd : d.good n) (hn : n < 1000) (R : Room A (k + 2)) (I : St w O g L s m led)
    (h : ∀ v' s', St w O g L s' m led → (kept c d).is v' → Q v' s') : wpC (Mw w) A (call (.ref 166) [v, .str c.name u]) Q E s :=
  f_kept hv hd hn (R.less (by omega)) I.stah I.gens I.os fun v' s' G hk => h v' s' (I.gr G) hk
theorem k_sort_part {d : Dv} {v : Value} {c : Col} {u : Tok} {k : Nat} (hv : d.is v) (hd : d.ok) (R : Room A (k + 4)) (I : St w O g L s m led)
    (h : ∀ a s', St w O g L s' m ((a, .ba (part c d)) :: led) → Q (.ref a) s') : wpC (Mw w) A (call (.ref 114) [v, .str c.name u]) Q E s :=
  f_sort_part hv hd (R.less (by omega)) I.stah I.gens I.os fun a s' G x n => h a s' (I.take G x n)
theorem f_right {c : Col} {ds : List Dv} {vs : List Value} {vl : Addr} {u : Tok} {n : Nat} (hvs : Dvs vs ds) (hat : At s.heap vl (.list vs)) (hd : ∀ d ∈ ds, d.good n) (hn : n < 100) (hl : ds.length = 4)
    (P1 : ∀ d d' : Dv, d.good n → d'.good n → (Builtin.Bytes.order (part c d) (part c d') == .lt) = pairlt (rank (kept c d)) (rank (kept c d')))
    (P2 : ∀ d d' : Dv, d.good n → d'.good n → ((part c d).take (part c d').length == part c d') = decide (rank (kept c d) = rank (kept c d')))
    (R : Room A 5) (X : Sta w s.heap) (hg : s.gens = #[]) (ho : s.os = O)
    (h : ∀ s', Gr O s.heap s' → Q (.bool true) s') : wpC (Mw w) A (call (.ref 195) [.ref vl, .str c.name u]) Q E s := by
  refine c_enterC [("values", .ref vl), ("collation", .str c.name u)] (g := s.heap) (led := []) R X (Sub.refl _) (fun _ h => nomatch h) List.nodup_nil hg ho (by with_unfolding_all rfl) (by with_unfolding_all rfl) (by with_unfolding_all rfl) (fun x hx => by
      rcases List.mem_cons.mp hx with rfl | hx
      · exact .inl (by with_unfolding_all rfl)
      · rw [List.mem_singleton.mp hx]; exact .inr ⟨by with_unfolding_all rfl, by with_unfolding_all rfl⟩) ?_
  intro L s₁ g₁ k₁ I hc
  have c1 : g₁.IsCell (L + 1) (some (.str c.name u)) := hc (Str.ofString "collation") _ (by with_unfolding_all rfl)
  have hvl := hvs.length
  have hvt : At g₁ vl (.list vs) := hat.sub k₁
  have hvL : vl ≠ L := fun q => by
    obtain ⟨o, e, _⟩ := hvt
    rw [q, I.nL] at e; cases e
  repeat tm_at "s"
  refine x_AssignCompI (by with_reducible assumption) vs.length (fun i v => vs[i]? = some v) (fun i g' ys led' => led' = [] ∧ Dvs ys ((ds.take i).map (kept c))) R.h (by omega) (by rfl) ?_ ?_ ?_ ?_
  · repeat tm_at "s"
    exact iter_list (by with_reducible assumption) rfl (hvt.sub (St.keep (by with_reducible assumption))) hvL (fun _ q => absurd q List.not_mem_nil) fun it s' y I' => ⟨y, I'⟩
  · intro g' _
    exact ⟨rfl, .nil⟩
  · rintro i g' C D s' mC led' ys v it o oL kg hi ev ⟨rfl, hx⟩ I3 hm
    obtain ⟨d, ed, hv⟩ := hvs.at ev
    have hgd := hd d (List.mem_of_getElem? ed)
    refine t_none ?_
    repeat tm_at "s"
    tm_at "c"
    repeat tm_at "s"
    refine k_kept hv hgd (by omega) (R.deeper _) (by with_reducible assumption) fun v' s' I' hk => ?_
    exact ⟨_, _, _, Sub.refl _, I', rfl, by rw [take_snoc ed]; exact hx.snoc hk⟩
  · rintro g2 s' led' Dk kept' k2 I2 ⟨rfl, hkd⟩
    rw [List.take_of_length_le (by omega)] at hkd
    -- the kept values, frozen
    obtain ⟨k3, _, I3⟩ := (I2.drop (led' := []) (List.nil_sublist _)).base
    have hkt : At (Mine.base s'.heap L []) Dk (.list kept') := by
      obtain ⟨o, e, ci⟩ := I2.at List.mem_cons_self
      have nd := I2.nd
      exact ⟨o, base_get e (fun q => by rw [q] at nd; simp at nd) (fun _ q => nomatch q), ci⟩
    generalize Mine.base s'.heap L [] = g3 at *
    repeat tm_at "s"
    refine x_AssignCompI I3 vs.length (fun i v => vs[i]? = some v) (fun i g' ys led' => led' = [] ∧ Octs ys ((ds.take i).map (part c))) R.h (by omega) (by rfl) ?_ ?_ ?_ ?_
    · repeat tm_at "s"
      exact iter_list (by with_reducible assumption) rfl (hvt.sub (k2.trans (k3.trans (St.keep (by with_reducible assumption))))) hvL (fun _ q => absurd q List.not_mem_nil) fun it s' y I' => ⟨y, I'⟩
    · intro g' _
      exact ⟨rfl, .nil⟩
    · rintro i g' C D s' mC led' ys v it o oL kg hi ev ⟨rfl, hx⟩ I4 hm
      obtain ⟨d, ed, hv⟩ := hvs.at ev
      have hgd := hd d (List.mem_of_getElem? ed)
      have hpl := part_len (c := c) hgd hn
      have c2 : g'.IsCell (L + 1) (some (.str c.name u)) := cell_sub c1 (k2.trans (k3.trans kg))
      refine t_none ?_
      repeat tm_at "s"
      tm_at "c"
      repeat tm_at "s"
      refine k_sort_part hv (hgd.ok (by omega)) (R.deeper _) (by with_reducible assumption) fun ap s' I' => ?_
      repeat tm_at "s"
      refine c_bytes_ba (by with_reducible assumption) (St.at (by with_reducible assumption) (by tm_at "m")) (by omega) fun t s' I' => ?_
      exact ⟨_, _, _, Sub.refl _, I'.drop (List.sublist_cons_self ..), rfl, by rw [take_snoc ed]; exact hx.snoc⟩
    · rintro g4 s' led' Dp parts' k4 I4 ⟨rfl, hpo⟩
      rw [List.take_of_length_le (by omega)] at hpo
      have hkt4 := hkt.sub k4
      have hfl := flat_len (c := c) hn ds hd
      repeat tm_at "s"
      refine c_bjoin (bs := ds.map (part c)) (by with_reducible assumption) (St.at (by with_reducible assumption) (by tm_at "m")) hpo (by rw [List.length_map]; omega) (by show (flat c ds).length < 1000000; omega) fun t s' I' => ?_
      repeat tm_at "s"
      refine k_read (c := c) (ds := ds) hd (by omega) (R.deeper _) (by with_reducible assumption) fun ra rx s' g5 k5 I' hra hrp => ?_
      have hkl := hkd.length
      rw [List.length_map] at hkl
      repeat tm_at "s"
      refine e_CompI (by with_reducible assumption) kept'.length (fun i v => kept'[i]? = some v) (fun i g' ys led' => led' = [(Dp, .list parts')] ∧ Pairs g' ys ((ds.take i).map (toldK c))) R.h (by omega) (by rfl) ?_ ?_ ?_ ?_
      · repeat tm_at "s"
        exact iter_listB (by with_reducible assumption) rfl (hkt4.sub k5) fun it s' y I' => ⟨y, I'⟩
      · intro g' _
        exact ⟨rfl, .nil⟩
      · rintro i g' C D s' mC led' ys v it o oL kg hi ev ⟨rfl, hx⟩ I6 hm
        obtain ⟨d', ed', hv'⟩ := hkd.at ev
        obtain ⟨d, ed, rfl⟩ : ∃ d, ds[i]? = some d ∧ kept c d = d' := by
          rw [List.getElem?_map] at ed'
          cases q : ds[i]? with
          | none => rw [q] at ed'; cases ed'
          | some d => rw [q] at ed'; exact ⟨d, rfl, Option.some.inj ed'⟩
        refine t_none ?_
        repeat tm_at "s"
        refine k_told hv' (kept_good (hd d (List.mem_of_getElem? ed))) (by omega) (R.deeper _) (by with_reducible assumption) fun v' s' g6 k6 I' hp => ?_
        exact ⟨g6, _, _, k6, I', rfl, by rw [take_snoc ed]; exact (hx.mono k6).snoc hp⟩
      · rintro g6 s' led' Dt tolds k6 I6 ⟨rfl, hpt⟩
        rw [List.take_of_length_le (by omega)] at hpt
        refine q_nel (show A.units + 3 < 9100 by have := R.u; omega) (hra.sub (k6.trans I6.keep)) (I6.at List.mem_cons_self) (hrp.mono (k6.trans I6.keep)) (hpt.mono I6.keep) ?_
        rw [decide_eq_true rfl]
        have I6 := I6.drop (led' := [(Dp, .list parts')]) (List.sublist_cons_self ..)
        repeat tm_at "s"
        refine x_AssignCompI (by with_reducible assumption) kept'.length (fun i v => kept'[i]? = some v) (fun i g' ys led' => led' = [(Dp, .list parts')] ∧ Pairs g' ys ((ds.take i).map fun d => rank (kept c d))) R.h (by omega) (by rfl) ?_ ?_ ?_ ?_
        · repeat tm_at "s"
          exact iter_listB (by with_reducible assumption) rfl (hkt4.sub (k5.trans k6)) fun it s' y I' => ⟨y, I'⟩
        · intro g' _
          exact ⟨rfl, .nil⟩
        · rintro i g' C D s' mC led' ys v it o oL kg hi ev ⟨rfl, hx⟩ I7 hm
          obtain ⟨d', ed', hv'⟩ := hkd.at ev
          obtain ⟨d, ed, rfl⟩ : ∃ d, ds[i]? = some d ∧ kept c d = d' := by
            rw [List.getElem?_map] at ed'
            cases q : ds[i]? with
            | none => rw [q] at ed'; cases ed'
            | some d => rw [q] at ed'; exact ⟨d, rfl, Option.some.inj ed'⟩
          refine t_none ?_
          repeat tm_at "s"
          refine k_rank hv' (kept_good (hd d (List.mem_of_getElem? ed))) (by omega) (R.deeper _) (by with_reducible assumption) fun v' s' g6 k6 I' hp => ?_
          exact ⟨g6, _, _, k6, I', rfl, by rw [take_snoc ed]; exact (hx.mono k6).snoc hp⟩
        · rintro g7 s' led' Dr ranks' k7 I7 ⟨rfl, hrk⟩
          rw [List.take_of_length_le (by omega)] at hrk
          obtain ⟨g8, k8, I8, hat8⟩ := I7.freezeAll
          have hP := hat8 (Dp, .list parts') (by tm_at "m")
          have hR := hat8 (Dr, .list ranks') (by tm_at "m")
          have hrk8 := hrk.mono k8
          have hpl := hpo.length
          rw [List.length_map] at hpl
          have hpar : ∀ i, i < 4 → ∃ d tt, ds[i]? = some d ∧ d.good n ∧ parts'[i]? = some (.bytes (part c d).toArray tt) ∧ ∃ v, ranks'[i]? = some v ∧ IsPair g8 v (rank (kept c d)) := fun i hi => by
            have ed : ds[i]? = some ds[i] := List.getElem?_eq_getElem (by omega)
            obtain ⟨tt, b, e1, e2⟩ := hpo.at (i := i) (by rw [List.length_map]; omega)
            rw [List.getElem?_map, ed] at e1
            cases e1
            obtain ⟨v, e3, e4⟩ := hrk8.at (i := i) (p := rank (kept c ds[i])) (by rw [List.getElem?_map, ed]; rfl)
            exact ⟨_, tt, ed, hd _ (List.mem_of_getElem? ed), e2, v, e3, e4⟩
          repeat tm_at "s"
          refine x_ForI I8 4 (fun i v => ∃ t, v = .int (i : Int) t) (fun i g' m' led' => m' (Str.ofString "parts") = some (.ref Dp) ∧ m' (Str.ofString "ranks") = some (.ref Dr) ∧ led' = []) R.h ?_ ?_ ?_ ?_
          · repeat tm_at "s"
            refine c_lenl I8 (hP.sub I8.keep) (by omega) fun t s' I' => ?_
            repeat tm_at "s"
            refine call_rangeN (by with_reducible assumption) fun r' ru rv s' hr I' => ?_
            rw [show parts'.length = 4 by omega] at hr
            exact iter_range (n := 4) I' rfl hr (by decide) fun it s' y I' => ⟨y, I'⟩
          · intro g' _
            exact ⟨by tm_at "v", by tm_at "v", rfl⟩
          · rintro i g9 s' m9 led9 v it o k9 hi ⟨ti, rfl⟩ ⟨hmp, hmr, rfl⟩ I9
            obtain ⟨d, td, ed, hgd, ep, rv, er, hr1⟩ := hpar i hi
            repeat tm_at "s"
            refine x_ForI (by with_reducible assumption) 4 (fun i v => ∃ t, v = .int (i : Int) t) (fun j g' m' led' => m' (Str.ofString "parts") = some (.ref Dp) ∧ m' (Str.ofString "ranks") = some (.ref Dr) ∧ (∃ t, m' (Str.ofString "one") = some (.int (i : Int) t)) ∧ led' = [(it, .raw o)]) R.h ?_ ?_ ?_ ?_
            · repeat tm_at "s"
              refine c_lenl (by with_reducible assumption) (hP.sub (k9.trans (St.keep (by with_reducible assumption)))) (by omega) fun t s' I' => ?_
              repeat tm_at "s"
              refine call_rangeN (by with_reducible assumption) fun r' ru rv s' hr I' => ?_
              rw [show parts'.length = 4 by omega] at hr
              exact iter_range (n := 4) I' rfl hr (by decide) fun it s' y I' => ⟨y, I'⟩
            · intro g' _
              exact ⟨by tm_at "v", by tm_at "v", ⟨_, by tm_at "v"⟩, rfl⟩
            · rintro j g10 s' m10 led10 v it2 o2 k10 hj ⟨tj, rfl⟩ ⟨hmp', hmr', ⟨t1, hm1⟩, rfl⟩ I10
              obtain ⟨d', td', ed', hgd', ep', rv', er', hr2⟩ := hpar j hj
              have kk := k9.trans k10
              repeat tm_at "s"
              refine sub_list (x := .bytes (part c d).toArray td) (hP.sub (kk.trans (St.keep (by with_reducible assumption)))).isList (by omega) (by omega) (by rw [Int.toNat_natCast]; exact ep) (by with_unfolding_all rfl) ?_
              repeat tm_at "s"
              refine sub_list (x := .bytes (part c d').toArray td') (hP.sub (kk.trans (St.keep (by with_reducible assumption)))).isList (by omega) (by omega) (by rw [Int.toNat_natCast]; exact ep') (by with_unfolding_all rfl) ?_
              refine q_ltb ?_
              repeat tm_at "s"
              refine sub_list (x := rv) (hR.sub (kk.trans (St.keep (by with_reducible assumption)))).isList (by omega) (by omega) (by rw [Int.toNat_natCast]; exact er) (by with_unfolding_all rfl) ?_
              repeat tm_at "s"
              refine sub_list (x := rv') (hR.sub (kk.trans (St.keep (by with_reducible assumption)))).isList (by omega) (by omega) (by rw [Int.toNat_natCast]; exact er') (by with_unfolding_all rfl) ?_
              refine q_ltp (hr1.mono (kk.trans (St.keep (by with_reducible assumption)))) (hr2.mono (kk.trans (St.keep (by with_reducible assumption)))) (show A.units + 3 < 9100 by have := R.u; omega) ?_
              refine q_neb ?_
              repeat tm_at "s"
              refine br_f (by rw [show (Builtin.Bytes.order (part c d).toArray.toList (part c d').toArray.toList == .lt) = _ from P1 d d' hgd hgd']; simp) ?_
              repeat tm_at "s"
              refine sub_list (x := .bytes (part c d).toArray td) (hP.sub (kk.trans (St.keep (by with_reducible assumption)))).isList (by omega) (by omega) (by rw [Int.toNat_natCast]; exact ep) (by with_unfolding_all rfl) ?_
              repeat tm_at "s"
              refine sub_list (x := .bytes (part c d').toArray td') (hP.sub (kk.trans (St.keep (by with_reducible assumption)))).isList (by omega) (by omega) (by rw [Int.toNat_natCast]; exact ep') (by with_unfolding_all rfl) ?_
              repeat tm_at "s"
              have hpd := part_len (c := c) hgd hn
              have hpd' := part_len (c := c) hgd' hn
              refine c_lenb (by with_reducible assumption) (by rw [List.size_toArray]; omega) fun tl s' I' => ?_
              repeat tm_at "s"
              refine sub_bslice (by with_reducible assumption) IsPart.none (IsPart.int _ _) (by assumption) (by omega) fun u s' I' => ?_
              repeat tm_at "s"
              refine sub_list (x := .bytes (part c d').toArray td') (hP.sub (kk.trans (St.keep (by with_reducible assumption)))).isList (by omega) (by omega) (by rw [Int.toNat_natCast]; exact ep') (by with_unfolding_all rfl) ?_
              refine q_eqb ?_
              repeat tm_at "s"
              refine sub_list (x := rv) (hR.sub (kk.trans (St.keep (by with_reducible assumption)))).isList (by omega) (by omega) (by rw [Int.toNat_natCast]; exact er) (by with_unfolding_all rfl) ?_
              repeat tm_at "s"
              refine sub_list (x := rv') (hR.sub (kk.trans (St.keep (by with_reducible assumption)))).isList (by omega) (by omega) (by rw [Int.toNat_natCast]; exact er') (by with_unfolding_all rfl) ?_
              refine q_eqp (show A.units + 3 < 9100 by have := R.u; omega) (hr1.mono (kk.trans (St.keep (by with_reducible assumption)))) (hr2.mono (kk.trans (St.keep (by with_reducible assumption)))) ?_
              refine q_neb ?_
              repeat tm_at "s"
              refine br_f (by
                have e := P2 d d' hgd hgd'
                rw [← takeB (part c d) (part c d').length] at e
                rw [List.size_toArray]
                rw [← e]; simp) ?_
              repeat tm_at "s"
              exact ⟨_, _, _, Sub.refl _, by with_reducible assumption, by tm_at "v", by tm_at "v", ⟨_, by tm_at "v"⟩, rfl⟩
            · rintro g10 s' m10 led10 k10 I10 ⟨hmp', hmr', _, rfl⟩
              repeat tm_at "s"
              exact ⟨_, _, _, k10, by with_reducible assumption, hmp', hmr', rfl⟩
          · rintro g9 s' m9 led9 k9 I9 ⟨hmp, hmr, rfl⟩
            repeat tm_at "s"
            exact h _ (Gr.trans (k₁.trans (k2.trans (k3.trans (k4.trans (k5.trans (k6.trans (k7.trans (k8.trans k9)))))))) (St.out (by with_reducible assumption)))
end
end
section
section
variable {w : World} {O : OsState} {s : Shared} {A : Around} {E : Value → Shared → Prop} {Q : Value → Shared → Prop} {g : Heap} {L : Addr} {m : Str → Option Value} {led : Led}
theorem c_lenL {l : Addr} {xs : List Value} (I : St w O g L s m led) (hl : s.heap.IsList l xs.toArray) (hx : xs.length < 1000000) (h : ∀ t s', St w O g L s' m led → Q (.int xs.length t) s') : wpC (Mw w) A (call (.builtin "len") [.ref l]) Q E s :=
  c_any (call_len_list hl (by rw [List.size_toArray]; omega) (by rw [List.size_toArray]; exact h _ _ (I.grow (Sub.refl _))))
local macro_rules | `(tactic| tm_at "s") => `(tactic| first
  | ((with_reducible show wpC _ _ (binaryOp Operator.Pow (Value.int _ _) (Value.int _ _)) _ _ _); refine o_pow (by with_reducible assumption) (by decide) (by decide) (by decide) ?_; intro t s' I')
  | ((with_reducible show wpC _ _ (binaryOp Operator.Mult (Value.int _ _) (Value.int _ _)) _ _ _); refine o_mul (by with_reducible assumption) (by first | exact mul_ok' (by decide) (by decide) | exact mul_ok (by omega) (by omega) | exact mul_ok' (by omega) (by omega)) ?_; intro t s' I'))
theorem f_pool {k : Nat} {sl : Addr} {xs : List Value} {ns : List Int} {u : Tok} (hk : k < 2) (hs : s.heap.IsList sl xs.toArray) (hx : Ints xs ns) (hz : xs.length < 1000) (R : Room A 1) (X : Sta w s.heap) (hg : s.gens = #[]) (ho : s.os = O)
    (h : ∀ a xs' s', Gr O s.heap s' → At s'.heap a (.list xs') → Src2 xs' → s.heap.get? a = none → Q (.ref a) s') : wpC (Mw w) A (call (.ref 121) [.ref sl, .int (k : Int) u]) Q E s := by
  refine c_enter1 [("k", .int (k : Int) u), ("script", .ref sl)] R X hg ho (by with_unfolding_all rfl) (by with_unfolding_all rfl) (by with_unfolding_all rfl) (locs (by with_unfolding_all rfl)) ?_
  intro L s₁ I
  have hxl := hx.length
  have hsl : ∀ {s' m led}, St w O s.heap L s' m led → s'.heap.IsList sl xs.toArray := fun I => let ⟨o, e, r⟩ := hs; ⟨o, I.keep _ _ e, r⟩
  repeat tm_at "s"
  refine c_lenL (by with_reducible assumption) (hsl (by with_reducible assumption)) (by omega) fun t s' I' => ?_
  repeat tm_at "s"
  with_reducible refine br (fun h1 => ?_) (fun h1 => ?_)
  · have h1 := of_decide_eq_true h1
    obtain ⟨tc, ec⟩ := hx.at (i := k) (by omega)
    repeat tm_at "s"
    refine sub_list (x := .int ns[k] tc) (hsl (by with_reducible assumption)) (by omega) (by omega) (by rw [Int.toNat_natCast]; exact ec) (by with_unfolding_all rfl) ?_
    generalize ns[k] = cell
    repeat tm_at "s"
    refine c_max R.h (by with_reducible assumption) fun t s' I' => ?_
    generalize max cell (-1 - cell) = big
    repeat tm_at "s"
    rename_i a s9 I9
    exact h a _ _ I9.out (I9.at List.mem_cons_self) ⟨_, _, _, _, rfl, (fmod_range (by decide)).1, (fmod_range (by decide)).2⟩ (I9.ld _ List.mem_cons_self).2
  · repeat tm_at "s"
    refine c_max R.h (by with_reducible assumption) fun t s' I' => ?_
    generalize max 0 (-1 - 0) = big
    repeat tm_at "s"
    rename_i a s9 I9
    exact h a _ _ I9.out (I9.at List.mem_cons_self) ⟨_, _, _, _, rfl, (fmod_range (by decide)).1, (fmod_range (by decide)).2⟩ (I9.ld _ List.mem_cons_self).2
end
end
section
/-- octets in order -/
noncomputable def blt : List UInt8 → List UInt8 → Bool
  | _, [] => false
  | [], _ :: _ => true
  | a :: r, b :: q => if a = b then blt r q else decide (a.toNat < b.toNat)
theorem blt_app (p : List UInt8) (x y : List UInt8) : blt (p ++ x) (p ++ y) = blt x y := by
  induction p with
  | nil => rfl
  | cons a r ih => simp only [List.cons_append, blt, if_true]; exact ih
theorem blt_nums : ∀ x y : List UInt8, lexlt (nums x) (nums y) = blt x y
  | x, [] => by unfold nums; rw [List.map_nil, lexlt_nil]; cases x <;> rfl
  | [], b :: q => rfl
  | a :: r, b :: q => by
    have ih := blt_nums r q
    unfold nums at *
    simp only [List.map_cons, lexlt, blt, ih]
    by_cases h : a = b
    · subst h; simp
    · have : ¬ ((a.toNat : Int) = (b.toNat : Int)) := fun e => h (UInt8.toNat_inj.mp (by omega))
      rw [if_neg h, if_neg this]
      exact decide_eq_decide.mpr (by omega)
theorem esc0 : esc 0 = [0, 255] := rfl
theorem escN {a : UInt8} (h : a ≠ 0) : esc a = [a] := if_neg h
/-- the escaped octets keep the order, and none begins another -/
theorem blt_esc : ∀ x y : List UInt8, blt (x.flatMap esc ++ [0, 0]) (y.flatMap esc ++ [0, 0]) = blt x y
  | [], [] => by decide
  | [], b :: q => by
    rw [List.flatMap_nil, List.nil_append, List.flatMap_cons]
    by_cases h : b = 0
    · subst h; simp [esc, blt]
    · simp only [esc, if_neg h, List.cons_append, List.nil_append, blt]
      rw [if_neg (fun e => h e.symm)]
      have : b.toNat ≠ 0 := fun e => h (UInt8.toNat_inj.mp (by simpa using e))
      exact decide_eq_true (by show (0 : UInt8).toNat < _; simp; omega)
  | a :: r, [] => by
    rw [List.flatMap_nil, List.nil_append, List.flatMap_cons]
    by_cases h : a = 0
    · subst h; simp [esc, blt]
    · simp only [esc, if_neg h, List.cons_append, List.nil_append, blt]
      try rw [if_neg h]
      exact decide_eq_false (by show ¬ _ < (0 : UInt8).toNat; simp)
  | a :: r, b :: q => by
    have ih := blt_esc r q
    simp only [List.flatMap_cons, List.append_assoc, blt]
    by_cases h : a = b
    · subst h; rw [blt_app, ih, if_pos rfl]
    · rw [if_neg h]
      by_cases ha : a = 0
      · subst ha
        rw [esc0, escN (fun e => h e.symm)]
        simp only [List.cons_append, List.nil_append, blt, if_neg h]
      · by_cases hb : b = 0
        · subst hb
          rw [esc0, escN ha]
          simp only [List.cons_append, List.nil_append, blt, if_neg h]
        · rw [escN ha, escN hb]
          simp only [List.cons_append, List.nil_append, blt, if_neg h]
theorem order_blt : ∀ x y : List UInt8, (Builtin.Bytes.order x y == .lt) = blt x y
  | [], [] => rfl
  | [], b :: q => rfl
  | a :: r, [] => rfl
  | a :: r, b :: q => by
    have ih := order_blt r q
    unfold Builtin.Bytes.order blt
    by_cases h : a = b
    · subst h
      rw [if_neg (UInt8.lt_irrefl a), if_neg (UInt8.lt_irrefl a), if_pos rfl]; exact ih
    · rw [if_neg h]
      by_cases h1 : a < b
      · rw [if_pos h1, decide_eq_true (UInt8.lt_iff_toNat_lt.mp h1)]; rfl
      · have h2 : ¬ a.toNat < b.toNat := fun e => h1 (UInt8.lt_iff_toNat_lt.mpr e)
        rw [if_neg h1, decide_eq_false h2]
        split <;> first | rfl | (exfalso; rename_i h3; exact h (UInt8.toNat_inj.mp (by have h4 : ¬ b.toNat < a.toNat := fun e => h3 (UInt8.lt_iff_toNat_lt.mpr e)
                                                                                       omega)))
noncomputable def dig : Nat → Nat → List UInt8
  | 0, _ => []
  | k + 1, m => (m / 256 ^ k % 256).toUInt8 :: dig k m
theorem be8_dig (m : Nat) : be8 m = dig 8 m := by
  unfold be8 les dig
  rfl
theorem dig_head {a b : Nat} (ha : a < 256) (hb : b < 256) : (a.toUInt8 = b.toUInt8 ↔ a = b) ∧ (a.toUInt8.toNat = a) := by
  have h1 : a.toUInt8.toNat = a := by simp [Nat.mod_eq_of_lt ha]
  have h2 : b.toUInt8.toNat = b := by simp [Nat.mod_eq_of_lt hb]
  refine ⟨⟨fun e => ?_, fun e => by rw [e]⟩, h1⟩
  have := congrArg UInt8.toNat e
  omega
theorem blt_dig : ∀ k m n : Nat, blt (dig k m) (dig k n) = decide (m % 256 ^ k < n % 256 ^ k)
  | 0, m, n => by simp [dig, blt, Nat.mod_one]
  | k + 1, m, n => by
    have ih := blt_dig k m n
    have hm := Nat.mod_lt (m / 256 ^ k) (by decide : 0 < 256)
    have hn := Nat.mod_lt (n / 256 ^ k) (by decide : 0 < 256)
    have hP : 0 < 256 ^ k := Nat.pow_pos (by decide)
    have e1 : m % 256 ^ (k + 1) = m % 256 ^ k + 256 ^ k * (m / 256 ^ k % 256) := by rw [Nat.pow_succ, Nat.mod_mul]
    have e2 : n % 256 ^ (k + 1) = n % 256 ^ k + 256 ^ k * (n / 256 ^ k % 256) := by rw [Nat.pow_succ, Nat.mod_mul]
    have l1 := Nat.mod_lt m hP
    have l2 := Nat.mod_lt n hP
    rw [e1, e2]
    unfold dig blt
    generalize m / 256 ^ k % 256 = x at *
    generalize n / 256 ^ k % 256 = y at *
    obtain ⟨q1, q2⟩ := dig_head hm hn
    have q3 := (dig_head hn hm).2
    by_cases h : x = y
    · subst h
      rw [if_pos rfl, ih]
      exact decide_eq_decide.mpr (by omega)
    · rw [if_neg (fun e => h (q1.mp e)), q2, q3]
      refine decide_eq_decide.mpr ?_
      rcases Nat.lt_or_ge x y with hxy | hxy
      · have := Nat.mul_le_mul_left (256 ^ k) (show x + 1 ≤ y from hxy)
        rw [Nat.mul_succ] at this
        constructor
        · intro _; omega
        · intro _; exact hxy
      · have := Nat.mul_le_mul_left (256 ^ k) (show y + 1 ≤ x by omega)
        rw [Nat.mul_succ] at this
        constructor
        · intro _; omega
        · intro _; omega
theorem blt_be8 {m n : Nat} (hm : m < 18446744073709551616) (hn : n < 18446744073709551616) : blt (be8 m) (be8 n) = decide (m < n) := by
  rw [be8_dig, be8_dig, blt_dig]
  exact decide_eq_decide.mpr (by omega)
end
section
noncomputable def nlt : List Nat → List Nat → Bool
  | _, [] => false
  | [], _ :: _ => true
  | a :: r, b :: q => if a = b then nlt r q else decide (a < b)
noncomputable def un (c : Nat) : List Nat :=
  if c < 128 then [c]
  else if c < 2048 then [192 + c / 64, 128 + c % 64]
  else if c < 65536 then [224 + c / 4096, 128 + c / 64 % 64, 128 + c % 64]
  else [240 + c / 262144, 128 + c / 4096 % 64, 128 + c / 64 % 64, 128 + c % 64]
theorem un_is (c : Nat) : Str.utf8Of c = (un c).map fun n => n.toUInt8 := by
  unfold Str.utf8Of un
  split
  · rfl
  split
  · rfl
  split <;> rfl
theorem un_lt {c : Nat} (h : c ≤ 1114111) : ∀ x ∈ un c, x < 256 := by
  unfold un
  intro x hx
  split at hx
  · simp at hx; omega
  split at hx
  · simp at hx; omega
  split at hx <;> simp at hx <;> omega
theorem blt_nlt : ∀ (a b : List Nat), (∀ x ∈ a, x < 256) → (∀ x ∈ b, x < 256) → ∀ x y : List UInt8, a.length = b.length → a ≠ b → blt (a.map (fun n => n.toUInt8) ++ x) (b.map (fun n => n.toUInt8) ++ y) = nlt a b
  | [], [], _, _, _, _, _, h => absurd rfl h
  | a :: r, b :: q, ha, hb, x, y, hl, h => by
    have h1 := ha a List.mem_cons_self
    have h2 := hb b List.mem_cons_self
    obtain ⟨q1, q2⟩ := dig_head h1 h2
    have q3 := (dig_head h2 h1).2
    rw [List.map_cons, List.map_cons, List.cons_append, List.cons_append]
    unfold blt nlt
    by_cases e : a = b
    · subst e
      rw [if_pos rfl, if_pos rfl]
      exact blt_nlt r q (fun z hz => ha z (List.mem_cons_of_mem _ hz)) (fun z hz => hb z (List.mem_cons_of_mem _ hz)) x y (by simpa using hl) (fun e => h (by rw [e]))
    · rw [if_neg (fun z => e (q1.mp z)), if_neg e, q2, q3]
/-- lists of one length that keep the order of what they stand for -/
noncomputable def Keeps (f : Nat → List Nat) : Prop := ∀ c d, (f c).length = (f d).length ∧ (c ≠ d → f c ≠ f d ∧ nlt (f c) (f d) = decide (c < d))
theorem keeps_one (k : Nat) : Keeps fun c => [k + c] := fun c d => ⟨rfl, fun h => ⟨fun e => h (by simpa using e), by
  show (if k + c = k + d then _ else decide (k + c < k + d)) = _
  rw [if_neg (by omega)]; exact decide_eq_decide.mpr (by omega)⟩⟩
theorem nlt_same : ∀ (a : List Nat) (x y : Nat), x ≠ y → nlt (a ++ [x]) (a ++ [y]) = decide (x < y)
  | [], x, y, h => by show (if x = y then _ else decide (x < y)) = _; rw [if_neg h]
  | b :: r, x, y, h => by show (if b = b then nlt (r ++ [x]) (r ++ [y]) else _) = _; rw [if_pos rfl]; exact nlt_same r x y h
theorem nlt_ahead : ∀ (a b : List Nat) (x y : Nat), a.length = b.length → a ≠ b → nlt (a ++ [x]) (b ++ [y]) = nlt a b
  | [], [], _, _, _, h => absurd rfl h
  | a :: r, b :: q, x, y, hl, h => by
    show (if a = b then nlt (r ++ [x]) (q ++ [y]) else decide (a < b)) = (if a = b then nlt r q else decide (a < b))
    by_cases e : a = b
    · rw [if_pos e, if_pos e]; exact nlt_ahead r q x y (by simpa using hl) (fun z => h (by rw [e, z]))
    · rw [if_neg e, if_neg e]
theorem keeps_more {f : Nat → List Nat} (hf : Keeps f) : Keeps fun c => f (c / 64) ++ [128 + c % 64] := fun c d => by
  obtain ⟨hl, ho⟩ := hf (c / 64) (d / 64)
  refine ⟨by rw [List.length_append, List.length_append, hl]; rfl, fun h => ?_⟩
  by_cases e : c / 64 = d / 64
  · have hx : 128 + c % 64 ≠ 128 + d % 64 := by omega
    refine ⟨fun z => hx ?_, ?_⟩
    · have z : f (c / 64) ++ [128 + c % 64] = f (d / 64) ++ [128 + d % 64] := z
      rw [e] at z; exact (List.cons.inj (List.append_cancel_left z)).1
    · show nlt (f (c / 64) ++ _) (f (d / 64) ++ _) = _
      rw [e, nlt_same _ _ _ hx]; exact decide_eq_decide.mpr (by omega)
  · obtain ⟨h1, h2⟩ := ho e
    refine ⟨fun z => h1 (List.append_inj_left z hl), ?_⟩
    show nlt (f (c / 64) ++ _) (f (d / 64) ++ _) = _
    rw [nlt_ahead _ _ _ _ hl h1, h2]; exact decide_eq_decide.mpr (by omega)
noncomputable def lo : Nat → Nat | 1 => 0 | 2 => 192 | 3 => 224 | 4 => 240 | _ => 256
noncomputable def cl : Nat → Nat | 1 => 0 | 2 => 128 | 3 => 2048 | 4 => 65536 | _ => 1114112
/-- the ways of un: by its length -/
noncomputable def unk : Nat → Nat → List Nat
  | 1 => fun c => [0 + c]
  | 2 => fun c => [192 + c / 64] ++ [128 + c % 64]
  | 3 => fun c => ([224 + c / 64 / 64] ++ [128 + c / 64 % 64]) ++ [128 + c % 64]
  | _ => fun c => (([240 + c / 64 / 64 / 64] ++ [128 + c / 64 / 64 % 64]) ++ [128 + c / 64 % 64]) ++ [128 + c % 64]
theorem unk_keeps : ∀ k, Keeps (unk k)
  | 0 => keeps_more (keeps_more (keeps_more (keeps_one 240)))
  | 1 => keeps_one 0
  | 2 => keeps_more (keeps_one 192)
  | 3 => keeps_more (keeps_more (keeps_one 224))
  | _ + 4 => keeps_more (keeps_more (keeps_more (keeps_one 240)))
theorem un_head {c : Nat} (h : c ≤ 1114111) : ∃ k a r, (1 ≤ k ∧ k ≤ 4) ∧ un c = unk k c ∧ un c = a :: r ∧ (un c).length = k ∧ lo k ≤ a ∧ a < lo (k + 1) ∧ cl k ≤ c ∧ c < cl (k + 1) := by
  unfold un
  split
  · rename_i h1; exact ⟨1, c, [], by decide, by show [c] = [0 + c]; rw [Nat.zero_add], rfl, rfl, Nat.zero_le _, Nat.lt_trans h1 (by decide), Nat.zero_le _, h1⟩
  split
  · rename_i h1 h2; exact ⟨2, _, _, by decide, rfl, rfl, rfl, Nat.le_add_right _ _, by show 192 + c / 64 < 224; omega, by show 128 ≤ c; omega, h2⟩
  split
  · rename_i h1 h2 h3
    refine ⟨3, _, _, by decide, ?_, rfl, rfl, Nat.le_add_right _ _, by show 224 + c / 4096 < 240; omega, by show 2048 ≤ c; omega, h3⟩
    show [224 + c / 4096, 128 + c / 64 % 64, 128 + c % 64] = [224 + c / 64 / 64, 128 + c / 64 % 64, 128 + c % 64]
    rw [Nat.div_div_eq_div_mul]
  · rename_i h1 h2 h3
    refine ⟨4, _, _, by decide, ?_, rfl, rfl, Nat.le_add_right _ _, by show 240 + c / 262144 < 256; omega, by show 65536 ≤ c; omega, by show c < 1114112; omega⟩
    show [240 + c / 262144, 128 + c / 4096 % 64, 128 + c / 64 % 64, 128 + c % 64] = [240 + c / 64 / 64 / 64, 128 + c / 64 / 64 % 64, 128 + c / 64 % 64, 128 + c % 64]
    rw [show c / 64 / 64 / 64 = c / 262144 by rw [Nat.div_div_eq_div_mul, Nat.div_div_eq_div_mul], show c / 64 / 64 = c / 4096 by rw [Nat.div_div_eq_div_mul]]
theorem un_order {c d : Nat} (hc : c ≤ 1114111) (hd : d ≤ 1114111) (h : c ≠ d) (hl : (un c).length = (un d).length) : un c ≠ un d ∧ nlt (un c) (un d) = decide (c < d) := by
  obtain ⟨k, _, _, _, e1, _, l1, _⟩ := un_head hc
  obtain ⟨k', _, _, _, e2, _, l2, _⟩ := un_head hd
  obtain rfl : k = k' := by rw [← l1, ← l2, hl]
  rw [e1, e2]; exact (unk_keeps k c d).2 h
theorem steps_up : ∀ {k k' : Nat}, 1 ≤ k → k < k' → k' ≤ 4 → lo (k + 1) ≤ lo k' ∧ cl (k + 1) ≤ cl k' := by
  intro k k' h1 h2 h3
  have a : k = 1 ∨ k = 2 ∨ k = 3 := by omega
  have b : k' = 2 ∨ k' = 3 ∨ k' = 4 := by omega
  rcases a with rfl | rfl | rfl <;> rcases b with rfl | rfl | rfl <;> first | decide | (exfalso; revert h2; decide)
theorem un_heads {c d : Nat} (hc : c ≤ 1114111) (hd : d ≤ 1114111) (hl : (un c).length ≠ (un d).length) : ∃ a r b q, un c = a :: r ∧ un d = b :: q ∧ a ≠ b ∧ (a < b ↔ c < d) := by
  obtain ⟨k, a, r, hk, _, e1, l1, x1, x2, x3, x4⟩ := un_head hc
  obtain ⟨k', b, q, hk', _, e2, l2, y1, y2, y3, y4⟩ := un_head hd
  refine ⟨a, r, b, q, e1, e2, ?_⟩
  rcases Nat.lt_or_gt_of_ne (fun e : k = k' => hl (by rw [l1, l2, e])) with g | g
  · obtain ⟨u, v⟩ := steps_up hk.1 g hk'.2; exact ⟨by omega, by omega⟩
  · obtain ⟨u, v⟩ := steps_up hk'.1 g hk.2; exact ⟨by omega, by omega⟩
theorem sign_order {c d : Nat} (hc : c ≤ 1114111) (hd : d ≤ 1114111) (h : c ≠ d) (x y : List UInt8) : blt (Str.utf8Of c ++ x) (Str.utf8Of d ++ y) = decide (c < d) := by
  rw [un_is, un_is]
  by_cases hl : (un c).length = (un d).length
  · obtain ⟨h1, h2⟩ := un_order hc hd h hl
    rw [blt_nlt _ _ (un_lt hc) (un_lt hd) x y hl h1, h2]
  · obtain ⟨a, r, b, q, e1, e2, hab, hlt⟩ := un_heads hc hd hl
    have ha := un_lt hc a (by rw [e1]; exact List.mem_cons_self)
    have hb := un_lt hd b (by rw [e2]; exact List.mem_cons_self)
    obtain ⟨q1, q2⟩ := dig_head ha hb
    have q3 := (dig_head hb ha).2
    rw [e1, e2, List.map_cons, List.map_cons, List.cons_append, List.cons_append]
    unfold blt
    rw [if_neg (fun z => hab (q1.mp z)), q2, q3]
    exact decide_eq_decide.mpr hlt
theorem enc_cons (c : Nat) (r : List Nat) : enc (c :: r) = Str.utf8Of c ++ enc r := rfl
theorem utf8_ne (c : Nat) : ∃ o r, Str.utf8Of c = o :: r := by
  unfold Str.utf8Of; split
  · exact ⟨_, _, rfl⟩
  split
  · exact ⟨_, _, rfl⟩
  split <;> exact ⟨_, _, rfl⟩
/-- utf-8 keeps the order -/
theorem blt_enc : ∀ x y : List Nat, (∀ c ∈ x, c ≤ 1114111) → (∀ c ∈ y, c ≤ 1114111) → blt (enc x) (enc y) = lexlt (x.map fun c : Nat => (c : Int)) (y.map fun c : Nat => (c : Int))
  | x, [], _, _ => by rw [List.map_nil, lexlt_nil]; show blt (enc x) [] = false; cases enc x <;> rfl
  | [], d :: q, _, _ => by
    obtain ⟨o, r, e⟩ := utf8_ne d
    rw [enc_cons, e]; rfl
  | c :: r, d :: q, hx, hy => by
    have ih := blt_enc r q (fun z hz => hx z (List.mem_cons_of_mem _ hz)) (fun z hz => hy z (List.mem_cons_of_mem _ hz))
    rw [enc_cons, enc_cons, List.map_cons, List.map_cons]
    unfold lexlt
    by_cases h : c = d
    · subst h; rw [blt_app, ih, if_pos rfl]
    · rw [sign_order (hx c List.mem_cons_self) (hy d List.mem_cons_self) h, if_neg (by omega)]
      exact decide_eq_decide.mpr (by omega)
end
section
theorem blt_cons (a : UInt8) (x y : List UInt8) : blt (a :: x) (a :: y) = blt x y := by unfold blt; rw [if_pos rfl]; cases x <;> cases y <;> rfl
theorem law_order (c : Col) {n : Nat} (d d' : Dv) (h : d.good n) (h' : d'.good n) : (Builtin.Bytes.order (part c d) (part c d') == .lt) = pairlt (rank (kept c d)) (rank (kept c d')) := by
  rw [order_blt]
  cases d with
  | none => cases d' <;> rfl
  | int i => cases d' with
    | int j =>
      obtain ⟨h1, h2⟩ := h; obtain ⟨h3, h4⟩ := h'
      show blt (2 :: be8 _) (2 :: be8 _) = pairlt (2, [i]) (2, [j])
      rw [blt_cons, blt_be8 (by omega) (by omega)]
      unfold pairlt
      rw [if_pos rfl]
      unfold lexlt
      by_cases e : i = j
      · subst e; rw [if_pos rfl]; simp [lexlt]
      · rw [if_neg e]; exact decide_eq_decide.mpr (by omega)
    | _ => rfl
  | str x => cases d' with
    | str y =>
      show blt (3 :: ended _) (3 :: ended _) = pairlt (3, _) (3, _)
      rw [blt_cons]
      unfold ended pairlt
      rw [blt_esc, if_pos rfl, blt_enc _ _ (c.of_le fun z hz => (h.1 z hz).1) (c.of_le fun z hz => (h'.1 z hz).1)]
    | _ => rfl
  | oct x => cases d' with
    | oct y =>
      show blt (4 :: ended _) (4 :: ended _) = pairlt (4, nums x) (4, nums y)
      rw [blt_cons]
      unfold ended pairlt
      rw [blt_esc, if_pos rfl, blt_nums]
    | _ => rfl
end
section
/-- none of the escaped ones begins another -/
theorem pre_esc : ∀ x y : List UInt8, (y.flatMap esc ++ [0, 0]) <+: (x.flatMap esc ++ [0, 0]) → x = y
  | [], [], _ => rfl
  | [], b :: q, h => by
    rw [List.flatMap_nil, List.nil_append, List.flatMap_cons, List.append_assoc] at h
    by_cases hb : b = 0
    · subst hb; rw [esc0] at h; simp at h
    · rw [escN hb] at h; simp at h; exact absurd h.1 hb
  | a :: r, [], h => by
    rw [List.flatMap_nil, List.nil_append, List.flatMap_cons, List.append_assoc] at h
    by_cases ha : a = 0
    · subst ha; rw [esc0] at h; simp at h
    · rw [escN ha] at h; simp at h; exact absurd h.1.symm ha
  | a :: r, b :: q, h => by
    rw [List.flatMap_cons, List.flatMap_cons, List.append_assoc, List.append_assoc] at h
    have step : a = b ∧ (q.flatMap esc ++ [0, 0]) <+: (r.flatMap esc ++ [0, 0]) := by
      by_cases ha : a = 0
      · subst ha
        by_cases hb : b = 0
        · subst hb; rw [esc0] at h; exact ⟨rfl, by simpa using h⟩
        · rw [esc0, escN hb] at h; simp at h; exact absurd h.1 hb
      · by_cases hb : b = 0
        · subst hb; rw [esc0, escN ha] at h; simp at h; exact absurd h.1.symm ha
        · rw [escN ha, escN hb] at h; simp at h; exact ⟨h.1.symm, by simpa using h.2⟩
    rw [step.1, pre_esc r q step.2]
theorem lex_anti : ∀ a b : List Int, lexlt a b = false → lexlt b a = false → a = b
  | [], [], _, _ => rfl
  | [], _ :: _, h, _ => by simp [lexlt] at h
  | _ :: _, [], _, h => by simp [lexlt] at h
  | a :: r, b :: q, h, h' => by
    unfold lexlt at h h'
    by_cases e : a = b
    · subst e
      rw [if_pos rfl] at h h'
      rw [lex_anti r q h h']
    · rw [if_neg e] at h; rw [if_neg (Ne.symm e)] at h'
      have := of_decide_eq_false h; have := of_decide_eq_false h'
      omega
theorem lexlt_irr : ∀ l : List Int, lexlt l l = false := lexlt_self
theorem enc_inj {x y : List Nat} (hx : ∀ c ∈ x, c ≤ 1114111) (hy : ∀ c ∈ y, c ≤ 1114111) (h : enc x = enc y) : (x.map fun c : Nat => (c : Int)) = y.map fun c : Nat => (c : Int) := by
  have self : ∀ l : List UInt8, blt l l = false := fun l => by rw [← blt_nums]; exact lexlt_self _
  refine lex_anti _ _ ?_ ?_
  · rw [← blt_enc x y hx hy, h]; exact self _
  · rw [← blt_enc y x hy hx, h]; exact self _
theorem map_inj {x y : List Nat} (h : (x.map fun c : Nat => (c : Int)) = y.map fun c : Nat => (c : Int)) : x = y :=
  (List.map_inj_right fun a b e => by omega).mp h
theorem nums_inj {x y : List UInt8} (h : nums x = nums y) : x = y :=
  (List.map_inj_right fun a b (e : (a.toNat : Int) = (b.toNat : Int)) => UInt8.toNat_inj.mp (by omega)).mp h
theorem pre_part (c : Col) {n : Nat} (d d' : Dv) (h : d.good n) (h' : d'.good n) : part c d' <+: part c d ↔ rank (kept c d) = rank (kept c d') := by
  cases d with
  | none => cases d' <;> simp [part, kept, rank]
  | int i => cases d' with
    | int j =>
      obtain ⟨h1, h2⟩ := h; obtain ⟨h3, h4⟩ := h'
      constructor
      · intro e
        have e2 : be8 (j + 9223372036854775808).toNat <+: be8 (i + 9223372036854775808).toNat := by simpa [part] using e
        have e3 := e2.eq_of_length (by rw [be8_len, be8_len])
        have b1 := blt_be8 (m := (j + 9223372036854775808).toNat) (n := (i + 9223372036854775808).toNat) (by omega) (by omega)
        have b2 := blt_be8 (m := (i + 9223372036854775808).toNat) (n := (j + 9223372036854775808).toNat) (by omega) (by omega)
        have self : ∀ l : List UInt8, blt l l = false := fun l => by rw [← blt_nums]; exact lexlt_self _
        rw [e3, self] at b1; rw [e3, self] at b2
        have c1 := of_decide_eq_false b1.symm; have c2 := of_decide_eq_false b2.symm
        show ((2 : Int), [i]) = (2, [j])
        rw [show i = j by omega]
      · intro e
        have : i = j := by simpa [rank, kept] using e
        rw [this]; exact List.prefix_refl _
    | _ => simp [part, kept, rank]
  | str x => cases d' with
    | str y =>
      constructor
      · intro e
        have e2 : ended (enc (c.of y)) <+: ended (enc (c.of x)) := by simpa [part] using e
        have e3 := pre_esc _ _ e2
        show ((3 : Int), _) = (3, _)
        rw [enc_inj (c.of_le fun z hz => (h.1 z hz).1) (c.of_le fun z hz => (h'.1 z hz).1) e3]
      · intro e
        have e2 : ((c.of x).map fun c : Nat => (c : Int)) = (c.of y).map fun c : Nat => (c : Int) := (Prod.mk.inj e).2
        show _ <+: 3 :: ended (enc (c.of x))
        rw [map_inj e2]; exact List.prefix_refl _
    | _ => simp [part, kept, rank]
  | oct x => cases d' with
    | oct y =>
      constructor
      · intro e
        have e2 : ended y <+: ended x := by simpa [part] using e
        rw [pre_esc _ _ e2]
      · intro e
        rw [nums_inj (show nums x = nums y from (Prod.mk.inj e).2)]; exact List.prefix_refl _
    | _ => simp [part, kept, rank]
theorem law_prefix (c : Col) {n : Nat} (d d' : Dv) (h : d.good n) (h' : d'.good n) : ((part c d).take (part c d').length == part c d') = decide (rank (kept c d) = rank (kept c d')) := by
  rw [Bool.eq_iff_iff, beq_iff_eq, decide_eq_true_eq, ← pre_part c d d' h h', List.prefix_iff_eq_take]
  exact eq_comm
end
section
section
variable {w : World} {O : OsState} {s : Shared} {A : Around} {E : Value → Shared → Prop} {Q : Value → Shared → Prop} {g : Heap} {L : Addr} {m : Str → Option Value} {led : Led}
theorem k_value {src : Addr} {xs : List Value} {d : Dv} {v : Value} {n k : Nat} (led' : List Value → Led) (I : St w O g L s m led) (x : (src, .lst xs) ∈ led) (hrep : ∀ xs', Rep src (.lst xs') led (led' xs')) (hx : Src2 xs) (hd : d.good n) (hv : d.is v) (hn : n < 100) (h4 : 4 ≤ n) (R : Room A (k + 4))
    (h : ∀ (d' : Dv) v' s' xs', d'.good (n + 1) → d'.is v' → Src2 xs' → St w O g L s' m (led' xs') → Q v' s') : wpC (Mw w) A (call (.ref 161) [.ref src, v]) Q E s :=
  f_value hd hv hn h4 hx (I.at x) (R.less (by omega)) (I.hid x) I.gens I.os fun d' v' s' xs' h1 h2 h3 hs' k hg ho => h d' v' s' xs' h1 h2 h3 (I.rep (hrep xs') k hs' hg ho)
theorem k_pool {j k : Nat} {sl : Addr} {xs : List Value} {ns : List Int} {u : Tok} (hk : j < 2) (hs : s.heap.IsList sl xs.toArray) (hx : Ints xs ns) (hz : xs.length < 1000) (R : Room A (k + 1)) (I : St w O g L s m led)
    (h : ∀ a xs' s', Src2 xs' → St w O g L s' m ((a, .lst xs') :: led) → Q (.ref a) s') : wpC (Mw w) A (call (.ref 121) [.ref sl, .int (j : Int) u]) Q E s :=
  f_pool hk hs hx hz (R.less (by omega)) I.stah I.gens I.os fun a xs' s' G ha hx' hf => h a xs' s' hx' (I.take G (At.lst ha.isList) hf)
theorem k_is_ended {d : Dv} {v : Value} {n k : Nat} (hv : d.is v) (hd : d.good n) (hn : n < 1000) (R : Room A (k + 3)) (I : St w O g L s m led) (h : ∀ s', St w O g L s' m led → Q (.bool true) s') : wpC (Mw w) A (call (.ref 200) [v]) Q E s :=
  f_is_ended hv hd hn (R.less (by omega)) I.stah I.gens I.os fun s' G => h s' (I.gr G)
theorem k_right {c : Col} {ds : List Dv} {vs : List Value} {vl : Addr} {u : Tok} {n k : Nat} (hvs : Dvs vs ds) (hat : At s.heap vl (.list vs)) (hd : ∀ d ∈ ds, d.good n) (hn : n < 100) (hl : ds.length = 4) (R : Room A (k + 5)) (I : St w O g L s m led)
    (h : ∀ s', St w O g L s' m led → Q (.bool true) s') : wpC (Mw w) A (call (.ref 195) [.ref vl, .str c.name u]) Q E s :=
  f_right hvs hat hd hn hl (fun d d' h h' => law_order c d d' h h') (fun d d' h h' => law_prefix c d d' h h') (R.less (by omega)) I.stah I.gens I.os fun s' G => h s' (I.gr G)
end
end
section
section
variable {w : World} {O : OsState} {s : Shared} {A : Around} {E : Value → Shared → Prop} {Q : Value → Shared → Prop} {B : Heap} {l : List Env}
/-- a collation that is not there -/
theorem r_collate {cs : Str} {t u : Tok} (hz : A.depth < 700) (R : Room A 2) (X : Sta w s.heap) (hg : s.gens = #[]) (ho : s.os = O) (K : Below A B l s.heap)
    (h : ∀ e s', Flies O B l 44 s.heap e s' → E e s') : wpC (Mw w) A (call (.ref 93) [.str cs t, .str (Str.ofString "other") u]) Q E s := by
  refine c_enter (g := s.heap) (led := []) [("collation", .str (Str.ofString "other") u), ("text", .str cs t)] R X (Sub.refl _) (fun _ h => nomatch h) List.nodup_nil hg ho (by with_unfolding_all rfl) (by with_unfolding_all rfl) (by with_unfolding_all rfl) (locs (by with_unfolding_all rfl)) ?_
  intro L s₁ I _
  repeat tm_at "s"
  refine br_f (by decide +kernel) ?_
  repeat tm_at "s"
  refine br_f (by decide +kernel) ?_
  repeat tm_at "s"
  refine br_f (by decide +kernel) ?_
  repeat tm_at "s"
  rename_i I2
  refine x_Raise (exc_sql w) I2 K R.h (by omega) (gl_SqlError w) (fun {E' Q'} hQ => ?_) (Heap.UpToSlots.refl _) h
  refine JoinedStr_many (joinParts_cons (wpAny_Constant_str ⟨by decide, joinParts_cons (FormattedValue_plain (wpAny_Name (wpAny_loadName_local rfl (by with_unfolding_all rfl) I2.ns (by tm_at "v") (formatField_str (fun t' tk => ⟨by decide, joinParts_nil (hQ _ _ ?_) (by decide)⟩) (by decide))) (by decide)))⟩))
  exact I2.grow (Sub.refl _)
/-- a whole number beyond 64 bits -/
theorem r_sort_big {i : Int} {cs : Str} {t u : Tok} (hi : ¬ (-9223372036854775808 ≤ i ∧ i ≤ 9223372036854775807)) (hz : A.depth < 700) (R : Room A 4) (X : Sta w s.heap) (hg : s.gens = #[]) (ho : s.os = O) (K : Below A B l s.heap)
    (h : ∀ e s', Flies O B l 56 s.heap e s' → E e s') : wpC (Mw w) A (call (.ref 114) [.int i t, .str cs u]) Q E s := by
  refine c_enter (g := s.heap) (led := []) [("collation", .str cs u), ("v", .int i t)] R X (Sub.refl _) (fun _ h => nomatch h) List.nodup_nil hg ho (by with_unfolding_all rfl) (by with_unfolding_all rfl) (by with_unfolding_all rfl) (locs (by with_unfolding_all rfl)) ?_
  intro L s₁ I _
  repeat tm_at "s"
  refine k_class (d := .int i) ⟨_, rfl⟩ (R.deeper _) (by with_reducible assumption) fun t s' I' => ?_
  repeat tm_at "s"
  refine br_f (by exact (by decide +kernel : ((Str.ofString "integer").cps.toList == (Str.ofString "null").cps.toList) = false)) ?_
  repeat tm_at "s"
  refine br_t (by exact (by decide +kernel : ((Str.ofString "integer").cps.toList == (Str.ofString "integer").cps.toList) = true)) ?_
  repeat tm_at "s"
  refine k_in_range (R.deeper _) (by with_reducible assumption) fun s' I' => ?_
  rw [decide_eq_false hi]
  repeat tm_at "s"
  refine x_Raise (exc_misuse w) (by with_reducible assumption) K R.h (by omega) (gl_MisuseError w) (fun {E' Q'} hQ => ?_) (Heap.UpToSlots.refl _) h
  refine wpAny_Constant_str (hQ _ _ ?_)
  exact St.grow (by with_reducible assumption) (Sub.refl _)
/-- a text by a collation that is not there -/
theorem r_sort_other {cs : List Nat} {t u : Tok} (hz : A.depth < 600) (R : Room A 4) (X : Sta w s.heap) (hg : s.gens = #[]) (ho : s.os = O) (K : Below A B l s.heap)
    (h : ∀ e s', Flies O B l 44 s.heap e s' → E e s') : wpC (Mw w) A (call (.ref 114) [.str ⟨cs.toArray⟩ t, .str (Str.ofString "other") u]) Q E s := by
  refine c_enter (g := s.heap) (led := []) [("collation", .str (Str.ofString "other") u), ("v", .str ⟨cs.toArray⟩ t)] R X (Sub.refl _) (fun _ h => nomatch h) List.nodup_nil hg ho (by with_unfolding_all rfl) (by with_unfolding_all rfl) (by with_unfolding_all rfl) (locs (by with_unfolding_all rfl)) ?_
  intro L s₁ I _
  repeat tm_at "s"
  refine k_class (d := .str cs) ⟨_, rfl⟩ (R.deeper _) (by with_reducible assumption) fun t s' I' => ?_
  repeat tm_at "s"
  refine br_f (by exact (by decide +kernel : ((Str.ofString "text").cps.toList == (Str.ofString "null").cps.toList) = false)) ?_
  repeat tm_at "s"
  refine br_f (by exact (by decide +kernel : ((Str.ofString "text").cps.toList == (Str.ofString "integer").cps.toList) = false)) ?_
  repeat tm_at "s"
  refine br_t (by exact (by decide +kernel : ((Str.ofString "text").cps.toList == (Str.ofString "text").cps.toList) = true)) ?_
  repeat tm_at "s"
  rename_i I2
  refine r_collate (by show A.depth + 1 < 700; omega) (Room.less (R.deeper _) (by omega)) I2.stah I2.gens I2.os (Below.own K I2) fun e s' F => ?_
  exact c_any (leave_on (by show A.frames.map _ = _; rw [K.stack]; rfl) F I2.keep.slots (h e))
/-- a whole number of 64 bits, whatever the collation -/
theorem r_sort_good {i : Int} {cs : Str} {t u : Tok} (hi : -9223372036854775808 ≤ i ∧ i ≤ 9223372036854775807) (R : Room A 4) (X : Sta w s.heap) (hg : s.gens = #[]) (ho : s.os = O)
    (h : ∀ a s', Gr O s.heap s' → Q (.ref a) s') : wpC (Mw w) A (call (.ref 114) [.int i t, .str cs u]) Q E s := by
  refine c_enter1 [("collation", .str cs u), ("v", .int i t)] R X hg ho (by with_unfolding_all rfl) (by with_unfolding_all rfl) (by with_unfolding_all rfl) (locs (by with_unfolding_all rfl)) ?_
  intro L s₁ I
  repeat tm_at "s"
  refine k_class (d := .int i) ⟨_, rfl⟩ (R.deeper _) (by with_reducible assumption) fun t s' I' => ?_
  repeat tm_at "s"
  refine br_f (by exact (by decide +kernel : ((Str.ofString "integer").cps.toList == (Str.ofString "null").cps.toList) = false)) ?_
  repeat tm_at "s"
  refine br_t (by exact (by decide +kernel : ((Str.ofString "integer").cps.toList == (Str.ofString "integer").cps.toList) = true)) ?_
  repeat tm_at "s"
  refine k_in_range (R.deeper _) (by with_reducible assumption) fun s' I' => ?_
  rw [decide_eq_true hi]
  repeat tm_at "s"
  obtain ⟨hd1, hd2⟩ := hi
  have e : i + Int.fdiv 18446744073709551616 2 = (((i + 9223372036854775808).toNat : Nat) : Int) := by
    have : Int.fdiv 18446744073709551616 2 = 9223372036854775808 := by decide
    rw [this]; omega
  rw [e]
  refine k_put_fixed (by omega) (R.deeper _) (by with_reducible assumption) fun t s' I' => ?_
  repeat tm_at "s"
  have hb := be8_len (i + 9223372036854775808).toNat
  refine c_extendB (by with_reducible assumption) (St.at (by with_reducible assumption) (by tm_at "m")) (by tm_at "z") (by tm_at "r") fun s' I' => ?_
  repeat tm_at "s"
  exact h _ _ I'.out
variable {g : Heap} {L : Addr} {m : Str → Option Value} {led : Led} {nm : Str} {sc : Scope} {a : Addr} {cd : Value} {C : Addr}
/-- the law's def that catches: sort_part raises -/
theorem r_refuse {v : Value} {cs : Str} {u : Tok} (Y : ExcC w C) (hC : C = 56 ∨ C = 44) (hz : A.depth < 500) (R : Room A 8) (I : St w O g L s m led) (hfr : A.frames = some [envOf nm sc L a cd]) (hk : sc.kind = .function)
    (hcall : ∀ {A' : Around} {s' : Shared} {B' : Heap} {l' : List Env} {Q' E' : Value → Shared → Prop}, A'.depth < 600 → Room A' 4 → Sta w s'.heap → s'.gens = #[] → s'.os = O → Below A' B' l' s'.heap →
      (∀ e s'', Flies O B' l' C s'.heap e s'' → E' e s'') → wpC (Mw w) A' (call (.ref 114) [v, .str cs u]) Q' E' s')
    (h : ∀ t s', St w O g L s' m led → Q (.str (if C = 56 then Str.ofString "misuse" else Str.ofString "sql") t) s') : wpC (Mw w) A (call (.ref 207) [v, .str cs u]) Q E s := by
  have K := below_hide I hfr hk
  refine c_enter (g := s.heap) (led := []) [("collation", .str cs u), ("value", v)] R I.stah (Sub.refl _) (fun _ h => nomatch h) List.nodup_nil I.gens I.os (by with_unfolding_all rfl) (by with_unfolding_all rfl) (by with_unfolding_all rfl) (locs (by with_unfolding_all rfl)) ?_
  intro L₁ s₁ I₁ _
  refine x_cons (x_Try ?_)
  repeat tm_at "s"
  refine hcall (by show A.depth + 1 < 600; omega) (Room.less (R.deeper _) (by omega)) (St.stah (by with_reducible assumption)) (St.gens (by with_reducible assumption)) (St.os (by with_reducible assumption)) (Below.own K (by with_reducible assumption)) fun e s' F => ?_
  refine caught F Y hC I.hide (by show A.frames.map _ = _; rw [K.stack]; rfl) fun t s3 S => h t s3 (Stands.st I ⟨S.1, I₁.keep.slots.trans S.2.1, S.2.2⟩)
end
end
section
/-- what the law asks of the refusals: its frame stands at L -/
structure Refuse (w : World) (A : Around) (L : Addr) : Prop where
  big : ∀ {O g s m led t u} {Q : Value → Shared → Prop}, St w O g L s m led → (∀ t s', St w O g L s' m led → Q (.str "misuse" t) s') → wpC (Mw w) A (call (.ref 207) [.int 9223372036854775808 t, .str "rtrim" u]) Q NoE s
  low : ∀ {O g s m led t u} {Q : Value → Shared → Prop}, St w O g L s m led → (∀ t s', St w O g L s' m led → Q (.str "misuse" t) s') → wpC (Mw w) A (call (.ref 207) [.int (-9223372036854775809) t, .str "binary" u]) Q NoE s
  other : ∀ {O g s m led t u} {Q : Value → Shared → Prop}, St w O g L s m led → (∀ t s', St w O g L s' m led → Q (.str "sql" t) s') → wpC (Mw w) A (call (.ref 207) [.str "a" t, .str "other" u]) Q NoE s
  none' : ∀ {O g s m led t u} {Q : Value → Shared → Prop}, St w O g L s m led → (∀ t s', St w O g L s' m led → Q (.str "none" t) s') → wpC (Mw w) A (call (.ref 207) [.int 7 t, .str "other" u]) Q NoE s
theorem refuse {w : World} {A : Around} (hh : A.handled = none) (hfr : A.frames = some []) (hz : A.depth < 400) (hu : A.units < 8000) (sc : Scope) (L : Addr) (hk : sc.kind = ScopeKind.function) :
    Refuse w (A.deeper (envOf (Str.ofString "law") sc L 212 (.ref 211))) L := by
  have R : Room (A.deeper (envOf (Str.ofString "law") sc L 212 (.ref 211))) 8 := ⟨by show A.depth + 1 + 8 < 900; omega, by show A.units + 3 + 10 * 8 < 9000; omega, hh⟩
  have hf : (A.deeper (envOf (Str.ofString "law") sc L 212 (.ref 211))).frames = some [envOf (Str.ofString "law") sc L 212 (.ref 211)] := by show A.frames.map _ = _; rw [hfr]; rfl
  have hd : (A.deeper (envOf (Str.ofString "law") sc L 212 (.ref 211))).depth < 500 := by show A.depth + 1 < 500; omega
  refine ⟨fun {O g s m led t u Q} I h => ?_, fun {O g s m led t u Q} I h => ?_, fun {O g s m led t u Q} I h => ?_, fun {O g s m led t u Q} I h => ?_⟩
  · exact r_refuse (exc_misuse w) (.inl rfl) hd R I hf hk (fun d R X hg ho K h => r_sort_big (by omega) (by omega) R X hg ho K h) h
  · exact r_refuse (exc_misuse w) (.inl rfl) hd R I hf hk (fun d R X hg ho K h => r_sort_big (by omega) (by omega) R X hg ho K h) h
  · rw [show (Str.ofString "a") = ⟨[97].toArray⟩ by decide +kernel]
    exact r_refuse (exc_sql w) (.inr rfl) hd R I hf hk (fun d R X hg ho K h => r_sort_other (by omega) R X hg ho K h) h
  · refine c_enter1 [("collation", .str (Str.ofString "other") u), ("value", .int 7 t)] R I.stah I.gens I.os (by with_unfolding_all rfl) (by with_unfolding_all rfl) (by with_unfolding_all rfl) (locs (by with_unfolding_all rfl)) ?_
    intro L₁ s₁ I₁
    refine x_cons (x_Try (x_cons (x_ExprAny ?_)))
    repeat tm_at "s"
    refine r_sort_good (by omega) (Room.less (R.deeper _) (by omega)) (St.stah (by with_reducible assumption)) (St.gens (by with_reducible assumption)) (St.os (by with_reducible assumption)) fun a s' G => ?_
    have I2 := I₁.gr G
    repeat tm_at "s"
    exact h _ _ (I.gr (St.out (by with_reducible assumption)))
theorem Dv.good.mono {n k : Nat} {d : Dv} (h : d.good n) (hk : n ≤ k) : d.good k := by
  cases d with
  | none => trivial
  | int i => exact h
  | str cs => exact ⟨h.1, Nat.le_trans h.2 hk⟩
  | oct b => exact Nat.le_trans h hk
section
variable {w : World} {O : OsState} {s : Shared} {A : Around} {E : Value → Shared → Prop} {Q : Value → Shared → Prop}
local macro_rules | `(tactic| tm_at "s") => `(tactic| ((with_reducible show wpC _ _ (binaryOp Operator.Pow (Value.int _ _) (Value.int _ _)) _ _ _); refine o_pow (by with_reducible assumption) (by decide) (by decide) (by decide) ?_; intro t s' I'))
theorem f_law {sl : Addr} {xs : List Value} {ns : List Int} (HR : ∀ sc L, sc.kind = ScopeKind.function → Refuse w (A.deeper (envOf (Str.ofString "law") sc L 212 (.ref 211))) L) (hs : s.heap.IsList sl xs.toArray) (hx : Ints xs ns) (hz : xs.length < 1000) (R : Room A 10) (X : Sta w s.heap) (hg : s.gens = #[]) (ho : s.os = O)
    (h : ∀ s', Gr O s.heap s' → Q (.bool true) s') : wpC (Mw w) A (call (.ref 212) [.ref sl]) Q E s := by
  refine c_enter1 [("script", .ref sl)] R X hg ho (by with_unfolding_all rfl) (by with_unfolding_all rfl) (by with_unfolding_all rfl) (locs (by with_unfolding_all rfl)) ?_
  intro L s₁ I
  repeat tm_at "s"
  refine c_bytes_int (by with_reducible assumption) (by decide) (by decide) fun t s' I' => ?_
  repeat tm_at "s"
  refine k_sort_part (d := .oct [0]) (c := .binary) ⟨_, rfl⟩ (by decide : (1 : Nat) < 1000) (R.deeper _) (by with_reducible assumption) fun ap s' I' => ?_
  repeat tm_at "s"
  refine c_bytes_ba (by with_reducible assumption) (St.at (by with_reducible assumption) (by tm_at "m")) (by decide) fun t s' I' => ?_
  repeat tm_at "s"
  have e1 : (part .binary (.oct [0])).toArray = (flat .binary [.oct [0]]).toArray := by simp [flat]
  rw [e1]
  refine k_read (c := .binary) (ds := [.oct [0]]) (n := 1) (fun d hd => by rw [List.mem_singleton.mp hd]; exact (by decide : (1 : Nat) ≤ 1)) (by decide) (R.deeper _) (by with_reducible assumption) fun ra rx s' g2 k2 I' hra hrp => ?_
  have I' := I'.drop (led' := []) (List.nil_sublist _)
  repeat tm_at "s"
  rename_i l0 s7 I7 tp s8 I8 ls s9 I9
  have hpp : IsPair s9.heap (.ref tp) (4, nums [0]) := ⟨tp, _, l0, _, rfl, I9.at (c := .tup [.int 4 _, .ref l0]) (List.mem_cons_of_mem _ List.mem_cons_self), I9.at (c := .list _) (List.mem_cons_of_mem _ (List.mem_cons_of_mem _ List.mem_cons_self)), .cons .nil⟩
  refine q_nel (show A.units + 3 < 9100 by have := R.u; omega) (hra.sub I9.keep) (I9.at List.mem_cons_self) (hrp.mono I9.keep) (.cons hpp .nil) ?_
  rw [decide_eq_true (show [Dv.oct [0]].map (toldK .binary) = [(4, nums [0])] from rfl)]
  have I9 := I9.drop (led' := []) (List.nil_sublist _)
  repeat tm_at "s"
  rw [show (2 : Int) ^ Int.toNat 63 = 9223372036854775808 by decide]
  refine (HR _ L rfl).big (by with_reducible assumption) fun t s' I' => ?_
  repeat tm_at "s"
  refine br_f (by decide +kernel) ?_
  repeat tm_at "s"
  rw [show -(2 : Int) ^ Int.toNat 63 - 1 = -9223372036854775809 by decide]
  refine (HR _ L rfl).low (by with_reducible assumption) fun t s' I' => ?_
  repeat tm_at "s"
  refine br_f (by decide +kernel) ?_
  repeat tm_at "s"
  refine (HR _ L rfl).other (by with_reducible assumption) fun t s' I' => ?_
  repeat tm_at "s"
  refine br_f (by decide +kernel) ?_
  repeat tm_at "s"
  refine (HR _ L rfl).none' (by with_reducible assumption) fun t s' I' => ?_
  repeat tm_at "s"
  refine br_f (by decide +kernel) ?_
  repeat tm_at "s"
  refine x_ForI (by with_reducible assumption) (max 1 (min 2 xs.length)) (fun i v => ∃ t, v = .int (i : Int) t) (fun i g' m' led' => m' (Str.ofString "script") = some (.ref sl) ∧ led' = []) R.h ?_ ?_ ?_ ?_
  · repeat tm_at "s"
    refine c_lenL (by with_reducible assumption) (let ⟨o, e, r⟩ := hs; ⟨o, k2.trans (St.keep (by with_reducible assumption)) _ _ e, r⟩) (by omega) fun t s' I' => ?_
    repeat tm_at "s"
    refine c_min R.h (by with_reducible assumption) fun t s' I' => ?_
    repeat tm_at "s"
    refine c_max R.h (by with_reducible assumption) fun t s' I' => ?_
    repeat tm_at "s"
    rw [show max (1 : Int) (min 2 (xs.length : Int)) = ((max 1 (min 2 xs.length) : Nat) : Int) by omega]
    refine call_rangeN (by with_reducible assumption) fun r' ru rv s' hr I' => ?_
    exact iter_range I' rfl hr (by omega) fun it s' y I' => ⟨y, I'⟩
  · intro g' _
    exact ⟨by tm_at "v", rfl⟩
  · rintro i g3 s' m3 led3 v it o k3 hi ⟨ti, rfl⟩ ⟨hms, rfl⟩ I3
    repeat tm_at "s"
    refine k_pool (j := i) (by omega) (let ⟨o, e, r⟩ := hs; ⟨o, k2.trans (k3.trans (St.keep (by with_reducible assumption))) _ _ e, r⟩) hx hz (R.deeper _) (by with_reducible assumption) fun src xs' s' hx' I' => ?_
    repeat tm_at "s"
    refine x_Swap [Str.ofString "collation", Str.ofString "values", Str.ofString "ahead"] ?_
    repeat tm_at "s"
    rename_i th s8 I8
    refine k_one (fun xs' => [(th, .list _), (src, .lst xs'), (it, .raw o)]) I8 (by tm_at "m") (fun _ => by tm_at "r") hx' (I8.at List.mem_cons_self) (I8.ne List.mem_cons_self) (by simp) (by simp) (R.deeper _) fun cv s' xs' hv hx' I' => ?_
    obtain ⟨c, tc, rfl⟩ : ∃ c tc, cv = .str (Col.name c) tc := by
      simp only [List.mem_cons, List.not_mem_nil, or_false] at hv
      rcases hv with rfl | rfl | rfl
      · exact ⟨.binary, _, rfl⟩
      · exact ⟨.nocase, _, rfl⟩
      · exact ⟨.rtrim, _, rfl⟩
    have I' := I'.drop (led' := [(src, .lst xs'), (it, .raw o)]) (List.sublist_cons_self ..)
    repeat tm_at "s"
    rename_i vl s9 I9 tp s10 I10
    refine c_unpack R.h I10 (I10.at List.mem_cons_self) rfl fun s' I' => ?_
    have I' := I'.drop (led' := [(vl, .list []), (src, .lst xs'), (it, .raw o)]) (List.sublist_cons_self ..)
    refine o_cons (c_bindName ?_)
    repeat tm_at "s"
    refine o_cons (c_bindName ?_)
    repeat tm_at "s"
    refine o_cons (c_bindName ?_)
    repeat tm_at "s"
    refine o_nil ?_
    repeat tm_at "s"
    rename_i s11 _ s12 _ s13 I13
    refine x_ForI (by with_reducible assumption) 4 (fun i v => ∃ t, v = .int (i : Int) t) (fun i g' m' led' => ∃ (ds : List Dv) (vs : List Value) (d : Dv) (v : Value) (xs' : List Value), m' (Str.ofString "source") = some (.ref src) ∧ m' (Str.ofString "values") = some (.ref vl) ∧ m' (Str.ofString "ahead") = some v ∧ m' (Str.ofString "collation") = some (.str c.name tc) ∧ m' (Str.ofString "script") = some (.ref sl) ∧
      led' = [(vl, .list vs), (src, .lst xs'), (it, .raw o)] ∧ Dvs vs ds ∧ vs.length = i ∧ (∀ d ∈ ds, d.good 8) ∧ d.good (4 + i) ∧ d.is v ∧ Src2 xs') R.h ?_ ?_ ?_ ?_
    · repeat tm_at "s"
      refine call_rangeN (n := 4) (by with_reducible assumption) fun r' ru rv s' hr I' => ?_
      exact iter_range (n := 4) I' rfl hr (by decide) fun it s' y I' => ⟨y, I'⟩
    · intro g' _
      exact ⟨[], [], .none, .none, _, by tm_at "v", by tm_at "v", by tm_at "v", by tm_at "v", by tm_at "v", rfl, .nil, rfl, (fun d h => nomatch h), trivial, rfl, hx'⟩
    · rintro i4 g4 s' m4 led4 v it2 o2 k4 hi4 ⟨t1, rfl⟩ ⟨ds, vs, d, va, xs2, hm1, hm2, hm3, hm4, hm5, rfl, hdv, hlen, hgood, hdg, hdi, hx2⟩ I4
      repeat tm_at "s"
      refine k_value (fun xs' => [(it2, .raw o2), (vl, .list vs), (src, .lst xs'), (it, .raw o)]) (by with_reducible assumption) (by tm_at "m") (fun _ => by tm_at "r") hx2 hdg hdi (by omega) (by omega) (R.deeper _) fun d' v' s' xs3 hd' hv' hx3 I' => ?_
      repeat tm_at "s"
      refine ⟨_, _, _, Sub.refl _, by with_reducible assumption, ds ++ [d'], vs ++ [v'], d', v', xs3, by tm_at "v", by tm_at "v", by tm_at "v", by tm_at "v", by tm_at "v", rfl, hdv.snoc hv', by simp [hlen], fun x hx => ?_, hd', hv', hx3⟩
      rcases List.mem_append.mp hx with h' | h'
      · exact hgood x h'
      · rw [List.mem_singleton.mp h']; exact hd'.mono (by omega)
    · rintro g4 s' m4 led4 k4 I4 ⟨ds, vs, d, va, xs2, hm1, hm2, hm3, hm4, hm5, rfl, hdv, hlen, hgood, hdg, hdi, hx2⟩
      have nd := I4.nd
      simp only [List.map_cons, List.map_nil, List.nodup_cons, List.mem_cons, List.not_mem_nil, or_false, not_or] at nd
      obtain ⟨k5, _, I5⟩ := (I4.drop (led' := [(it, .raw o)]) (.cons _ (.cons _ (List.Sublist.refl _)))).base
      have hat : At (Mine.base s'.heap L [(it, .raw o)]) vl (.list vs) := by
        obtain ⟨o', e', c'⟩ := I4.at (c := .list vs) List.mem_cons_self
        exact ⟨o', base_get e' (fun q => nd.1.1 q.symm) (fun p hp => by rw [List.mem_singleton.mp hp]; exact fun q => nd.2.1.2 q.symm), c'⟩
      have hdl : ds.length = 4 := by rw [← hdv.length]; exact hlen
      repeat tm_at "s"
      refine k_right (n := 8) hdv (hat.sub (St.keep (by with_reducible assumption))) hgood (by decide) hdl (R.deeper _) (by with_reducible assumption) fun s' I' => ?_
      repeat tm_at "s"
      refine e_CompI (by with_reducible assumption) vs.length (fun i v => vs[i]? = some v) (fun i g' ys led' => ys = [] ∧ led' = [(it, .raw o)]) R.h (by omega) (by rfl) ?_ ?_ ?_ ?_
      · repeat tm_at "s"
        exact iter_listB (by with_reducible assumption) rfl hat fun it s' y I' => ⟨y, I'⟩
      · intro g' _
        exact ⟨rfl, rfl⟩
      · rintro i6 g6 C D s' mC led6 ys v it3 o3 oL k6 hi6 ev ⟨rfl, rfl⟩ I6 hm
        obtain ⟨d', ed', hv'⟩ := hdv.at ev
        refine t_one ?_
        repeat tm_at "s"
        refine k_is_ended hv' (hgood d' (List.mem_of_getElem? ed')) (by decide) (R.deeper _) (by with_reducible assumption) fun s' I' => ?_
        repeat tm_at "s"
        exact ⟨_, _, _, Sub.refl _, by with_reducible assumption, rfl, rfl⟩
      · rintro g6 s' led6 D ys k6 I6 ⟨rfl, rfl⟩
        repeat tm_at "s"
        rename_i a7 s7 I7
        refine q_nen (show A.units + 3 < 9100 by have := R.u; omega) (I7.at (List.mem_cons_of_mem _ List.mem_cons_self)) (I7.at List.mem_cons_self) ?_
        repeat tm_at "s"
        exact ⟨_, _, [], k4.trans (k5.trans k6), I7.drop (.cons _ (.cons _ (List.Sublist.refl _))), by tm_at "v", rfl⟩
  · rintro g3 s' m3 led3 k3 I3 ⟨hms, rfl⟩
    repeat tm_at "s"
    exact h _ (Gr.trans (k2.trans k3) (St.out (by with_reducible assumption)))
end
end
end Mine
end
section
open PySem PySem.W PyProof.Rows
set_option maxRecDepth 100000
namespace Mine
theorem args_of {args : List WData} (hpre : rwx.claim.pre args = true) : ∃ ns : List Int, args = [.list (ns.map .int)] ∧ ns.length ≤ 63 := by
  have hsh := (pre_splitW hpre).1
  have hcond := (pre_splitW hpre).2
  obtain ⟨d, r, rfl, hd, hr⟩ := hasAllW_cons (e := .list .int) (es := []) hsh
  obtain rfl := hasAllW_nil hr
  cases d <;> (try (exfalso; revert hd; simp [WShape.has, WShape.arms]; done))
  rename_i xs
  have hx : WShape.hasItems rwx.records xs .int = true := by simpa [WShape.has, WShape.arms] using hd
  obtain ⟨ns, rfl⟩ := items_int hx
  refine ⟨ns, rfl, ?_⟩
  clear hpre hsh hd hr hx
  w_cond hcond
  rename_i h1 h2
  rw [List.length_map] at h1
  omega
theorem ints_read {R : WRecords} {cl : Str → Option Addr} {h : Heap} : ∀ {ns : List Int} {vs : List Value} {as : List Addr}, ReadsAllW R cl h vs (ns.map .int) as → Ints vs ns
  | [], vs, as, x => by cases x; exact .nil
  | n :: ns, vs, as, x => by
    cases x with
    | cons a b => cases a; exact .cons (ints_read b)
theorem ints_len {vs : List Value} {ns : List Int} (hx : Ints vs ns) : vs.length = ns.length := by
  induction hx with
  | nil => rfl
  | cons _ ih => rw [List.length_cons, List.length_cons, ih]
theorem walkX : WalkC qx Kl (XL qx Kv) (Hook.says Kh) rwx := by
  intro w s₀ s₁ mg mb G Y hgens args vals as hpre hlay hrd
  obtain ⟨ns, rfl, hlen⟩ := args_of hpre
  have KX : (Kx w.params).In s₁.heap := kIn_of Y
  have X : Sta w s₁.heap := ⟨KX, ⟨mg, G.T.g⟩, ⟨mb, G.T.b, G.T.builtins⟩, G.T.nolimit⟩
  cases hrd with
  | cons hv hr =>
    cases hr
    cases hv with
    | list ha hc hd hi =>
      rename_i a o vs n bs
      have hx := ints_read hi
      have hl : vs.toList.length = ns.length := ints_len hx
      refine ⟨.ref 212, mg_of KX G.T.g (by with_unfolding_all rfl), ?_⟩
      refine f_law (A := callerA) (O := s₁.os) (xs := vs.toList) (fun sc L hk => refuse rfl rfl (by decide) (by decide) sc L hk) ⟨o, ha, hc, n, by simpa using hd⟩ hx (by omega) ⟨by decide, by decide, rfl⟩ X hgens rfl ?_
      intro s' Gr
      refine ⟨.inl ⟨_, .bool true, [], rfl, ?_, .bool true, ?_, fun _ => ⟨List.nodup_nil, fun _ h => nomatch h⟩⟩, Gr.keep, Gr.os, Gr.gens⟩
      · intro cls; rfl
      · wrow_post
end Mine
end
theorem PySem.Challenge.cw_xm0749_01_holds : PySem.Challenge.rw_xm0749_01.Holds :=
  Mine.hdX Mine.walkX
