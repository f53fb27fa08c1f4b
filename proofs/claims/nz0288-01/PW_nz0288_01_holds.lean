import PyProof.Rows.All
import Wide.All
import OpenK.AllK
import Wide.FinOn
import Lean
import PySem.Challenge.RW_nz0288_01
set_option Elab.async false
set_option rowWalk.seconds 0
section
open PySem PySem.W PySem.Calls PyProof.Rows
open PySem.Sem (wp)
namespace Mine
theorem reg1 : True := by
  w_top off
  trivial
/-- a code that never counts as a holder of a bytearray -/
noncomputable def okC : Code → Bool
  | .builtin id _ => !(Builtin.Bytes.decodersThatHold ++ ["bytearray.__contains__", "bytearray.__mod__", "bytearray.__rmod__", "bytearray.find.held", "_struct.pack_into.held"]).contains id
  | _ => true
/-- no code of a stack holds a bytearray -/
noncomputable def Clean (Γ : Ctx) : Prop := okC Γ.code = true ∧ ∀ q ∈ Γ.below, okC q.1 = true
/-- a tree ends well from every stack that holds no bytearray; nothing is raised -/
noncomputable def wpK {α : Type} (M : Model) (A : Around) (t : Sem α) (Q : α → Shared → Prop) (s : Shared) : Prop :=
  ∀ Γ p, Γ.In A → Clean Γ → wp M Γ t (fun a _ s' => Q a s') (fun _ _ _ => False) p s
noncomputable def codeK (M : Model) (A : Around) (c : Code) (R : Flow → Shared → Prop) (s : Shared) : Prop :=
  ∀ Γ p, Γ.code = c → Γ.Below A → Clean Γ → wpCode M Γ (fun r s' => ∃ f, r = .ok f ∧ R f s') p s
noncomputable abbrev noE : Value → Shared → Prop := fun _ _ => False
section
variable {α β : Type} {M : Model} {A : Around} {s : Shared}
theorem wpK_any {t : Sem α} {Q : α → Shared → Prop} (h : wpAny M A t Q noE s) : wpK M A t Q s := fun Γ p hΓ _ => h Γ p hΓ
theorem codeK_any {c : Code} {R : Flow → Shared → Prop} (h : codeAny M A c (fun r s' => ∃ f, r = .ok f ∧ R f s') s) : codeK M A c R s := fun Γ p hc hΓ _ => h Γ p hc hΓ
theorem wpK_mono {t : Sem α} {Q Q' : α → Shared → Prop} (h : wpK M A t Q s) (hQ : ∀ a s, Q a s → Q' a s) : wpK M A t Q' s :=
  fun Γ p hΓ hc => Sem.wp_mono M Γ t (fun a _ s => hQ a s) (fun _ _ _ x => x) p s (h Γ p hΓ hc)
theorem wpK_pure {a : α} {Q : α → Shared → Prop} (h : Q a s) : wpK M A (pure a) Q s := fun _ _ _ _ => h
theorem wpK_bind {m : Sem α} {f : α → Sem β} {Q : β → Shared → Prop} (h : wpK M A m (fun a s' => wpK M A (f a) Q s') s) : wpK M A (m >>= f) Q s := fun Γ p hΓ hc => by
  rw [Sem.wp_bind']
  exact Sem.wp_mono M Γ m (fun a p' s' h' => h' Γ p' hΓ hc) (fun _ _ _ h' => h') p s (h Γ p hΓ hc)
theorem wpK_bindA {m : Sem α} {f : α → Sem β} {Q : β → Shared → Prop} (h : wpAny M A m (fun a s' => wpK M A (f a) Q s') noE s) : wpK M A (m >>= f) Q s := wpK_bind (wpK_any h)
theorem wpK_onRaise {m : Sem α} {k : Value → Sem Unit} {Q : α → Shared → Prop} (h : wpK M A m Q s) : wpK M A (m.onRaise k) Q s := fun Γ p hΓ hc => by
  rw [Sem.wp_onRaise]
  exact Sem.wp_mono M Γ m (fun _ _ _ h' => h') (fun _ _ _ h' => h'.elim) p s (h Γ p hΓ hc)
theorem wpK_attempt {m : Sem α} {Q : Except Value α → Shared → Prop} (h : wpK M A m (fun a => Q (.ok a)) s) : wpK M A m.attempt Q s := fun Γ p hΓ hc => by
  rw [Sem.wp_attempt]
  exact Sem.wp_mono M Γ m (fun _ _ _ h' => h') (fun _ _ _ h' => h'.elim) p s (h Γ p hΓ hc)
theorem wpK_holding {vs : List Value} {m : Sem α} {Q : α → Shared → Prop} (h : wpK M A m Q s) : wpK M A (holding vs m) Q s :=
  fun Γ p hΓ hc => by rw [Sem.wp_holding]; exact h Γ p hΓ hc
theorem wpK_operate {vs : List Value} {m : Sem Value} {Q : Value → Shared → Prop} (h : wpK M A m Q s) : wpK M A (operate vs m) Q s :=
  fun Γ p hΓ hc => by rw [Sem.wp_operate]; exact h Γ p hΓ hc
theorem wpK_standAt {pos : Pos} {Q : Unit → Shared → Prop} (h : Q () s) : wpK M A (standAt pos) Q s := fun _ _ _ _ => h
theorem wpK_of_eq {t : Sem α} {a : α} {Q : α → Shared → Prop} (e : t = pure a) (h : Q a s) : wpK M A t Q s := by rw [e]; exact wpK_pure h
theorem clean_enter {Γ : Ctx} (hc : Clean Γ) {c : Code} (h : Option Value) (p : Pos) (ok : okC c = true) : Clean (Γ.enter c h p) := by
  refine ⟨ok, fun q hq => ?_⟩
  rcases List.mem_cons.mp hq with rfl | hq
  · exact hc.1
  · exact hc.2 q hq
theorem wpK_run {c : Code} {Q : Flow → Shared → Prop} (hc : codeK M A c Q s) (ok : okC c = true := by rfl) : wpK M A (run c none) Q s := fun Γ p hΓ hcl => by
  rw [Sem.wp_run]
  refine wpCode_mono ?_ (hc _ p rfl (hΓ.enter c none p (by intro x; cases x)) (clean_enter hcl none p ok))
  rintro r s' ⟨f, rfl, h⟩
  exact h
theorem wpK_runValue {c : Code} {Q : Value → Shared → Prop} (hc : codeK M A c (fun f s' => match f with | .ret v => Q v s' | _ => False) s) (ok : okC c = true := by rfl) : wpK M A (runValue c) Q s := fun Γ p hΓ hcl => by
  rw [Sem.wp_runValue]
  refine wpCode_mono ?_ (hc _ p rfl (hΓ.enter c none p (by intro x; cases x)) (clean_enter hcl none p ok))
  rintro r s' ⟨f, rfl, h⟩
  cases f <;> first | exact h | exact h.elim
theorem wpK_call {f : Value} {pos : List Value} {kw : List (Str × Value)} {Q : Value → Shared → Prop} (hc : codeK M A (.call f ⟨pos, kw⟩) (fun f s' => match f with | .ret v => Q v s' | _ => False) s) : wpK M A (call f pos kw) Q s := wpK_runValue hc
theorem codeK_mono {c : Code} {R R' : Flow → Shared → Prop} (h : codeK M A c R s) (hR : ∀ r s, R r s → R' r s) : codeK M A c R' s :=
  fun Γ p hc hΓ hcl => wpCode_mono (fun _ _ ⟨f, e, x⟩ => ⟨f, e, hR _ _ x⟩) (h Γ p hc hΓ hcl)
theorem codeK_tree {c : Code} {R : Flow → Shared → Prop}
    (h : wpK M (A.under c) (M.den c) (fun fin s' => match fin with | .done f => R f s' | .again c' => c'.quiet = true ∧ okC c' = true ∧ codeK M A c' R s') s) : codeK M A c R s := fun Γ p hc hΓ hcl => by
  rw [wpCode_iff_wp, hc]
  refine Sem.wp_mono M Γ _ (fun fin p' s' h' => ?_) (fun _ _ _ h' => h'.elim) p s (h Γ p (hc ▸ hΓ.in) hcl)
  cases fin with
  | done f => exact ⟨f, rfl, h'⟩
  | again c' => exact ⟨h'.1, h'.2.2 (Γ.goto c') p' rfl (hΓ.goto c') ⟨h'.2.1, hcl.2⟩⟩
theorem codeK_loop {c : Code} {R : Flow → Shared → Prop} (hq : c.quiet = true) (hok : okC c = true) (I : Nat → Shared → Prop)
    (turn : ∀ n s, I n s → wpK M (A.under c) (M.den c)
      (fun fin s' => match fin with | .done f => R f s' | .again c' => (c' = c ∧ ∃ m, m < n ∧ I m s') ∨ (c'.quiet = true ∧ okC c' = true ∧ codeK M A c' R s')) s)
    (n : Nat) (h : I n s) : codeK M A c R s := by
  induction n using Nat.strongRecOn generalizing s with
  | ind n ih =>
    refine codeK_tree (wpK_mono (turn n s h) (fun fin s' hf => ?_))
    cases fin with
    | done f => exact hf
    | again c' =>
      rcases hf with ⟨rfl, m, hm, hI⟩ | hf
      · exact ⟨hq, hok, ih m hm hI⟩
      · exact hf
theorem exported_ok {self : Value} {Q : Bool → Shared → Prop} (h : Q false s) : wpK M A (Builtin.Bytes.exported self) Q s := fun Γ p _ hcl => by
  unfold Builtin.Bytes.exported
  show Q (((Γ.code, p) :: Γ.below).any _) s
  rw [List.any_eq_false.mpr]
  · exact h
  · intro q hq
    have hok : okC q.1 = true := by
      rcases List.mem_cons.mp hq with rfl | hq
      · exact hcl.1
      · exact hcl.2 q hq
    obtain ⟨c, p'⟩ := q
    dsimp only at hok
    split
    all_goals first
      | (simp [okC] at hok; done)
      | (rename_i e _; cases e; simp [okC] at hok; done)
      | (rename_i e; cases e; simp [okC] at hok; done)
      | exact Bool.false_ne_true
      | skip
    intro hh
    rename_i e
    cases e
    have hm := List.contains_iff_mem.mp (Bool.and_eq_true_iff.mp hh).2
    simp [okC, hm] at hok
end
end Mine
end
section
open PySem PySem.W PySem.Calls PyProof.Rows
open PySem.Sem (wp)
namespace Mine
section
variable {M : Model} {A : Around} {s : Shared} {env : Env}
theorem reg2 : True := by
  w_top off
  trivial
theorem wpK_execs_nil {Q : Flow → Shared → Prop} (h : Q .next s) : wpK M A (execs [] env) Q s := fun _ _ _ _ => h
theorem wpK_execs_cons {st : Stmt} {rest : List Stmt} {Q : Flow → Shared → Prop}
    (h : wpK M A (exec st env) (fun f s' => match f with | .next => wpK M A (execs rest env) Q s' | f => Q f s') s) : wpK M A (execs (st :: rest) env) Q s := by
  rw [execs_cons]
  refine wpK_bind (wpK_mono h fun f s' h' => ?_)
  cases f <;> first | exact h' | exact wpK_pure h'
theorem wpK_Return {e : Expr} {pos : Pos} {Q : Flow → Shared → Prop} (h : wpK M A (eval e env) (fun v => Q (.ret v)) s) : wpK M A (exec (.Return (some e) pos) env) Q s := by
  rw [exec_Return_some]
  exact wpK_bind (wpK_standAt (wpK_bind (wpK_mono h fun v s' h' => wpK_pure h')))
theorem wpK_If {test : Expr} {body orelse : List Stmt} {pos : Pos} {Q : Flow → Shared → Prop}
    (h : wpAny M A (isTrue test env (eval test env)) (fun b s₂ => if b then wpK M A (execs body env) Q s₂ else wpK M A (execs orelse env) Q s₂) noE s) : wpK M A (exec (.If test body orelse pos) env) Q s := by
  rw [exec_If]
  refine wpK_bind (wpK_standAt (wpK_bindA (wpAny_mono h (fun b s₂ h₂ => ?_) fun _ _ x => x)))
  cases b <;> exact h₂
theorem wpK_BinOp {l r : Expr} {op : Operator} {pos : Pos} {Q : Value → Shared → Prop}
    (h : wpK M A (eval l env) (fun a s₁ => wpK M A (eval r env) (fun b s₂ => wpK M A (binaryOp op a b) Q s₂) s₁) s) : wpK M A (eval (.BinOp l op r pos) env) Q s := by
  rw [eval_BinOp]
  exact wpK_bind (wpK_mono h fun a s₁ h₁ => wpK_bind (wpK_holding (wpK_mono h₁ fun b s₂ h₂ => wpK_bind (wpK_standAt (wpK_operate h₂)))))
theorem wpK_Compare1 {l r : Expr} {op : CmpOp} {pos : Pos} {Q : Value → Shared → Prop}
    (h : wpK M A (eval l env) (fun a s₁ => wpK M A (eval r env) (fun b s₂ => wpK M A (compareOp op a b) Q s₂) s₁) s)
    (hm : behindInMarks op r = false := by with_unfolding_all rfl) : wpK M A (eval (.Compare l [op] [r] pos) env) Q s := by
  rw [eval_Compare1, markedBehindIn_of_false hm]
  exact wpK_bind (wpK_mono h fun a s₁ h₁ => wpK_bind (wpK_holding (wpK_mono h₁ fun b s₂ h₂ => wpK_bind (wpK_standAt (wpK_operate h₂)))))
theorem wpK_Assign_Name {x : Str} {value : Expr} {pos pos' : Pos} {Q : Flow → Shared → Prop}
    (h : wpK M A (eval value env) (fun v s₁ => wpAny M A (storeName env x v) (fun _ => Q .next) noE s₁) s)
    (hs : swapsWith value (some (.Name x pos')) pos.line env = pure false := by rfl) : wpK M A (exec (.Assign [.Name x pos'] value pos) env) Q s := by
  rw [exec_Assign_Name env x pos' value pos hs]
  exact wpK_bind (wpK_standAt (wpK_bind (wpK_mono h fun v s₁ h₁ => wpK_bind (wpK_standAt (wpK_bind (wpK_any (wpAny_bindName (wpAny_mono h₁ (fun _ _ h₂ => wpK_pure h₂) fun _ _ x => x))))))))
theorem wpK_Expr {e : Expr} {pos : Pos} {Q : Flow → Shared → Prop} (h : wpK M A (eval e env) (fun v s' => match v with | .ref _ => False | _ => Q .next s') s)
    (hi : interactive env = false := by rfl) (hs : swapsWith e none pos.line env = pure false := by rfl) : wpK M A (exec (.Expr e pos) env) Q s := by
  rw [exec_Expr env e pos hi hs]
  refine wpK_bind (wpK_standAt (wpK_bind (wpK_mono h (fun v s' h' => ?_))))
  have hv : ∀ a, v ≠ .ref a := fun a hva => by subst hva; exact h'
  rw [dropValue_plain hv]
  refine wpK_pure ?_
  cases v <;> first | exact h' | exact (hv _ rfl).elim
theorem wpK_runOwn {c : Code} {Q : Flow → Shared → Prop} (hc : codeK M A c Q s) (ok : okC c = true := by rfl) : wpK M A (runOwn c env none) Q s := by
  unfold runOwn
  exact wpK_onRaise (wpK_run hc ok)
theorem wpK_For {target iter : Expr} {body orelse : List Stmt} {pos : Pos} {Q : Flow → Shared → Prop}
    (h : wpAny M A (eval iter env) (fun x s₁ => wpAny M A (pyIter x) (fun it s₂ => codeK M A (.forLoop target it body orelse env) Q s₂) noE s₁) noE s)
    (hs : ∀ x, foldedSetIterable iter env x = pure x := by intro _; rfl) : wpK M A (exec (.For target iter body orelse pos) env) Q s := by
  rw [exec_For]
  refine wpK_bind (wpK_standAt (wpK_bindA (wpAny_mono h (fun x s₁ h₁ => ?_) fun _ _ x => x)))
  rw [hs x]
  exact wpK_bind (wpK_pure (wpK_bind (wpK_standAt (wpK_bind (wpK_holding (wpK_any (wpAny_mono h₁ (fun it s₂ h₂ => wpK_runOwn h₂) fun _ _ x => x)))))))
theorem wpK_CallName {id : Str} {p pos : Pos} {args : List Expr} {Q : Value → Shared → Prop}
    (h : wpAny M A (eval (.Name id p) env) (fun f s₁ => wpK M A (callWith pos f [] (backTo pos (starEach args env)) []) Q s₁) noE s) : wpK M A (eval (.Call (.Name id p) args [] pos) env) Q s := by
  rw [arm_eval_Call_Name']
  exact wpK_bindA h
theorem wpK_CallMeth {o : Expr} {name : Str} {apos pos : Pos} {args : List Expr} {pl : Sem Bool} {Q : Value → Shared → Prop}
    (h : wpAny M A (eval o env) (fun ov s₁ => wpAny M A (getMethod ov name pl) (fun fx s₂ => wpK M A (callWith pos fx.1 fx.2 (backTo pos (starEach args env)) []) Q s₂) noE s₁) noE s)
    (he : eval (.Call (.Attribute o name apos) args [] pos) env = (do
      let ov ← eval o env
      standAt apos.atName
      let (f, first) ← holding [ov] (getMethod ov name pl)
      callWith pos f first (backTo pos (starEach args env)) []) := by rfl) :
    wpK M A (eval (.Call (.Attribute o name apos) args [] pos) env) Q s := by
  rw [he]
  exact wpK_bindA (wpAny_mono h (fun ov s₁ h₁ => wpK_bind (wpK_standAt (wpK_bindA (wpAny_holding (wpAny_mono h₁ (fun fx s₂ h₂ => h₂) fun _ _ x => x))))) fun _ _ x => x)
theorem callWithK {P : Heap → Prop} {pos : Pos} {f : Value} {first : List Value} {args : List (Bool × Sem Value)} {Q : Value → Shared → Prop} (hplain : args.any (·.1) = false)
    (hk : ∀ h, P h → ∃ k, (k = Keeper.frame ∨ k = Keeper.machine ∨ k = Keeper.boundFrame) ∧ Looks M h (keeperOf f) k)
    (h : wpK M A (evalArgs f true args []) (fun a s₁ => P s₁.heap ∧ wpK M A (call f (first ++ a.pos) a.kw) Q s₁) s) : wpK M A (callWith pos f first args []) Q s := by
  unfold callWith
  refine wpK_bind (wpK_holding (wpK_mono h (fun a s₁ h₁ => wpK_bind (wpK_standAt ?_))))
  obtain ⟨k, hk', L⟩ := hk _ h₁.1
  have hp' : (args.any (·.1) || ([] : List (Option Str × Sem Value)).any (·.1.isNone)) = false := by rw [hplain]; rfl
  simp only [hp']
  refine wpK_bindA (L.here ?_)
  have tail : ∀ {t : Sem Value}, wpK M A t Q s₁ → wpK M A (t >>= fun r => holding [r] point >>= fun _ => pure r) Q s₁ :=
    fun ht => wpK_bind (wpK_mono ht (fun r s₂ hr => wpK_bindA (wpAny_holding (wpAny_point (wpK_pure hr)))))
  have marked (mk : Value) : wpK M A (callMarked mk f (first ++ a.pos) a.kw) Q s₁ := by
    unfold callMarked
    intro Γ p hΓ hc
    rw [Sem.wp_keep]
    exact h₁.2 Γ p hΓ hc
  rcases hk' with rfl | rfl | rfl <;> (try dsimp only) <;> first | exact tail h₁.2 | (split <;> first | exact tail h₁.2 | exact tail (marked _))
theorem evalArgsK {f : Value} {x : Sem Value} {rest : List (Bool × Sem Value)} {Q : Args → Shared → Prop}
    (h : wpK M A (spliced ((false, x) :: rest)) (fun vs s' => Q ⟨vs, []⟩ s') s) : wpK M A (evalArgs f true ((false, x) :: rest) []) Q s := by
  unfold evalArgs
  show wpK M A (spliced ((false, x) :: rest) >>= _) Q s
  refine wpK_bind (wpK_mono h (fun vs s' h' => ?_))
  refine wpK_holding ?_
  exact wpK_bind (wpK_pure (wpK_bind (wpK_pure (wpK_pure h'))))
theorem splicedK1 {x : Sem Value} {Q : List Value → Shared → Prop} (h : wpK M A x (fun v s₁ => Q [v] s₁) s) : wpK M A (spliced [(false, x)]) Q s := by
  rw [spliced]
  refine wpK_bind (wpK_mono h (fun v s₁ h₁ => ?_))
  simp only [Bool.false_eq_true, if_false]
  exact wpK_bind (wpK_pure (wpK_bind (wpK_holding (wpK_pure (wpK_pure h₁)))))
variable {K : Frag}
/-- a def of the part is called: its arguments are walked, the call is dirty -/
theorem callWithK_def {h₀ : Heap} {pos : Pos} {f : Value} {first : List Value} {e : Expr} {rest : List Expr} {Q : Value → Shared → Prop} (_X : K.In h₀) (hk : keepIn K f = true)
    (h : wpAny M A (spliced (backTo pos (starEach (e :: rest) env))) (fun vs s₁ => K.In s₁.heap ∧ wpK M A (call f (first ++ vs)) Q s₁) noE s)
    (he : starEach (e :: rest) env = (false, eval e env) :: starEach rest env := by rfl) (hplain : (backTo pos (starEach rest env)).any (·.1) = false := by rfl) :
    wpK M A (callWith pos f first (backTo pos (starEach (e :: rest) env)) []) Q s := by
  rw [he] at h ⊢
  exact callWithK (P := fun h => K.In h) (by show (false || (backTo pos (starEach rest env)).any (·.1)) = false; rw [hplain]; rfl) (keeps_K hk) (evalArgsK (wpK_any h))
/-- a builtin function is called with one argument, which is dirty -/
theorem callWithK_one {pos : Pos} {id : String} {first : List Value} {e : Expr} {Q : Value → Shared → Prop}
    (h : wpK M A (eval e env) (fun v s₁ => wpK M A (call (.builtin id) (first ++ [v])) Q s₁) s) (he : backTo pos (starEach [e] env) = [(false, eval e env)] := by rfl) :
    wpK M A (callWith pos (.builtin id) first (backTo pos (starEach [e] env)) []) Q s := by
  rw [he]
  exact callWithK (P := fun _ => True) rfl (fun _ _ => ⟨.machine, .inr (.inl rfl), Looks.of_pure rfl⟩) (evalArgsK (splicedK1 (wpK_mono h fun v s₁ h₁ => ⟨trivial, h₁⟩)))
/-- a builtin is called, its arguments are walked, the call is dirty -/
theorem callWithK_any {pos : Pos} {f : Value} {first : List Value} {e : Expr} {rest : List Expr} {Q : Value → Shared → Prop} (hf : keeperOf f = pure Keeper.machine)
    (h : wpAny M A (spliced (backTo pos (starEach (e :: rest) env))) (fun vs s₁ => wpK M A (call f (first ++ vs)) Q s₁) noE s)
    (he : starEach (e :: rest) env = (false, eval e env) :: starEach rest env := by rfl) (hplain : (backTo pos (starEach rest env)).any (·.1) = false := by rfl) :
    wpK M A (callWith pos f first (backTo pos (starEach (e :: rest) env)) []) Q s := by
  rw [he] at h ⊢
  exact callWithK (P := fun _ => True) (by show (false || (backTo pos (starEach rest env)).any (·.1)) = false; rw [hplain]; rfl) (fun _ _ => ⟨.machine, .inr (.inl rfl), Looks.of_pure hf⟩) (evalArgsK (wpK_any (wpAny_mono h (fun v s₁ h₁ => ⟨trivial, h₁⟩) fun _ _ x => x)))
end
end Mine
end
section
open PySem PySem.W PySem.Calls PyProof.Rows
open PySem.Sem (wp)
namespace Mine
section
variable {prog : Program} {w : World} {A : Around} {s : Shared}
theorem reg3 : True := by
  w_top off
  trivial
theorem codeK_func {body : List Stmt} {env : Env} {R : Flow → Shared → Prop}
    (h : wpK (model prog w) (A.deeper env) (execs body env) (fun f s' => R (.ret (match f with | .ret v => v | _ => .none)) s') s) : codeK (model prog w) A (.func body env) R s := by
  refine codeK_tree ?_
  show wpK _ (A.deeper env) (do point; match ← (execs body env).onRaise (leaving env) with | .ret v => ret v | _ => ret .none) _ s
  refine wpK_bindA (wpAny_point (wpK_bind (wpK_onRaise (wpK_mono h (fun f s' h' => ?_)))))
  cases f <;> exact wpK_pure h'
theorem codeK_call_function {R : Flow → Shared → Prop} {a : Addr} {args : Args} {o : Obj} {fd : FuncData} {body : List Stmt} (hroom : A.depth < recursionLimit)
    (ho : s.heap.get? a = some o) (hd' : o.data = .func fd) (hco : fd.scope.isCoroutine = false) (hgen : fd.scope.isGenerator = false) (hbody : fd.body = .stmts body) (hcd : s.heap.CodeRec fd.code fd.qualname)
    (h : wpAny (model prog w) A.in1 (bindArgs fd args) (fun binds s₁ =>
      wpAny (model prog w) A.in1 (newFunctionEnv fd.scope fd.globals fd.closure binds (fd.qualname ++ ".<locals>.") (some a) fd.code none fd.builtins)
        (fun env s₂ => s₂.heap.NoLimit ∧ codeK (model prog w) A (.func body env) R s₂) noE s₁) noE s) :
    codeK (model prog w) A (.call (.ref a) args) R s := by
  refine codeK_tree (wpK_any ?_)
  show wpAny _ A.in1 (callAny (.ref a) args) _ _ s
  simp only [callAny]
  refine wpAny_bind (wpAny_load ho ?_)
  obtain ⟨c, oc, vs, tq, hc, hoc, hdc, hq⟩ := hcd
  simp only [hd', callFunction, hco, hgen, hbody, hc]
  rw [hc] at h
  refine wpAny_bind (m := field (.ref c) 1) (wpAny_field hoc hdc hq (wpAny_bind (wpAny_pure ?_)))
  exact wpAny_bind (wpAny_mono h (fun binds s₁ h₁ => wpAny_bind (wpAny_mono h₁ (fun env s₂ h₂ => wpAny_bind (wpAny_enterFrame h₂.1 hroom
    (wpAny_pure (And.intro rfl ⟨rfl, h₂.2⟩)))) fun _ _ h' => h')) fun _ _ h' => h')
noncomputable def LeaveD (h₀ : Heap) (L : Addr) (m : Str → Option Value) (g : Heap) (R : Value → Shared → Prop) (v : Value) (s' : Shared) : Prop :=
  LeaveK h₀ L m g (fun r s'' => ∃ x, r = .ok (.ret x) ∧ R x s'') v s'
theorem leaveD_ {h₀ g : Heap} {L L' : Addr} {m m' : Str → Option Value} {news' : List (Addr × Obj)} {R : Value → Shared → Prop} {v : Value} {s' : Shared} (F' : Fr g L' s'.heap m') (N' : News g L' s'.heap news')
    (k : Fr h₀ L s'.heap m → News h₀ L s'.heap news' → R v s') : LeaveD h₀ L m g R v s' := ⟨L', m', news', F', N', fun a b => ⟨v, rfl, k a b⟩⟩
variable {A₀ : Around} {base h₀ : Heap} {outer : List Env} {L : Addr} {m mg mb : Str → Option Value} {news : List (Addr × Obj)} {K : Frag} {p : Program} {loose : List Str} {mean : ExcName → Option Value}
theorem code_defK {env : Env} {R : Value → Shared → Prop} {name qual : Str} {params : Arguments} {body : List Stmt} {scope : Scope} {dV kV doc pm cdv ct oc : Value} {an od : Option Addr} {osl : Array (Option Value)} {f : Addr} {args : Args} {binds : List (Str × Value)}
    (B : Below A₀ base outer h₀) (F : Fr h₀ L s.heap m) (X₀ : K.In h₀) (N : News h₀ L s.heap news) (T : Top p loose mean mg mb h₀) (hA : A.frames = some (env :: outer)) (hf : env.frame = some L) (hke : env.scope.kind = .function)
    (ho : K.lookup f = some ⟨oc, od, .func (fnOf name qual params body scope dV kV doc pm an cdv ct), osl⟩) (hcd : codeIn K cdv qual = true) (hroom : A.depth < recursionLimit)
    (hbind : BindsTo s (fnOf name qual params body scope dV kV doc pm an cdv ct) args binds) (hloc : ∀ y ∈ binds, scope.names.lookup y.1 = some .local)
    (h : ∀ g L' h₁, Fr h₀ L g m → Fr g L' h₁ (fun y => binds.reverse.lookup y) → News g L' h₁ news → Below A base (env :: outer) g → K.In g → Top p loose mean mg mb g →
      wpK (model prog w) (A.deeper (envOf qual scope L' f cdv)) (execs body (envOf qual scope L' f cdv))
        (fun fl s' => LeaveD h₀ L m g R (match fl with | .ret v => v | _ => .none) s') { s with heap := h₁, toks := s.toks + binds.length })
    (hco : scope.isCoroutine = false) (hgen : scope.isGenerator = false) (hk : scope.kind = .function)
    (hcell : ∀ x ∈ scope.names, x.2 ≠ .cell) : codeK (model prog w) A (.call (.ref f) args) (fun fl s' => match fl with | .ret v => R v s' | _ => False) s := by
  obtain ⟨FG, BG, st, lv⟩ := groundX (R := fun r s'' => ∃ x, r = .ok (.ret x) ∧ R x s'') B F N hA hf hke
  have ho' := (X₀.keeps F.keep) _ _ ho
  refine codeK_call_function (fd := fnOf name qual params body scope dV kV doc pm an cdv ct) (body := body) hroom ho' rfl hco hgen rfl (codeRec_of (X₀.keeps F.keep) hcd) (hbind _ _ _ _ ?_)
  have hlim : s.heap.NoLimit := T.nolimit.keeps F.keep
  refine wpAny_newFunctionEnv hcell hloc (fun h₁ hns₁ hsb₁ => ⟨hlim.fresh _ hsb₁, codeK_func ?_⟩) hk
  have hk₁ : ∀ b o, s.heap.get? b = some o → h₁.get? b = some o := fun b o e => hsb₁.extBut b o (Nat.ne_of_lt (Heap.lt_size e)) (Heap.get?_push_of_some _ e)
  refine wpK_mono (h _ s.heap.objs.size h₁ FG ⟨hns₁, fun b o e => hk₁ b o (of_hideAll _ e), Nat.le_of_eq (hideAll_size _ _)⟩
    (fun p hp => ⟨hk₁ _ _ (N p hp).1, Nat.ne_of_lt (Heap.lt_size (N p hp).1), hideAll_none _ (List.mem_map_of_mem hp)⟩) BG (X₀.keeps st) (T.keeps st)) (fun fl s' hl => ?_)
  obtain ⟨x, e, hx⟩ := lv _ _ hl
  cases e
  exact hx
end
end Mine
end
section
open PySem PySem.W PyProof PyProof.Rows
namespace Mine
theorem reg4 : True := by
  w_top off
  trivial
noncomputable abbrev S (x : String) : Str := Str.ofString x
noncomputable abbrev ob (c : Value) (d : Option Addr) (x : Data) (sl : Array (Option Value)) : Obj := Obj.mk c d x sl
/-- the defs of the row's text, a class's own in their place -/
noncomputable def defsAll : List Stmt := PySem.Challenge.pw_nz0288_01.main.body.flatMap fun st => match st with
  | .ClassDef _ _ _ b .. => b.filter fun s => match s with | .FunctionDef .. => true | _ => false
  | .FunctionDef .. => [st]
  | _ => []
/-- the data of the text's def number i -/
noncomputable def fo (i : Nat) (q : Str) (gl : Addr) (clo : List (Str × Addr)) (dV kV doc pm : Value) (an : Option Addr) (cd ct : Value) (bu : Addr) : FuncData := match defsAll[i]? with
  | some (.FunctionDef name ps body _ _ _ sc _ _ _) => FuncData.mk name q ps (.stmts body) sc gl clo dV kV doc pm an cd ct bu
  | _ => default
set_option maxRecDepth 100000 in
/-- what stands in the heap behind the top -/
noncomputable def K0 : Params → Frag := fun P => [
  ((nat_lit 2), (ob .none none (.dict #[(DictEntry.mk (PyData.keyHash P (S "type.__subclasses__.Exception.0")) (.str (S "type.__subclasses__.Exception.0") 232) (.int 46 0)), (DictEntry.mk (PyData.keyHash P (S "type.__subclasses__.Exception.n")) (.str (S "type.__subclasses__.Exception.n") 233) (.int 1 0))] 2) #[])),
  ((nat_lit 3), (ob (.type "dict") none (.dict #[(DictEntry.mk (PyData.keyHash P (S "__name__")) (.str (S "__name__") 165) (.str (S "law_nz0288_01") 501)), (DictEntry.mk (PyData.keyHash P (S "__doc__")) (.str (S "__doc__") 166) .none), (DictEntry.mk (PyData.keyHash P (S "__package__")) (.str (S "__package__") 167) .none), (DictEntry.mk (PyData.keyHash P (S "__loader__")) (.str (S "__loader__") 168) (.builtin "__main__.__loader__#opaque")), (DictEntry.mk (PyData.keyHash P (S "__spec__")) (.str (S "__spec__") 169) .none), (DictEntry.mk (PyData.keyHash P (S "__annotations__")) (.str (S "__annotations__") 170) (.ref 6)), (DictEntry.mk (PyData.keyHash P (S "__builtins__")) (.str (S "__builtins__") 171) (.ref 4)), (DictEntry.mk (PyData.keyHash P (S "__file__")) (.str (S "__file__") 173) (.str (S "/claim/cut.py") 172)), (DictEntry.mk (PyData.keyHash P (S "__cached__")) (.str (S "__cached__") 174) .none), (DictEntry.mk (PyData.keyHash P (S "_wall")) (.str (S "_wall") 193) (.ref 21)), (DictEntry.mk (PyData.keyHash P (S "PostError")) (.str (S "PostError") 235) (.ref 46)), (DictEntry.mk (PyData.keyHash P (S "WordFault")) (.str (S "WordFault") 251) (.ref 59)), (DictEntry.mk (PyData.keyHash P (S "WireFault")) (.str (S "WireFault") 267) (.ref 71)), (DictEntry.mk (PyData.keyHash P (S "MONTHS")) (.str (S "MONTHS") 282) (.ref 74)), (DictEntry.mk (PyData.keyHash P (S "MOST_YEAR")) (.str (S "MOST_YEAR") 284) (.int 9999 283)), (DictEntry.mk (PyData.keyHash P (S "is_leap")) (.str (S "is_leap") 291) (.ref 81)), (DictEntry.mk (PyData.keyHash P (S "month_length")) (.str (S "month_length") 299) (.ref 88)), (DictEntry.mk (PyData.keyHash P (S "is_day")) (.str (S "is_day") 308) (.ref 95)), (DictEntry.mk (PyData.keyHash P (S "padded")) (.str (S "padded") 317) (.ref 102)), (DictEntry.mk (PyData.keyHash P (S "day_text")) (.str (S "day_text") 326) (.ref 109)), (DictEntry.mk (PyData.keyHash P (S "write_day")) (.str (S "write_day") 333) (.ref 116)), (DictEntry.mk (PyData.keyHash P (S "CRLF")) (.str (S "CRLF") 337) (.bytes #[13, 10] 336)), (DictEntry.mk (PyData.keyHash P (S "lower_code")) (.str (S "lower_code") 344) (.ref 123)), (DictEntry.mk (PyData.keyHash P (S "lower")) (.str (S "lower") 350) (.ref 128)), (DictEntry.mk (PyData.keyHash P (S "upper_text")) (.str (S "upper_text") 356) (.ref 133)), (DictEntry.mk (PyData.keyHash P (S "text_octets")) (.str (S "text_octets") 362) (.ref 138)), (DictEntry.mk (PyData.keyHash P (S "show_end")) (.str (S "show_end") 371) (.ref 145)), (DictEntry.mk (PyData.keyHash P (S "show_pair")) (.str (S "show_pair") 378) (.ref 152)), (DictEntry.mk (PyData.keyHash P (S "show_set")) (.str (S "show_set") 384) (.ref 157)), (DictEntry.mk (PyData.keyHash P (S "QUOTE")) (.str (S "QUOTE") 388) (.int 34 387)), (DictEntry.mk (PyData.keyHash P (S "BACKSLASH")) (.str (S "BACKSLASH") 390) (.int 92 389)), (DictEntry.mk (PyData.keyHash P (S "MOST_QUOTED")) (.str (S "MOST_QUOTED") 392) (.int 72 391)), (DictEntry.mk (PyData.keyHash P (S "SPECIALS")) (.str (S "SPECIALS") 394) (.bytes #[40, 41, 123, 37, 42, 34, 92, 93] 393)), (DictEntry.mk (PyData.keyHash P (S "is_printable")) (.str (S "is_printable") 401) (.ref 164)), (DictEntry.mk (PyData.keyHash P (S "is_atom_code")) (.str (S "is_atom_code") 408) (.ref 171)), (DictEntry.mk (PyData.keyHash P (S "is_astring_code")) (.str (S "is_astring_code") 415) (.ref 178)), (DictEntry.mk (PyData.keyHash P (S "figures_of")) (.str (S "figures_of") 422) (.ref 185)), (DictEntry.mk (PyData.keyHash P (S "is_quotable")) (.str (S "is_quotable") 428) (.ref 190)), (DictEntry.mk (PyData.keyHash P (S "quoted_octets")) (.str (S "quoted_octets") 437) (.ref 197)), (DictEntry.mk (PyData.keyHash P (S "literal_octets")) (.str (S "literal_octets") 445) (.ref 205)), (DictEntry.mk (PyData.keyHash P (S "string_octets")) (.str (S "string_octets") 453) (.ref 213)), (DictEntry.mk (PyData.keyHash P (S "astring_octets")) (.str (S "astring_octets") 459) (.ref 219)), (DictEntry.mk (PyData.keyHash P (S "row_of")) (.str (S "row_of") 469) (.ref 226)), (DictEntry.mk (PyData.keyHash P (S "show_flag")) (.str (S "show_flag") 477) (.ref 233)), (DictEntry.mk (PyData.keyHash P (S "show_leaf")) (.str (S "show_leaf") 486) (.ref 240)), (DictEntry.mk (PyData.keyHash P (S "show_key")) (.str (S "show_key") 494) (.ref 247)), (DictEntry.mk (PyData.keyHash P (S "show_query")) (.str (S "show_query") 500) (.ref 252)), (DictEntry.mk (PyData.keyHash P (S "_law_octets")) (.str (S "_law_octets") 508) (.ref 259)), (DictEntry.mk (PyData.keyHash P (S "_law_flags")) (.str (S "_law_flags") 513) (.ref 260)), (DictEntry.mk (PyData.keyHash P (S "_law_sets")) (.str (S "_law_sets") 525) (.ref 271)), (DictEntry.mk (PyData.keyHash P (S "_law_days")) (.str (S "_law_days") 534) (.ref 276)), (DictEntry.mk (PyData.keyHash P (S "_law_draw")) (.str (S "_law_draw") 544) (.ref 283)), (DictEntry.mk (PyData.keyHash P (S "_law_text")) (.str (S "_law_text") 550) (.ref 288)), (DictEntry.mk (PyData.keyHash P (S "_law_leaf")) (.str (S "_law_leaf") 556) (.ref 293)), (DictEntry.mk (PyData.keyHash P (S "_law_tree")) (.str (S "_law_tree") 574) (.ref 300)), (DictEntry.mk (PyData.keyHash P (S "law")) (.str (S "law") 585) (.ref 307))] 56) #[])),
  ((nat_lit 15), (ob (.type "tuple") none (.seq #[] 0) #[])),
  ((nat_lit 17), (ob (.type "tuple") none (.seq #[(.str (S "k") 190)] 0) #[])),
  ((nat_lit 18), (ob (.type "tuple") none (.seq #[] 0) #[])),
  ((nat_lit 20), (ob (.type "code") none (.fields #[(.str (S "_wall") 187), (.str (S "_wall") 188), (.str (S "/claim/cut.py") 189), (.int 1 0), (.int 1 0), (.int 0 0), (.int 0 0), (.int 3 0), (.ref 15), (.bool true), (.int 181 0), (.ref 16), .none, (.ref 17), (.ref 18), (.ref 19), (.int 191 0), (.int 1 0), (.str (S "/claim/cut.py") 192)]) #[])),
  ((nat_lit 21), (ob (.type "function") none (.func (fo 0 (S "_wall") 3 [] .none .none .none (.str (S "__main__") 164) none (.ref 20) .none 0)) #[])),
  ((nat_lit 22), (ob (.type "tuple") none (.seq #[(.type "Exception")] 0) #[])),
  ((nat_lit 29), (ob (.type "tuple") none (.seq #[(.int (Neg.neg 1) 209)] 0) #[])),
  ((nat_lit 30), (ob (.type "tuple") none (.seq #[] 0) #[])),
  ((nat_lit 32), (ob (.type "tuple") none (.seq #[(.str (S "self") 213), (.str (S "what") 214), (.str (S "at") 215)] 0) #[])),
  ((nat_lit 33), (ob (.type "tuple") none (.seq #[] 0) #[])),
  ((nat_lit 35), (ob (.type "code") none (.fields #[(.str (S "__init__") 210), (.str (S "PostError.__init__") 211), (.str (S "/claim/cut.py") 212), (.int 7 0), (.int 3 0), (.int 0 0), (.int 0 0), (.int 3 0), (.ref 30), (.bool true), (.int 181 0), (.ref 31), .none, (.ref 32), (.ref 33), (.ref 34), (.int 216 0), (.int 7 0), (.str (S "/claim/cut.py") 217)]) #[])),
  ((nat_lit 36), (ob (.type "function") none (.func (fo 1 (S "PostError.__init__") 3 [] (.ref 29) .none .none (.str (S "postkeep.errors") 194) none (.ref 35) .none 0)) #[])),
  ((nat_lit 37), (ob (.type "tuple") none (.seq #[] 0) #[])),
  ((nat_lit 39), (ob (.type "tuple") none (.seq #[(.str (S "self") 222)] 0) #[])),
  ((nat_lit 40), (ob (.type "tuple") none (.seq #[] 0) #[])),
  ((nat_lit 42), (ob (.type "code") none (.fields #[(.str (S "told") 219), (.str (S "PostError.told") 220), (.str (S "/claim/cut.py") 221), (.int 12 0), (.int 1 0), (.int 0 0), (.int 0 0), (.int 3 0), (.ref 37), (.bool true), (.int 181 0), (.ref 38), .none, (.ref 39), (.ref 40), (.ref 41), (.int 223 0), (.int 12 0), (.str (S "/claim/cut.py") 224)]) #[])),
  ((nat_lit 43), (ob (.type "function") none (.func (fo 2 (S "PostError.told") 3 [] .none .none .none (.str (S "postkeep.errors") 194) none (.ref 42) .none 0)) #[])),
  ((nat_lit 44), (ob (.type "tuple") none (.seq #[(.str (S "at") 226), (.str (S "what") 227)] 0) #[])),
  ((nat_lit 45), (ob (.type "dict") none (.dict #[(DictEntry.mk (PyData.keyHash P (S "__module__")) (.str (S "__module__") 203) (.str (S "postkeep.errors") 194)), (DictEntry.mk (PyData.keyHash P (S "__firstlineno__")) (.str (S "__firstlineno__") 207) (.int 5 206)), (DictEntry.mk (PyData.keyHash P (S "__init__")) (.str (S "__init__") 218) (.ref 36)), (DictEntry.mk (PyData.keyHash P (S "told")) (.str (S "told") 225) (.ref 43)), (DictEntry.mk (PyData.keyHash P (S "__static_attributes__")) (.str (S "__static_attributes__") 228) (.ref 44)), (DictEntry.mk (PyData.keyHash P (S "__weakref__")) (.str (S "__weakref__") 230) (.ref 47)), (DictEntry.mk (PyData.keyHash P (S "__doc__")) (.str (S "__doc__") 231) .none)] 3) #[])),
  ((nat_lit 46), (ob (.type "type") none (.cls (ClassData.mk (S "PostError") [(.type "Exception")] [(.ref 46), (.type "Exception"), (.type "BaseException"), (.type "object")] 45 (S "PostError") true [] [(.ref 59), (.ref 71)] false none false)) #[(some (.ref 22)), none, (some (.str (S "PostError") 196)), (some (.str (S "PostError") 204)), (some (.builtin "Exception.__new__")), (some (.bool true))])),
  ((nat_lit 47), (ob (.type "getset_descriptor") none (.fields #[(.str (S "__weakref__") 229), (.ref 46), (.builtin "ExceptionGroup.__weakref__"), .none]) #[])),
  ((nat_lit 50), (ob (.type "tuple") none (.seq #[(.ref 46)] 0) #[])),
  ((nat_lit 57), (ob (.type "tuple") none (.seq #[] 0) #[])),
  ((nat_lit 58), (ob (.type "dict") none (.dict #[(DictEntry.mk (PyData.keyHash P (S "__module__")) (.str (S "__module__") 243) (.str (S "postkeep.errors") 194)), (DictEntry.mk (PyData.keyHash P (S "__firstlineno__")) (.str (S "__firstlineno__") 247) (.int 14 246)), (DictEntry.mk (PyData.keyHash P (S "__static_attributes__")) (.str (S "__static_attributes__") 248) (.ref 57)), (DictEntry.mk (PyData.keyHash P (S "__doc__")) (.str (S "__doc__") 249) .none)] 2) #[])),
  ((nat_lit 59), (ob (.type "type") none (.cls (ClassData.mk (S "WordFault") [(.ref 46)] [(.ref 59), (.ref 46), (.type "Exception"), (.type "BaseException"), (.type "object")] 58 (S "WordFault") true [] [] false none false)) #[(some (.ref 50)), none, (some (.str (S "WordFault") 236)), (some (.str (S "WordFault") 244)), (some (.builtin "Exception.__new__")), (some (.bool true))])),
  ((nat_lit 62), (ob (.type "tuple") none (.seq #[(.ref 46)] 0) #[])),
  ((nat_lit 69), (ob (.type "tuple") none (.seq #[] 0) #[])),
  ((nat_lit 70), (ob (.type "dict") none (.dict #[(DictEntry.mk (PyData.keyHash P (S "__module__")) (.str (S "__module__") 259) (.str (S "postkeep.errors") 194)), (DictEntry.mk (PyData.keyHash P (S "__firstlineno__")) (.str (S "__firstlineno__") 263) (.int 16 262)), (DictEntry.mk (PyData.keyHash P (S "__static_attributes__")) (.str (S "__static_attributes__") 264) (.ref 69)), (DictEntry.mk (PyData.keyHash P (S "__doc__")) (.str (S "__doc__") 265) .none)] 2) #[])),
  ((nat_lit 71), (ob (.type "type") none (.cls (ClassData.mk (S "WireFault") [(.ref 46)] [(.ref 71), (.ref 46), (.type "Exception"), (.type "BaseException"), (.type "object")] 70 (S "WireFault") true [] [] false none false)) #[(some (.ref 62)), none, (some (.str (S "WireFault") 252)), (some (.str (S "WireFault") 260)), (some (.builtin "Exception.__new__")), (some (.bool true))])),
  ((nat_lit 74), (ob (.type "tuple") none (.seq #[(.str (S "Jan") 270), (.str (S "Feb") 271), (.str (S "Mar") 272), (.str (S "Apr") 273), (.str (S "May") 274), (.str (S "Jun") 275), (.str (S "Jul") 276), (.str (S "Aug") 277), (.str (S "Sep") 278), (.str (S "Oct") 279), (.str (S "Nov") 280), (.str (S "Dec") 281)] 0) #[])),
  ((nat_lit 75), (ob (.type "tuple") none (.seq #[] 0) #[])),
  ((nat_lit 77), (ob (.type "tuple") none (.seq #[(.str (S "year") 288)] 0) #[])),
  ((nat_lit 78), (ob (.type "tuple") none (.seq #[] 0) #[])),
  ((nat_lit 80), (ob (.type "code") none (.fields #[(.str (S "is_leap") 285), (.str (S "is_leap") 286), (.str (S "/claim/cut.py") 287), (.int 21 0), (.int 1 0), (.int 0 0), (.int 0 0), (.int 3 0), (.ref 75), (.bool true), (.int 181 0), (.ref 76), .none, (.ref 77), (.ref 78), (.ref 79), (.int 289 0), (.int 21 0), (.str (S "/claim/cut.py") 290)]) #[])),
  ((nat_lit 81), (ob (.type "function") none (.func (fo 3 (S "is_leap") 3 [] .none .none .none (.str (S "postkeep.dates") 268) none (.ref 80) .none 0)) #[])),
  ((nat_lit 82), (ob (.type "tuple") none (.seq #[] 0) #[])),
  ((nat_lit 84), (ob (.type "tuple") none (.seq #[(.str (S "year") 295), (.str (S "month") 296)] 0) #[])),
  ((nat_lit 85), (ob (.type "tuple") none (.seq #[] 0) #[])),
  ((nat_lit 87), (ob (.type "code") none (.fields #[(.str (S "month_length") 292), (.str (S "month_length") 293), (.str (S "/claim/cut.py") 294), (.int 23 0), (.int 2 0), (.int 0 0), (.int 0 0), (.int 3 0), (.ref 82), (.bool true), (.int 181 0), (.ref 83), .none, (.ref 84), (.ref 85), (.ref 86), (.int 297 0), (.int 23 0), (.str (S "/claim/cut.py") 298)]) #[])),
  ((nat_lit 88), (ob (.type "function") none (.func (fo 4 (S "month_length") 3 [] .none .none .none (.str (S "postkeep.dates") 268) none (.ref 87) .none 0)) #[])),
  ((nat_lit 89), (ob (.type "tuple") none (.seq #[] 0) #[])),
  ((nat_lit 91), (ob (.type "tuple") none (.seq #[(.str (S "year") 303), (.str (S "month") 304), (.str (S "day") 305)] 0) #[])),
  ((nat_lit 92), (ob (.type "tuple") none (.seq #[] 0) #[])),
  ((nat_lit 94), (ob (.type "code") none (.fields #[(.str (S "is_day") 300), (.str (S "is_day") 301), (.str (S "/claim/cut.py") 302), (.int 27 0), (.int 3 0), (.int 0 0), (.int 0 0), (.int 3 0), (.ref 89), (.bool true), (.int 181 0), (.ref 90), .none, (.ref 91), (.ref 92), (.ref 93), (.int 306 0), (.int 27 0), (.str (S "/claim/cut.py") 307)]) #[])),
  ((nat_lit 95), (ob (.type "function") none (.func (fo 5 (S "is_day") 3 [] .none .none .none (.str (S "postkeep.dates") 268) none (.ref 94) .none 0)) #[])),
  ((nat_lit 96), (ob (.type "tuple") none (.seq #[] 0) #[])),
  ((nat_lit 98), (ob (.type "tuple") none (.seq #[(.str (S "number") 312), (.str (S "width") 313), (.str (S "figures") 314)] 0) #[])),
  ((nat_lit 99), (ob (.type "tuple") none (.seq #[] 0) #[])),
  ((nat_lit 101), (ob (.type "code") none (.fields #[(.str (S "padded") 309), (.str (S "padded") 310), (.str (S "/claim/cut.py") 311), (.int 29 0), (.int 2 0), (.int 0 0), (.int 0 0), (.int 3 0), (.ref 96), (.bool true), (.int 181 0), (.ref 97), .none, (.ref 98), (.ref 99), (.ref 100), (.int 315 0), (.int 29 0), (.str (S "/claim/cut.py") 316)]) #[])),
  ((nat_lit 102), (ob (.type "function") none (.func (fo 6 (S "padded") 3 [] .none .none .none (.str (S "postkeep.dates") 268) none (.ref 101) .none 0)) #[])),
  ((nat_lit 103), (ob (.type "tuple") none (.seq #[] 0) #[])),
  ((nat_lit 105), (ob (.type "tuple") none (.seq #[(.str (S "year") 321), (.str (S "month") 322), (.str (S "day") 323)] 0) #[])),
  ((nat_lit 106), (ob (.type "tuple") none (.seq #[] 0) #[])),
  ((nat_lit 108), (ob (.type "code") none (.fields #[(.str (S "day_text") 318), (.str (S "day_text") 319), (.str (S "/claim/cut.py") 320), (.int 32 0), (.int 3 0), (.int 0 0), (.int 0 0), (.int 3 0), (.ref 103), (.bool true), (.int 181 0), (.ref 104), .none, (.ref 105), (.ref 106), (.ref 107), (.int 324 0), (.int 32 0), (.str (S "/claim/cut.py") 325)]) #[])),
  ((nat_lit 109), (ob (.type "function") none (.func (fo 7 (S "day_text") 3 [] .none .none .none (.str (S "postkeep.dates") 268) none (.ref 108) .none 0)) #[])),
  ((nat_lit 110), (ob (.type "tuple") none (.seq #[] 0) #[])),
  ((nat_lit 112), (ob (.type "tuple") none (.seq #[(.str (S "day") 330)] 0) #[])),
  ((nat_lit 113), (ob (.type "tuple") none (.seq #[] 0) #[])),
  ((nat_lit 115), (ob (.type "code") none (.fields #[(.str (S "write_day") 327), (.str (S "write_day") 328), (.str (S "/claim/cut.py") 329), (.int 34 0), (.int 1 0), (.int 0 0), (.int 0 0), (.int 3 0), (.ref 110), (.bool true), (.int 181 0), (.ref 111), .none, (.ref 112), (.ref 113), (.ref 114), (.int 331 0), (.int 34 0), (.str (S "/claim/cut.py") 332)]) #[])),
  ((nat_lit 116), (ob (.type "function") none (.func (fo 8 (S "write_day") 3 [] .none .none .none (.str (S "postkeep.dates") 268) none (.ref 115) .none 0)) #[])),
  ((nat_lit 117), (ob (.type "tuple") none (.seq #[] 0) #[])),
  ((nat_lit 119), (ob (.type "tuple") none (.seq #[(.str (S "code") 341)] 0) #[])),
  ((nat_lit 120), (ob (.type "tuple") none (.seq #[] 0) #[])),
  ((nat_lit 122), (ob (.type "code") none (.fields #[(.str (S "lower_code") 338), (.str (S "lower_code") 339), (.str (S "/claim/cut.py") 340), (.int 40 0), (.int 1 0), (.int 0 0), (.int 0 0), (.int 3 0), (.ref 117), (.bool true), (.int 181 0), (.ref 118), .none, (.ref 119), (.ref 120), (.ref 121), (.int 342 0), (.int 40 0), (.str (S "/claim/cut.py") 343)]) #[])),
  ((nat_lit 123), (ob (.type "function") none (.func (fo 9 (S "lower_code") 3 [] .none .none .none (.str (S "postkeep.octets") 334) none (.ref 122) .none 0)) #[])),
  ((nat_lit 124), (ob (.type "tuple") none (.seq #[] 0) #[])),
  ((nat_lit 127), (ob (.type "code") none (.fields #[(.str (S "lower") 345), (.str (S "lower") 346), (.str (S "/claim/cut.py") 347), (.int 42 0), (.int 1 0), (.int 0 0), (.int 0 0), (.int 3 0), (.ref 124), (.bool true), (.int 181 0), (.ref 125), .none, .none, .none, (.ref 126), (.int 348 0), (.int 42 0), (.str (S "/claim/cut.py") 349)]) #[])),
  ((nat_lit 128), (ob (.type "function") none (.func (fo 10 (S "lower") 3 [] .none .none .none (.str (S "postkeep.octets") 334) none (.ref 127) .none 0)) #[])),
  ((nat_lit 129), (ob (.type "tuple") none (.seq #[] 0) #[])),
  ((nat_lit 132), (ob (.type "code") none (.fields #[(.str (S "upper_text") 351), (.str (S "upper_text") 352), (.str (S "/claim/cut.py") 353), (.int 44 0), (.int 1 0), (.int 0 0), (.int 0 0), (.int 3 0), (.ref 129), (.bool true), (.int 181 0), (.ref 130), .none, .none, .none, (.ref 131), (.int 354 0), (.int 44 0), (.str (S "/claim/cut.py") 355)]) #[])),
  ((nat_lit 133), (ob (.type "function") none (.func (fo 11 (S "upper_text") 3 [] .none .none .none (.str (S "postkeep.octets") 334) none (.ref 132) .none 0)) #[])),
  ((nat_lit 134), (ob (.type "tuple") none (.seq #[] 0) #[])),
  ((nat_lit 137), (ob (.type "code") none (.fields #[(.str (S "text_octets") 357), (.str (S "text_octets") 358), (.str (S "/claim/cut.py") 359), (.int 46 0), (.int 1 0), (.int 0 0), (.int 0 0), (.int 3 0), (.ref 134), (.bool true), (.int 181 0), (.ref 135), .none, .none, .none, (.ref 136), (.int 360 0), (.int 46 0), (.str (S "/claim/cut.py") 361)]) #[])),
  ((nat_lit 138), (ob (.type "function") none (.func (fo 12 (S "text_octets") 3 [] .none .none .none (.str (S "postkeep.octets") 334) none (.ref 137) .none 0)) #[])),
  ((nat_lit 139), (ob (.type "tuple") none (.seq #[] 0) #[])),
  ((nat_lit 141), (ob (.type "tuple") none (.seq #[(.str (S "number") 368)] 0) #[])),
  ((nat_lit 142), (ob (.type "tuple") none (.seq #[] 0) #[])),
  ((nat_lit 144), (ob (.type "code") none (.fields #[(.str (S "show_end") 365), (.str (S "show_end") 366), (.str (S "/claim/cut.py") 367), (.int 52 0), (.int 1 0), (.int 0 0), (.int 0 0), (.int 3 0), (.ref 139), (.bool true), (.int 181 0), (.ref 140), .none, (.ref 141), (.ref 142), (.ref 143), (.int 369 0), (.int 52 0), (.str (S "/claim/cut.py") 370)]) #[])),
  ((nat_lit 145), (ob (.type "function") none (.func (fo 13 (S "show_end") 3 [] .none .none .none (.str (S "postkeep.sets") 363) none (.ref 144) .none 0)) #[])),
  ((nat_lit 146), (ob (.type "tuple") none (.seq #[] 0) #[])),
  ((nat_lit 148), (ob (.type "tuple") none (.seq #[(.str (S "pair") 375)] 0) #[])),
  ((nat_lit 149), (ob (.type "tuple") none (.seq #[] 0) #[])),
  ((nat_lit 151), (ob (.type "code") none (.fields #[(.str (S "show_pair") 372), (.str (S "show_pair") 373), (.str (S "/claim/cut.py") 374), (.int 56 0), (.int 1 0), (.int 0 0), (.int 0 0), (.int 3 0), (.ref 146), (.bool true), (.int 181 0), (.ref 147), .none, (.ref 148), (.ref 149), (.ref 150), (.int 376 0), (.int 56 0), (.str (S "/claim/cut.py") 377)]) #[])),
  ((nat_lit 152), (ob (.type "function") none (.func (fo 14 (S "show_pair") 3 [] .none .none .none (.str (S "postkeep.sets") 363) none (.ref 151) .none 0)) #[])),
  ((nat_lit 153), (ob (.type "tuple") none (.seq #[] 0) #[])),
  ((nat_lit 156), (ob (.type "code") none (.fields #[(.str (S "show_set") 379), (.str (S "show_set") 380), (.str (S "/claim/cut.py") 381), (.int 60 0), (.int 1 0), (.int 0 0), (.int 0 0), (.int 3 0), (.ref 153), (.bool true), (.int 181 0), (.ref 154), .none, .none, .none, (.ref 155), (.int 382 0), (.int 60 0), (.str (S "/claim/cut.py") 383)]) #[])),
  ((nat_lit 157), (ob (.type "function") none (.func (fo 15 (S "show_set") 3 [] .none .none .none (.str (S "postkeep.sets") 363) none (.ref 156) .none 0)) #[])),
  ((nat_lit 158), (ob (.type "tuple") none (.seq #[] 0) #[])),
  ((nat_lit 160), (ob (.type "tuple") none (.seq #[(.str (S "code") 398)] 0) #[])),
  ((nat_lit 161), (ob (.type "tuple") none (.seq #[] 0) #[])),
  ((nat_lit 163), (ob (.type "code") none (.fields #[(.str (S "is_printable") 395), (.str (S "is_printable") 396), (.str (S "/claim/cut.py") 397), (.int 67 0), (.int 1 0), (.int 0 0), (.int 0 0), (.int 3 0), (.ref 158), (.bool true), (.int 181 0), (.ref 159), .none, (.ref 160), (.ref 161), (.ref 162), (.int 399 0), (.int 67 0), (.str (S "/claim/cut.py") 400)]) #[])),
  ((nat_lit 164), (ob (.type "function") none (.func (fo 16 (S "is_printable") 3 [] .none .none .none (.str (S "postkeep.wire") 385) none (.ref 163) .none 0)) #[])),
  ((nat_lit 165), (ob (.type "tuple") none (.seq #[] 0) #[])),
  ((nat_lit 167), (ob (.type "tuple") none (.seq #[(.str (S "code") 405)] 0) #[])),
  ((nat_lit 168), (ob (.type "tuple") none (.seq #[] 0) #[])),
  ((nat_lit 170), (ob (.type "code") none (.fields #[(.str (S "is_atom_code") 402), (.str (S "is_atom_code") 403), (.str (S "/claim/cut.py") 404), (.int 69 0), (.int 1 0), (.int 0 0), (.int 0 0), (.int 3 0), (.ref 165), (.bool true), (.int 181 0), (.ref 166), .none, (.ref 167), (.ref 168), (.ref 169), (.int 406 0), (.int 69 0), (.str (S "/claim/cut.py") 407)]) #[])),
  ((nat_lit 171), (ob (.type "function") none (.func (fo 17 (S "is_atom_code") 3 [] .none .none .none (.str (S "postkeep.wire") 385) none (.ref 170) .none 0)) #[])),
  ((nat_lit 172), (ob (.type "tuple") none (.seq #[] 0) #[])),
  ((nat_lit 174), (ob (.type "tuple") none (.seq #[(.str (S "code") 412)] 0) #[])),
  ((nat_lit 175), (ob (.type "tuple") none (.seq #[] 0) #[])),
  ((nat_lit 177), (ob (.type "code") none (.fields #[(.str (S "is_astring_code") 409), (.str (S "is_astring_code") 410), (.str (S "/claim/cut.py") 411), (.int 71 0), (.int 1 0), (.int 0 0), (.int 0 0), (.int 3 0), (.ref 172), (.bool true), (.int 181 0), (.ref 173), .none, (.ref 174), (.ref 175), (.ref 176), (.int 413 0), (.int 71 0), (.str (S "/claim/cut.py") 414)]) #[])),
  ((nat_lit 178), (ob (.type "function") none (.func (fo 18 (S "is_astring_code") 3 [] .none .none .none (.str (S "postkeep.wire") 385) none (.ref 177) .none 0)) #[])),
  ((nat_lit 179), (ob (.type "tuple") none (.seq #[] 0) #[])),
  ((nat_lit 181), (ob (.type "tuple") none (.seq #[(.str (S "number") 419)] 0) #[])),
  ((nat_lit 182), (ob (.type "tuple") none (.seq #[] 0) #[])),
  ((nat_lit 184), (ob (.type "code") none (.fields #[(.str (S "figures_of") 416), (.str (S "figures_of") 417), (.str (S "/claim/cut.py") 418), (.int 73 0), (.int 1 0), (.int 0 0), (.int 0 0), (.int 3 0), (.ref 179), (.bool true), (.int 181 0), (.ref 180), .none, (.ref 181), (.ref 182), (.ref 183), (.int 420 0), (.int 73 0), (.str (S "/claim/cut.py") 421)]) #[])),
  ((nat_lit 185), (ob (.type "function") none (.func (fo 19 (S "figures_of") 3 [] .none .none .none (.str (S "postkeep.wire") 385) none (.ref 184) .none 0)) #[])),
  ((nat_lit 186), (ob (.type "tuple") none (.seq #[] 0) #[])),
  ((nat_lit 189), (ob (.type "code") none (.fields #[(.str (S "is_quotable") 423), (.str (S "is_quotable") 424), (.str (S "/claim/cut.py") 425), (.int 77 0), (.int 1 0), (.int 0 0), (.int 0 0), (.int 3 0), (.ref 186), (.bool true), (.int 181 0), (.ref 187), .none, .none, .none, (.ref 188), (.int 426 0), (.int 77 0), (.str (S "/claim/cut.py") 427)]) #[])),
  ((nat_lit 190), (ob (.type "function") none (.func (fo 20 (S "is_quotable") 3 [] .none .none .none (.str (S "postkeep.wire") 385) none (.ref 189) .none 0)) #[])),
  ((nat_lit 191), (ob (.type "tuple") none (.seq #[] 0) #[])),
  ((nat_lit 193), (ob (.type "tuple") none (.seq #[(.str (S "octets") 432), (.str (S "found") 433), (.str (S "code") 434)] 0) #[])),
  ((nat_lit 194), (ob (.type "tuple") none (.seq #[] 0) #[])),
  ((nat_lit 196), (ob (.type "code") none (.fields #[(.str (S "quoted_octets") 429), (.str (S "quoted_octets") 430), (.str (S "/claim/cut.py") 431), (.int 79 0), (.int 1 0), (.int 0 0), (.int 0 0), (.int 3 0), (.ref 191), (.bool true), (.int 181 0), (.ref 192), .none, (.ref 193), (.ref 194), (.ref 195), (.int 435 0), (.int 79 0), (.str (S "/claim/cut.py") 436)]) #[])),
  ((nat_lit 197), (ob (.type "function") none (.func (fo 21 (S "quoted_octets") 3 [] .none .none .none (.str (S "postkeep.wire") 385) none (.ref 196) .none 0)) #[])),
  ((nat_lit 198), (ob (.type "tuple") none (.seq #[(.bool false)] 0) #[])),
  ((nat_lit 199), (ob (.type "tuple") none (.seq #[] 0) #[])),
  ((nat_lit 201), (ob (.type "tuple") none (.seq #[(.str (S "octets") 441), (.str (S "is_plus") 442)] 0) #[])),
  ((nat_lit 202), (ob (.type "tuple") none (.seq #[] 0) #[])),
  ((nat_lit 204), (ob (.type "code") none (.fields #[(.str (S "literal_octets") 438), (.str (S "literal_octets") 439), (.str (S "/claim/cut.py") 440), (.int 87 0), (.int 2 0), (.int 0 0), (.int 0 0), (.int 3 0), (.ref 199), (.bool true), (.int 181 0), (.ref 200), .none, (.ref 201), (.ref 202), (.ref 203), (.int 443 0), (.int 87 0), (.str (S "/claim/cut.py") 444)]) #[])),
  ((nat_lit 205), (ob (.type "function") none (.func (fo 22 (S "literal_octets") 3 [] (.ref 198) .none .none (.str (S "postkeep.wire") 385) none (.ref 204) .none 0)) #[])),
  ((nat_lit 206), (ob (.type "tuple") none (.seq #[(.bool false)] 0) #[])),
  ((nat_lit 207), (ob (.type "tuple") none (.seq #[] 0) #[])),
  ((nat_lit 209), (ob (.type "tuple") none (.seq #[(.str (S "octets") 449), (.str (S "is_plus") 450)] 0) #[])),
  ((nat_lit 210), (ob (.type "tuple") none (.seq #[] 0) #[])),
  ((nat_lit 212), (ob (.type "code") none (.fields #[(.str (S "string_octets") 446), (.str (S "string_octets") 447), (.str (S "/claim/cut.py") 448), (.int 89 0), (.int 2 0), (.int 0 0), (.int 0 0), (.int 3 0), (.ref 207), (.bool true), (.int 181 0), (.ref 208), .none, (.ref 209), (.ref 210), (.ref 211), (.int 451 0), (.int 89 0), (.str (S "/claim/cut.py") 452)]) #[])),
  ((nat_lit 213), (ob (.type "function") none (.func (fo 23 (S "string_octets") 3 [] (.ref 206) .none .none (.str (S "postkeep.wire") 385) none (.ref 212) .none 0)) #[])),
  ((nat_lit 214), (ob (.type "tuple") none (.seq #[(.bool false)] 0) #[])),
  ((nat_lit 215), (ob (.type "tuple") none (.seq #[] 0) #[])),
  ((nat_lit 218), (ob (.type "code") none (.fields #[(.str (S "astring_octets") 454), (.str (S "astring_octets") 455), (.str (S "/claim/cut.py") 456), (.int 93 0), (.int 2 0), (.int 0 0), (.int 0 0), (.int 3 0), (.ref 215), (.bool true), (.int 181 0), (.ref 216), .none, .none, .none, (.ref 217), (.int 457 0), (.int 93 0), (.str (S "/claim/cut.py") 458)]) #[])),
  ((nat_lit 219), (ob (.type "function") none (.func (fo 24 (S "astring_octets") 3 [] (.ref 214) .none .none (.str (S "postkeep.wire") 385) none (.ref 218) .none 0)) #[])),
  ((nat_lit 220), (ob (.type "tuple") none (.seq #[] 0) #[])),
  ((nat_lit 222), (ob (.type "tuple") none (.seq #[(.str (S "tree") 465), (.str (S "found") 466)] 0) #[])),
  ((nat_lit 223), (ob (.type "tuple") none (.seq #[] 0) #[])),
  ((nat_lit 225), (ob (.type "code") none (.fields #[(.str (S "row_of") 462), (.str (S "row_of") 463), (.str (S "/claim/cut.py") 464), (.int 99 0), (.int 1 0), (.int 0 0), (.int 0 0), (.int 3 0), (.ref 220), (.bool true), (.int 181 0), (.ref 221), .none, (.ref 222), (.ref 223), (.ref 224), (.int 467 0), (.int 99 0), (.str (S "/claim/cut.py") 468)]) #[])),
  ((nat_lit 226), (ob (.type "function") none (.func (fo 25 (S "row_of") 3 [] .none .none .none (.str (S "postkeep.query") 460) none (.ref 225) .none 0)) #[])),
  ((nat_lit 227), (ob (.type "tuple") none (.seq #[] 0) #[])),
  ((nat_lit 229), (ob (.type "tuple") none (.seq #[(.str (S "name") 473), (.str (S "front") 474)] 0) #[])),
  ((nat_lit 230), (ob (.type "tuple") none (.seq #[] 0) #[])),
  ((nat_lit 232), (ob (.type "code") none (.fields #[(.str (S "show_flag") 470), (.str (S "show_flag") 471), (.str (S "/claim/cut.py") 472), (.int 106 0), (.int 2 0), (.int 0 0), (.int 0 0), (.int 3 0), (.ref 227), (.bool true), (.int 181 0), (.ref 228), .none, (.ref 229), (.ref 230), (.ref 231), (.int 475 0), (.int 106 0), (.str (S "/claim/cut.py") 476)]) #[])),
  ((nat_lit 233), (ob (.type "function") none (.func (fo 26 (S "show_flag") 3 [] .none .none .none (.str (S "postkeep.query") 460) none (.ref 232) .none 0)) #[])),
  ((nat_lit 234), (ob (.type "tuple") none (.seq #[] 0) #[])),
  ((nat_lit 236), (ob (.type "tuple") none (.seq #[(.str (S "tree") 481), (.str (S "kind") 482), (.str (S "worth") 483)] 0) #[])),
  ((nat_lit 237), (ob (.type "tuple") none (.seq #[] 0) #[])),
  ((nat_lit 239), (ob (.type "code") none (.fields #[(.str (S "show_leaf") 478), (.str (S "show_leaf") 479), (.str (S "/claim/cut.py") 480), (.int 110 0), (.int 1 0), (.int 0 0), (.int 0 0), (.int 3 0), (.ref 234), (.bool true), (.int 181 0), (.ref 235), .none, (.ref 236), (.ref 237), (.ref 238), (.int 484 0), (.int 110 0), (.str (S "/claim/cut.py") 485)]) #[])),
  ((nat_lit 240), (ob (.type "function") none (.func (fo 27 (S "show_leaf") 3 [] .none .none .none (.str (S "postkeep.query") 460) none (.ref 239) .none 0)) #[])),
  ((nat_lit 241), (ob (.type "tuple") none (.seq #[] 0) #[])),
  ((nat_lit 243), (ob (.type "tuple") none (.seq #[(.str (S "tree") 490), (.str (S "kind") 491)] 0) #[])),
  ((nat_lit 244), (ob (.type "tuple") none (.seq #[] 0) #[])),
  ((nat_lit 246), (ob (.type "code") none (.fields #[(.str (S "show_key") 487), (.str (S "show_key") 488), (.str (S "/claim/cut.py") 489), (.int 125 0), (.int 1 0), (.int 0 0), (.int 0 0), (.int 3 0), (.ref 241), (.bool true), (.int 181 0), (.ref 242), .none, (.ref 243), (.ref 244), (.ref 245), (.int 492 0), (.int 125 0), (.str (S "/claim/cut.py") 493)]) #[])),
  ((nat_lit 247), (ob (.type "function") none (.func (fo 28 (S "show_key") 3 [] .none .none .none (.str (S "postkeep.query") 460) none (.ref 246) .none 0)) #[])),
  ((nat_lit 248), (ob (.type "tuple") none (.seq #[] 0) #[])),
  ((nat_lit 251), (ob (.type "code") none (.fields #[(.str (S "show_query") 495), (.str (S "show_query") 496), (.str (S "/claim/cut.py") 497), (.int 138 0), (.int 1 0), (.int 0 0), (.int 0 0), (.int 3 0), (.ref 248), (.bool true), (.int 181 0), (.ref 249), .none, .none, .none, (.ref 250), (.int 498 0), (.int 138 0), (.str (S "/claim/cut.py") 499)]) #[])),
  ((nat_lit 252), (ob (.type "function") none (.func (fo 29 (S "show_query") 3 [] .none .none .none (.str (S "postkeep.query") 460) none (.ref 251) .none 0)) #[])),
  ((nat_lit 253), (ob (.type "tuple") none (.seq #[] 0) #[])),
  ((nat_lit 255), (ob (.type "tuple") none (.seq #[] 0) #[])),
  ((nat_lit 256), (ob (.type "tuple") none (.seq #[] 0) #[])),
  ((nat_lit 258), (ob (.type "code") none (.fields #[(.str (S "_law_octets") 503), (.str (S "_law_octets") 504), (.str (S "/claim/cut.py") 505), (.int 141 0), (.int 0 0), (.int 0 0), (.int 0 0), (.int 3 0), (.ref 253), (.bool true), (.int 181 0), (.ref 254), .none, (.ref 255), (.ref 256), (.ref 257), (.int 506 0), (.int 141 0), (.str (S "/claim/cut.py") 507)]) #[])),
  ((nat_lit 259), (ob (.type "function") none (.func (fo 30 (S "_law_octets") 3 [] .none .none .none (.str (S "law_nz0288_01") 501) none (.ref 258) .none 0)) #[])),
  ((nat_lit 260), (ob (.type "tuple") none (.seq #[(.str (S "\\Seen") 509), (.str (S "\\Answered") 510), (.str (S "work") 511), (.str (S "$Junk") 512)] 0) #[])),
  ((nat_lit 261), (ob (.type "tuple") none (.seq #[(.int 1 514), (.int 1 515)] 0) #[])),
  ((nat_lit 262), (ob (.type "tuple") none (.seq #[(.ref 261)] 0) #[])),
  ((nat_lit 263), (ob (.type "tuple") none (.seq #[(.ref 262), (.bytes #[49] 516)] 0) #[])),
  ((nat_lit 264), (ob (.type "tuple") none (.seq #[(.int 0 517), (.int 0 518)] 0) #[])),
  ((nat_lit 265), (ob (.type "tuple") none (.seq #[(.ref 264)] 0) #[])),
  ((nat_lit 266), (ob (.type "tuple") none (.seq #[(.ref 265), (.bytes #[42] 519)] 0) #[])),
  ((nat_lit 267), (ob (.type "tuple") none (.seq #[(.int 7 520), (.int 3 521)] 0) #[])),
  ((nat_lit 268), (ob (.type "tuple") none (.seq #[(.int 9 522), (.int 0 523)] 0) #[])),
  ((nat_lit 269), (ob (.type "tuple") none (.seq #[(.ref 267), (.ref 268)] 0) #[])),
  ((nat_lit 270), (ob (.type "tuple") none (.seq #[(.ref 269), (.bytes #[55, 58, 51, 44, 57, 58, 42] 524)] 0) #[])),
  ((nat_lit 271), (ob (.type "tuple") none (.seq #[(.ref 263), (.ref 266), (.ref 270)] 0) #[])),
  ((nat_lit 272), (ob (.type "tuple") none (.seq #[(.int 1994 526), (.int 2 527), (.int 1 528)] 0) #[])),
  ((nat_lit 273), (ob (.type "tuple") none (.seq #[(.ref 272), (.bytes #[49, 45, 70, 101, 98, 45, 49, 57, 57, 52] 529)] 0) #[])),
  ((nat_lit 274), (ob (.type "tuple") none (.seq #[(.int 2024 530), (.int 12 531), (.int 31 532)] 0) #[])),
  ((nat_lit 275), (ob (.type "tuple") none (.seq #[(.ref 274), (.bytes #[51, 49, 45, 68, 101, 99, 45, 50, 48, 50, 52] 533)] 0) #[])),
  ((nat_lit 276), (ob (.type "tuple") none (.seq #[(.ref 273), (.ref 275)] 0) #[])),
  ((nat_lit 277), (ob (.type "tuple") none (.seq #[] 0) #[])),
  ((nat_lit 279), (ob (.type "tuple") none (.seq #[(.str (S "pen") 538), (.str (S "many") 539), (.str (S "cell") 540), (.str (S "digit") 541)] 0) #[])),
  ((nat_lit 280), (ob (.type "tuple") none (.seq #[] 0) #[])),
  ((nat_lit 282), (ob (.type "code") none (.fields #[(.str (S "_law_draw") 535), (.str (S "_law_draw") 536), (.str (S "/claim/cut.py") 537), (.int 146 0), (.int 2 0), (.int 0 0), (.int 0 0), (.int 3 0), (.ref 277), (.bool true), (.int 181 0), (.ref 278), .none, (.ref 279), (.ref 280), (.ref 281), (.int 542 0), (.int 146 0), (.str (S "/claim/cut.py") 543)]) #[])),
  ((nat_lit 283), (ob (.type "function") none (.func (fo 31 (S "_law_draw") 3 [] .none .none .none (.str (S "law_nz0288_01") 501) none (.ref 282) .none 0)) #[])),
  ((nat_lit 284), (ob (.type "tuple") none (.seq #[] 0) #[])),
  ((nat_lit 287), (ob (.type "code") none (.fields #[(.str (S "_law_text") 545), (.str (S "_law_text") 546), (.str (S "/claim/cut.py") 547), (.int 158 0), (.int 1 0), (.int 0 0), (.int 0 0), (.int 3 0), (.ref 284), (.bool true), (.int 181 0), (.ref 285), .none, .none, .none, (.ref 286), (.int 548 0), (.int 158 0), (.str (S "/claim/cut.py") 549)]) #[])),
  ((nat_lit 288), (ob (.type "function") none (.func (fo 32 (S "_law_text") 3 [] .none .none .none (.str (S "law_nz0288_01") 501) none (.ref 287) .none 0)) #[])),
  ((nat_lit 289), (ob (.type "tuple") none (.seq #[] 0) #[])),
  ((nat_lit 292), (ob (.type "code") none (.fields #[(.str (S "_law_leaf") 551), (.str (S "_law_leaf") 552), (.str (S "/claim/cut.py") 553), (.int 165 0), (.int 1 0), (.int 0 0), (.int 0 0), (.int 3 0), (.ref 289), (.bool true), (.int 181 0), (.ref 290), .none, .none, .none, (.ref 291), (.int 554 0), (.int 165 0), (.str (S "/claim/cut.py") 555)]) #[])),
  ((nat_lit 293), (ob (.type "function") none (.func (fo 33 (S "_law_leaf") 3 [] .none .none .none (.str (S "law_nz0288_01") 501) none (.ref 292) .none 0)) #[])),
  ((nat_lit 294), (ob (.type "tuple") none (.seq #[] 0) #[])),
  ((nat_lit 296), (ob (.type "tuple") none (.seq #[(.str (S "pen") 560), (.str (S "deep") 561), (.str (S "way") 562), (.str (S "tree") 563), (.str (S "octets") 564), (.str (S "one") 565), (.str (S "left") 566), (.str (S "several") 567), (.str (S "bare") 568), (.str (S "other") 569), (.str (S "right") 570), (.str (S "others") 571)] 0) #[])),
  ((nat_lit 297), (ob (.type "tuple") none (.seq #[] 0) #[])),
  ((nat_lit 299), (ob (.type "code") none (.fields #[(.str (S "_law_tree") 557), (.str (S "_law_tree") 558), (.str (S "/claim/cut.py") 559), (.int 186 0), (.int 2 0), (.int 0 0), (.int 0 0), (.int 3 0), (.ref 294), (.bool true), (.int 181 0), (.ref 295), .none, (.ref 296), (.ref 297), (.ref 298), (.int 572 0), (.int 186 0), (.str (S "/claim/cut.py") 573)]) #[])),
  ((nat_lit 300), (ob (.type "function") none (.func (fo 34 (S "_law_tree") 3 [] .none .none .none (.str (S "law_nz0288_01") 501) none (.ref 299) .none 0)) #[])),
  ((nat_lit 301), (ob (.type "tuple") none (.seq #[] 0) #[])),
  ((nat_lit 303), (ob (.type "tuple") none (.seq #[(.str (S "script") 578), (.str (S "pen") 579), (.str (S "tree") 580), (.str (S "octets") 581), (.str (S "several") 582)] 0) #[])),
  ((nat_lit 304), (ob (.type "tuple") none (.seq #[] 0) #[])),
  ((nat_lit 306), (ob (.type "code") none (.fields #[(.str (S "law") 575), (.str (S "law") 576), (.str (S "/claim/cut.py") 577), (.int 202 0), (.int 1 0), (.int 0 0), (.int 0 0), (.int 3 0), (.ref 301), (.bool true), (.int 181 0), (.ref 302), .none, (.ref 303), (.ref 304), (.ref 305), (.int 583 0), (.int 202 0), (.str (S "/claim/cut.py") 584)]) #[])),
  ((nat_lit 307), (ob (.type "function") none (.func (fo 35 (S "law") 3 [] .none .none .none (.str (S "law_nz0288_01") 501) none (.ref 306) .none 0)) #[]))
]
/-- the statements of the text that the walk reads -/
noncomputable def V0 : Program := PySem.W.view PySem.Challenge.pw_nz0288_01 [0, 2, 3, 4, 6, 7, 8, 9, 10, 11, 12, 13, 15, 16, 17, 18, 19, 21, 22, 23, 25, 26, 27, 28, 29, 30, 31, 32, 33, 34, 39, 40, 41, 42, 43, 45, 46, 47, 48, 49, 50, 51, 52, 53]
/-- the law's own def -/
noncomputable def lawD : DefRec := match defsAll[(35 : Nat)]? with
  | some (.FunctionDef name ps body _ _ _ sc _ _ pos) => DefRec.mk name ps body sc pos
  | _ => DefRec.mk (S "") ⟨[], [], none, [], [], none, []⟩ [] ⟨.function, [], false, false, []⟩ ⟨0, 0, 0, 0⟩
noncomputable def loose0 : List Str := [S "PostError", S "literal_octets", S "string_octets", S "astring_octets"]
end Mine
end
section
open PySem PySem.W PySem.Calls PyProof.Rows
open PySem.Sem (wp)
namespace Mine
theorem reg5 : True := by
  w_top off
  trivial
theorem caller_clean : Clean ⟨.builtin "claim.caller" {}, none, none, [], none⟩ := ⟨by decide +kernel, fun _ h => nomatch h⟩
theorem ends_K {prog : Program} {w : World} {t : Sem Fin} {s : Shared} {R : Result → Shared → Prop} (hreg : s.asleep)
    (h : wpK (model prog w) callerA t (fun fin s' => ∃ f, fin = .done f ∧ (R (.ok f) s' ∧ leftWithCleanup s'.gens = false)) s) :
    ∃ n r s' s'', runN (denote table) prog w n s ⟨t, .builtin "claim.caller" {}, default, []⟩ = .halted (outcomeOf r) s' ∧
      schedN (denote table) prog w n (.single s ⟨t, .builtin "claim.caller" {}, default, []⟩) = .halted (outcomeOf r) s' ∧ s'.forget = s''.forget ∧ R r s'' := by
  have h' := h ⟨.builtin "claim.caller" {}, none, none, [], none⟩ default caller_in caller_clean
  obtain ⟨n, r, s₁, s₂, hs, hn, hfo, hR⟩ := wp_halts_full (M := model prog w) (R := R) hreg (Sem.wp_mono _ _ t (fun fin p' s' q => by
    obtain ⟨f, rfl, hf⟩ := q
    exact hf) (fun _ _ _ x => x.elim) default s h')
  exact ⟨n, r, s₂, s₁, hn, hs, hfo, hR⟩
theorem callFrom_K {c : ClaimW} {tree : List Value → Sem Fin} {w : World} {s : Shared} {free : Addr → Prop} {gens : Prop} {kept : Heap → Prop} (hz : s.asleep) (hgens : s.gens = #[])
    (hspec : ∀ args, c.pre args = true → WData.layableAll args = true → ∀ ord : List DictEntry → List DictEntry, (∀ l, (ord l).Perm l) →
      ∃ vs s₁, layAllW c.records (classAt s.heap) w.params ord args s = some (vs, s₁) ∧
        wpK (model c.prog w) callerA (tree vs) (fun fin s' => ∃ f, fin = .done f ∧ (c.Ends s args vs s₁ (.ok f) s' ∧ s'.os = s.os ∧ AllBare s'.gens ∧ kept s'.heap)) s₁) :
    c.CallFrom (fun vs => ⟨tree vs, .builtin "claim.caller" {}, default, []⟩) w free gens kept s := by
  intro args hpre hlay ord hord
  obtain ⟨vs, s₁, hlaid, hcode⟩ := hspec args hpre hlay ord hord
  have hal := layAllW_rest _ _ _ hlaid
  obtain ⟨k, r, s', s'', hrun, hsched, hfo, hcase, hos, hkp⟩ := ends_K (prog := c.prog) (w := w) (t := tree vs) (s := s₁) (R := fun r s' => c.Ends s args vs s₁ r s' ∧ s'.os = s.os ∧ kept s'.heap)
    (Shared.asleep_of_life hal.2.2.2 hz) (wpK_mono hcode (by
      rintro fin s' ⟨f, e, h1, h2, h3, h4⟩
      exact ⟨f, e, ⟨h1, h2, h4⟩, leftWithCleanup_false_of_bare h3⟩))
  obtain ⟨eh, _, _, eo, _⟩ := Shared.forget_eq hfo
  have hcase := hcase.congr eh
  have hkp : kept s'.heap := by first | exact eh ▸ hkp | (rw [eh] at hkp; exact hkp) | (rw [← eh] at hkp; exact hkp)
  rw [← eo] at hos
  have hlife : s'.heap.life = s.heap.life := (runN_life _ _ _ hrun).trans hal.2.2.2
  refine ⟨vs, s₁, hlaid, k, _, s', hsched, ?_, (fun _ i x hx => by rw [hgens] at hx; simp at hx), hkp, by rw [hlife], Shared.rest_eq hos⟩
  rcases hcase with ⟨v, rfl, d1, d2, d3, d4, d5⟩ | ⟨e, ob, cls, rfl, d1, d2, d3, d4, d5⟩
  · exact .inl ⟨v, rfl, d1, d2, d3, fun b o y _ => d4 b o y, d5⟩
  · exact .inr ⟨e, ob, cls, rfl, d1, d2, d3, d4, fun b o y _ => d5 b o y⟩
/-- the walk of a law, its stacks clean -/
noncomputable abbrev WalkC (q : Program) (loose : List Str) (XP : (Str → Option Value) → Heap → Prop) (YP : World → Heap → Prop) (r : RowW) (d : DefRec) (kwd : List (Str × Expr)) : Prop :=
  ∀ (w : World) (s₀ s₁ : Shared) (mg mb : Str → Option Value), Ground q loose r.records XP w s₀ mg mb s₁.heap → YP w s₁.heap → ∀ (a : Addr) (o : Obj) (pm cd doc dV kV : Value), s₁.heap.get? a = some o →
    o.data = .func { docDef d.name d.params d.body d.scope pm cd doc with defaults := dV, kwdefaults := kV } → s₁.heap.CodeRec cd d.name → Dflts mg s₁.heap d.params kwd dV kV → mg d.name = some (.ref a) → s₁.gens = #[] →
    ∀ (args : List WData) (vals : List Value) (as : List Addr), r.claim.pre args = true → WData.layableAll args = true → ReadsAllW r.records (classAt s₀.heap) s₁.heap vals args as → WellAll w.params s₁.heap vals args → (∀ a ∈ as, (a == sysModules) = false) →
      wpK (model r.prog w) callerA (PySem.call (.ref a) vals) (fun v s' => GoodWG r.claim (classAt s₀.heap) (ExcName.means s₀.heap) args s₁ (.ok (.ret v)) s') s₁
/-- the law's walk, over what stands behind the top -/
noncomputable def WalkGiven : Prop := WalkC V0 loose0 (XL V0 []) (fun w h => (K0 w.params).In h) PySem.Challenge.rw_nz0288_01.row.toRowW lawD []
/-- the library's head, its walk handed in by the given one -/
theorem PySem.W.holds_open [i : Nonempty (PLift WalkGiven)] {r : OpenRow} {q : Program} {loose : List Str} {Xt : Shared → Bool} {XP : (Str → Option Value) → Heap → Prop} {α : Type} {Yf : Shared → α} {Ya : World → α} {YP : World → Heap → Prop} {d : DefRec} {kwd : List (Str × Expr)} {N : Nat}
    (left : LeftO r.prog q loose Xt Yf Ya N) (hY : ∀ w s, Yf s = Ya w → YP w s.heap) (hYk : ∀ w h h', YP w h → (∀ b o, h.get? b = some o → h'.get? b = some o) → YP w h')
    (hX : ∀ s, Xt s = true → XP (s.heap.nsMap mainGlobals) s.heap) (hXk : ∀ mg h h', XP mg h → (∀ b o, h.get? b = some o → h'.get? b = some o) → XP mg h')
    (hdef : defOf q r.name = some (d, kwd)) (hp : r.prog.theDef r.name = some (d.params, d.body, d.scope)) (hk : kwWritten? d.params.kwonlyargs d.params.kw_defaults = some kwd) (hRf : ∀ s, Xt s = true → RecFacts r.records s.heap) (hwr : (!r.writes || r.records.isEmpty) = true)
    (k1 : r.wellSaid = true) (ok : (chainsOk q && opensWell r.prog && (frees r.toRowW && r.within.isEmpty)) = true) (hb : r.prog.bare) (hw : r.toRowW.promised)
    (call0 : WalkGiven → WalkC q loose XP YP r.toRowW d kwd) : r.Holds := by
  have call := call0 (Classical.choice i).down
  obtain ⟨ok, k5⟩ := Bool.and_eq_true_iff.mp ok
  obtain ⟨hch, o1⟩ := Bool.and_eq_true_iff.mp ok
  obtain ⟨k5, k6⟩ := Bool.and_eq_true_iff.mp k5
  obtain ⟨hsame, hu, ha, hap, hm⟩ := frees_parts k5
  refine ⟨k1, hw, ⟨hb, o1, by show r.toRowW.makers.map _ = []; rw [hm]; rfl⟩, hw.witness, fun w => ⟨(left.behind hX hch w).1, fun s' hs' => ?_⟩⟩
  obtain ⟨s₀, hf, hg0, s, hT, hz, hgens, hg, G00, y⟩ := (left.behind (XP := fun mg h => XP mg h ∧ RecFacts r.records h) (fun s hs => ⟨hX s hs, hRf s hs⟩) hch w).2 s' hs'
  have G0 : Ground q loose [] XP w s (s.heap.nsMap mainGlobals) (s.heap.nsMap builtinsNs) s.heap := ⟨G00.T, G00.B, G00.D, G00.TE, G00.TD, G00.W, G00.X.1, G00.cls, G00.has, G00.apart, G00.once, G00.K⟩
  have RF := G00.X.2
  have hT' := hT
  refine ⟨s₀, hf, hg0, s, hT, fun n hn => ?_, RF.1, RF.2.1, ?_⟩
  · obtain rfl : n = r.name := by split at hn <;> simp_all
    exact pinned_of_view hg G0 hdef hp hk
  have hgens : s.gens = #[] := Array.eq_empty_of_size_eq_zero (beq_iff_eq.mp hgens)
  have G : Ground q loose r.records XP w s _ _ s.heap := RF.ground G0
  refine callFrom_K (c := r.toRowW.claim) hz hgens fun args hpre hlay ord hord => ?_
  obtain ⟨⟨vs, s₁⟩, hlaid⟩ := Option.isSome_iff_exists.mp (layAllW_isSome (P := w.params) (ord := ord) G.has args r.args s (pre_splitW hpre).1)
  have keeps := layAllW_keeps _ _ _ hlaid
  have hal := layAllW_rest _ _ _ hlaid
  obtain ⟨as, hrd, hin, hold⟩ := reads_layAllW hord _ _ _ hlaid hlay s₁.heap (fun _ _ e => e)
  have L : Laid r.records w s s₁ args vs as := ⟨⟨ord, hord, hlaid⟩, hrd, hin, hold, keeps, hal.1.trans hgens, hal.2.2.1⟩
  have G₁ := G.keeps hXk keeps
  obtain ⟨a, o, pm, cd, doc, dV, kV, h1, h2, h3, h4, h5⟩ := G₁.fn hdef
  have h := call w s s₁ _ _ G₁ (hYk _ _ _ (hY w s y) keeps) a o pm cd doc dV kV h2 h3 h4 h5 (defOf_name hdef ▸ h1) L.gens args vs as hpre hlay L.reads L.well (L.low G.low)
  have hi := ident_freeW hu ha hap
  have hwi : r.toRowW.claim.within = [] := List.isEmpty_iff.mp k6
  refine ⟨vs, s₁, hlaid, wpK_bindA (wpAny_nsGet G₁.T.g ?_)⟩
  rw [h1]
  refine wpK_bind (wpK_mono h fun v s' g => wpK_pure ⟨_, rfl, ?_⟩)
  have z := g.laid (c := r.toRowW.claim) hsame hwi hi L
  exact ⟨z.1, z.2.1, z.2.2, fun q => ⟨namesKept_of hT' hg _ keeps g.2.1.old, noTable hwr q⟩⟩
end Mine
end
section
open PySem PySem.W PyProof.Rows
namespace Mine
-- names taken ahead, so that the head below lays no twin there: a twin of a long list makes the compiled file some 25 MB larger
theorem reg6 : True := by
  w_top off
  trivial
noncomputable def top.tw7708316077125911455 : Unit := ()
noncomputable def top.tw16541100652227675460 : Unit := ()
noncomputable def top.tw15335621725131597806 : Unit := ()
noncomputable def top.tw18064794426631996164 : Unit := ()
noncomputable def top.tw12945667359872996184 : Unit := ()
noncomputable def top.tw16228763044005930535 : Unit := ()
noncomputable def top.tw16599547676461567385 : Unit := ()
noncomputable def top.tw4220239150373070436 : Unit := ()
noncomputable def top.tw2834617895031628566 : Unit := ()
noncomputable def top.tw3361881960638535302 : Unit := ()
noncomputable def top.tw8679839319945467846 : Unit := ()
noncomputable def top.tw8523463495250067690 : Unit := ()
noncomputable def top.tw12317137736924338119 : Unit := ()
noncomputable def top.tw14749125000353877875 : Unit := ()
noncomputable def top.tw987869383939708018 : Unit := ()
noncomputable def top.tw2822501910515967889 : Unit := ()
noncomputable def top.tw14282377253939248939 : Unit := ()
noncomputable def top.tw16325430554902658873 : Unit := ()
noncomputable def top.tw3368050667910131433 : Unit := ()
noncomputable def top.tw9961057766049560675 : Unit := ()
noncomputable def top.tw8107780213005350392 : Unit := ()
noncomputable def top.tw3837212427673210956 : Unit := ()
noncomputable def top.tw8139039716903228087 : Unit := ()
noncomputable def top.tw3855276242980373810 : Unit := ()
noncomputable def top.tw13370750898655102155 : Unit := ()
noncomputable def top.tw9503340733035011235 : Unit := ()
noncomputable def top.tw1959476706220467273 : Unit := ()
noncomputable def top.tw8184561461823581802 : Unit := ()
noncomputable def top.tw8640399195822439974 : Unit := ()
noncomputable def top.tw6761616313442571491 : Unit := ()
noncomputable def top.tw10448899703829047738 : Unit := ()
noncomputable def top.tw7855079511596107753 : Unit := ()
noncomputable def top.tw2369445192022557226 : Unit := ()
noncomputable def top.tw887695700811335699 : Unit := ()
set_option Elab.async true in
set_option maxRecDepth 100000 in
set_option maxHeartbeats 8000000 in
theorem top (walk : WalkGiven) : PySem.Challenge.rw_nz0288_01.Holds := by
  haveI : Nonempty (PLift WalkGiven) := ⟨⟨walk⟩⟩
  w_on; o_law; k_head
  (case hw => w_witness2)
  (case hc => intro g; exact g)
end Mine
end
open PySem PySem.W PySem.Calls PyProof.Rows
local macro_rules | `(tactic| k_all) => `(tactic| assumption)
local macro_rules | `(tactic| k_enter) => `(tactic| (refine' code_def ?k1 ?k2 ?k3 ?k4 ?k5 ?kA ?kF ?kK ?k6 ?k7 ?k8 ?k9 ?kB ?_ ?c2 ?c3 ?c4 ?c5; (case kA => exact rfl); (case kF => exact rfl); (case kK => first | exact rfl | assumption); (case k1 => k_asm); (case k2 => k_asm); (case k3 => k_asm); (case k4 => k_asm); (case k5 => k_asm); (case k6 => k_is); (case k7 => k_is); (case k8 => ktr_room); (case k9 => first | exact BindsTo.of_eq rfl | exact binds_K (by k_in) rfl (by k_is) rfl rfl rfl); (case c5 => decide); (case kB => exact locs rfl); (case c2 => exact rfl); (case c3 => exact rfl); (case c4 => exact rfl); k_whole; intro g' L' h' FG' F' N' B' X' T'; (try dsimp only); (try k_fold)))
local macro_rules | `(tactic| walk_at $s:str) => `(tactic| k_extra $s)
local macro_rules | `(tactic| k_mem) => `(tactic| k_extra "k_mem")
section
open PySem PySem.W PySem.Spec PySem.Calls PyProof.Rows
namespace Mine
theorem reg7 : True := by
  w_top off
  trivial
noncomputable abbrev LS : List PySem.Str := looseW Mine.top.view_1_40 [Str.ofString "PostError", Str.ofString "literal_octets", Str.ofString "string_octets", Str.ofString "astring_octets"]
/-- a call of a def from a def's frame: it comes back, with what it made -/
noncomputable def Ret (prog : Program) (w : World) (K : Frag) (p : Program) (loose : List Str) (f : Addr) (need : Nat)
    (news : List (Addr × Obj)) (vs : List Value) (Post : List (Addr × Obj) → Value → Prop) : Prop :=
  ∀ (mean : ExcName → Option Value) (mg mb : Str → Option Value) (dp un : Nat) (gd : Option (List Code)) (cn : Str) (cs : Scope) (a : Addr) (ccd : Value) (cl : List (Str × Addr)) (outer : List Env) (A₀ : Around) (base h₀ : Heap) (L : Addr) (m : Str → Option Value) (s : Shared)
    (Q E : Value → Shared → Prop),
    Below A₀ base outer h₀ → Fr h₀ L s.heap m → K.In h₀ → News h₀ L s.heap news → Top p loose mean mg mb h₀ → cs.kind = .function → dp + need < recursionLimit → un + 8 * need < cLine →
    (∀ r news' h' tk', Fr h₀ L h' m → News h₀ L h' news' → Post news' r → Q r { s with heap := h', toks := tk' }) →
    wpAny (model prog w) (ktrTop dp un gd cn cs L a ccd cl outer) (call (.ref f) vs) Q E s
theorem ret_use {prog : Program} {w : World} {K : Frag} {p : Program} {loose : List Str} {f : Addr} {need : Nat} {news : List (Addr × Obj)} {vs : List Value} {Post : List (Addr × Obj) → Value → Prop}
    {mean : ExcName → Option Value} {mg mb : Str → Option Value} {dp un : Nat} {gd : Option (List Code)} {cn : Str} {cs : Scope} {a : Addr} {ccd : Value} {cl : List (Str × Addr)} {outer : List Env} {A₀ : Around} {base h₀ : Heap} {L : Addr} {m : Str → Option Value} {s : Shared}
    {Q E : Value → Shared → Prop} (C : Ret prog w K p loose f need news vs Post)
    (B : Below A₀ base outer h₀) (F : Fr h₀ L s.heap m) (X : K.In h₀) (N : News h₀ L s.heap news) (T : Top p loose mean mg mb h₀) (hk : cs.kind = .function) (hd : dp + need < recursionLimit) (hu : un + 8 * need < cLine)
    (ret : ∀ r news' h' tk', Fr h₀ L h' m → News h₀ L h' news' → Post news' r → Q r { s with heap := h', toks := tk' }) :
    wpAny (model prog w) (ktrTop dp un gd cn cs L a ccd cl outer) (call (.ref f) vs) Q E s := C _ _ _ _ _ _ _ _ _ _ _ _ _ _ _ _ _ _ _ _ B F X N T hk hd hu ret
theorem ntl {h₀ h : Heap} {L : Addr} {q : Addr × Obj} {news : List (Addr × Obj)} (N : News h₀ L h (q :: news)) : News h₀ L h news := fun p hp => N p (.tail _ hp)
end Mine
end
section
open PySem PySem.W PySem.Spec PySem.Calls PyProof.Rows
namespace Mine
theorem reg8 : True := by
  w_top off
  trivial
/-- what a value gives to a loop, one by one; the iterator is one new object -/
noncomputable def Gives (prog : Program) (w : World) (A : Around) (E : Value → Shared → Prop) (h₀ : Heap) (L : Addr) (S : List (Addr × Obj) → Prop) (xv : Value) (s : Shared) (n : Nat) (P : Nat → Value → Prop) : Prop :=
  ∀ Q : Value → Shared → Prop,
    (∀ (o : Obj) (fp : List Addr) (St : Nat → Heap → Prop), Walks prog w A s.heap.objs.size fp [s.heap.objs.size] n P St → St 0 (s.heap.push o) → (∀ b ∈ fp, b < (s.heap.push o).objs.size) → (∀ i h, St i h → ∃ o, h.get? s.heap.objs.size = some o) →
      (∀ i h h' o nw, St i h → h.get? s.heap.objs.size = some o → h'.get? s.heap.objs.size = some o → (∀ b o, h₀.get? b = some o → h'.get? b = some o) → News h₀ L h' nw → S nw → St i h') → Q (.ref s.heap.objs.size) { s with heap := s.heap.push o }) →
    wpAny (model prog w) A (pyIter xv) Q E s
section
variable {prog : Program} {w : World} {A : Around} {E : Value → Shared → Prop} {s : Shared} {h₀ : Heap} {L : Addr} {m : Str → Option Value} {env : Env}
theorem gives_bytes (hh : A.handled = none) (b : Array UInt8) (t : Tok) : Gives prog w A E h₀ L (fun _ => True) (.bytes b t) s b.size (fun i v => ∃ c u, b[i]? = some c ∧ v = .int (c.toNat : Int) u) := by
  intro Q hQ
  refine KBw.pyIter_bytes (hQ _ _ _ (KBw.walks hh s.heap.objs.size b t) ⟨_, Heap.get?_push_size _ rfl, rfl, rfl⟩ ?_ (fun i h st => let ⟨o, ho, _⟩ := st; ⟨o, ho⟩) ?_)
  · intro c hc
    rw [List.mem_singleton.mp hc, Heap.size_push]
    exact Nat.lt_succ_self _
  · rintro i h h' o _ ⟨o', ho', r⟩ e e' _ _ _
    rw [e] at ho'
    cases ho'
    exact ⟨o, e', r⟩
theorem gives_str (hh : A.handled = none) (x : Str) (t : Tok) : Gives prog w A E h₀ L (fun _ => True) (.str x t) s x.cps.size (SignAt x) := by
  intro Q hQ
  have one : ∀ (o : Obj), ∀ c ∈ [s.heap.objs.size], c < (s.heap.push o).objs.size := fun o c hc => by
    rw [List.mem_singleton.mp hc, Heap.size_push]
    exact Nat.lt_succ_self _
  cases ha : x.cps.all (· < 128)
  · refine wpAny_pyIter_wide ha (hQ _ _ _ (Walks.strWide hh _ x t) ⟨_, Heap.get?_push_size _ rfl, rfl, rfl⟩ (one _) (fun i h st => let ⟨o, ho, _⟩ := st; ⟨o, ho⟩) ?_)
    rintro i h h' o _ ⟨o', ho', r⟩ e e' _ _ _
    rw [e] at ho'
    cases ho'
    exact ⟨o, e', r⟩
  · refine wpAny_pyIter_ascii ha (hQ _ _ _ (Walks.strAscii hh _ x t) ⟨_, Heap.get?_push_size _ rfl, rfl, rfl⟩ (one _) (fun i h st => let ⟨o, ho, _⟩ := st; ⟨o, ho⟩) ?_)
    rintro i h h' o _ ⟨o', ho', r⟩ e e' _ _ _
    rw [e] at ho'
    cases ho'
    exact ⟨o, e', r⟩
theorem gives_tuple (hh : A.handled = none) {l : Addr} {items : Array Value} (hl : IsTup h₀ l items) (F : Fr h₀ L s.heap m) : Gives prog w A E h₀ L (fun _ => True) (.ref l) s items.size (fun i v => items[i]? = some v) := by
  intro Q hQ
  have hls : s.heap.IsTuple l items := Heap.IsTuple.at hl fun o e => F.keep l o e
  have hlt : l < h₀.objs.size := IsTup.lt hl
  have hne : l ≠ s.heap.objs.size := Nat.ne_of_lt (Nat.lt_trans (Nat.lt_of_lt_of_le hlt F.above) F.ns.lt)
  refine wpAny_pyIter_tuple hls (hQ _ _ _ (Walks.tuple hh _ l hne items) ⟨⟨_, Heap.get?_push_size _ rfl, rfl, rfl⟩, hls.at fun o e => Heap.get?_push_of_some _ e⟩ ?_ (fun i h st => let ⟨o, ho, _⟩ := st.1; ⟨o, ho⟩) ?_)
  · intro c hc
    rw [Heap.size_push]
    rcases List.mem_cons.mp hc with rfl | hc
    · exact Nat.lt_succ_self _
    · rw [List.mem_singleton.mp hc]; exact Nat.lt_succ_of_lt (Nat.lt_trans (Nat.lt_of_lt_of_le hlt F.above) F.ns.lt)
  · rintro i h h' o _ ⟨⟨o', ho', r⟩, _⟩ e e' k _ _
    rw [e] at ho'
    cases ho'
    exact ⟨⟨o, e', r⟩, Heap.IsTuple.at hl fun o e => k l o e⟩
theorem gives_list (hh : A.handled = none) {l : Addr} {items : Array Value} {n : Nat} {news : List (Addr × Obj)} (N : News h₀ L s.heap news) (hm : (l, ({ cls := .type "list", data := .seq items n } : Obj)) ∈ news) :
    Gives prog w A E h₀ L (LCg.SrcAt h₀ l items) (.ref l) s items.size (fun i v => items[i]? = some v) := by
  intro Q hQ
  have hl : s.heap.IsList l items := News.isList N hm
  have hlt : l < s.heap.objs.size := by obtain ⟨_, e, _⟩ := hl; exact Heap.lt_size e
  refine wpAny_pyIter_list hl (hQ _ _ _ (Walks.list hh _ l (Nat.ne_of_lt hlt) items) ⟨⟨_, Heap.get?_push_size _ rfl, rfl, rfl⟩, hl.push _⟩ ?_ (fun i h st => let ⟨o, ho, _⟩ := st.1; ⟨o, ho⟩) ?_)
  · intro c hc
    rw [Heap.size_push]
    rcases List.mem_cons.mp hc with rfl | hc
    · exact Nat.lt_succ_self _
    · rw [List.mem_singleton.mp hc]; exact Nat.lt_succ_of_lt hlt
  · exact LCg.list_st
/-- the source of a comprehension has been reckoned -/
noncomputable def Src (prog : Program) (w : World) (A : Around) (E : Value → Shared → Prop) (h₀ : Heap) (L : Addr) (m : Str → Option Value) (go : (List (Addr × Obj) → Prop) → Nat → (Nat → Value → Prop) → List (Addr × Obj) → Shared → Prop) (xv : Value) (s₁ : Shared) : Prop :=
  ∃ S news n P, Fr h₀ L s₁.heap m ∧ News h₀ L s₁.heap news ∧ n ≤ sizeLine ∧ S news ∧ Gives prog w A E h₀ L S xv s₁ n P ∧ ∀ g, go S n P news { s₁ with heap := g }
theorem lc_any {elt iter : Expr} {x : Str} {px : Pos} {scope : Scope} {cl : List (Str × Addr)} {pos : Pos} {Q : Value → Shared → Prop} (_F : Fr h₀ L s.heap m)
    (hclos : closureFor scope env = pure cl) (hcell : ∀ y ∈ scope.names, y.2 ≠ .cell) (hkind : scope.kind = .function)
    (hnames : ∀ y ∈ scope.names, y.2 = .local → scope.names.lookup y.1 = some .local) (hx : scope.names.lookup x = some .local) (hs : ∀ x, foldedSetIterable iter env x = pure x)
    (h : wpAny (model prog w) A (eval iter env) (Src prog w A E h₀ L m fun S n P news s₂ => LCg.CompRest prog w A h₀ L m env elt x scope cl s₂ S P (LCg.FinE h₀ L m s₂ Q) n 0 [] news) E s) :
    wpAny (model prog w) A (eval (.ListComp elt [⟨.Name x px, iter, [], 0⟩] scope pos) env) Q E s := by
  rw [eval_ListComp]
  refine wpAny_comprehension_free (use := none) rfl hs hclos hkind hnames (wpAny_mono h (fun xv s₁ h₁ => ?_) fun _ _ e => e)
  obtain ⟨S, news, n, P, F, N, hsz, hS, G, R⟩ := h₁
  refine G _ fun o fp St W st hfp hIo hSt => ?_
  refine LCg.block_U W hsz hIo hSt hcell hkind hx st hfp (F.push o) (fun p hp => ⟨Heap.get?_push_of_some _ (N p hp).1, (N p hp).2⟩) (Nat.ne_of_lt F.ns.lt) (next_is_new F) (fun p hp => Nat.ne_of_lt (Heap.lt_size (N p hp).1)) hS (R _) ?_
  intro D C h tk m' ys news' F' N' o1 hn hC₀ hD₀ hCL hDL hCD offC fin
  refine ⟨m', hn, fun h'' hs'' => fin D h'' tk (F'.change hs'' hCL hC₀) (fun p hp => ?_) o1⟩
  refine ⟨hs''.extBut _ _ ?_ (N' p hp).1, (N' p hp).2⟩
  rcases List.mem_cons.mp hp with rfl | hp
  · exact Ne.symm hCD
  · exact offC p hp
theorem lc_test {ct elt iter : Expr} {x : Str} {px : Pos} {scope : Scope} {cl : List (Str × Addr)} {pos : Pos} {Q : Value → Shared → Prop} (_F : Fr h₀ L s.heap m)
    (hclos : closureFor scope env = pure cl) (hcell : ∀ y ∈ scope.names, y.2 ≠ .cell) (hkind : scope.kind = .function)
    (hnames : ∀ y ∈ scope.names, y.2 = .local → scope.names.lookup y.1 = some .local) (hx : scope.names.lookup x = some .local) (hs : ∀ x, foldedSetIterable iter env x = pure x)
    (h : wpAny (model prog w) A (eval iter env) (Src prog w A E h₀ L m fun S n P news s₂ => LCt.CompRestT prog w A h₀ L m env ct elt x scope cl s₂ S P (LCg.FinE h₀ L m s₂ Q) n 0 [] news) E s) :
    wpAny (model prog w) A (eval (.ListComp elt [⟨.Name x px, iter, [ct], 0⟩] scope pos) env) Q E s := by
  rw [eval_ListComp]
  refine wpAny_comprehension_free (use := none) rfl hs hclos hkind hnames (wpAny_mono h (fun xv s₁ h₁ => ?_) fun _ _ e => e)
  obtain ⟨S, news, n, P, F, N, hsz, hS, G, R⟩ := h₁
  refine G _ fun o fp St W st hfp hIo hSt => ?_
  refine LCt.block_T W hsz hIo hSt hcell hkind hx st hfp (F.push o) (fun p hp => ⟨Heap.get?_push_of_some _ (N p hp).1, (N p hp).2⟩) (Nat.ne_of_lt F.ns.lt) (next_is_new F) (fun p hp => Nat.ne_of_lt (Heap.lt_size (N p hp).1)) hS (R _) ?_
  intro D C h tk m' ys news' F' N' o1 hn hC₀ hD₀ hCL hDL hCD offC fin
  refine ⟨m', hn, fun h'' hs'' => fin D h'' tk (F'.change hs'' hCL hC₀) (fun p hp => ?_) o1⟩
  refine ⟨hs''.extBut _ _ ?_ (N' p hp).1, (N' p hp).2⟩
  rcases List.mem_cons.mp hp with rfl | hp
  · exact Ne.symm hCD
  · exact offC p hp
/-- values made of plain data, one by one -/
inductive AllAre {α β : Type} (mk : β → Tok → Value) (g : α → β) : List Value → List α → Prop
  | nil : AllAre mk g [] []
  | cons (c : α) (t : Tok) {vs cs} : AllAre mk g vs cs → AllAre mk g (mk (g c) t :: vs) (c :: cs)
theorem AllAre.snoc {α β : Type} {mk : β → Tok → Value} {g : α → β} {c : α} {t : Tok} : ∀ {vs : List Value} {cs : List α}, AllAre mk g vs cs → AllAre mk g (vs ++ [mk (g c) t]) (cs ++ [c])
  | _, _, .nil => .cons c t .nil
  | _, _, .cons d u r => .cons d u r.snoc
theorem AllAre.len {α β : Type} {mk : β → Tok → Value} {g : α → β} : ∀ {vs : List Value} {cs : List α}, AllAre mk g vs cs → vs.length = cs.length
  | _, _, .nil => rfl
  | _, _, .cons _ _ r => by rw [List.length_cons, List.length_cons, r.len]
theorem AllAre.ints {α : Type} {g : α → Int} : ∀ {vs : List Value} {cs : List α}, AllAre Value.int g vs cs → IntsAre vs (cs.map g)
  | _, _, .nil => .nil
  | _, _, .cons c t r => .cons (g c) t r.ints
theorem AllAre.strs {α : Type} {g : α → Str} : ∀ {vs : List Value} {cs : List α}, AllAre Value.str g vs cs → CarriedAll vs (cs.map fun c => PyData.str (g c))
  | _, _, .nil => .nil
  | _, _, .cons c t r => .cons (.str (g c) t) r.strs
noncomputable abbrev Ne3 (I C D : Addr) : Prop := (@Ne Nat I C) ∧ (@Ne Nat I D) ∧ (@Ne Nat C D)
section
variable {elt ct : Expr} {x : Str} {scope : Scope} {cl : List (Str × Addr)} {S : List (Addr × Obj) → Prop} {P : Nat → Value → Prop} {Fin : List Value → List (Addr × Obj) → Prop} {n : Nat} {news : List (Addr × Obj)}
/-- a comprehension whose elements are walked once, the ledger unturned -/
theorem rest_by {α β : Type} {cs : List α} {item : α → Value → Prop} (mk : β → Tok → Value) (g : α → β) (hn : cs.length = n) (hP : ∀ i v, i < n → P i v → ∃ c, cs[i]? = some c ∧ item c v) (hS : S news)
    (turn : ∀ c v I oI C oC D m₂ ys h tk (E' : Value → Shared → Prop), c ∈ cs → item c v → LCg.NsObj oC m₂ → m₂ x = some v → Fr h₀ L h m → News h₀ L h ((I, oI) :: (C, oC) :: (D, LCg.lst ys) :: news) → LCg.Off3 I C D news → Ne3 I C D →
      wpAny (model prog w) A (eval elt (compEnvC scope cl C env)) (fun y s' => ∃ h' tk' t, s' = { s with heap := h', toks := tk' } ∧ Fr h₀ L h' m ∧ News h₀ L h' ((I, oI) :: (C, oC) :: (D, LCg.lst ys) :: news) ∧ y = mk (g c) t) E' { s with heap := h, toks := tk })
    (fin : ∀ ys, AllAre mk g ys cs → Fin ys news) : LCg.CompRest prog w A h₀ L m env elt x scope cl s S P Fin n 0 [] news := by
  have key : ∀ (j i : Nat) (ys : List Value), i + j = n → AllAre mk g ys (cs.take i) → LCg.CompRest prog w A h₀ L m env elt x scope cl s S P Fin j i ys news := by
    intro j
    induction j with
    | zero =>
      intro i ys hi hy
      rw [List.take_of_length_le (by omega)] at hy
      exact LCg.CompRest.zero (fin ys hy)
    | succ j ih =>
      intro i ys hi hy
      refine LCg.CompRest.succ ?_
      intro v I oI C oC D m₂ h tk E' hv hC hx F N off ne
      obtain ⟨c, hc, hi'⟩ := hP i v (by omega) hv
      refine wpAny_mono (turn c v I oI C oC D m₂ ys h tk E' (List.mem_of_getElem? hc) hi' hC hx F N off ne) (fun y s₂ hq => ?_) fun _ _ e => e
      obtain ⟨h', tk', t, e, F', N', hy'⟩ := hq
      refine ⟨h', tk', news, e, F', N', off, hS, ?_⟩
      rw [hy']
      refine ih (i + 1) _ (by omega) ?_
      rw [List.take_add_one, hc]
      exact hy.snoc
  exact key n 0 [] (by omega) (by rw [List.take_zero]; exact .nil)
/-- the same with a test -/
theorem rest_test {α β : Type} {cs : List α} {item : α → Value → Prop} (mk : β → Tok → Value) (g : α → β) (p : α → Bool) (hn : cs.length = n) (hP : ∀ i v, i < n → P i v → ∃ c, cs[i]? = some c ∧ item c v) (hS : S news)
    (test : ∀ c v I oI C oC D m₂ ys h tk (E' : Value → Shared → Prop), c ∈ cs → item c v → LCg.NsObj oC m₂ → m₂ x = some v → Fr h₀ L h m → News h₀ L h ((I, oI) :: (C, oC) :: (D, LCg.lst ys) :: news) → LCg.Off3 I C D news → Ne3 I C D →
      wpAny (model prog w) A (isTrue ct (compEnvC scope cl C env) (eval ct (compEnvC scope cl C env))) (fun ok s' => ok = p c ∧ ∃ h' tk', s' = { s with heap := h', toks := tk' } ∧ Fr h₀ L h' m ∧ News h₀ L h' ((I, oI) :: (C, oC) :: (D, LCg.lst ys) :: news)) E' { s with heap := h, toks := tk })
    (turn : ∀ c v I oI C oC D m₂ ys h tk (E' : Value → Shared → Prop), c ∈ cs → p c = true → item c v → LCg.NsObj oC m₂ → m₂ x = some v → Fr h₀ L h m → News h₀ L h ((I, oI) :: (C, oC) :: (D, LCg.lst ys) :: news) → LCg.Off3 I C D news → Ne3 I C D →
      wpAny (model prog w) A (eval elt (compEnvC scope cl C env)) (fun y s' => ∃ h' tk' t, s' = { s with heap := h', toks := tk' } ∧ Fr h₀ L h' m ∧ News h₀ L h' ((I, oI) :: (C, oC) :: (D, LCg.lst ys) :: news) ∧ y = mk (g c) t) E' { s with heap := h, toks := tk })
    (fin : ∀ ys, AllAre mk g ys (cs.filter p) → Fin ys news) : LCt.CompRestT prog w A h₀ L m env ct elt x scope cl s S P Fin n 0 [] news := by
  have key : ∀ (j i : Nat) (ys : List Value), i + j = n → AllAre mk g ys ((cs.take i).filter p) → LCt.CompRestT prog w A h₀ L m env ct elt x scope cl s S P Fin j i ys news := by
    intro j
    induction j with
    | zero =>
      intro i ys hi hy
      rw [List.take_of_length_le (by omega)] at hy
      exact LCt.CompRestT.zero (fin ys hy)
    | succ j ih =>
      intro i ys hi hy
      refine LCt.CompRestT.succ ?_
      intro v I oI C oC D m₂ h tk E' hv hC hx F N off ne
      obtain ⟨c, hc, hi'⟩ := hP i v (by omega) hv
      have hm := List.mem_of_getElem? hc
      refine wpAny_mono (test c v I oI C oC D m₂ ys h tk E' hm hi' hC hx F N off ne) (fun ok s₂ hq => ?_) fun _ _ e => e
      obtain ⟨hok, h', tk', rfl, F', N'⟩ := hq
      have e1 : (cs.take (i + 1)).filter p = (cs.take i).filter p ++ (if p c = true then [c] else []) := by
        rw [List.take_add_one, hc, List.filter_append]
        cases hp : p c <;> simp [hp]
      cases hp : p c with
      | true =>
        rw [hok, hp, if_pos rfl]
        refine wpAny_mono (turn c v I oI C oC D m₂ ys h' tk' E' hm hp hi' hC hx F' N' off ne) (fun y s₂ hq => ?_) fun _ _ e => e
        obtain ⟨h'', tk'', t, e, F'', N'', hy'⟩ := hq
        refine ⟨h'', tk'', news, e, F'', N'', off, hS, ?_⟩
        rw [hy']
        refine ih (i + 1) _ (by omega) ?_
        rw [e1, if_pos hp]
        exact hy.snoc
      | false =>
        rw [hok, hp, if_neg Bool.false_ne_true]
        refine ⟨h', tk', news, rfl, F', N', off, hS, ?_⟩
        refine ih (i + 1) _ (by omega) ?_
        rw [e1, if_neg (by rw [hp]; exact Bool.false_ne_true), List.append_nil]
        exact hy
  exact key n 0 [] (by omega) (by rw [List.take_zero]; exact .nil)
end
end
/-- a turn's end: nothing is stored, the frame and the ledger stand -/
noncomputable def SameEnd (h₀ : Heap) (L : Addr) (m : Str → Option Value) (news : List (Addr × Obj)) (s₁ : Shared) (f : Flow) (s₂ : Shared) : Prop :=
  f = .next ∧ ∃ h' tk, s₂ = { s₁ with heap := h', toks := tk } ∧ Fr h₀ L h' m ∧ News h₀ L h' news
section
variable {prog : Program} {w : World} {A : Around} {E : Value → Shared → Prop} {s : Shared} {env : Env} {h₀ : Heap} {x : Str} {body : List Stmt} {Q : Flow → Shared → Prop}
theorem range_same {r : Addr} {a₀ b₀ : Int} {t₀ u₀ v₀ : Tok} {n : Nat} {m₀ : Str → Option Value} {news : List (Addr × Obj)}
    (hh : A.handled = none) (hr : IsRange s.heap r a₀ b₀ 1 t₀ u₀ v₀) (hsmall : Builtin.Range.small a₀ b₀ 1 = true) (hn : Builtin.Range.rangeSize a₀ b₀ 1 = (n : Int)) (F : Fr h₀ env.locals s.heap m₀) (N : News h₀ env.locals s.heap news)
    (turn : ∀ k t h tk own, a₀ ≤ k → k < a₀ + (n : Int) → Fr h₀ env.locals h (fun y => if y = x then some (.int k t) else m₀ y) → News h₀ env.locals h (news ++ own) →
      wpAny (model prog w) A (execs body env) (SameEnd h₀ env.locals (fun y => if y = x then some (.int k t) else m₀ y) (news ++ own) { s with heap := h, toks := tk }) E { s with heap := h, toks := tk })
    (done : ∀ (u : Str → Option Value) h tk, Fr h₀ env.locals h (fun z => if z = x then u z else m₀ z) → News h₀ env.locals h news → Q .next { s with heap := h, toks := tk }) :
    wpAny (model prog w) A (pyIter (.ref r)) (fun it s₂ => LoopAtV prog w A h₀ env x body Q E it s₂) E s := by
  refine iter_rangeS (σ := Unit) (fun _ m nx => nx = news ∧ ∀ z, z ≠ x → m z = m₀ z) (fun _ _ => ()) () hh hr hsmall hn F N ⟨rfl, fun _ _ => rfl⟩ ?_ ?_
  · rintro k t _ m₁ nx h tk own hk hoff ⟨rfl, hm⟩ F₁ N₁
    rw [map_none hm] at F₁
    have hb := mem_rangeKs hk
    refine wpAny_mono (turn k t h tk own hb.1 hb.2 F₁ N₁) (fun f s₂ hq => ?_) fun _ _ e => e
    obtain ⟨rfl, h', tk', e, F', N'⟩ := hq
    refine ⟨h', tk', _, _, nx, e, F', N', fun p hp => List.mem_append_left _ hp, fun p hp => List.mem_append_right _ hp, rfl, rfl, fun z hz => if_neg hz⟩
  · rintro m₁ nx h tk ⟨rfl, hm⟩ F₁ N₁
    refine done m₁ h tk ?_ N₁
    rw [done_none hm]
    exact F₁
end
/-- an element's end: its value, the ledger as it was -/
noncomputable def TurnOk (h₀ : Heap) (L : Addr) (m : Str → Option Value) (s₁ : Shared) (all : List (Addr × Obj)) (mk : Tok → Value) (y : Value) (s' : Shared) : Prop :=
  ∃ h' tk' t, s' = { s₁ with heap := h', toks := tk' } ∧ Fr h₀ L h' m ∧ News h₀ L h' all ∧ y = mk t
noncomputable def TestOk (h₀ : Heap) (L : Addr) (m : Str → Option Value) (s₁ : Shared) (all : List (Addr × Obj)) (p : Bool) (ok : Bool) (s' : Shared) : Prop :=
  ok = p ∧ ∃ h' tk', s' = { s₁ with heap := h', toks := tk' } ∧ Fr h₀ L h' m ∧ News h₀ L h' all
section
variable {prog : Program} {w : World} {A : Around} {E : Value → Shared → Prop} {s : Shared} {h₀ : Heap} {L : Addr} {m : Str → Option Value} {env : Env} {elt ct : Expr} {y : Str} {scope : Scope} {cl : List (Str × Addr)} {news : List (Addr × Obj)} {Q : Value → Shared → Prop}
theorem src_str {β : Type} {x : Str} {tx : Tok} (mk : β → Tok → Value) (g : Nat → β) (hh : A.handled = none) (F : Fr h₀ L s.heap m) (N : News h₀ L s.heap news) (hsz : x.length ≤ sizeLine)
    (turn : ∀ c t I oI C oC D m₂ ys h tk (E' : Value → Shared → Prop), c ∈ x.cps.toList → LCg.NsObj oC m₂ → m₂ y = some (.str ⟨#[c]⟩ t) → Fr h₀ L h m → News h₀ L h ((I, oI) :: (C, oC) :: (D, LCg.lst ys) :: news) → LCg.Off3 I C D news → Ne3 I C D →
      wpAny (model prog w) A (eval elt (compEnvC scope cl C env)) (TurnOk h₀ L m { s with heap := h, toks := tk } ((I, oI) :: (C, oC) :: (D, LCg.lst ys) :: news) (mk (g c))) E' { s with heap := h, toks := tk })
    (fin : ∀ f ys, AllAre mk g ys x.cps.toList → LCg.FinE h₀ L m { s with heap := f } Q ys news) :
    Src prog w A E h₀ L m (fun S n P news s₂ => LCg.CompRest prog w A h₀ L m env elt y scope cl s₂ S P (LCg.FinE h₀ L m s₂ Q) n 0 [] news) (.str x tx) s :=
  ⟨fun _ => True, news, _, _, F, N, hsz, trivial, gives_str hh x tx, fun f => rest_by (cs := x.cps.toList) (item := fun c v => ∃ t, v = .str ⟨#[c]⟩ t) mk g (by rw [Array.length_toList]; rfl) (fun i v _ ⟨c, u, hc, hv⟩ => ⟨c, by simpa using hc, u, hv⟩) trivial
    (fun c v I oI C oC D m₂ ys h tk E' hm ⟨t, hv⟩ hC hx F N off ne => turn c t I oI C oC D m₂ ys h tk E' hm hC (hv ▸ hx) F N off ne) (fin f)⟩
theorem src_bytes {β : Type} {b : Array UInt8} {tb : Tok} (mk : β → Tok → Value) (g : UInt8 → β) (hh : A.handled = none) (F : Fr h₀ L s.heap m) (N : News h₀ L s.heap news) (hsz : b.size ≤ sizeLine)
    (turn : ∀ (c : UInt8) t I oI C oC D m₂ ys h tk (E' : Value → Shared → Prop), c ∈ b.toList → LCg.NsObj oC m₂ → m₂ y = some (.int (c.toNat : Int) t) → Fr h₀ L h m → News h₀ L h ((I, oI) :: (C, oC) :: (D, LCg.lst ys) :: news) → LCg.Off3 I C D news → Ne3 I C D →
      wpAny (model prog w) A (eval elt (compEnvC scope cl C env)) (TurnOk h₀ L m { s with heap := h, toks := tk } ((I, oI) :: (C, oC) :: (D, LCg.lst ys) :: news) (mk (g c))) E' { s with heap := h, toks := tk })
    (fin : ∀ f ys, AllAre mk g ys b.toList → LCg.FinE h₀ L m { s with heap := f } Q ys news) :
    Src prog w A E h₀ L m (fun S n P news s₂ => LCg.CompRest prog w A h₀ L m env elt y scope cl s₂ S P (LCg.FinE h₀ L m s₂ Q) n 0 [] news) (.bytes b tb) s :=
  ⟨fun _ => True, news, _, _, F, N, hsz, trivial, gives_bytes hh b tb, fun f => rest_by (cs := b.toList) (item := fun c v => ∃ t, v = .int (c.toNat : Int) t) mk g (by simp) (fun i v _ ⟨c, u, hc, hv⟩ => ⟨c, by simpa using hc, u, hv⟩) trivial
    (fun c v I oI C oC D m₂ ys h tk E' hm ⟨t, hv⟩ hC hx F N off ne => turn c t I oI C oC D m₂ ys h tk E' hm hC (hv ▸ hx) F N off ne) (fin f)⟩
theorem src_bytesT {β : Type} {b : Array UInt8} {tb : Tok} (mk : β → Tok → Value) (g : UInt8 → β) (p : UInt8 → Bool) (hh : A.handled = none) (F : Fr h₀ L s.heap m) (N : News h₀ L s.heap news) (hsz : b.size ≤ sizeLine)
    (test : ∀ (c : UInt8) t I oI C oC D m₂ ys h tk (E' : Value → Shared → Prop), c ∈ b.toList → LCg.NsObj oC m₂ → m₂ y = some (.int (c.toNat : Int) t) → Fr h₀ L h m → News h₀ L h ((I, oI) :: (C, oC) :: (D, LCg.lst ys) :: news) → LCg.Off3 I C D news → Ne3 I C D →
      wpAny (model prog w) A (isTrue ct (compEnvC scope cl C env) (eval ct (compEnvC scope cl C env))) (TestOk h₀ L m { s with heap := h, toks := tk } ((I, oI) :: (C, oC) :: (D, LCg.lst ys) :: news) (p c)) E' { s with heap := h, toks := tk })
    (turn : ∀ (c : UInt8) t I oI C oC D m₂ ys h tk (E' : Value → Shared → Prop), c ∈ b.toList → p c = true → LCg.NsObj oC m₂ → m₂ y = some (.int (c.toNat : Int) t) → Fr h₀ L h m → News h₀ L h ((I, oI) :: (C, oC) :: (D, LCg.lst ys) :: news) → LCg.Off3 I C D news → Ne3 I C D →
      wpAny (model prog w) A (eval elt (compEnvC scope cl C env)) (TurnOk h₀ L m { s with heap := h, toks := tk } ((I, oI) :: (C, oC) :: (D, LCg.lst ys) :: news) (mk (g c))) E' { s with heap := h, toks := tk })
    (fin : ∀ f ys, AllAre mk g ys (b.toList.filter p) → LCg.FinE h₀ L m { s with heap := f } Q ys news) :
    Src prog w A E h₀ L m (fun S n P news s₂ => LCt.CompRestT prog w A h₀ L m env ct elt y scope cl s₂ S P (LCg.FinE h₀ L m s₂ Q) n 0 [] news) (.bytes b tb) s :=
  ⟨fun _ => True, news, _, _, F, N, hsz, trivial, gives_bytes hh b tb, fun f => rest_test (cs := b.toList) (item := fun c v => ∃ t, v = .int (c.toNat : Int) t) mk g p (by simp) (fun i v _ ⟨c, u, hc, hv⟩ => ⟨c, by simpa using hc, u, hv⟩) trivial
    (fun c v I oI C oC D m₂ ys h tk E' hm ⟨t, hv⟩ hC hx F N off ne => test c t I oI C oC D m₂ ys h tk E' hm hC (hv ▸ hx) F N off ne)
    (fun c v I oI C oC D m₂ ys h tk E' hm hp ⟨t, hv⟩ hC hx F N off ne => turn c t I oI C oC D m₂ ys h tk E' hm hp hC (hv ▸ hx) F N off ne) (fin f)⟩
end
theorem AllAre.strsAre {α : Type} {g : α → Str} : ∀ {vs : List Value} {cs : List α}, AllAre Value.str g vs cs → StrsAre vs (cs.map g)
  | _, _, .nil => .nil
  | _, _, .cons c t r => .cons (g c) t r.strsAre
section
variable {prog : Program} {w : World} {A : Around} {E : Value → Shared → Prop} {s : Shared} {h₀ : Heap} {L : Addr} {m : Str → Option Value} {env : Env} {elt ct : Expr} {y : Str} {scope : Scope} {cl : List (Str × Addr)} {news : List (Addr × Obj)} {Q : Value → Shared → Prop}
theorem src_tuple {l : Addr} {items : List Value} (hh : A.handled = none) (F : Fr h₀ L s.heap m) (N : News h₀ L s.heap news) (hl : IsTup h₀ l items.toArray) (hsz : items.length ≤ sizeLine)
    (go : ∀ f, LCg.CompRest prog w A h₀ L m env elt y scope cl { s with heap := f } (fun _ => True) (fun i v => items.toArray[i]? = some v) (LCg.FinE h₀ L m { s with heap := f } Q) items.length 0 [] news) :
    Src prog w A E h₀ L m (fun S n P news s₂ => LCg.CompRest prog w A h₀ L m env elt y scope cl s₂ S P (LCg.FinE h₀ L m s₂ Q) n 0 [] news) (.ref l) s :=
  ⟨fun _ => True, news, items.toArray.size, _, F, N, hsz, trivial, gives_tuple hh hl F, fun f => go f⟩
theorem src_list {l : Addr} {items : List Value} {n : Nat} (hh : A.handled = none) (F : Fr h₀ L s.heap m) (N : News h₀ L s.heap news) (hm : (l, ({ cls := .type "list", data := .seq items.toArray n } : Obj)) ∈ news) (hsz : items.length ≤ sizeLine)
    (go : ∀ f, LCg.CompRest prog w A h₀ L m env elt y scope cl { s with heap := f } (LCg.SrcAt h₀ l items.toArray) (fun i v => items.toArray[i]? = some v) (LCg.FinE h₀ L m { s with heap := f } Q) items.length 0 [] news) :
    Src prog w A E h₀ L m (fun S n P news s₂ => LCg.CompRest prog w A h₀ L m env elt y scope cl s₂ S P (LCg.FinE h₀ L m s₂ Q) n 0 [] news) (.ref l) s :=
  ⟨LCg.SrcAt h₀ l items.toArray, news, items.toArray.size, _, F, N, hsz, .inr ⟨_, hm, rfl, _, rfl⟩, gives_list hh N hm, fun f => go f⟩
end
end Mine
end
section
open PySem PySem.W PySem.Spec PySem.Calls PyProof.Rows
namespace Mine
section
variable {prog : Program} {w : World} {A : Around} {E : Value → Shared → Prop} {s : Shared}
theorem reg9 : True := by
  w_top off
  trivial
theorem contains_tree {b : Array UInt8} {t u : Tok} {n : Int} {P : Fin → Shared → Prop} (h0 : 0 ≤ n) (h1 : n < 256) (h : P (.done (.ret (.bool (b.contains n.toNat.toUInt8)))) s) :
    wpAny (model prog w) A (Builtin.«bytes.__contains__» ⟨[.bytes b t, .int n u], []⟩) P E s := by
  show wpAny _ _ (Builtin.Bytes.containsIn "bytes.__contains__" (.bytes b t) (.int n u) >>= fun r => _) _ _ s
  refine wpAny_bind ?_
  unfold Builtin.Bytes.containsIn
  refine wpAny_bind (wpAny_attempt (wpAny_of_eq (a := n) rfl ?_))
  refine wpAny_bind (wpAny_of_eq KBy.buffer_eq ?_)
  show wpAny _ _ (if (decide (n < 0) || decide (n ≥ 256)) = true then _ else _) _ _ s
  rw [if_neg (by simp; omega)]
  exact wpAny_pure (wpAny_pure h)
theorem contains_bytes {b : Array UInt8} {t u : Tok} {n : Int} {Q : Bool → Shared → Prop} (h0 : 0 ≤ n) (h1 : n < 256) (h : Q (b.contains n.toNat.toUInt8) s) : wpAny (model prog w) A (contains (.bytes b t) (.int n u)) Q E s := by
  unfold contains
  refine wpAny_holding ?_
  refine wpAny_bind (wpAny_specialOf (typeIs_bytes _ _ _) FB.slot_bytes_contains.lookup ?_)
  rw [if_neg (by decide)]
  exact wpAny_bind (wpAny_callSpecialUnlessNone?_slot (name := Str.ofString "__contains__") (typeIs_bytes _ _ _) FB.slot_bytes_contains
    (wpAny_call_entry FB.slot_bytes_contains (typeIs_bytes _ _ _) FB.entry_bytes_contains (contains_tree h0 h1 ⟨_, rfl, wpAny_truthy_bool h⟩) (FB.args_bytes_contains_2 _ _)))
theorem in_bytes {b : Array UInt8} {t u : Tok} {n : Int} {Q : Value → Shared → Prop} (h0 : 0 ≤ n) (h1 : n < 256) (h : Q (.bool (b.contains n.toNat.toUInt8)) s) : wpAny (model prog w) A (compareOp .In (.int n u) (.bytes b t)) Q E s := by
  show wpAny _ _ (do return .bool (← contains (.bytes b t) (.int n u))) Q E s
  exact wpAny_bind (contains_bytes h0 h1 (wpAny_pure h))
theorem notin_bytes {b : Array UInt8} {t u : Tok} {n : Int} {Q : Value → Shared → Prop} (h0 : 0 ≤ n) (h1 : n < 256) (h : Q (.bool (!(b.contains n.toNat.toUInt8))) s) : wpAny (model prog w) A (compareOp .NotIn (.int n u) (.bytes b t)) Q E s := by
  show wpAny _ _ (do return .bool (!(← contains (.bytes b t) (.int n u)))) Q E s
  exact wpAny_bind (contains_bytes h0 h1 (wpAny_pure h))
end
theorem slot_bytes_join : Slot "bytes" "join" "bytes.join" :=
  .of (owner := "bytes") (n := "join") (by rw [typeLookup_type, builtinLookup_eq_fast]; kernel_rfl) (by decide +kernel) (by decide +kernel) (by decide +kernel)
    (by first | exact .inl (by decide +kernel) | exact .inr (by decide +kernel)) (by rw [isSubtype_type]; kernel_rfl)
theorem type_bytes_join : typeOf (.builtin "bytes.join") = pure (.type "method_descriptor") := by show builtinType _ = _; rw [builtinType_eq_fast]; kernel_rfl
theorem entry_bytes_join : entryFor table "bytes.join" = some Builtin.«bytes.join» := entryFor_of_tree (by kernel_rfl)
theorem args_bytes_join (a b : Value) : argsOk "bytes.join" ⟨[a, b], []⟩ := by
  unfold argsOk; rw [signature?_of (id := "bytes.join") (n := ['n', 'i', 'o', 'j']) (o := ['s', 'e', 't', 'y', 'b']) (by kernel_rfl) FB.owner_bytes]; kernel_rfl
section
variable {prog : Program} {w : World} {A : Around} {E : Value → Shared → Prop} {s : Shared}
theorem method_join {b : Array UInt8} {t : Tok} {pl : Sem Bool} {Q : Value × List Value → Shared → Prop} (h : Q (.builtin "bytes.join", [.bytes b t]) s) : wpAny (model prog w) A (getMethod (.bytes b t) "join" pl) Q E s :=
  getMethod_builtin (typeIs_bytes _ _ _) FB.plainAttrs_bytes slot_bytes_join type_bytes_join (fun _ e => nomatch e) h
end
end Mine
end
section
open PySem PySem.W PySem.Spec PySem.Calls PyProof.Rows
namespace Mine
theorem reg10 : True := by
  w_top off
  trivial
noncomputable def joinB (sep : Array UInt8) : List (Array UInt8) → Array UInt8
  | [] => #[]
  | [b] => b
  | b :: r => b ++ sep ++ joinB sep r
noncomputable abbrev BytesAre (vs : List Value) (bs : List (Array UInt8)) : Prop := AllAre Value.bytes (fun b : Array UInt8 => b) vs bs
section
variable {prog : Program} {w : World} {A : Around} {E : Value → Shared → Prop} {s : Shared}
theorem take_bytes {id : String} {b : Array UInt8} {t : Tok} {Q : Option (Array UInt8 × Option Value) → Shared → Prop} (h : Q (some (b, none)) s) : wpAny (model prog w) A (Builtin.Bytes.takeBufferQuiet? id (.bytes b t) 0) Q E s := by
  unfold Builtin.Bytes.takeBufferQuiet? Builtin.Bytes.takeBuffer?
  refine wpAny_bind (wpAny_attempt ?_)
  rw [KBy.special_eq KBy.look_buffer]
  refine wpAny_bind (wpAny_pure ?_)
  dsimp only
  rw [KBy.own_buffer]
  refine wpAny_bind (wpAny_pure ?_)
  rw [if_neg (by decide)]
  refine wpAny_bind (wpAny_pure ?_)
  refine wpAny_bind ?_
  have e : (0 == Builtin.Bytes.fullReadOnly) = false := by decide
  rw [e]
  refine wpAny_of_eq KBy.buffer_eq ?_
  exact wpAny_pure (wpAny_pure h)
theorem letGo_all {vs keep : List Value} {Q : Unit → Shared → Prop} (h : Q () s) : wpAny (model prog w) A (letGo vs keep) Q E s := by
  induction vs with
  | nil => exact wpAny_pure h
  | cons v r ih => exact wpAny_bind (wpAny_holding (wpAny_point ih))
theorem joinLetGo_ok {keep : List Value} {Q : Unit → Shared → Prop} (h : Q () s) : ∀ l : List Value, wpAny (model prog w) A (Builtin.Bytes.joinLetGo (l.map fun v => (v, none)) keep) Q E s
  | [] => wpAny_pure h
  | v :: r => by
    show wpAny _ _ (letGo _ _ >>= fun _ => Builtin.Bytes.joinLetGo (r.map fun v => (v, none)) keep) _ _ s
    exact wpAny_bind (letGo_all (joinLetGo_ok h r))
theorem BytesAre.at {vs : List Value} {bs : List (Array UInt8)} (h : BytesAre vs bs) : ∀ i, i < vs.length → ∃ b t, bs[i]? = some b ∧ vs[i]? = some (.bytes b t) := by
  induction h with
  | nil => intro i hi; cases hi
  | cons c t _ ih =>
    intro i hi
    cases i with
    | zero => exact ⟨c, t, rfl, rfl⟩
    | succ i =>
      obtain ⟨b, t', e1, e2⟩ := ih i (by simpa using hi)
      exact ⟨b, t', by simpa using e1, by simpa using e2⟩
theorem BytesAre.off {vs : List Value} {bs : List (Array UInt8)} (h : BytesAre vs bs) : ∀ v ∈ vs, v.onHeap = false := by
  induction h with
  | nil => intro v hv; cases hv
  | cons c t _ ih =>
    intro v hv
    rcases List.mem_cons.mp hv with rfl | hv
    · rfl
    · exact ih v hv
noncomputable def tailJ (sep : Array UInt8) : List (Array UInt8) → Array UInt8
  | [] => #[]
  | b :: r => sep ++ b ++ tailJ sep r
theorem joinB_cons (sep b : Array UInt8) : ∀ r : List (Array UInt8), joinB sep (b :: r) = b ++ tailJ sep r
  | [] => by simp [joinB, tailJ]
  | c :: r => by
    show b ++ sep ++ joinB sep (c :: r) = _
    rw [joinB_cons sep c r]
    simp [tailJ, Array.append_assoc]
theorem joined_tail (sep : Array UInt8) : ∀ (l : List (Array UInt8)) (k : Nat) (acc : Array UInt8), 0 < k →
    (l.zipIdx k).foldl (fun out (p : Array UInt8 × Nat) => (if p.2 > 0 then out ++ sep else out) ++ p.1) acc = acc ++ tailJ sep l
  | [], _, _, _ => by simp [tailJ]
  | b :: r, k, acc, hk => by
    rw [List.zipIdx_cons, List.foldl_cons, joined_tail sep r (k + 1) _ (Nat.succ_pos _)]
    dsimp only
    rw [if_pos hk]
    simp [tailJ, Array.append_assoc]
theorem joined_eq (sep : Array UInt8) (bs : List (Array UInt8)) : Builtin.Bytes.joined sep bs = joinB sep bs := by
  unfold Builtin.Bytes.joined
  cases bs with
  | nil => rfl
  | cons b r =>
    rw [joinB_cons, List.zipIdx_cons, List.foldl_cons]
    have := joined_tail sep r 1 b (by decide)
    refine Eq.trans ?_ this
    dsimp only
    rw [if_neg (by decide), Array.empty_append]
theorem join_loop {f : Nat → Array (Array UInt8) × List (Value × Option Value) → Sem (ForInStep (Array (Array UInt8) × List (Value × Option Value)))} {vs : List Value} {bs : List (Array UInt8)} {Q : Array (Array UInt8) × List (Value × Option Value) → Shared → Prop} (hv : BytesAre vs bs)
    (hf : ∀ i b t' st (Q' : ForInStep (Array (Array UInt8) × List (Value × Option Value)) → Shared → Prop), vs[i]? = some (.bytes b t') → (st.2.any fun z => z.1.onHeap) = false → Q' (.yield (st.1.push b, st.2 ++ [(.bytes b t', none)])) s → wpAny (model prog w) A (f i st) Q' E s)
    (h : Q (bs.toArray, vs.map fun v => (v, none)) s) : wpAny (model prog w) A (forIn [:vs.toArray.size] (#[], []) f) Q E s := by
  have hlen := hv.len
  rw [Std.Legacy.Range.forIn_eq_forIn_range']
  refine wpAny_forIn_list _ (fun rest st s' => s' = s ∧ ∃ i, rest = List.range' i (vs.length - i) ∧ i ≤ vs.length ∧ st.1 = (bs.take i).toArray ∧ st.2 = (vs.take i).map fun v => (v, none)) _ ?_ ?_ _ _ ⟨rfl, 0, ?_, Nat.zero_le _, rfl, rfl⟩
  · rintro x rest ⟨st1, st2⟩ s' ⟨rfl, i, hr, hi, h1, h2⟩
    have hlt : i < vs.length := by
      rcases Nat.lt_or_ge i vs.length with h | h
      · exact h
      · rw [show vs.length - i = 0 by omega] at hr; cases hr
    obtain ⟨j, hj⟩ : ∃ j, vs.length - i = j + 1 := ⟨vs.length - i - 1, by omega⟩
    rw [hj, List.range'_succ] at hr
    cases hr
    obtain ⟨b, t', hb, hvi⟩ := hv.at x hlt
    dsimp only at h1 h2
    subst h1
    subst h2
    refine hf x b t' _ _ hvi ?_ ?_
    · rw [List.any_eq_false]
      intro z hz
      obtain ⟨v, hv', rfl⟩ := List.mem_map.mp hz
      rw [hv.off v (List.mem_of_mem_take hv')]
      exact Bool.false_ne_true
    · refine ⟨rfl, x + 1, by rw [show vs.length - (x + 1) = j by omega], hlt, ?_, ?_⟩
      · dsimp only
        rw [List.take_add_one, hb]
        simp
      · dsimp only
        rw [List.take_add_one, hvi]
        simp
  · rintro ⟨st1, st2⟩ s' ⟨rfl, i, hr, hi, h1, h2⟩
    have hin : vs.length ≤ i := by
      rcases Nat.lt_or_ge i vs.length with h | h
      · obtain ⟨j, hj⟩ : ∃ j, vs.length - i = j + 1 := ⟨vs.length - i - 1, by omega⟩
        rw [hj, List.range'_succ] at hr
        cases hr
      · exact h
    dsimp only at h1 h2
    rw [List.take_of_length_le (by omega)] at h1
    rw [List.take_of_length_le hin] at h2
    rw [h1, h2]
    exact h
  · simp
theorem sum_fold (bs : List (Array UInt8)) (k : Nat) : bs.toArray.foldl (· + ·.size) k = k + (bs.map (·.size)).sum := by
  rw [List.foldl_toArray]
  induction bs generalizing k with
  | nil => rfl
  | cons b r ih => rw [List.foldl_cons, ih, List.map_cons, List.sum_cons, Nat.add_assoc]
theorem join_size_le (sep : Array UInt8) : ∀ bs : List (Array UInt8), (joinB sep bs).size ≤ (bs.map (·.size)).sum + bs.length * sep.size
  | [] => Nat.zero_le _
  | [b] => by simp [joinB]
  | b :: c :: r => by
    have := join_size_le sep (c :: r)
    simp only [joinB, Array.size_append, List.map_cons, List.sum_cons, List.length_cons, Nat.add_mul, Nat.one_mul] at this ⊢
    omega
theorem join_tree {sep : Array UInt8} {t : Tok} {D : Addr} {vs : List Value} {bs : List (Array UInt8)} {P : Fin → Shared → Prop} (hl : s.heap.IsList D vs.toArray) (hv : BytesAre vs bs) (hsz : (bs.map (·.size)).sum + bs.length * sep.size ≤ 1000000)
    (h : ∀ t' k, P (.done (.ret (.bytes (joinB sep bs) t'))) { s with toks := k }) : wpAny (model prog w) A (Builtin.«bytes.join» ⟨[.bytes sep t, .ref D], []⟩) P E s := by
  obtain ⟨o, ho, hc, n, hd⟩ := hl
  have hlen := hv.len
  have hfit : Builtin.Bytes.tooLong (bs.toArray.foldl (· + ·.size) (sep.size * (bs.toArray.size - 1))) = false := by
    rw [sum_fold]
    refine KBy.tooLong_not ?_
    have : sep.size * (bs.toArray.size - 1) ≤ bs.length * sep.size := by
      rw [Nat.mul_comm]
      exact Nat.mul_le_mul_right _ (by simp)
    omega
  have hres : (joinB sep bs).size ≤ sizeLine := by
    have := join_size_le sep bs
    rw [sizeLine_eq]
    omega
  unfold Builtin.«bytes.join» Builtin.Bytes.joinM
  refine wpAny_bind (wpAny_of_eq (a := (Value.bytes sep t, Value.ref D)) rfl ?_)
  dsimp only
  rw [if_pos (by decide : (Builtin.Bytes.Kind.bytes == Builtin.Bytes.Kind.bytes) = true)]
  refine wpAny_bind ?_
  unfold Builtin.Bytes.joinItems
  refine wpAny_bind (wpAny_typeOf (T := "list") ⟨o, ho, hc⟩ ?_)
  rw [if_pos (by decide)]
  refine wpAny_pure (wpAny_bind (wpAny_seqItems ho hd ?_))
  dsimp only
  rw [if_pos (by decide : (Builtin.Bytes.Kind.bytes == Builtin.Bytes.Kind.bytes) = true)]
  rcases vs with _ | ⟨x, _ | ⟨y, r⟩⟩
  rotate_left
  · cases hv with
    | cons c t' r =>
      cases r
      with_unfolding_all refine wpAny_bind (wpAny_typeOf (typeIs_bytes _ _ _) ?_)
      rw [if_pos (by decide)]
      exact wpAny_bind (wpAny_rule (wpAny_pure (h t' s.toks)))
  all_goals
    with_unfolding_all refine wpAny_bind (m := forIn _ _ _) ?_
    refine join_loop hv (fun i b t' st Q hvi hoff hq => ?_) ?_
    · obtain ⟨hlt, hget⟩ := List.getElem?_eq_some_iff.mp hvi
      refine wpAny_bind (wpAny_seqItems ho hd ?_)
      dsimp only
      rw [hoff, if_neg (by decide)]
      have hg : ∀ l : List Value, l[i]? = some (.bytes b t') → l.toArray.getD i Value.none = .bytes b t' := fun l hl => by
        obtain ⟨h1, h2⟩ := List.getElem?_eq_some_iff.mp hl
        simp [Array.getD, h1, h2]
      rw [hg _ hvi]
      refine wpAny_bind (wpAny_holding (take_bytes ?_))
      dsimp only
      refine wpAny_bind (wpAny_seqItems ho hd ?_)
      dsimp only
      rw [if_neg (by simp)]
      exact wpAny_pure hq
    · dsimp only
      refine wpAny_bind (wpAny_of_eq (a := sep) rfl ?_)
      rw [hfit, if_neg (by decide)]
      refine wpAny_bind ?_
      show wpAny _ _ (mkBytes _) _ _ _
      rw [joined_eq]
      refine wpAny_mkBytes ?_ hres
      refine wpAny_bind (wpAny_holding (wpAny_point ?_))
      exact wpAny_bind (joinLetGo_ok (wpAny_pure (h _ _)) _)
theorem call_join {sep : Array UInt8} {t : Tok} {D : Addr} {vs : List Value} {bs : List (Array UInt8)} {Q : Value → Shared → Prop} (hl : s.heap.IsList D vs.toArray) (hv : BytesAre vs bs) (hsz : (bs.map (·.size)).sum + bs.length * sep.size ≤ 1000000)
    (h : ∀ t' k, Q (.bytes (joinB sep bs) t') { s with toks := k }) : wpAny (model prog w) A (call (.builtin "bytes.join") [.bytes sep t, .ref D]) Q E s :=
  wpAny_call_entry slot_bytes_join (typeIs_bytes _ _ _) entry_bytes_join (join_tree hl hv hsz fun t' k => ⟨_, rfl, h t' k⟩) (args_bytes_join _ _)
end
end Mine
end
section
open PySem PySem.W PySem.Calls PyProof.Rows
open PySem.Sem (wp)
namespace Mine
theorem reg11 : True := by
  w_top off
  trivial
end Mine
set_option maxRecDepth 100000
namespace Mine
theorem ba_slot_init : Slot "bytearray" "__init__" "bytearray.__init__" :=
  .of (owner := "bytearray") (n := "__init__") (by rw [typeLookup_type, builtinLookup_eq_fast]; kernel_rfl) (by decide +kernel) (by decide +kernel) (by decide +kernel)
    (by first | exact .inl (by decide +kernel) | exact .inr (by decide +kernel)) (by rw [isSubtype_type]; kernel_rfl)
theorem ba_slot_append : Slot "bytearray" "append" "bytearray.append" :=
  .of (owner := "bytearray") (n := "append") (by rw [typeLookup_type, builtinLookup_eq_fast]; kernel_rfl) (by decide +kernel) (by decide +kernel) (by decide +kernel)
    (by first | exact .inl (by decide +kernel) | exact .inr (by decide +kernel)) (by rw [isSubtype_type]; kernel_rfl)
theorem ba_mro : mroOf (.type "bytearray") = pure [.type "bytearray", .type "object"] := by rw [mroOf_type]; kernel_rfl
theorem ba_lookup_new : typeLookup (.type "bytearray") "__new__" = pure (some (.builtin "bytearray.__new__")) := by rw [typeLookup_type, builtinLookup_eq_fast]; kernel_rfl
theorem ba_called : TypeCalled "bytearray" "bytearray.__new__" "bytearray.__init__" :=
  ⟨by decide +kernel, by decide +kernel, ⟨_, _, ba_mro⟩, madeBy_type ba_mro ba_lookup_new (by decide +kernel), by decide +kernel, by rw [isSubtype_type]; kernel_rfl, ba_slot_init⟩
theorem ba_typeCall (a : Value) : checkTypeCall "bytearray" ⟨[a], []⟩ = pure () := by kernel_rfl
theorem ba_newCall (a : Value) : checkBuiltinCall "bytearray.__new__" ⟨[.type "bytearray", a], []⟩ = pure () := by kernel_rfl
theorem ba_entry_new : entryFor table "bytearray.__new__" = some Builtin.«list.__new__» := entryFor_alias (id' := "list.__new__") (by kernel_rfl) (by first | rfl | decide +kernel) (by decide +kernel) (by kernel_rfl)
theorem ba_entry_init : entryFor table "bytearray.__init__" = some Builtin.«bytearray.__init__» := by first | exact entryFor_of_fast (by kernel_rfl) | exact entryFor_of_tree (by kernel_rfl)
theorem ba_entry_append : entryFor table "bytearray.append" = some Builtin.«bytearray.append» := by first | exact entryFor_of_fast (by kernel_rfl) | exact entryFor_of_tree (by kernel_rfl)
theorem ba_plain_new : plainId "bytearray.__new__" = true := by decide +kernel
theorem ba_owner : Manifest.owners.lookup (String.ofList ['y', 'a', 'r', 'r', 'a', 'e', 't', 'y', 'b'].reverse) = some Manifest.sig_bytearray := by kernel_rfl
theorem ba_args_append (a b : Value) : argsOk "bytearray.append" ⟨[a, b], []⟩ := by
  unfold argsOk; rw [signature?_of (id := "bytearray.append") (n := ['d', 'n', 'e', 'p', 'p', 'a']) (o := ['y', 'a', 'r', 'r', 'a', 'e', 't', 'y', 'b']) (by kernel_rfl) ba_owner]; kernel_rfl
theorem ba_args_init (a b : Value) : argsOk "bytearray.__init__" ⟨[a, b], []⟩ := by
  unfold argsOk; rw [signature?_of (id := "bytearray.__init__") (n := ['_', '_', 't', 'i', 'n', 'i', '_', '_']) (o := ['y', 'a', 'r', 'r', 'a', 'e', 't', 'y', 'b']) (by kernel_rfl) ba_owner]; kernel_rfl
theorem ba_plainAttrs : PlainAttrs "bytearray" :=
  ⟨⟨"bytearray.__getattribute__", by rw [typeLookup_type, builtinLookup_eq_fast]; kernel_rfl, by decide +kernel⟩, by rw [typeLookup_type, builtinLookup_eq_fast]; kernel_rfl⟩
theorem ba_type_append : typeOf (.builtin "bytearray.append") = pure (.type "method_descriptor") := by show builtinType _ = _; rw [builtinType_eq_fast]; kernel_rfl
theorem ba_sub : isSubtype (.type "bytearray") (.type "bytearray") = pure true := by rw [isSubtype_type]; kernel_rfl
theorem ba_look_release : typeLookup (.type "bytearray") "__release_buffer__" = pure (some (.builtin "bytearray.__release_buffer__")) := by rw [typeLookup_type, builtinLookup_eq_fast]; kernel_rfl
theorem ba_look_buffer : typeLookup (.type "bytearray") "__buffer__" = pure (some (.builtin "bytearray.__buffer__")) := by rw [typeLookup_type, builtinLookup_eq_fast]; kernel_rfl
theorem ba_no_bytes : typeLookup (.type "bytearray") "__bytes__" = pure none := by rw [typeLookup_type, builtinLookup_eq_fast]; kernel_rfl
theorem ba_no_index : typeLookup (.type "bytearray") "__index__" = pure none := by rw [typeLookup_type, builtinLookup_eq_fast]; kernel_rfl
theorem b_no_index : typeLookup (.type "bytes") "__index__" = pure none := by rw [typeLookup_type, builtinLookup_eq_fast]; kernel_rfl
theorem ba_bind (v : Value) : Builtin.Bytes.bindOptional "bytearray.__init__" "bytearray" ["source", "encoding", "errors"] [v] [] = pure [some v, none, none] := by kernel_rfl
end Mine
end
section
open PySem PySem.W PySem.Calls PyProof.Rows
open PySem.Sem (wp)
namespace Mine
theorem reg12 : True := by
  w_top off
  trivial
end Mine
set_option maxRecDepth 100000
namespace Mine
theorem codeK_call_builtin {prog : Program} {w : World} {A : Around} {s : Shared} {R : Flow → Shared → Prop} {id : String} {args : Args} {b : Builtin} (hq : plainId id = true) (ok : okC (.builtin id ⟨[], []⟩) = true) (hb : entryFor table id = some b)
    (h : wpAny (model prog w) A.in1 (checkBuiltinCall id args) (fun _ s₁ => wpK (model prog w) A.in1 (b args)
      (fun fin s' => match fin with | .done f => R f s' | .again c' => c'.quiet = true ∧ okC c' = true ∧ codeK (model prog w) A c' R s') s₁) noE s) : codeK (model prog w) A (.call (.builtin id) args) R s := by
  refine codeK_tree ?_
  show wpK _ A.in1 (do checkBuiltinCall id args; again (.builtin id args)) _ s
  refine wpK_bindA (wpAny_mono h (fun _ s₁ h₁ => wpK_pure ⟨plainId_quiet hq args, ok, codeK_tree ?_⟩) fun _ _ h' => h')
  rw [Around.under_plainId hq args]
  show wpK _ _ (match entryFor table id with | some b => b args | none => unsupported ((withoutEnding? id "#data").getD id)) _ s₁
  rw [hb]
  exact h₁
section
variable {prog : Program} {w : World} {A : Around} {s : Shared}
noncomputable abbrev baObj (b : Array UInt8) : Obj := { cls := .type "bytearray", data := .bytearray b }
theorem resize_ok {a : Addr} {b : Array UInt8} {Q : Unit → Shared → Prop} (ho : s.heap.get? a = some (baObj b)) (h : Q () s) : wpK (model prog w) A (Builtin.Bytes.checkResize (.ref a)) Q s := by
  unfold Builtin.Bytes.checkResize
  refine wpK_bind ?_
  refine wpK_bind (exported_ok ?_)
  refine wpK_bindA (wpAny_bind (wpAny_load ho ?_)) 
  refine wpAny_pure (wpK_pure ?_)
  rw [if_neg (by decide)]
  exact wpK_pure h
/-- the write of a bytearray -/
theorem write_ok {M : Model} {a : Addr} {b : Array UInt8} {f : Array UInt8 → Array UInt8} {Q : Unit → Shared → Prop} (ho : s.heap.get? a = some (baObj b)) (hsz : (f b).size ≤ sizeLine)
    (hQ : ∀ h', h'.get? a = some (baObj (f b)) → Heap.SameBut a s.heap h' → Q () { s with heap := h' }) : wpAny M A (Builtin.Bytes.write (.ref a) f) Q noE s := by
  show wpAny _ _ (updateBytearray a f) _ _ _
  unfold updateBytearray
  refine wpAny_bind (wpAny_load ho ?_)
  show wpAny _ _ (update a (Obj.mapBytearray f) >>= fun _ => lookBehind a) _ _ _
  refine wpAny_bind (wpAny_update ho ?_)
  have h2 : (s.heap.update a (Obj.mapBytearray f)).get? a = some (baObj (f b)) := Heap.get?_update_self (Obj.mapBytearray f) ho rfl
  refine wpAny_lookBehind h2 ?_ (hQ _ h2 (Heap.SameBut.update ..))
  show (if (f b).size > sizeLine then some "bytearray:memory" else none) = none
  rw [if_neg (by omega)]
theorem append_ok {a : Addr} {b : Array UInt8} {n : Int} {t : Tok} {Q : Value → Shared → Prop} (ho : s.heap.get? a = some (baObj b)) (h0 : 0 ≤ n) (h1 : n < 256) (hsz : b.size + 1 ≤ sizeLine)
    (hQ : ∀ h', h'.get? a = some (baObj (b.push n.toNat.toUInt8)) → Heap.SameBut a s.heap h' → Q .none { s with heap := h' }) : wpK (model prog w) A (call (.builtin "bytearray.append") [.ref a, .int n t]) Q s := by
  refine wpK_call (codeK_call_builtin (by decide +kernel) (by decide +kernel) ba_entry_append (ba_slot_append.check _ _ _ _ _ _ _ _ ⟨_, ho, rfl⟩ (ba_args_append _ _) ?_))
  unfold Builtin.«bytearray.append»
  refine wpK_bind (wpK_of_eq (a := (Value.ref a, Value.int n t)) rfl ?_)
  refine wpK_bind ?_
  unfold Builtin.Bytes.byteValue
  refine wpK_bind (wpK_of_eq (a := n) rfl ?_)
  rw [if_neg (by simp; omega)]
  refine wpK_pure ?_
  refine wpK_bind (resize_ok ho ?_)
  refine wpK_bindA (write_ok (f := fun z => z.push n.toNat.toUInt8) ho (by simpa using hsz) fun h' e hs => ?_)
  exact wpK_pure (hQ h' e hs)
theorem own_ok {M : Model} {E : Value → Shared → Prop} {a : Addr} {ob : Obj} {name : String} {id : String} {Q : Bool → Shared → Prop} (ho : s.heap.get? a = some ob) (hc : ob.cls = .type "bytearray") (hl : typeLookup (.type "bytearray") (name : Str) = pure (some (.builtin id)))
    (h1 : id.endsWith ("." ++ name) = true) (h2 : id.dropRight (name.length + 1) = "bytearray") (h : Q true s) : wpAny M A (Builtin.Bytes.slotIsOwn (.ref a) name) Q E s := by
  unfold Builtin.Bytes.slotIsOwn
  refine wpAny_bind (wpAny_specialOf (T := "bytearray") ⟨_, ho, hc⟩ hl ?_)
  dsimp only
  rw [h1, if_neg (by decide), h2]
  exact wpAny_isInstance (T := "bytearray") ⟨_, ho, hc⟩ ba_sub h
theorem buffer_full {b : Array UInt8} {t : Tok} {id : String} : Builtin.Bytes.buffer? id (.bytes b t) true = pure (some b) := by
  unfold Builtin.Bytes.buffer?
  rw [KBy.special_eq KBy.look_buffer, KBy.own_buffer, KBy.own_release]
  kernel_rfl
theorem init_ok {a : Addr} {b₀ b : Array UInt8} {t : Tok} {Q : Value → Shared → Prop} (ho : s.heap.get? a = some (baObj b₀)) (hsz : b.size ≤ sizeLine)
    (hQ : ∀ h', h'.get? a = some (baObj b) → Heap.SameBut a s.heap h' → Q .none { s with heap := h' }) : wpK (model prog w) A (call (.builtin "bytearray.__init__") [.ref a, .bytes b t]) Q s := by
  refine wpK_call (codeK_call_builtin (by decide +kernel) (by decide +kernel) ba_entry_init (ba_slot_init.check _ _ _ _ _ _ _ _ ⟨_, ho, rfl⟩ (ba_args_init _ _) ?_))
  unfold Builtin.«bytearray.__init__»
  dsimp only
  refine wpK_bind ?_
  unfold Builtin.Bytes.ownRelease
  refine wpK_bindA (own_ok ho rfl ba_look_release (by decide +kernel) (by decide +kernel) ?_)
  refine wpK_pure ?_
  rw [if_neg (by decide)]
  rw [ba_bind]
  refine wpK_bind (wpK_pure ?_)
  dsimp only
  refine wpK_bind (wpK_of_eq (a := ()) rfl ?_)
  refine wpK_bind (wpK_of_eq (a := ()) rfl ?_)
  refine wpK_bind (wpK_bind (exported_ok ?_))
  refine wpK_bindA (wpAny_bind (wpAny_load ho ?_))
  refine wpAny_pure (wpK_pure ?_)
  rw [if_neg (by decide)]
  refine wpK_bindA (write_ok (f := fun _ => #[]) ho (Nat.zero_le _) fun h₁ e₁ s₁ => ?_)
  refine wpK_bind (wpK_of_eq (a := none) rfl ?_)
  rw [if_neg (by decide)]
  refine wpK_bind ?_
  rw [if_neg (by decide), if_neg (by decide)]
  refine wpK_pure ?_
  rw [KBy.special_eq b_no_index]
  refine wpK_bind (wpK_pure ?_)
  rw [if_neg (by decide), buffer_full]
  refine wpK_bind (wpK_pure ?_)
  dsimp only
  refine wpK_bindA (wpAny_rule ?_)
  refine wpK_bindA (write_ok (f := fun _ => b) e₁ hsz fun h₂ e₂ s₂ => ?_)
  first
    | exact wpK_pure (hQ h₂ e₂ (s₁.trans s₂))
    | exact wpK_bind (wpK_pure (wpK_pure (hQ h₂ e₂ (s₁.trans s₂))))
/-- a class without a stack's question makes an empty bytearray -/
theorem new_ok (v : Value) {Q : Value → Shared → Prop} (h : Q (.ref s.heap.objs.size) { s with heap := s.heap.push (baObj #[]) }) :
    wpK (model prog w) A (call (.builtin "bytearray.__new__") [.type "bytearray", v]) Q s := by
  refine wpK_call (codeK_any (codeAny_of_tree ?_))
  show wpAny _ A.in1 (do checkBuiltinCall "bytearray.__new__" ⟨[.type "bytearray", v], []⟩; again (.builtin "bytearray.__new__" ⟨[.type "bytearray", v], []⟩)) _ _ s
  refine wpAny_bind (wpAny_of_eq (ba_newCall v) (wpAny_pure ⟨plainId_quiet ba_plain_new _, codeAny_builtin_stack ba_entry_new rfl fun p st => ?_⟩))
  rw [Around.under_plainId ba_plain_new _]
  have hsub := ba_sub
  have hown : ("bytearray.__new__".splitOn ".__new__").headD "" = "bytearray" := by rw [PySem.W.split_bytearray]; rfl
  obtain ⟨hp, g, d, tk, os⟩ := s
  simp only [hown]
  wp_walk
  exact ⟨_, rfl, h⟩
theorem codeK_builtin {R : Flow → Shared → Prop} {id : String} {args : Args} {b : Builtin} (hb : entryFor table id = some b)
    (h : wpK (model prog w) (A.under (.builtin id args)) (b args) (fun fin s' => match fin with | .done f => R f s' | .again c' => c'.quiet = true ∧ okC c' = true ∧ codeK (model prog w) A c' R s') s) :
    codeK (model prog w) A (.builtin id args) R s := by
  refine codeK_tree ?_
  show wpK _ _ (match entryFor table id with | some b => b args | none => unsupported ((withoutEnding? id "#data").getD id)) _ s
  rw [hb]
  exact h
theorem ok_type_call (args : Args) : okC (.builtin "type.__call__" args) = true := by
  show okC (.builtin "type.__call__" ⟨[], []⟩) = true
  decide +kernel
theorem callSpecialK {M : Model} {self : Value} {T : String} {name : Str} {id : String} {args : List Value} {kw : List (Str × Value)} {Q : Option Value → Shared → Prop} (hT : s.TypeIs self T) (h : Slot T name id)
    (hc : wpK M A (call (.builtin id) (self :: args) kw) (fun v => Q (some v)) s) : wpK M A (callSpecial? self name args kw) Q s := by
  simp only [callSpecial?]
  refine wpK_bindA (wpAny_specialOf hT h.lookup ?_)
  simp only [h.bind]
  exact wpK_holding (wpK_bind (wpK_pure (wpK_bind (wpK_mono hc fun v s' h' => wpK_pure h'))))
/-- bytearray(octets) -/
theorem make_ok {b : Array UInt8} {t : Tok} {Q : Value → Shared → Prop} (hsz : b.size ≤ sizeLine)
    (hQ : ∀ h', h'.get? s.heap.objs.size = some (baObj b) → (∀ c o, s.heap.get? c = some o → h'.get? c = some o) → Q (.ref s.heap.objs.size) { s with heap := h' }) : wpK (model prog w) A (call (.type "bytearray") [.bytes b t]) Q s := by
  refine wpK_call (codeK_tree ?_)
  show wpK _ _ (callAny (.type "bytearray") _) _ _
  refine wpK_pure ⟨Code.quiet_builtin _ (by decide +kernel), ok_type_call _, codeK_builtin F.entry_type_call ?_⟩
  rw [Around.under_plain (weight_type_call_type "bytearray" [.bytes b t] []) rfl]
  have h1 := ba_called.notType
  have h2 := ba_called.canCreate
  unfold Builtin.«type.__call__»
  simp only [h1, h2, ba_typeCall, ba_mro, ba_called.made, pure_bind, Bool.false_eq_true, if_false, List.isEmpty_cons]
  refine wpK_bind (wpK_holding (new_ok _ ?_))
  have h3 : (s.heap.push (baObj #[])).get? s.heap.objs.size = some (baObj #[]) := Heap.get?_push_size _ rfl
  refine wpK_bindA (wpAny_isInstance (T := "bytearray") ⟨_, h3, rfl⟩ ba_sub ?_)
  rw [if_neg (by decide)]
  refine wpK_bind (wpK_holding (callSpecialK (T := "bytearray") ⟨_, h3, rfl⟩ ba_slot_init (init_ok h3 hsz fun h' e hs => ?_)))
  dsimp only
  rw [if_neg (by decide)]
  refine wpK_pure (hQ h' e fun c o hc => ?_)
  exact hs.extBut c o (Nat.ne_of_lt (Heap.lt_size hc)) (Heap.get?_push_of_some _ hc)
/-- bytes(bytearray) -/
theorem bytes_of_ba {E : Value → Shared → Prop} {a : Addr} {b : Array UInt8} {Q : Value → Shared → Prop} (ho : s.heap.get? a = some (baObj b)) (hsz : b.size ≤ sizeLine)
    (hQ : ∀ t k, Q (.bytes b t) { s with toks := k }) : wpAny (model prog w) A (call (.type "bytes") [.ref a]) Q E s := by
  refine callType_codes (Q₁ := fun obj s₁ => s₁.TypeIs obj "bytes" ∧ Q obj s₁) F.bm_called (F.bm_typeCall _) F.entry_object_init ?_ fun obj s₁ h₁ =>
    ⟨h₁.1, F.args_object_init_2 obj _, object_init_meets F.bm_called.init.lookup F.bm_called.made (by decide) prog w A.in1 _ s₁ ⟨h₁.1, rfl, h₁.2⟩⟩
  refine codeAny_of_tree ?_
  show wpAny _ A.in1.in1 (do checkBuiltinCall "bytes.__new__" ⟨[.type "bytes", .ref a], []⟩; again (.builtin "bytes.__new__" ⟨[.type "bytes", .ref a], []⟩)) _ _ s
  refine wpAny_bind (wpAny_of_eq (F.bm_newCall _) (wpAny_pure ⟨plainId_quiet F.bm_plain _, codeAny_builtin F.bm_entry ?_⟩))
  rw [Around.under_plainId F.bm_plain _]
  have hT : s.TypeIs (.ref a) "bytearray" := ⟨_, ho, rfl⟩
  unfold Builtin.«bytes.__new__»
  refine wpAny_bind (wpAny_of_eq (a := true) rfl ?_)
  refine bm_if_false rfl ?_
  refine wpAny_bind (wpAny_of_eq F.bm_sub ?_)
  refine bm_if_false rfl ?_
  refine wpAny_bind (wpAny_of_eq (F.bm_bind _) ?_)
  refine wpAny_bind (wpAny_of_eq (a := ()) rfl ?_)
  refine wpAny_bind (wpAny_of_eq (a := ()) rfl ?_)
  refine bm_if_false rfl ?_
  refine wpAny_bind (wpAny_specialOf hT ba_no_bytes ?_)
  refine wpAny_bind (wpAny_bind ?_)
  show wpAny _ _ (load a >>= _) _ _ _
  refine wpAny_bind (wpAny_load ho ?_)
  refine wpAny_pure (wpAny_pure ?_)
  refine bm_if_false rfl ?_
  refine wpAny_bind (wpAny_specialOf hT ba_no_index ?_)
  refine bm_if_true rfl ?_
  refine wpAny_bind ?_
  unfold Builtin.Bytes.buffer?
  refine wpAny_bind (wpAny_specialOf hT ba_look_buffer ?_)
  dsimp only
  refine wpAny_bind (own_ok ho rfl ba_look_buffer (by decide +kernel) (by decide +kernel) ?_)
  rw [if_neg (by decide)]
  refine wpAny_bind (wpAny_specialOf hT ba_look_buffer ?_)
  show wpAny _ _ (Builtin.Bytes.ownRelease (.ref a) >>= _) _ _ _
  refine wpAny_bind ?_
  unfold Builtin.Bytes.ownRelease
  refine wpAny_bind (own_ok ho rfl ba_look_release (by decide +kernel) (by decide +kernel) (wpAny_pure ?_))
  rw [if_neg (by decide)]
  refine wpAny_bind ?_
  unfold Builtin.Bytes.payload Builtin.Bytes.payload?
  refine wpAny_bind (wpAny_bind (wpAny_load ho ?_))
  refine wpAny_pure (wpAny_pure (wpAny_pure ?_))
  dsimp only
  refine wpAny_bind (wpAny_rule ?_)
  refine wpAny_bind (wpAny_mkBytes ?_ hsz)
  show wpAny _ _ (if (Value.type "bytes" == Value.type "bytes") = true then _ else _) _ _ _
  refine bm_if_true (by decide) ?_
  first
    | exact wpAny_pure ⟨typeIs_bytes _ _ _, hQ _ _⟩
    | exact wpAny_bind (wpAny_pure (wpAny_pure ⟨typeIs_bytes _ _ _, hQ _ _⟩))
theorem b_look_bytes : typeLookup (.type "bytes") "__bytes__" = pure (some (.builtin "bytes.__bytes__")) := by rw [typeLookup_type, builtinLookup_eq_fast]; kernel_rfl
/-- bytes(octets) -/
theorem bytes_of_bytes {E : Value → Shared → Prop} {b : Array UInt8} {t : Tok} {Q : Value → Shared → Prop} (hQ : Q (.bytes b t) s) : wpAny (model prog w) A (call (.type "bytes") [.bytes b t]) Q E s := by
  refine callType_codes (Q₁ := fun obj s₁ => s₁.TypeIs obj "bytes" ∧ Q obj s₁) F.bm_called (F.bm_typeCall _) F.entry_object_init ?_ fun obj s₁ h₁ =>
    ⟨h₁.1, F.args_object_init_2 obj _, object_init_meets F.bm_called.init.lookup F.bm_called.made (by decide) prog w A.in1 _ s₁ ⟨h₁.1, rfl, h₁.2⟩⟩
  refine codeAny_of_tree ?_
  show wpAny _ A.in1.in1 (do checkBuiltinCall "bytes.__new__" ⟨[.type "bytes", .bytes b t], []⟩; again (.builtin "bytes.__new__" ⟨[.type "bytes", .bytes b t], []⟩)) _ _ s
  refine wpAny_bind (wpAny_of_eq (F.bm_newCall _) (wpAny_pure ⟨plainId_quiet F.bm_plain _, codeAny_builtin F.bm_entry ?_⟩))
  rw [Around.under_plainId F.bm_plain _]
  unfold Builtin.«bytes.__new__»
  refine wpAny_bind (wpAny_of_eq (a := true) rfl ?_)
  refine bm_if_false rfl ?_
  refine wpAny_bind (wpAny_of_eq F.bm_sub ?_)
  refine bm_if_false rfl ?_
  refine wpAny_bind (wpAny_of_eq (F.bm_bind _) ?_)
  refine wpAny_bind (wpAny_of_eq (a := ()) rfl ?_)
  refine wpAny_bind (wpAny_of_eq (a := ()) rfl ?_)
  refine bm_if_false rfl ?_
  rw [KBy.special_eq b_look_bytes]
  refine wpAny_bind (wpAny_pure ?_)
  show wpAny _ _ (rule _ >>= _) _ _ _
  refine wpAny_bind (wpAny_rule ?_)
  refine wpAny_bind (wpAny_of_eq (a := Value.type "bytes") rfl ?_)
  refine bm_if_true (by decide) ?_
  show wpAny _ _ (if (Value.type "bytes" == Value.type "bytes") = true then _ else _) _ _ _
  refine bm_if_true (by decide) ?_
  first
    | exact wpAny_pure ⟨typeIs_bytes _ _ _, hQ⟩
    | exact wpAny_bind (wpAny_pure (wpAny_pure ⟨typeIs_bytes _ _ _, hQ⟩))
end
end Mine
end
section
open PySem PySem.W PySem.Calls PyProof.Rows
open PySem.Sem (wp)
namespace Mine
theorem reg13 : True := by
  w_top off
  trivial
end Mine
set_option maxRecDepth 100000
namespace Mine
section
variable {prog : Program} {w : World} {A : Around} {s : Shared} {env : Env}
theorem codeK_block {stmts : List Stmt} {R : Flow → Shared → Prop} (h : wpK (model prog w) A (execs stmts env) R s) : codeK (model prog w) A (.block stmts env) R s := by
  refine codeK_tree ?_
  show wpK _ _ (do return Fin.done (← (execs stmts env).onRaise (fun x => do noteFrame x env; theTreesLotGoes x))) _ s
  exact wpK_bind (wpK_onRaise (wpK_mono h fun f s' h' => wpK_pure h'))
theorem codeK_forLoop {R : Flow → Shared → Prop} {target : Expr} {it : Value} {body orelse : List Stmt} (I : Nat → Shared → Prop)
    (turn : ∀ n s, I n s → wpAny (model prog w) A (pyNext it) (fun r s₁ => match r with
      | none => wpK (model prog w) A (execs orelse env) R s₁
      | some v => wpAny (model prog w) A (assign target env v) (fun _ s₂ => wpK (model prog w) A (execs body env) (fun f s₃ => match f with
          | .next | .cont => ∃ m, m < n ∧ I m s₃
          | .brk => R .next s₃
          | .ret v => R (.ret v) s₃) s₂) noE s₁) noE s)
    (n : Nat) (h : I n s) (ht : ∀ v, letOwnedTupleGo target it v = pure () := by intro _; rfl) : codeK (model prog w) A (.forLoop target it body orelse env) R s := by
  refine codeK_loop rfl rfl I (fun n s hI => ?_) n h
  show wpK _ _ ((forTurn target it body orelse env).onRaise (fun x => do noteFrame x env; theTreesLotGoes x)) _ s
  refine wpK_onRaise ?_
  simp only [forTurn]
  refine wpK_bind (wpK_standAt (wpK_bind (wpK_onRaise (wpK_any (wpAny_mono (turn n s hI) (fun r s₁ h₁ => ?_) fun _ _ h' => h')))))
  cases r with
  | none => exact wpK_pure (.inr ⟨rfl, rfl, codeK_block h₁⟩)
  | some v =>
    refine wpK_bind (wpK_of_eq (ht v) ?_)
    refine wpK_bindA (wpAny_mono h₁ (fun _ s₂ h₂ => wpK_bind (wpK_mono h₂ (fun f s₃ h₃ => ?_))) fun _ _ h' => h')
    cases f with
    | next => exact wpK_pure (.inl ⟨rfl, h₃⟩)
    | cont => exact wpK_pure (.inl ⟨rfl, h₃⟩)
    | brk => exact wpK_pure h₃
    | ret v => exact wpK_pure h₃
variable {h₀ : Heap} {m₀ : Str → Option Value}
/-- a turn's end: the frame stands, the ledger is told -/
noncomputable def TurnB (h₀ : Heap) (L : Addr) (m : Str → Option Value) (I : Addr) (oI : Obj) (led' : List (Addr × Obj)) (s₁ : Shared) (f : Flow) (s₂ : Shared) : Prop :=
  f = .next ∧ ∃ h' tk', s₂ = { s₁ with heap := h', toks := tk' } ∧ (∀ p ∈ led', p.1 ≠ I) ∧ Fr h₀ L h' m ∧ News h₀ L h' ((I, oI) :: led')
/-- a loop over octets, its ledger told turn by turn -/
theorem for_bytesK {b : Array UInt8} {tb : Tok} {x : Str} {px : Pos} {body : List Stmt} {Q : Flow → Shared → Prop} (led : Nat → List (Addr × Obj)) (hh : A.handled = none) (hx : env.kindOf x = some .local)
    (hp : (env.scope.kind == .class || (env.scope.kind == .module && env.locals != env.globals)) = false) (F : Fr h₀ env.locals s.heap m₀) (N : News h₀ env.locals s.heap (led 0))
    (turn : ∀ (i : Nat) (c : UInt8) t h tk I oI, b[i]? = some c → (∀ p ∈ led i, p.1 ≠ I) → Fr h₀ env.locals h (fun y => if y = x then some (.int (c.toNat : Int) t) else m₀ y) → News h₀ env.locals h ((I, oI) :: led i) →
      wpK (model prog w) A (execs body env) (TurnB h₀ env.locals (fun y => if y = x then some (.int (c.toNat : Int) t) else m₀ y) I oI (led (i + 1)) s) { s with heap := h, toks := tk })
    (done : ∀ (u : Option Value) h tk, Fr h₀ env.locals h (fun z => if z = x then u else m₀ z) → News h₀ env.locals h (led b.size) → Q .next { s with heap := h, toks := tk }) :
    wpAny (model prog w) A (pyIter (.bytes b tb)) (fun it s₂ => codeK (model prog w) A (.forLoop (.Name x px) it body [] env) Q s₂) noE s := by
  refine KBw.pyIter_bytes ?_
  have W := KBw.walks (prog := prog) (w := w) (A := A) hh s.heap.objs.size b tb
  have st : KBw.IsBytesIter (s.heap.push { cls := .type "bytes_iterator", data := .fields #[.bytes b tb, .int 0 0] }) s.heap.objs.size b tb 0 := ⟨_, Heap.get?_push_size _ rfl, rfl, rfl⟩
  have hIL : env.locals ≠ s.heap.objs.size := Nat.ne_of_lt F.ns.lt
  have hI₀ : h₀.get? s.heap.objs.size = none := next_is_new F
  refine codeK_forLoop (fun k s' => ∃ h' tk i u, s' = { s with heap := h', toks := tk } ∧ i ≤ b.size ∧ k = b.size + 1 - i ∧ KBw.IsBytesIter h' s.heap.objs.size b tb i ∧ (∀ p ∈ led i, p.1 ≠ s.heap.objs.size) ∧ Fr h₀ env.locals h' (fun z => if z = x then u else m₀ z) ∧ News h₀ env.locals h' (led i)) ?_ (b.size + 1)
    ⟨_, s.toks, 0, m₀ x, rfl, Nat.zero_le _, rfl, st, fun p hp' => Nat.ne_of_lt (Heap.lt_size (N p hp').1), ?_, fun p hp' => ⟨Heap.get?_push_of_some _ (N p hp').1, (N p hp').2⟩⟩
  · rintro k s' ⟨h', tk, i, u, rfl, hi, rfl, hst', off, F', N'⟩
    by_cases hlt : i < b.size
    · refine W.item i _ _ _ hlt hst' fun v h₂ tk₂ hPv hst₂ hk₂ => ?_
      obtain ⟨c, t, hc, rfl⟩ := hPv
      have F₂ := LCg.fr_but F' hk₂ hIL hI₀
      refine wpAny_assign_Name (wpAny_storeName_local hx F₂.ns (fun h₃ hn₃ hs₃ => ?_) hp)
      have e : (fun y => if y = x then some (Value.int (c.toNat : Int) t) else (fun z => if z = x then u else m₀ z) y) = fun y => if y = x then some (Value.int (c.toNat : Int) t) else m₀ y := by
        funext y
        dsimp only
        split <;> rfl
      rw [e] at hn₃
      have F₃ := F₂.set hn₃ hs₃
      obtain ⟨oI, hoI, r⟩ := hst₂
      have hoI₃ : h₃.get? s.heap.objs.size = some oI := hs₃.extBut _ _ (Ne.symm hIL) hoI
      have N₂ := LCg.news_but N' hk₂ off
      refine wpK_mono (turn i c t h₃ _ s.heap.objs.size oI hc off F₃ fun p hp' => ?_) fun f s₂ hq => ?_
      · rcases List.mem_cons.mp hp' with rfl | hp'
        · exact ⟨hoI₃, Ne.symm hIL, hI₀⟩
        · exact ⟨hs₃.extBut _ _ (N₂ p hp').2.1 (N₂ p hp').1, (N₂ p hp').2⟩
      · obtain ⟨rfl, h₄, tk₄, rfl, off₄, F₄, N₄⟩ := hq
        exact ⟨b.size + 1 - (i + 1), by omega, h₄, tk₄, i + 1, some (.int (c.toNat : Int) t), rfl, hlt, rfl, ⟨oI, (N₄ _ List.mem_cons_self).1, r⟩, off₄, F₄, fun p hp' => N₄ p (List.mem_cons_of_mem _ hp')⟩
    · obtain rfl : i = b.size := Nat.le_antisymm hi (Nat.not_lt.mp hlt)
      refine W.done _ _ _ hst' fun h₂ tk₂ hk₂ => ?_
      exact wpK_execs_nil (done u h₂ tk₂ (LCg.fr_but F' hk₂ hIL hI₀) (LCg.news_but N' hk₂ off))
  · have e : (fun z => if z = x then m₀ x else m₀ z) = m₀ := by
      funext z
      split
      · rename_i h; rw [h]
      · rfl
    rw [e]
    exact F.push _
end
end Mine
end
section
open PySem PySem.W PySem.Calls PyProof.Rows
namespace Mine
theorem reg14 : True := by
  w_top off
  trivial
/-- a call of a def from a def's frame, on clean stacks: it comes back, with what it made -/
noncomputable def KRet (prog : Program) (w : World) (K : Frag) (p : Program) (loose : List Str) (f : Addr) (need : Nat)
    (news : List (Addr × Obj)) (vs : List Value) (Post : List (Addr × Obj) → Value → Prop) : Prop :=
  ∀ (mean : ExcName → Option Value) (mg mb : Str → Option Value) (dp un : Nat) (gd : Option (List Code)) (cn : Str) (cs : Scope) (a : Addr) (ccd : Value) (cl : List (Str × Addr)) (outer : List Env) (A₀ : Around) (base h₀ : Heap) (L : Addr) (m : Str → Option Value) (s : Shared)
    (Q : Value → Shared → Prop),
    Below A₀ base outer h₀ → Fr h₀ L s.heap m → K.In h₀ → News h₀ L s.heap news → Top p loose mean mg mb h₀ → cs.kind = .function → dp + need < recursionLimit → un + 8 * need < cLine →
    (∀ r news' h' tk', Fr h₀ L h' m → News h₀ L h' news' → Post news' r → Q r { s with heap := h', toks := tk' }) →
    wpK (model prog w) (ktrTop dp un gd cn cs L a ccd cl outer) (call (.ref f) vs) Q s
theorem kret_use {prog : Program} {w : World} {K : Frag} {p : Program} {loose : List Str} {f : Addr} {need : Nat} {news : List (Addr × Obj)} {vs : List Value} {Post : List (Addr × Obj) → Value → Prop}
    {mean : ExcName → Option Value} {mg mb : Str → Option Value} {dp un : Nat} {gd : Option (List Code)} {cn : Str} {cs : Scope} {a : Addr} {ccd : Value} {cl : List (Str × Addr)} {outer : List Env} {A₀ : Around} {base h₀ : Heap} {L : Addr} {m : Str → Option Value} {s : Shared}
    {Q : Value → Shared → Prop} (C : KRet prog w K p loose f need news vs Post)
    (B : Below A₀ base outer h₀) (F : Fr h₀ L s.heap m) (X : K.In h₀) (N : News h₀ L s.heap news) (T : Top p loose mean mg mb h₀) (hk : cs.kind = .function) (hd : dp + need < recursionLimit) (hu : un + 8 * need < cLine)
    (ret : ∀ r news' h' tk', Fr h₀ L h' m → News h₀ L h' news' → Post news' r → Q r { s with heap := h', toks := tk' }) :
    wpK (model prog w) (ktrTop dp un gd cn cs L a ccd cl outer) (call (.ref f) vs) Q s := C _ _ _ _ _ _ _ _ _ _ _ _ _ _ _ _ _ _ _ B F X N T hk hd hu ret
theorem KRet.of {prog : Program} {w : World} {K : Frag} {p : Program} {loose : List Str} {f : Addr} {need : Nat} {news : List (Addr × Obj)} {vs : List Value} {Post : List (Addr × Obj) → Value → Prop} (C : Ret prog w K p loose f need news vs Post) : KRet prog w K p loose f need news vs Post := by
  intro mean mg mb dp un gd cn cs a ccd cl outer A₀ base h₀ L m s Q B F X N T hk hd hu hret
  exact wpK_any (ret_use C B F X N T hk hd hu hret)
section
variable {prog : Program} {w : World} {A : Around} {s : Shared} {h₀ : Heap} {L : Addr} {m : Str → Option Value} {news news' : List (Addr × Obj)}
theorem make_K {b : Array UInt8} {t : Tok} {Q : Value → Shared → Prop} (F : Fr h₀ L s.heap m) (N : News h₀ L s.heap news) (hsz : b.size ≤ sizeLine)
    (h : ∀ D h', (∀ p ∈ news, p.1 ≠ D) → Fr h₀ L h' m → News h₀ L h' ((D, baObj b) :: news) → Q (.ref D) { s with heap := h' }) : wpK (model prog w) A (call (.type "bytearray") [.bytes b t]) Q s := by
  refine make_ok hsz fun h' e hk => ?_
  refine h s.heap.objs.size h' (fun p hp => Nat.ne_of_lt (Heap.lt_size (N p hp).1)) (F.keeps hk) fun p hp => ?_
  rcases List.mem_cons.mp hp with rfl | hp
  · exact ⟨e, Ne.symm (Nat.ne_of_lt F.ns.lt), next_is_new F⟩
  · exact ⟨hk _ _ (N p hp).1, (N p hp).2⟩
theorem appendB_K {D : Addr} {b : Array UInt8} {n : Int} {t : Tok} {Q : Value → Shared → Prop} (F : Fr h₀ L s.heap m) (N : News h₀ L s.heap news) (U : Upd D (baObj b) (baObj (b.push n.toNat.toUInt8)) news news') (h0 : 0 ≤ n) (h1 : n < 256) (hsz : b.size + 1 ≤ sizeLine)
    (h : ∀ h', Fr h₀ L h' m → News h₀ L h' news' → Q .none { s with heap := h' }) : wpK (model prog w) A (call (.builtin "bytearray.append") [.ref D, .int n t]) Q s := by
  obtain ⟨pre, post, e1, e2, hpre, hpost⟩ := U.split
  have hD := N (D, baObj b) (e1 ▸ List.mem_append_right _ List.mem_cons_self)
  refine append_ok hD.1 h0 h1 hsz fun h' e hs => ?_
  refine h h' (F.change hs hD.2.1 hD.2.2) fun p hp => ?_
  have key : ∀ p ∈ news, p.1 ≠ D → h'.get? p.1 = some p.2 ∧ p.1 ≠ L ∧ h₀.get? p.1 = none := fun p hp hne => ⟨hs.extBut _ _ hne (N p hp).1, (N p hp).2⟩
  rw [e2] at hp
  rcases List.mem_append.mp hp with hp | hp
  · exact key p (e1 ▸ List.mem_append_left _ hp) (hpre p hp)
  · rcases List.mem_cons.mp hp with rfl | hp
    · exact ⟨e, hD.2⟩
    · exact key p (e1 ▸ List.mem_append_right _ (List.mem_cons_of_mem _ hp)) (hpost p hp)
theorem method_append {E : Value → Shared → Prop} {D : Addr} {b : Array UInt8} {pl : Sem Bool} {Q : Value × List Value → Shared → Prop} (N : News h₀ L s.heap news) (hm : (D, baObj b) ∈ news) (h : Q (.builtin "bytearray.append", [.ref D]) s) : wpAny (model prog w) A (getMethod (.ref D) "append" pl) Q E s :=
  getMethod_builtin (T := "bytearray") ⟨_, (N _ hm).1, rfl⟩ ba_plainAttrs ba_slot_append ba_type_append (fun a e => by cases e; exact ⟨_, (N _ hm).1, rfl⟩) h
theorem bytes_K {E : Value → Shared → Prop} {D : Addr} {b : Array UInt8} {Q : Value → Shared → Prop} (N : News h₀ L s.heap news) (hm : (D, baObj b) ∈ news) (hsz : b.size ≤ sizeLine) (h : ∀ t k, Q (.bytes b t) { s with toks := k }) : wpAny (model prog w) A (call (.type "bytes") [.ref D]) Q E s :=
  bytes_of_ba (N _ hm).1 hsz h
end
end Mine
end
section
open PySem PySem.W PySem.Calls PyProof.Rows
open PySem.Sem (wp)
namespace Mine
theorem reg15 : True := by
  w_top off
  trivial
end Mine
set_option maxRecDepth 100000
namespace Mine
section
variable {prog : Program} {w : World} {A : Around} {s : Shared} {env : Env}
theorem wpK_standIf {α : Type} {M : Model} {c : Prop} [Decidable c] {pos : Pos} {k : PUnit → Sem α} {Q : α → Shared → Prop} (h : wpK M A (k ()) Q s) : wpK M A (if c then (standAt pos >>= k) else k ()) Q s := by
  split
  · exact wpK_bind (wpK_standAt h)
  · exact h
theorem comprehensionK {M : Model} {e : Expr} {scope : Scope} {pos : Pos} {newAcc first : Sem Value} {g : Comprehension} {gs : List Comprehension} {cl : List (Str × Addr)} {Q : Value → Shared → Prop}
    (hcl : clausesOf e = g :: gs) (hs : ∀ x, foldedSetIterable g.iter env x = pure x) (hclos : closureFor scope env = pure cl)
    (hkind : scope.kind = .function) (hnames : ∀ x ∈ scope.names, x.2 = .local → scope.names.lookup x.1 = some .local)
    (h : wpAny M A first (fun x s₁ => wpAny M A (pyIter x) (fun it s₂ => wpAny M A newAcc (fun acc s₃ =>
      wpAny M A (newFunctionEnv scope env.globals cl [] env.qual none .none (some env)) (fun cenv s₄ =>
        codeK M A (.compStart e 0 it acc { cenv with scope := relabel scope env }) (fun _ s' => ∃ m, s'.heap.Ns cenv.locals m ∧ ∀ h', Heap.SameBut cenv.locals s'.heap h' → Q acc { s' with heap := h' }) s₄) noE s₃) noE s₂) noE s₁) noE s) :
    wpK M A (comprehension e scope env pos newAcc false first none) Q s := by
  unfold comprehension
  rw [hclos, hcl]
  refine wpK_bindA (wpAny_mono h (fun x s₁ h₁ => wpK_bind (wpK_standAt (wpK_bind (wpK_of_eq (hs x) (wpK_bindA (wpAny_holding (wpAny_mono h₁ (fun it s₂ h₂ =>
    wpK_standIf (wpK_bindA (wpAny_mono h₂ (fun acc s₃ h₃ => wpK_bind (wpK_pure (wpK_bindA (wpAny_mono h₃ (fun cenv s₄ h₄ => ?_) fun _ _ h' => h')))) fun _ _ h' => h')))
      fun _ _ h' => h'))))))) fun _ _ h' => h')
  dsimp only
  have hv : ∀ x ∈ (scope.names.filter fun x => (x.2 == .local || x.2 == .cell) && x.1 != (".0" : Str)).reverse, x.2 = .local →
      Env.kindOf { cenv with scope := relabel scope env } x.1 = some .local := fun x hx hl => lookup_relabel_local (hnames x (List.mem_filter.mp (List.mem_reverse.mp hx)).1 hl)
  refine wpK_holding (wpK_bind (wpK_attempt (wpK_holding (wpK_run (codeK_mono h₄ fun r s' hr => ?_)))))
  obtain ⟨m, hn, hr⟩ := hr
  exact wpK_bindA (wpAny_holding (wpAny_comp_letGo (cenv := { cenv with scope := relabel scope env }) hkind _ s' m hv hn fun h' m' _ hs' => wpK_pure (hr h' hs')))
theorem compStartK {elt target iter : Expr} {scope : Scope} {pos : Pos} {it acc : Value} {R : Flow → Shared → Prop}
    (h0 : codeK (model prog w) A (.compLoop (.ListComp elt [⟨target, iter, [], 0⟩] scope pos) 0 it acc env) R s)
    (h : wpAny (model prog w) A (pyIter it) (fun it' s' => codeK (model prog w) A (.compLoop (.ListComp elt [⟨target, iter, [], 0⟩] scope pos) 0 it' acc env) R s') noE s) :
    codeK (model prog w) A (.compStart (.ListComp elt [⟨target, iter, [], 0⟩] scope pos) 0 it acc env) R s := by
  refine codeK_tree ?_
  show wpK _ _ ((compStart (.ListComp elt [⟨target, iter, [], 0⟩] scope pos) 0 it acc env).onRaise (fun x => do noteFrame x env; standAt theWindowsPlace)) _ s
  refine wpK_onRaise ?_
  unfold compStart
  show wpK _ _ (ask >>= _) _ s
  refine wpK_bindA (wpAny_askSetting ?_)
  split
  · first
      | exact wpK_bind (wpK_pure (wpK_pure ⟨rfl, rfl, h0⟩))
      | exact wpK_pure ⟨rfl, rfl, h0⟩
  · refine wpK_bindA (wpAny_rule ?_)
    refine wpK_bind (wpK_standAt ?_)
    exact wpK_bindA (wpAny_mono h (fun it' s' h' => wpK_pure ⟨rfl, rfl, h'⟩) fun _ _ x => x)
theorem compLoopK {elt target iter : Expr} {scope : Scope} {pos : Pos} {it acc : Value} {R : Flow → Shared → Prop} (I : Nat → Shared → Prop)
    (turn : ∀ n s, I n s → wpAny (model prog w) A (pyNext it) (fun r s₁ => match r with
      | none => R .next s₁
      | some v => wpAny (model prog w) A (assign target env v) (fun _ s₂ => wpK (model prog w) A (eval elt env) (fun x s₄ =>
              wpAny (model prog w) A (call (.builtin "list.append") [acc, x]) (fun _ s₅ => ∃ m, m < n ∧ I m s₅) noE s₄) s₂) noE s₁) noE s)
    (n : Nat) (h : I n s) (ht : ∀ v, letOwnedTupleGo target it v = pure () := by intro _; rfl) :
    codeK (model prog w) A (.compLoop (.ListComp elt [⟨target, iter, [], 0⟩] scope pos) 0 it acc env) R s := by
  refine codeK_loop rfl rfl I (fun n s hI => ?_) n h
  show wpK _ A ((compTurn (.ListComp elt [⟨target, iter, [], 0⟩] scope pos) 0 it acc env).onRaise (fun x => do noteFrame x env; theTreesLotGoes x)) _ s
  refine wpK_onRaise ?_
  rw [compTurn_list]
  refine wpK_bind (wpK_standAt (wpK_bindA (wpAny_mono (turn n s hI) (fun r s₁ h₁ => ?_) fun _ _ h' => h')))
  cases r with
  | none => exact wpK_pure h₁
  | some v =>
    refine wpK_bind (wpK_of_eq (ht v) ?_)
    refine wpK_bindA (wpAny_mono h₁ (fun _ s₂ h₂ => ?_) fun _ _ h' => h')
    refine wpK_bind (wpK_pure ?_)
    rw [if_pos rfl]
    exact wpK_bind (wpK_bind (wpK_mono h₂ fun x s₄ h₄ => wpK_bindA (wpAny_mono h₄ (fun _ s₅ h₅ => wpK_pure (wpK_pure (.inl ⟨rfl, h₅⟩))) fun _ _ x => x)))
/-- the source of a dirty comprehension: a list of the ledger, what each element gives, and the end -/
noncomputable def SrcK (prog : Program) (w : World) (A : Around) (h₀ : Heap) (L : Addr) (m : Str → Option Value) (env : Env) (elt : Expr) (x : Str) (scope : Scope) (cl : List (Str × Addr)) (Q : Value → Shared → Prop) (xv : Value) (s₁ : Shared) : Prop :=
  ∃ (l : Addr) (items : List Value) (n : Nat) (news : List (Addr × Obj)) (bs : List (Array UInt8)), xv = .ref l ∧ A.handled = none ∧ Fr h₀ L s₁.heap m ∧ News h₀ L s₁.heap news ∧ (l, ({ cls := .type "list", data := .seq items.toArray n } : Obj)) ∈ news ∧ items.length ≤ sizeLine ∧ bs.length = items.length ∧
    (∀ (i : Nat) (v : Value) (b : Array UInt8) I oI C oC D m₂ ys h tk, items[i]? = some v → bs[i]? = some b → LCg.NsObj oC m₂ → m₂ x = some v → Fr h₀ L h m → News h₀ L h ((I, oI) :: (C, oC) :: (D, LCg.lst ys) :: news) → LCg.Off3 I C D news → Ne3 I C D →
      wpK (model prog w) A (eval elt (compEnvC scope cl C env)) (TurnOk h₀ L m { s₁ with heap := h, toks := tk } ((I, oI) :: (C, oC) :: (D, LCg.lst ys) :: news) (Value.bytes b)) { s₁ with heap := h, toks := tk }) ∧
    (∀ D h tk ys, Fr h₀ L h m → News h₀ L h ((D, LCg.lst ys) :: news) → BytesAre ys bs → Q (.ref D) { s₁ with heap := h, toks := tk })
theorem lcK {h₀ : Heap} {L : Addr} {m : Str → Option Value} {elt iter : Expr} {x : Str} {px : Pos} {scope : Scope} {cl : List (Str × Addr)} {pos : Pos} {Q : Value → Shared → Prop} (_F : Fr h₀ L s.heap m)
    (hclos : closureFor scope env = pure cl) (hcell : ∀ y ∈ scope.names, y.2 ≠ .cell) (hkind : scope.kind = .function)
    (hnames : ∀ y ∈ scope.names, y.2 = .local → scope.names.lookup y.1 = some .local) (hx : scope.names.lookup x = some .local) (hs : ∀ x, foldedSetIterable iter env x = pure x)
    (h : wpAny (model prog w) A (eval iter env) (SrcK prog w A h₀ L m env elt x scope cl Q) noE s) :
    wpK (model prog w) A (eval (.ListComp elt [⟨.Name x px, iter, [], 0⟩] scope pos) env) Q s := by
  rw [eval_ListComp]
  refine comprehensionK rfl hs hclos hkind hnames (wpAny_mono h (fun xv s₁ h₁ => ?_) fun _ _ e => e)
  obtain ⟨l, items, n, news, bs, rfl, hh, F, N, hm, hsz, hbs, turn, fin⟩ := h₁
  refine gives_list hh N hm _ fun o fp St W st hfp hIo hSt => ?_
  have N₂ : News h₀ L (s₁.heap.push o) news := fun p hp => ⟨Heap.get?_push_of_some _ (N p hp).1, (N p hp).2⟩
  have F₂ : Fr h₀ L (s₁.heap.push o) m := F.push o
  have hS : LCg.SrcAt h₀ l items.toArray news := .inr ⟨_, hm, rfl, _, rfl⟩
  have hIL : L ≠ s₁.heap.objs.size := Nat.ne_of_lt F.ns.lt
  have hI₀ : h₀.get? s₁.heap.objs.size = none := next_is_new F
  have off : ∀ p ∈ news, p.1 ≠ s₁.heap.objs.size := fun p hp => Nat.ne_of_lt (Heap.lt_size (N p hp).1)
  generalize hIe : s₁.heap.objs.size = I at *
  generalize hH1 : s₁.heap.push o = H1 at *
  refine wpAny_newObj_type (wpAny_newFunctionEnv hcell (by intro y hy; simp at hy) (fun h₁ hns₁ hsb₁ => ?_) hkind)
  dsimp only at hns₁ hsb₁ ⊢
  generalize hH2 : H1.push { cls := .type "list", dict := none, data := .seq ([] : List Value).toArray } = H2 at hns₁ hsb₁ ⊢
  have hC : H2.objs.size = H1.objs.size + 1 := by rw [← hH2, Heap.size_push]
  have hDC : H1.objs.size ≠ H2.objs.size := by rw [hC]; exact Nat.ne_of_lt (Nat.lt_succ_self _)
  have below : ∀ b, b < H1.objs.size → b ≠ H2.objs.size ∧ b ≠ H1.objs.size := fun b hb => ⟨by rw [hC]; exact Nat.ne_of_lt (Nat.lt_succ_of_lt hb), Nat.ne_of_lt hb⟩
  have hDf : H1.objs.size ∉ fp := fun hm => Nat.lt_irrefl _ (hfp _ hm)
  have hCf : H2.objs.size ∉ fp := fun hm => by have := hfp _ hm; rw [hC] at this; exact Nat.lt_irrefl _ (Nat.lt_of_succ_lt this)
  have hIlt : I < H1.objs.size := hfp I (W.sub I (List.mem_singleton.mpr rfl))
  have old : ∀ b o, H1.get? b = some o → h₁.get? b = some o := fun b o e => hsb₁.extBut b o (below b (Heap.lt_size e)).1 (Heap.get?_push_of_some _ (hH2 ▸ Heap.get?_push_of_some _ e))
  have hacc : h₁.get? H1.objs.size = some (LCg.lst []) := hsb₁.extBut _ _ hDC (Heap.get?_push_of_some _ (hH2 ▸ Heap.get?_push_size _ rfl))
  have hst₁ : St 0 h₁ := W.frame _ _ _ st fun b _ o e => old b o e
  have fresh₀ : ∀ a, H1.objs.size ≤ a → h₀.get? a = none := fun a ha => by
    cases e : h₀.get? a with
    | none => rfl
    | some o' => exact absurd (Heap.lt_size (F₂.keep a o' e)) (Nat.not_lt.mpr ha)
  have hD₀ : h₀.get? H1.objs.size = none := fresh₀ _ (Nat.le_refl _)
  have hC₀ : h₀.get? H2.objs.size = none := fresh₀ _ (by rw [hC]; exact Nat.le_succ _)
  have hLlt : L < H1.objs.size := F₂.ns.lt
  have hDL : H1.objs.size ≠ L := Ne.symm (below L hLlt).2
  have hCL : H2.objs.size ≠ L := Ne.symm (below L hLlt).1
  have hCI : I ≠ H2.objs.size := (below I hIlt).1
  have hDI : I ≠ H1.objs.size := (below I hIlt).2
  have off₀ : LCg.Off3 I H2.objs.size H1.objs.size news := LCg.Off3.of fun p hp => ⟨off p hp, (below _ (Heap.lt_size (N₂ p hp).1)).1, (below _ (Heap.lt_size (N₂ p hp).1)).2⟩
  have off3 := off₀.mem
  have N₁ : News h₀ L h₁ ((H1.objs.size, LCg.lst []) :: news) := fun p hp => by
    rcases List.mem_cons.mp hp with rfl | hp
    · exact ⟨hacc, hDL, hD₀⟩
    · exact ⟨old _ _ (N₂ p hp).1, (N₂ p hp).2⟩
  have loop : ∀ s₃ : Shared, (∃ tk, s₃ = { s₁ with heap := h₁, toks := tk }) →
      codeK (model prog w) A (.compLoop (.ListComp elt [⟨.Name x px, iter, [], 0⟩] scope pos) 0 (.ref I) (.ref H1.objs.size) (compEnvC scope cl H2.objs.size env))
        (fun _ s' => ∃ m, s'.heap.Ns H2.objs.size m ∧ ∀ h', Heap.SameBut H2.objs.size s'.heap h' → Q (.ref H1.objs.size) { s' with heap := h' }) s₃ := by
    rintro s₃ ⟨tk₀, rfl⟩
    refine compLoopK
      (fun k s' => ∃ h' tk i ys m', s' = { s₁ with heap := h', toks := tk } ∧ i ≤ items.length ∧ k = items.length + 1 - i ∧ BytesAre ys (bs.take i) ∧ St i h' ∧ Fr h₀ L h' m ∧ h'.Ns H2.objs.size m' ∧ News h₀ L h' ((H1.objs.size, LCg.lst ys) :: news)) ?_ (items.length + 1)
      ⟨h₁, tk₀, 0, [], _, rfl, Nat.zero_le _, rfl, .nil, hst₁, F₂.keeps old, hns₁, N₁⟩
    rintro k s' ⟨h', tk, i, ys, m', rfl, hi, rfl, hys, hst', F', hn', N'⟩
    by_cases hlt : i < items.length
    · refine W.item i _ _ _ (by simpa using hlt) hst' fun v h₂ tk₂ hPv hst₂ hk₂ => ?_
      refine wpAny_assign_Name (wpAny_storeName_local (lookup_relabel_local hx) (hn'.at' fun o e => hk₂ _ o (by simpa using Ne.symm hCI) e) (fun h₃ hn₃ hs₃ => ?_) (by simp [compEnvC, relabel, hkind]))
      have hst₃ : St (i + 1) h₃ := W.frame _ _ _ hst₂ fun b hb o e => hs₃.extBut b o (fun q => hCf (by have q' : b = H2.objs.size := q; rw [← q']; exact hb)) e
      obtain ⟨oI, heI⟩ := hIo _ _ hst₃
      obtain ⟨oC, heC, hoC⟩ := LCg.ns_obj hn₃
      have F₃ : Fr h₀ L h₃ m := (LCg.fr_but F' hk₂ hIL hI₀).change hs₃ hCL hC₀
      have N₂ : News h₀ L h₂ ((H1.objs.size, LCg.lst ys) :: news) := LCg.news_but N' hk₂ fun p hp => by
        rcases List.mem_cons.mp hp with rfl | hp
        · exact Ne.symm hDI
        · exact (off3 p hp).1
      have N₃ : News h₀ L h₃ ((I, oI) :: (H2.objs.size, oC) :: (H1.objs.size, LCg.lst ys) :: news) := fun p hp => by
        rcases List.mem_cons.mp hp with rfl | hp
        · exact ⟨heI, Ne.symm hIL, hI₀⟩
        · rcases List.mem_cons.mp hp with rfl | hp
          · exact ⟨heC, hCL, hC₀⟩
          · have z := N₂ p hp
            refine ⟨hs₃.extBut _ _ ?_ z.1, z.2⟩
            rcases List.mem_cons.mp hp with rfl | hp
            · exact hDC
            · exact (off3 p hp).2.1
      have hlt' : i < bs.length := by rw [hbs]; exact hlt
      have hb : bs[i]? = some bs[i] := List.getElem?_eq_getElem hlt'
      refine wpK_mono (turn i v bs[i] I oI H2.objs.size oC H1.objs.size _ ys h₃ _ (by simpa using hPv) hb hoC (by simp) F₃ N₃ off₀ ⟨hCI, hDI, Ne.symm hDC⟩) (fun y s₄ h₄ => ?_)
      obtain ⟨h₄, tk₄, t, rfl, F₄, N₄, rfl⟩ := h₄
      have zI := (N₄ (I, oI) List.mem_cons_self).1
      have zC := (N₄ (H2.objs.size, oC) (List.mem_cons_of_mem _ List.mem_cons_self)).1
      have zD := (N₄ (H1.objs.size, LCg.lst ys) (List.mem_cons_of_mem _ (List.mem_cons_of_mem _ List.mem_cons_self))).1
      have N₄' : News h₀ L h₄ news := fun p hp => N₄ p (List.mem_cons_of_mem _ (List.mem_cons_of_mem _ (List.mem_cons_of_mem _ hp)))
      have hst₄ : St (i + 1) h₄ := hSt _ _ _ _ _ hst₃ heI zI F₄.keep N₄' hS
      have hyl : ys.length = i := by rw [hys.len, List.length_take]; omega
      refine append_at (hsz := by show ys.toArray.size ≤ sizeLine; rw [List.size_toArray, hyl]; exact Nat.le_trans hi hsz) zD fun h₅ hs₅ hD₅ => ?_
      refine ⟨items.length + 1 - (i + 1), by omega, h₅, tk₄, i + 1, ys ++ [.bytes bs[i] t], _, rfl, hlt, rfl, ?_, W.frame _ _ _ hst₄ fun b hb o e => hs₅.extBut b o (fun q => hDf (q ▸ hb)) e, F₄.change hs₅ hDL hD₀,
        (hoC.ns zC).sameBut hs₅ (Ne.symm hDC), fun p hp => ?_⟩
      · rw [List.take_add_one, hb]
        exact hys.snoc
      · rcases List.mem_cons.mp hp with rfl | hp
        · exact ⟨hD₅.trans (congrArg some (LCg.lst_snoc ys _)), hDL, hD₀⟩
        · exact ⟨hs₅.extBut _ _ (off3 p hp).2.2 (N₄' p hp).1, (N₄' p hp).2⟩
    · obtain rfl : i = items.length := Nat.le_antisymm hi (Nat.not_lt.mp hlt)
      refine W.done _ _ _ (by simpa using hst') fun h₂ tk₂ hk₂ => ?_
      rw [List.take_of_length_le (by omega)] at hys
      have N₂ : News h₀ L h₂ ((H1.objs.size, LCg.lst ys) :: news) := LCg.news_but N' hk₂ fun p hp => by
        rcases List.mem_cons.mp hp with rfl | hp
        · exact Ne.symm hDI
        · exact (off3 p hp).1
      refine ⟨m', hn'.at' fun o e => hk₂ _ o (by simpa using Ne.symm hCI) e, fun h'' hs'' => fin _ h'' tk₂ ys ((LCg.fr_but F' hk₂ hIL hI₀).change hs'' hCL hC₀) (fun p hp => ?_) hys⟩
      refine ⟨hs''.extBut _ _ ?_ (N₂ p hp).1, (N₂ p hp).2⟩
      rcases List.mem_cons.mp hp with rfl | hp
      · exact hDC
      · exact (off3 p hp).2.1
  exact compStartK (loop _ ⟨_, rfl⟩) (W.self 0 _ _ _ hst₁ (loop _ ⟨_, rfl⟩))
end
end Mine
end
section
open PySem PySem.W PySem.Calls PyProof.Rows
namespace Mine
section
variable {prog : Program} {w : World} {A : Around} {E : Value → Shared → Prop} {s : Shared} {h₀ : Heap} {m : Str → Option Value} {env : Env}
theorem reg16 : True := by
  w_top off
  trivial
/-- x = [..] with a test: its list is stored by the comprehension itself -/
theorem lca_test {ct elt iter : Expr} {x y : Str} {px py : Pos} {scope : Scope} {cl : List (Str × Addr)} {pos spos : Pos} {Q : Flow → Shared → Prop} (_F : Fr h₀ env.locals s.heap m)
    (hsw : swapsWith (.ListComp elt [⟨.Name x px, iter, [ct], 0⟩] scope pos) (some (.Name y py)) spos.line env = pure true)
    (hclos : closureFor scope env = pure cl) (hcell : ∀ z ∈ scope.names, z.2 ≠ .cell) (hkind : scope.kind = .function)
    (hnames : ∀ z ∈ scope.names, z.2 = .local → scope.names.lookup z.1 = some .local) (hx : scope.names.lookup x = some .local)
    (hy : env.kindOf y = some .local) (hp : (env.scope.kind == .class || (env.scope.kind == .module && env.locals != env.globals)) = false) (hs : ∀ x, foldedSetIterable iter env x = pure x)
    (h : wpAny (model prog w) A (eval iter env) (Src prog w A E h₀ env.locals m fun S n P news s₂ => LCt.CompRestT prog w A h₀ env.locals m env ct elt x scope cl s₂ S P (LCg.FinA h₀ env.locals m s₂ y Q) n 0 [] news) E s) :
    wpAny (model prog w) A (exec (.Assign [.Name y py] (.ListComp elt [⟨.Name x px, iter, [ct], 0⟩] scope pos) spos) env) Q E s := by
  rw [exec_Assign_Name_used _ _ _ _ hsw]
  refine wpAny_bind (wpAny_standAt (wpAny_bind ?_))
  show wpAny _ A (do let _ ← comprehension (.ListComp elt [⟨.Name x px, iter, [ct], 0⟩] scope pos) scope env _ (newList []) false (eval iter env) (some (assign (.Name y py) env))) _ _ s
  refine wpAny_bind (wpAny_mono (wpAny_comprehension_free (use := some (assign (.Name y py) env)) (Q := fun _ s' => Q .next s') rfl hs hclos hkind hnames
    (wpAny_mono h (fun xv s₁ h₁ => ?_) fun _ _ e => e)) (fun _ s' hq => wpAny_pure (wpAny_pure hq)) fun _ _ e => e)
  obtain ⟨S, news, n, P, F, N, hsz, hS, G, R⟩ := h₁
  refine G _ fun o fp St W st hfp hIo hSt => ?_
  refine LCt.block_T W hsz hIo hSt hcell hkind hx st hfp (F.push o) (fun p hp => ⟨Heap.get?_push_of_some _ (N p hp).1, (N p hp).2⟩) (Nat.ne_of_lt F.ns.lt) (next_is_new F) (fun p hp => Nat.ne_of_lt (Heap.lt_size (N p hp).1)) hS (R _) ?_
  intro D C h' tk m' ys news' F' N' o1 hn hC₀ hD₀ hCL hDL hCD offC fin
  show wpAny _ A (assign (.Name y py) env (.ref D)) _ _ _
  refine wpAny_assign_Name (wpAny_storeName_local hy F'.ns (fun h₂ hn₂ hs₂ => ?_) hp)
  have F₂ : Fr h₀ env.locals h₂ (fun z => if z = y then some (.ref D) else m z) := F'.set hn₂ hs₂
  refine ⟨m', hn.sameBut hs₂ hCL, fun h'' hs'' => fin D h'' _ (F₂.change hs'' hCL hC₀) (fun p hp => ?_) o1⟩
  have z : h₂.get? p.1 = some p.2 := hs₂.extBut _ _ (N' p hp).2.1 (N' p hp).1
  refine ⟨hs''.extBut _ _ ?_ z, (N' p hp).2⟩
  rcases List.mem_cons.mp hp with rfl | hp
  · exact Ne.symm hCD
  · exact offC p hp
theorem src_bytesG {L : Addr} {ct elt : Expr} {y : Str} {scope : Scope} {cl : List (Str × Addr)} {news : List (Addr × Obj)} {β : Type} {b : Array UInt8} {tb : Tok} (Fin : Shared → List Value → List (Addr × Obj) → Prop) (mk : β → Tok → Value) (g : UInt8 → β) (p : UInt8 → Bool) (hh : A.handled = none) (F : Fr h₀ L s.heap m) (N : News h₀ L s.heap news) (hsz : b.size ≤ sizeLine)
    (test : ∀ (c : UInt8) t I oI C oC D m₂ ys h tk (E' : Value → Shared → Prop), c ∈ b.toList → LCg.NsObj oC m₂ → m₂ y = some (.int (c.toNat : Int) t) → Fr h₀ L h m → News h₀ L h ((I, oI) :: (C, oC) :: (D, LCg.lst ys) :: news) → LCg.Off3 I C D news → Ne3 I C D →
      wpAny (model prog w) A (isTrue ct (compEnvC scope cl C env) (eval ct (compEnvC scope cl C env))) (TestOk h₀ L m { s with heap := h, toks := tk } ((I, oI) :: (C, oC) :: (D, LCg.lst ys) :: news) (p c)) E' { s with heap := h, toks := tk })
    (turn : ∀ (c : UInt8) t I oI C oC D m₂ ys h tk (E' : Value → Shared → Prop), c ∈ b.toList → p c = true → LCg.NsObj oC m₂ → m₂ y = some (.int (c.toNat : Int) t) → Fr h₀ L h m → News h₀ L h ((I, oI) :: (C, oC) :: (D, LCg.lst ys) :: news) → LCg.Off3 I C D news → Ne3 I C D →
      wpAny (model prog w) A (eval elt (compEnvC scope cl C env)) (TurnOk h₀ L m { s with heap := h, toks := tk } ((I, oI) :: (C, oC) :: (D, LCg.lst ys) :: news) (mk (g c))) E' { s with heap := h, toks := tk })
    (fin : ∀ f ys, AllAre mk g ys (b.toList.filter p) → Fin { s with heap := f } ys news) :
    Src prog w A E h₀ L m (fun S n P news s₂ => LCt.CompRestT prog w A h₀ L m env ct elt y scope cl s₂ S P (Fin s₂) n 0 [] news) (.bytes b tb) s :=
  ⟨fun _ => True, news, _, _, F, N, hsz, trivial, gives_bytes hh b tb, fun f => rest_test (cs := b.toList) (item := fun c v => ∃ t, v = .int (c.toNat : Int) t) mk g p (by simp) (fun i v _ ⟨c, u, hc, hv⟩ => ⟨c, by simpa using hc, u, hv⟩) trivial
    (fun c v I oI C oC D m₂ ys h tk E' hm ⟨t, hv⟩ hC hx F N off ne => test c t I oI C oC D m₂ ys h tk E' hm hC (hv ▸ hx) F N off ne)
    (fun c v I oI C oC D m₂ ys h tk E' hm hp ⟨t, hv⟩ hC hx F N off ne => turn c t I oI C oC D m₂ ys h tk E' hm hp hC (hv ▸ hx) F N off ne) (fin f)⟩
end
end Mine
end
section
open PySem PySem.W PySem.Spec PySem.Calls PyProof.Rows
namespace Mine
theorem reg17 : True := by
  w_top off
  trivial
theorem log2_many {b : Int} (h0 : 0 < b) (h : b ≤ 1000000000000000000) : b.natAbs.log2 < 9000 := by
  refine (Nat.log2_lt (by omega)).mpr ?_
  have h2 : b.natAbs < 2 ^ 60 := by omega
  exact Nat.lt_of_lt_of_le h2 (Nat.pow_le_pow_right (by decide) (by decide))
theorem reg18 : True := by
  (k_with "binaryOp FloorDiv int int" => (k_here; (with_reducible refine floordiv_int ?hz_kbe ?_ (Or.inl (PyProof.noPylong_of_log2 ?hz_kbp))); (case hz_kbe => omega); (case hz_kbp => exact log2_many (by omega) (by omega))))
  trivial
theorem fm0 {a b : Int} (h : 0 < b) : 0 ≤ a.fmod b := by rw [Int.fmod_eq_emod_of_nonneg _ (by omega)]; exact Int.emod_nonneg _ (by omega)
theorem fm1 {a b : Int} (h : 0 < b) : a.fmod b < b := by rw [Int.fmod_eq_emod_of_nonneg _ (by omega)]; exact Int.emod_lt_of_pos _ h
theorem fd0 {a b : Int} (h : 0 ≤ a) (h' : 0 < b) : 0 ≤ a.fdiv b := by rw [Int.fdiv_eq_ediv_of_nonneg _ (by omega)]; exact Int.ediv_nonneg h (by omega)
theorem set_gen {M : Model} {A : Around} {E : Value → Shared → Prop} {s : Shared} {D : Addr} {k v : Int} {t u : Tok} {Q : Unit → Shared → Prop} (h : ∀ x u', x = v → wpAny M A (setItem (.ref D) (.int k t) (.int x u')) Q E s) : wpAny M A (setItem (.ref D) (.int k t) (.int v u)) Q E s := h v u rfl
theorem reg19 : True := by
  (k_with "setItem ref int" => (k_here; k_dflt (refine set_gen ?_; intro x' u' hx'; refine' ki_set ?hz_F ?hz_N ?hz_a ?hz_b ?hz_e ?hz_U ?_; (case hz_F => k_asm); (case hz_N => k_asm); (case hz_U => k_upd); (case hz_a => decide); (case hz_b => decide); (case hz_e => rfl)); ki_rest))
  (k_with "execs cons" => (k_here; dsimp only))
  (k_with "execs nil" => (k_here; dsimp only))
  trivial
set_option maxRecDepth 100000 in
set_option maxHeartbeats 2000000 in
theorem draw (w : World) (P C : Addr) (cells : List Value) (ns : List Int) (p1 p2 p3 many : Int) (t1 t2 t3 tm : Tok) (e e' : Nat) (rest : List (Addr × Obj))
   (hc : IntsAre cells ns) (hn : ns.length ≤ 63) (h1 : 0 ≤ p1) (h1' : p1 ≤ 1000) (h2 : 0 ≤ p2) (h3 : 0 ≤ p3) (h3' : p3 ≤ 1008) (hm : 2 ≤ many) (hm' : many ≤ 1000000000000000000) (hPC : C ≠ P) (hP : ∀ q ∈ rest, q.1 ≠ P) :
   Ret PySem.Challenge.rw_nz0288_01.row.prog w (Mine.top.heap_1_39 w.params) Mine.top.view_1_40 LS 283 1 
    ((P, listOf #[.ref C, .int p1 t1, .int p2 t2, .int p3 t3] e) :: (C, listOf cells.toArray e') :: rest) [.ref P, .int many tm]
     (fun news' r => ∃ d t p1' t1' p2' t2' t3' e'', r = .int d t ∧ 0 ≤ d ∧ d < many ∧ news' = ((P, listOf #[.ref C, .int p1' t1', .int p2' t2', .int p3 t3'] e'') :: (C, listOf cells.toArray e') :: rest) ∧ 0 ≤ p1' ∧ p1' ≤ p1 + 1 ∧ 0 ≤ p2') := by
  k_fill
  unfold Ret
  intro mean mg mb dp un gd cn cs a ccd cl outer A₀ base h₀ L m s Q E B F X N T hk hd hu hret
  refine wpAny_call ?_
  k_dflt ktr_enter
  repeat' (first | (k_unfold; (try dsimp only)) | (first | walk1 | (dsimp only; walk1)) | fail "no step")
  all_goals (refine hret _ _ _ _ (by k_asm) (by k_asm) ⟨_, _, _, _, _, _, _, _, rfl, fm0 (by omega), fm1 (by omega), rfl, ?_, ?_, ?_⟩)
  all_goals (first | omega | ((rename _ = Int.fdiv _ _ => hq); rw [hq]; exact fd0 (by omega) (by omega)))
end Mine
end
section
open PySem PySem.W PySem.Spec PySem.Calls PyProof.Rows
namespace Mine
theorem reg20 : True := by
  w_top off
  k_with_none
  (k_with "execs cons" => (k_here; dsimp only))
  (k_with "execs nil" => (k_here; dsimp only))
  trivial
noncomputable def octs (x : Str) : Array UInt8 := (x.cps.toList.map fun c => c.toUInt8).toArray
theorem no_big {x : Str} {k : Int} (ha : ∀ c ∈ x.cps.toList, c < 128) : ¬ (127 < (((Txt.item x k).cps.getD 0 0 : Nat) : Int)) := by
  have key : (Txt.item x k).cps.getD 0 0 < 128 := by
    show (Txt.charAt x k).getD 0 < 128
    unfold Txt.charAt
    cases h : (seqIndex? k x.length).bind (x.cps[·]?) with
    | none => decide
    | some c =>
      obtain ⟨i, _, hi⟩ := Option.bind_eq_some_iff.mp h
      exact ha c (by have := Array.mem_of_getElem? hi; simpa using this)
  omega
theorem In_octs {x : Str} (ha : ∀ c ∈ x.cps.toList, c < 128) : KBa.In (x.cps.toList.map fun c : Nat => (c : Int)) := by
  intro n hn
  obtain ⟨c, hc, rfl⟩ := List.mem_map.mp hn
  have := ha c hc
  omega
theorem byteArr_octs {x : Str} : byteArr (x.cps.toList.map fun c : Nat => (c : Int)) = octs x := by
  unfold byteArr octs
  rw [List.map_map]
  rfl
theorem reg21 : True := by
  (k_with "pyIter ref" => ((with_reducible show wpAny _ _ (pyIter (Value.ref _)) (fun it s₂ => LoopAtV _ _ _ _ _ _ _ _ _ it s₂) _ _); k_here; (rename Fr _ _ _ _ => lF'); (rename News _ _ _ _ => lN'); (rename IsRange _ _ _ _ _ _ _ _ => rgX); (with_unfolding_all refine' range_same (by rfl) rgX ?hz_sm ?hz_sz lF' lN' (fun k' t' h' tk' own' hlo' hhi' F' N' => ?_) (fun u' h' tk' F' N' => ?_)); (case hz_sm => exact small_one (by l_bnd) (by l_bnd) (by l_bnd) (by l_bnd)); (case hz_sz => exact rangeSize_nat _ _); (all_goals (try clear lF' lN'))))
  (k_with "exec Raise some none" => (exfalso; exact absurd (by assumption) (no_big (by assumption))))
  (k_with "SameEnd" => exact ⟨rfl, _, _, rfl, by k_asm, by k_asm⟩)
  (k_with "eval ListComp" => (k_here; k_dflt (refine lc_any (by k_asm) (by rfl) (by decide) (by rfl) (by decide) (by rfl) (by intro _; rfl) ?_)))
  (k_with "Src" => (k_here; k_dflt (refine' src_str Value.int (fun c : Nat => (c : Int)) (by rfl) ?hz_F ?hz_N ?hz_sz (fun c' t' I' oI' C' oC' D' m' ys' h' tk' E' hm' hC' hx' F' N' off' ne' => ?_) (fun g' ys' hy' => ?_); (case hz_F => k_asm); (case hz_N => k_asm); (case hz_sz => rw [sizeLine_eq]; omega))))
  (k_with "call type:bytes" => (k_here; k_dflt (refine' KBa.make_K ?hz_F ?hz_N (by rfl) ?hz_l (AllAre.ints (by assumption)) (In_octs (by assumption)) ?hz_z ?_; (case hz_F => k_asm); (case hz_N => k_asm); (case hz_l => exact News.isList (by k_asm) (by k_mem)); (case hz_z => rw [List.length_map, Array.length_toList]; exact Nat.le_trans (by assumption) (by decide)); intro h' t' k' F' N' _; rw [byteArr_octs]; (try k_sweep))))
  (k_with "TurnOk" => exact ⟨_, _, _, rfl, by k_asm, by k_asm, rfl⟩)
  trivial
set_option maxRecDepth 100000 in
set_option maxHeartbeats 8000000 in
theorem text_octets (w : World) (news : List (Addr × Obj)) (x : Str) (tx : Tok) (ha : ∀ c ∈ x.cps.toList, c < 128) (hl : x.length ≤ 1000) :
   Ret PySem.Challenge.rw_nz0288_01.row.prog w (Mine.top.heap_1_39 w.params) Mine.top.view_1_40 LS 138 1 news [.str x tx]
     (fun news' r => news' = news ∧ ∃ t, r = .bytes (octs x) t) := by
  k_fill
  unfold Ret
  intro mean mg mb dp un gd cn cs a ccd cl outer A₀ base h₀ L m s Q E B F X N T hk hd hu hret
  refine wpAny_call ?_
  k_dflt ktr_enter
  repeat' (first | (k_unfold; (try dsimp only)) | (first | walk1 | (dsimp only; walk1)) | fail "no step")
  all_goals (refine hret _ news _ _ (by k_asm) (by first | k_asm | exact ntl (by k_asm)) ⟨rfl, _, rfl⟩)
end Mine
end
section
open PySem PySem.W PySem.Spec PySem.Calls PyProof.Rows
namespace Mine
theorem reg22 : True := by
  w_top off
  k_with_none
  (k_with "execs cons" => (k_here; dsimp only))
  (k_with "execs nil" => (k_here; dsimp only))
  trivial
noncomputable def upc (c : Nat) : Nat := if 97 ≤ c ∧ c ≤ 122 then c - 32 else c
noncomputable def upText (x : Str) : Str := ⟨(x.cps.toList.map upc).toArray⟩
noncomputable def one (c : Nat) : Str := ⟨#[c]⟩
theorem lt_a {c : Nat} : (({ cps := #[c] } : Str).cps.toList < (Str.ofString "a").cps.toList) ↔ c < 97 := by
  have e : (Str.ofString "a").cps.toList = [97] := by decide
  rw [e]
  show ([c] : List Nat) < [97] ↔ _
  rw [List.cons_lt_cons_iff]
  simp
theorem gt_z {c : Nat} : ((Str.ofString "z").cps.toList < ({ cps := #[c] } : Str).cps.toList) ↔ 122 < c := by
  have e : (Str.ofString "z").cps.toList = [122] := by decide
  rw [e]
  show ([122] : List Nat) < [c] ↔ _
  rw [List.cons_lt_cons_iff]
  simp
noncomputable abbrev LtA (c : Nat) : Prop := ({ cps := #[c] } : Str).cps.toList < (Str.ofString "a").cps.toList
noncomputable abbrev GtZ (c : Nat) : Prop := (Str.ofString "z").cps.toList < ({ cps := #[c] } : Str).cps.toList
theorem chr_up {c : Nat} (h : ¬ LtA c) (h' : ¬ GtZ c) : ((c : Int) - 32).toNat = upc c := by
  have h1 : ¬ c < 97 := fun q => h (lt_a.mpr q)
  have h2 : ¬ 122 < c := fun q => h' (gt_z.mpr q)
  unfold upc
  rw [if_pos ⟨by omega, by omega⟩]
  omega
theorem chr_lo {c : Nat} (h : ¬ LtA c) : 0 ≤ (c : Int) - 32 := by
  have h1 : ¬ c < 97 := fun q => h (lt_a.mpr q)
  omega
theorem chr_hi {c : Nat} (h : ¬ GtZ c) : (c : Int) - 32 ≤ 1114111 := by
  have h2 : ¬ 122 < c := fun q => h (gt_z.mpr q)
  omega
theorem up_lo {c : Nat} (h : LtA c) : c = upc c := by
  have h1 : c < 97 := lt_a.mp h
  unfold upc
  rw [if_neg (by omega)]
theorem up_hi {c : Nat} (h : GtZ c) : c = upc c := by
  have h1 : 122 < c := gt_z.mp h
  unfold upc
  rw [if_neg (by omega)]
theorem join_one (cs : List Nat) (f : Nat → Nat) : Txt.join (Str.ofString "") (cs.map fun c => one (f c)) = ⟨(cs.map f).toArray⟩ := by
  have key : ∀ (l : List Nat) (acc : Array Nat), ((l.map fun c => one (f c)).foldl (fun acc p => acc ++ (Str.ofString "").cps ++ p.cps) acc) = acc ++ (l.map f).toArray := by
    intro l
    induction l with
    | nil => intro acc; simp
    | cons a r ih =>
      intro acc
      have e0 : (Str.ofString "").cps = #[] := by decide
      rw [List.map_cons, List.foldl_cons, ih, e0, Array.append_empty, List.map_cons]
      show acc ++ #[f a] ++ (r.map f).toArray = acc ++ (f a :: r.map f).toArray
      rw [Array.append_assoc]
      simp
  unfold Txt.join Builtin.Str.glued
  cases cs with
  | nil => rfl
  | cons a r =>
    have := key r (one (f a)).cps
    show (⟨((r.map fun c => one (f c)).foldl (fun acc p => acc ++ (Str.ofString "").cps ++ p.cps) (one (f a)).cps)⟩ : Str) = _
    rw [this, List.map_cons]
    show (⟨#[f a] ++ (r.map f).toArray⟩ : Str) = _
    simp
theorem join_size {x : Str} {f : Nat → Nat} (hl : x.length ≤ 1000) : ((x.cps.toList.map fun c => one (f c)).map (·.length)).sum + (x.cps.toList.map fun c => one (f c)).length * 64 ≤ 16777216 := by
  have e : ∀ l : List Nat, ((l.map fun c => one (f c)).map (·.length)).sum = l.length := by
    intro l
    induction l with
    | nil => rfl
    | cons a r ih => simp only [List.map_cons, List.sum_cons, List.length_cons, ih]; show 1 + r.length = r.length + 1; omega
  have h : x.cps.toList.length ≤ 1000 := by rw [Array.length_toList]; exact hl
  rw [e, List.length_map]
  omega
theorem reg23 : True := by
  (k_with "eval ListComp" => (k_here; k_dflt (refine lc_any (by k_asm) (by rfl) (by decide) (by rfl) (by decide) (by rfl) (by intro _; rfl) ?_)))
  (k_with "Src" => (k_here; k_dflt (refine' src_str Value.str (fun c => one (upc c)) (by rfl) ?hz_F ?hz_N ?hz_sz (fun c' t' I' oI' C' oC' D' m' ys' h' tk' E' hm' hC' hx' F' N' off' ne' => ?_) (fun g' ys' hy' => ?_); (case hz_F => k_asm); (case hz_N => k_asm); (case hz_sz => rw [sizeLine_eq]; omega))))
  (k_with "call builtin:chr" => (k_here; (with_unfolding_all refine chr_of_range (chr_lo (by assumption)) (chr_hi (by assumption)) ?_)))
  trivial
theorem turn_str {c d : Nat} {t : Tok} (h : c = d) : Value.str ⟨#[c]⟩ t = Value.str (one d) t := by rw [h]; rfl
theorem reg24 : True := by
  (k_with "TurnOk" => (refine ⟨_, _, _, rfl, by k_asm, by k_asm, turn_str ?_⟩; with_unfolding_all first | exact up_lo (by assumption) | exact up_hi (by assumption) | exact chr_up (by assumption) (by assumption)))
  (k_with "call builtin:str.join" => (k_here; k_dflt (refine' join_listC (News.isList (by k_asm) (by k_mem)) (AllAre.strsAre (by assumption)) ?hz_a ?hz_b ?_; (case hz_a => decide); (case hz_b => exact join_size (by assumption)); intro t' k'; rw [join_one])))
  trivial
set_option maxRecDepth 100000 in
set_option maxHeartbeats 8000000 in
theorem upper_text (w : World) (news : List (Addr × Obj)) (x : Str) (tx : Tok) (ha : ∀ c ∈ x.cps.toList, c < 128) (hl : x.length ≤ 1000) :
   Ret PySem.Challenge.rw_nz0288_01.row.prog w (Mine.top.heap_1_39 w.params) Mine.top.view_1_40 LS 133 1 news [.str x tx]
     (fun news' r => news' = news ∧ ∃ t, r = .str (upText x) t) := by
  k_fill
  unfold Ret
  intro mean mg mb dp un gd cn cs a ccd cl outer A₀ base h₀ L m s Q E B F X N T hk hd hu hret
  refine wpAny_call ?_
  k_dflt ktr_enter
  repeat' (first | (k_unfold; (try dsimp only)) | (first | walk1 | (dsimp only; walk1)) | fail "no step")
  all_goals (refine hret _ news _ _ (by k_asm) (by first | k_asm | exact ntl (by k_asm)) ⟨rfl, _, rfl⟩)
end Mine
end
section
open PySem PySem.W PySem.Spec PySem.Calls PyProof.Rows
namespace Mine
theorem reg25 : True := by
  w_top off
  k_with_none
  (k_with "execs cons" => (k_here; dsimp only))
  (k_with "execs nil" => (k_here; dsimp only))
  (k_with "call ref" => (k_here; (with_reducible show wpAny _ _ (call (Value.ref 138) _) _ _ _); k_dflt (refine' ret_use (text_octets _ _ _ _ ?hz_ha ?hz_hl) ?hz_k1 ?hz_k2 ?hz_k3 ?hz_k4 ?hz_k5 ?hz_kK ?hz_kd ?hz_ku ?_; (case hz_k1 => k_asm); (case hz_k2 => k_asm); (case hz_k3 => k_asm); (case hz_k4 => k_asm); (case hz_k5 => k_asm); (case hz_kK => first | exact rfl | assumption); (case hz_ha => first | assumption | decide +kernel); (case hz_hl => first | assumption | decide +kernel); (case hz_kd => ktr_room); (case hz_ku => ktr_units)); intro r9 news9 h9 tk9 F9 N9 hp9; obtain ⟨e8, t9, e9⟩ := hp9; replace e8 := e8.symm; subst e8; subst e9))
  (k_with "call ref" => (k_here; (with_reducible show wpAny _ _ (call (Value.ref 133) _) _ _ _); k_dflt (refine' ret_use (upper_text _ _ _ _ ?hz_ha ?hz_hl) ?hz_k1 ?hz_k2 ?hz_k3 ?hz_k4 ?hz_k5 ?hz_kK ?hz_kd ?hz_ku ?_; (case hz_k1 => k_asm); (case hz_k2 => k_asm); (case hz_k3 => k_asm); (case hz_k4 => k_asm); (case hz_k5 => k_asm); (case hz_kK => first | exact rfl | assumption); (case hz_ha => first | assumption | decide +kernel); (case hz_hl => first | assumption | decide +kernel); (case hz_kd => ktr_room); (case hz_ku => ktr_units)); intro r9 news9 h9 tk9 F9 N9 hp9; obtain ⟨e8, t9, e9⟩ := hp9; replace e8 := e8.symm; subst e8; subst e9))
  trivial
noncomputable def flagNm : Nat → Str
  | 0 => Str.ofString "\\Seen"
  | 1 => Str.ofString "\\Answered"
  | 2 => Str.ofString "work"
  | _ => Str.ofString "$Junk"
noncomputable def flagTx : Nat → Str
  | 0 => Str.ofString "SEEN"
  | 1 => Str.ofString "ANSWERED"
  | 2 => Str.ofString "KEYWORD work"
  | _ => Str.ofString "KEYWORD $Junk"
set_option maxRecDepth 100000 in
set_option maxHeartbeats 8000000 in
theorem show_flag (w : World) (news : List (Addr × Obj)) (i : Nat) (hi : i < 4) (x : Str) (tx ti : Tok) (ha : x = Str.ofString "" ∨ x = Str.ofString "UN") :
   Ret PySem.Challenge.rw_nz0288_01.row.prog w (Mine.top.heap_1_39 w.params) Mine.top.view_1_40 LS 233 2 news [.str (flagNm i) ti, .str x tx]
     (fun news' r => news' = news ∧ ∃ t, r = .bytes (octs (x ++ flagTx i)) t) := by
  k_fill
  unfold Ret
  intro mean mg mb dp un gd cn cs a ccd cl outer A₀ base h₀ L m s Q E B F X N T hk hd hu hret
  rcases ha with rfl | rfl <;> rcases i with _ | _ | _ | _ | i <;> first | (exfalso; omega) | dsimp only [flagNm]
  all_goals refine wpAny_call ?_
  all_goals k_dflt ktr_enter
  repeat' (first | (k_unfold; (try dsimp only)) | (first | walk1 | (dsimp only; walk1)) | fail "no step")
  all_goals (refine hret _ news _ _ (by k_asm) (by first | k_asm | exact ntl (by k_asm)) ⟨rfl, _, congrArg (fun z => Value.bytes z _) (by decide +kernel)⟩)
end Mine
end
section
open PySem PySem.W PySem.Spec PySem.Calls PyProof.Rows
namespace Mine
theorem reg26 : True := by
  w_top off
  k_with_none
  (k_with "execs cons" => (k_here; dsimp only))
  (k_with "execs nil" => (k_here; dsimp only))
  (k_with "subscriptTail Name Constant ref int" => (k_here; k_dflt (first
  | (refine' topTup_K ?hz_F ?hz_X ?hz_l ?hz_a ?hz_b ?hz_c ?hz_d ?_; (case hz_F => k_asm); (case hz_X => k_asm); (case hz_l => k_is); (case hz_a => decide); (case hz_b => decide); (case hz_c => rfl); (case hz_d => rfl))
  | (refine' item_tupleT (News.isTup (by k_asm) (by k_mem)) ?hz_a ?hz_b ?hz_c ?hz_d ?_; (case hz_a => decide); (case hz_b => decide); (case hz_c => rfl); (case hz_d => rfl); k_whole)
  | (refine' item_litK (News.isList (by k_asm) (by k_mem)) ?hz_a ?hz_b ?hz_d ?_; (case hz_a => decide); (case hz_b => decide); (case hz_d => rfl); k_whole))))
  (k_with "subscriptTail Name UnaryOp ref int" => (k_here; k_dflt (first
  | (refine' topTup_K ?hz_F ?hz_X ?hz_l ?hz_a ?hz_b ?hz_c ?hz_d ?_; (case hz_F => k_asm); (case hz_X => k_asm); (case hz_l => k_is); (case hz_a => decide); (case hz_b => decide); (case hz_c => rfl); (case hz_d => rfl))
  | (refine' item_tupleT (News.isTup (by k_asm) (by k_mem)) ?hz_a ?hz_b ?hz_c ?hz_d ?_; (case hz_a => decide); (case hz_b => decide); (case hz_c => rfl); (case hz_d => rfl); k_whole))))
  (k_with "call ref" => (k_here; (with_reducible show wpAny _ _ (call (Value.ref 138) _) _ _ _); k_dflt (refine' ret_use (text_octets _ _ _ _ ?hz_ha ?hz_hl) ?hz_k1 ?hz_k2 ?hz_k3 ?hz_k4 ?hz_k5 ?hz_kK ?hz_kd ?hz_ku ?_; (case hz_k1 => k_asm); (case hz_k2 => k_asm); (case hz_k3 => k_asm); (case hz_k4 => k_asm); (case hz_k5 => k_asm); (case hz_kK => first | exact rfl | assumption); (case hz_ha => first | assumption | decide +kernel); (case hz_hl => first | assumption | decide +kernel); (case hz_kd => ktr_room); (case hz_ku => ktr_units)); intro r9 news9 h9 tk9 F9 N9 hp9; obtain ⟨e8, t9, e9⟩ := hp9; replace e8 := e8.symm; subst e8; subst e9))
  trivial
noncomputable def setA : Nat → Nat
  | 0 => 262
  | 1 => 265
  | _ => 269
noncomputable def setTx : Nat → Str
  | 0 => Str.ofString "1"
  | 1 => Str.ofString "*"
  | _ => Str.ofString "7:3,9:*"
noncomputable def dayA : Nat → Nat
  | 0 => 272
  | _ => 274
noncomputable def dayTx : Nat → Str
  | 0 => Str.ofString "1-Feb-1994"
  | _ => Str.ofString "31-Dec-2024"
section
theorem reg27 : True := by
  (k_with "eval ListComp" => (k_here; k_dflt (refine lc_any (by k_asm) (by rfl) (by decide) (by rfl) (by decide) (by rfl) (by intro _; rfl) ?_)))
  (k_with "Src" => (k_here; k_dflt (refine' src_tuple (by rfl) ?hz_F ?hz_N (tupK ?hz_X ?hz_K) ?hz_sz (fun g' => ?_); (case hz_F => k_asm); (case hz_N => k_asm); (case hz_X => k_asm); (case hz_K => k_is); (case hz_sz => decide))))
  (k_with "CompEnd" => (refine LCg.CompEnd.intro (by k_asm) (by k_asm) _ (fun _ h => h) (by assumption) trivial ?_))
  trivial
set_option maxRecDepth 100000 in
set_option maxHeartbeats 8000000 in
theorem show_set (w : World) (news : List (Addr × Obj)) (i : Nat) (hi : i < 3) :
   Ret PySem.Challenge.rw_nz0288_01.row.prog w (Mine.top.heap_1_39 w.params) Mine.top.view_1_40 LS 157 3 news [.ref (setA i)]
     (fun news' r => news' = news ∧ ∃ t, r = .str (setTx i) t) := by
  k_fill
  unfold Ret
  intro mean mg mb dp un gd cn cs a ccd cl outer A₀ base h₀ L m s Q E B F X N T hk hd hu hret
  rcases i with _ | _ | _ | i <;> first | (exfalso; omega) | dsimp only [setA]
  all_goals refine wpAny_call ?_
  all_goals k_dflt ktr_enter
  repeat' (first | (k_unfold; (try dsimp only)) | (first | walk1 | (dsimp only; walk1)) | fail "no step")
  all_goals (refine hret _ news _ _ (by k_asm) (by first | k_asm | exact ntl (by k_asm)) ⟨rfl, _, congrArg (fun z => Value.str z _) (by decide +kernel)⟩)
end
theorem reg28 : True := by
  k_with_none
  (k_with "execs cons" => (k_here; dsimp only))
  (k_with "execs nil" => (k_here; dsimp only))
  (k_with "subscriptTail Name Constant ref int" => (k_here; k_dflt (first
  | (refine' topTup_K ?hz_F ?hz_X ?hz_l ?hz_a ?hz_b ?hz_c ?hz_d ?_; (case hz_F => k_asm); (case hz_X => k_asm); (case hz_l => k_is); (case hz_a => decide); (case hz_b => decide); (case hz_c => rfl); (case hz_d => rfl))
  | (refine' item_tupleT (News.isTup (by k_asm) (by k_mem)) ?hz_a ?hz_b ?hz_c ?hz_d ?_; (case hz_a => decide); (case hz_b => decide); (case hz_c => rfl); (case hz_d => rfl); k_whole)
  | (refine' item_litK (News.isList (by k_asm) (by k_mem)) ?hz_a ?hz_b ?hz_d ?_; (case hz_a => decide); (case hz_b => decide); (case hz_d => rfl); k_whole))))
  (k_with "subscriptTail Name UnaryOp ref int" => (k_here; k_dflt (first
  | (refine' topTup_K ?hz_F ?hz_X ?hz_l ?hz_a ?hz_b ?hz_c ?hz_d ?_; (case hz_F => k_asm); (case hz_X => k_asm); (case hz_l => k_is); (case hz_a => decide); (case hz_b => decide); (case hz_c => rfl); (case hz_d => rfl))
  | (refine' item_tupleT (News.isTup (by k_asm) (by k_mem)) ?hz_a ?hz_b ?hz_c ?hz_d ?_; (case hz_a => decide); (case hz_b => decide); (case hz_c => rfl); (case hz_d => rfl); k_whole))))
  (k_with "call ref" => (k_here; (with_reducible show wpAny _ _ (call (Value.ref 138) _) _ _ _); k_dflt (refine' ret_use (text_octets _ _ _ _ ?hz_ha ?hz_hl) ?hz_k1 ?hz_k2 ?hz_k3 ?hz_k4 ?hz_k5 ?hz_kK ?hz_kd ?hz_ku ?_; (case hz_k1 => k_asm); (case hz_k2 => k_asm); (case hz_k3 => k_asm); (case hz_k4 => k_asm); (case hz_k5 => k_asm); (case hz_kK => first | exact rfl | assumption); (case hz_ha => first | assumption | decide +kernel); (case hz_hl => first | assumption | decide +kernel); (case hz_kd => ktr_room); (case hz_ku => ktr_units)); intro r9 news9 h9 tk9 F9 N9 hp9; obtain ⟨e8, t9, e9⟩ := hp9; replace e8 := e8.symm; subst e8; subst e9))
  trivial
set_option maxRecDepth 100000 in
set_option maxHeartbeats 8000000 in
theorem write_day (w : World) (news : List (Addr × Obj)) (i : Nat) (hi : i < 2) :
   Ret PySem.Challenge.rw_nz0288_01.row.prog w (Mine.top.heap_1_39 w.params) Mine.top.view_1_40 LS 116 4 news [.ref (dayA i)]
     (fun news' r => news' = news ∧ ∃ t, r = .str (dayTx i) t) := by
  k_fill
  unfold Ret
  intro mean mg mb dp un gd cn cs a ccd cl outer A₀ base h₀ L m s Q E B F X N T hk hd hu hret
  rcases i with _ | _ | i <;> first | (exfalso; omega) | dsimp only [dayA]
  all_goals refine wpAny_call ?_
  all_goals k_dflt ktr_enter
  repeat' (first | (k_unfold; (try dsimp only)) | (first | walk1 | (dsimp only; walk1)) | fail "no step")
  all_goals (refine hret _ news _ _ (by k_asm) (by first | k_asm | exact ntl (by k_asm)) ⟨rfl, _, congrArg (fun z => Value.str z _) (by decide +kernel)⟩)
end Mine
end
section
open PySem PySem.W PySem.Calls PyProof.Rows
namespace Mine
theorem reg29 : True := by
  w_top off
  k_with_none
  (k_with "execs cons" => (k_here; dsimp only))
  (k_with "execs nil" => (k_here; dsimp only))
  (k_with "subscriptTail Name Constant ref int" => (k_here; k_dflt (first
  | (refine' topTup_K ?hz_F ?hz_X ?hz_l ?hz_a ?hz_b ?hz_c ?hz_d ?_; (case hz_F => k_asm); (case hz_X => k_asm); (case hz_l => k_is); (case hz_a => decide); (case hz_b => decide); (case hz_c => rfl); (case hz_d => rfl))
  | (refine' item_tupleT (News.isTup (by k_asm) (by k_mem)) ?hz_a ?hz_b ?hz_c ?hz_d ?_; (case hz_a => decide); (case hz_b => decide); (case hz_c => rfl); (case hz_d => rfl); k_whole)
  | (refine' item_litK (News.isList (by k_asm) (by k_mem)) ?hz_a ?hz_b ?hz_d ?_; (case hz_a => decide); (case hz_b => decide); (case hz_d => rfl); k_whole))))
  (k_with "subscriptTail Name UnaryOp ref int" => (k_here; k_dflt (first
  | (refine' topTup_K ?hz_F ?hz_X ?hz_l ?hz_a ?hz_b ?hz_c ?hz_d ?_; (case hz_F => k_asm); (case hz_X => k_asm); (case hz_l => k_is); (case hz_a => decide); (case hz_b => decide); (case hz_c => rfl); (case hz_d => rfl))
  | (refine' item_tupleT (News.isTup (by k_asm) (by k_mem)) ?hz_a ?hz_b ?hz_c ?hz_d ?_; (case hz_a => decide); (case hz_b => decide); (case hz_c => rfl); (case hz_d => rfl); k_whole))))
  (k_with "LeaveD" => (k_dflt (refine' leaveD_ ?hz_k1 ?hz_k2 ?_; (case hz_k1 => k_asm); (case hz_k2 => k_asm); k_whole); intro kF kN; ground_anew kF; (have kX := kFor kF (by k_asm))))
  (k_with "wpK" => ((with_reducible show wpK _ _ (execs (_ :: _) _) _ _); refine wpK_execs_cons ?_; (try dsimp only)))
  (k_with "wpK" => ((with_reducible show wpK _ _ (execs [] _) _ _); refine wpK_execs_nil ?_; (try dsimp only)))
  (k_with "wpK" => ((with_reducible show wpK _ _ (exec (Stmt.Return (some _) _) _) _ _); refine wpK_Return ?_; (try dsimp only)))
  (k_with "wpK" => ((with_reducible show wpK _ _ (exec (Stmt.If _ _ _ _) _) _ _); refine wpK_If ?_))
  (k_with "wpK" => ((with_reducible show wpK _ _ (exec (Stmt.Expr _ _) _) _ _); refine wpK_Expr ?_))
  (k_with "wpK" => ((with_reducible show wpK _ _ (exec (Stmt.Assign [Expr.Name _ _] _ _) _) _ _); refine wpK_Assign_Name ?_))
  (k_with "wpK" => ((with_reducible show wpK _ _ (eval (Expr.Name _ _) _) _ _); refine wpK_any ?_))
  (k_with "wpK" => ((with_reducible show wpK _ _ (eval (Expr.Constant _ _ _) _) _ _); refine wpK_any ?_))
  (k_with "wpK" => ((with_reducible show wpK _ _ (eval (Expr.BinOp _ _ _ _) _) _ _); refine wpK_BinOp ?_))
  (k_with "wpK" => ((with_reducible show wpK _ _ (eval (Expr.Compare _ [_] [_] _) _) _ _); refine wpK_Compare1 ?_))
  (k_with "wpK" => ((with_reducible show wpK _ _ (binaryOp _ _ _) _ _); refine wpK_any ?_))
  (k_with "wpK" => ((with_reducible show wpK _ _ (compareOp _ _ _) _ _); refine wpK_any ?_))
  (k_with "wpK" => ((with_reducible show wpK _ _ (eval (Expr.Call (Expr.Name _ _) _ [] _) _) _ _); refine wpK_CallName ?_))
  (k_with "wpK" => ((with_reducible show wpK _ _ (eval (Expr.Call (Expr.Attribute _ _ _) _ [] _) _) _ _); refine wpK_CallMeth ?_))
  (k_with "wpK" => ((with_reducible show wpK _ _ (callWith _ (Value.type _) _ _ _) _ _); k_dflt (refine callWithK_any rfl ?_)))
  (k_with "wpK" => ((with_reducible show wpK _ _ (callWith _ (Value.builtin _) _ _ _) _ _); k_dflt (refine callWithK_any rfl ?_)))
  (k_with "wpK" => ((with_reducible show wpK _ _ (callWith _ (Value.ref _) _ _ _) _ _); k_dflt (refine' callWithK_def ?hz_k1 ?hz_k2 ?_; (case hz_k1 => k_asm); (case hz_k2 => k_is); k_whole)))
  (k_with "wpK" => ((with_reducible show wpK _ _ (call (Value.type "bytearray") [Value.bytes _ _]) _ _); k_dflt (refine' make_K ?hz_k1 ?hz_k2 ?hz_k3 ?_; (case hz_k1 => k_asm); (case hz_k2 => k_asm); (case hz_k3 => size_fits); k_whole); intro D9 h9 ne9 F9 N9; (try dsimp only at F9 N9 ⊢)))
  (k_with "wpK" => ((with_reducible show wpK _ _ (call (Value.builtin "bytearray.append") _) _ _); k_dflt (refine' appendB_K ?hz_k1 ?hz_k2 ?hz_k3 ?hz_k4 ?hz_k5 ?hz_k6 ?_; (case hz_k1 => k_asm); (case hz_k2 => k_asm); (case hz_k3 => k_upd); (case hz_k4 => omega); (case hz_k5 => omega); (case hz_k6 => first | assumption | (rw [sizeLine_eq]; (try simp only [Array.size_push]); omega)); k_whole); intro h9 F9 N9; (try dsimp only at F9 N9 ⊢)))
  (k_with "getMethod ref" => (k_here; k_dflt (refine' method_append ?hz_k1 ?hz_k2 ?_; (case hz_k1 => k_asm); (case hz_k2 => k_mem); k_whole)))
  (k_with "call type:bytes cons nil" => (k_here; k_dflt (refine' bytes_K ?hz_k1 ?hz_k2 ?hz_k3 ?_; (case hz_k1 => k_asm); (case hz_k2 => k_mem); (case hz_k3 => first | assumption | size_fits); k_whole); intro t9 k9; (try dsimp only)))
  (k_with "wpK" => ((with_reducible show wpK _ _ (call (Value.type "bytes") _) _ _); refine wpK_any ?_))
  (k_with "call type:bytes cons nil" => (k_here; (with_reducible show wpAny _ _ (call (Value.type "bytes") [Value.bytes _ _]) _ _ _); k_dflt (refine bytes_of_bytes ?_)))
  (k_with "binaryOp Add bytes bytes" => (k_here; k_dflt (refine' KBy.add_bytes ?hz_sz ?_); (case hz_sz => ((try simp only [Array.size_append, List.size_toArray, List.length_cons, List.length_nil]); omega)); intro t9 k9; (try dsimp only)))
  trivial
noncomputable def qtOne (c : UInt8) : List UInt8 := if c = 34 ∨ c = 92 then [92, c] else [c]
noncomputable def qtPart (b : Array UInt8) (i : Nat) : Array UInt8 := #[34] ++ ((b.toList.take i).flatMap qtOne).toArray
theorem qtPart_size (b : Array UInt8) (i : Nat) : (qtPart b i).size ≤ 1 + 2 * b.size := by
  have key : ∀ l : List UInt8, (l.flatMap qtOne).length ≤ 2 * l.length := by
    intro l
    induction l with
    | nil => exact Nat.le_refl _
    | cons c l ih =>
      rw [List.flatMap_cons, List.length_append, List.length_cons]
      have : (qtOne c).length ≤ 2 := by unfold qtOne; split <;> simp
      omega
  have h1 := key (b.toList.take i)
  have h2 : (b.toList.take i).length ≤ b.size := by rw [List.length_take]; simp; omega
  unfold qtPart
  simp only [Array.size_append, List.size_toArray, List.length_cons, List.length_nil]
  omega
theorem qtPart_succ {b : Array UInt8} {i : Nat} {c : UInt8} (h : b[i]? = some c) : qtPart b (i + 1) = qtPart b i ++ (qtOne c).toArray := by
  unfold qtPart
  rw [List.take_add_one]
  have : b.toList[i]? = some c := by simpa using h
  rw [this]
  simp
theorem ba_to {g h : Heap} {L I D : Addr} {oI : Obj} {x y : Array UInt8} {news : List (Addr × Obj)} (N : News g L h ((I, oI) :: (D, baObj x) :: news)) (e : x = y) : News g L h ((I, oI) :: (D, baObj y) :: news) := e ▸ N
noncomputable def qtOcts (b : Array UInt8) : Array UInt8 := (qtPart b b.size).push 34
set_option maxRecDepth 100000 in
set_option maxHeartbeats 8000000 in
theorem quoted_octets (w : World) (news : List (Addr × Obj)) (b : Array UInt8) (tb : Tok) (hb : b.size ≤ 100) :
   KRet PySem.Challenge.rw_nz0288_01.row.prog w (Mine.top.heap_1_39 w.params) Mine.top.view_1_40 LS 197 1 news [.bytes b tb]
     (fun news' r => news' = news ∧ ∃ t, r = .bytes (qtOcts b) t) := by
  k_fill
  unfold KRet
  intro mean mg mb dp un gd cn cs a ccd cl outer A₀ base h₀ L m s Q B F X N T hk hd hu hret
  refine wpK_call ?_
  k_dflt (refine' code_defK (binds := [(Str.ofString "octets", .bytes b tb)]) ?k1 ?k2 ?k3 ?k4 ?k5 ?kA ?kF ?kK ?k6 ?k7 ?k8 ?k9 ?kB ?_ ?c2 ?c3 ?c4 ?c5; (case kA => exact rfl); (case kF => exact rfl); (case kK => assumption); (case k1 => k_asm); (case k2 => k_asm); (case k3 => k_asm); (case k4 => k_asm); (case k5 => k_asm); (case k6 => k_is); (case k7 => k_is); (case k8 => ktr_room); (case k9 => exact BindsTo.of_eq rfl); (case c5 => decide); (case kB => exact locs rfl); (case c2 => exact rfl); (case c3 => exact rfl); (case c4 => exact rfl); k_whole; intro g' L' h' FG' F' N' B' X' T'; (try dsimp only); (try k_fold))
  repeat' (first | (k_unfold; (try dsimp only)) | (first | walk1 | (dsimp only; walk1)) | fail "no step")
  rename_i h8 F8 N8
  have hq0 : qtPart b 0 = #[34] := by simp [qtPart]
  rw [← hq0] at N8
  refine wpK_For ?_
  walk1
  refine for_bytesK (fun i => (D9, baObj (qtPart b i)) :: news) rfl rfl rfl F8 N8 ?turn ?done
  case turn =>
    intro i c t h7 tk I oI hc off F7 N7
    have hID : @Ne Nat I D9 := fun e => off (D9, baObj (qtPart b i)) (.head _) e.symm
    have hc0 : (0 : Int) ≤ (c.toNat : Int) := Int.natCast_nonneg _
    have hc1 : (c.toNat : Int) < 256 := by have := c.toNat_lt; omega
    have hz : ((c.toNat : Int)).toNat.toUInt8 = c := by simp
    have hps : (qtPart b i).size ≤ 201 := by have := qtPart_size b i; omega
    have hoff : ∀ p ∈ (D9, baObj (qtPart b (i + 1))) :: news, p.1 ≠ I := fun p hp => by
      rcases List.mem_cons.mp hp with rfl | hp
      · exact Ne.symm hID
      · exact off p (List.mem_cons_of_mem _ hp)
    generalize hzz : (c.toNat : Int) = z at *
    by_cases e1 : z = 34
    · subst e1
      have hcc : qtOne c = [92, 34] := by rw [← hz]; rfl
      repeat' (first | (k_unfold; (try dsimp only)) | (first | walk1 | (dsimp only; walk1)) | fail "no step")
      all_goals (refine ⟨rfl, _, _, rfl, hoff, by k_asm, ba_to (by k_asm) ?_⟩; rw [qtPart_succ hc, hcc]; simp; rfl)
    · by_cases e2 : z = 92
      · subst e2
        have hcc : qtOne c = [92, 92] := by rw [← hz]; rfl
        repeat' (first | (k_unfold; (try dsimp only)) | (first | walk1 | (dsimp only; walk1)) | fail "no step")
        all_goals (refine ⟨rfl, _, _, rfl, hoff, by k_asm, ba_to (by k_asm) ?_⟩; rw [qtPart_succ hc, hcc]; simp; rfl)
      · have hcc : qtOne c = [c] := by
          unfold qtOne
          rw [if_neg]
          rintro (h | h)
          · subst h; exact e1 hzz.symm
          · subst h; exact e2 hzz.symm
        repeat' (first | (k_unfold; (try dsimp only)) | (first | walk1 | (dsimp only; walk1)) | fail "no step")
        all_goals first
          | (exfalso; omega)
          | (refine ⟨rfl, _, _, rfl, hoff, by k_asm, ba_to (by k_asm) ?_⟩; rw [qtPart_succ hc, hcc, hz]; simp; done)
  case done =>
    intro u h7 tk F7 N7
    have hps : (qtPart b b.size).size ≤ 201 := by have := qtPart_size b b.size; omega
    have hps2 : ((qtPart b b.size).push (Int.toNat 34).toUInt8).size ≤ sizeLine := by rw [sizeLine_eq, Array.size_push]; omega
    repeat' (first | (k_unfold; (try dsimp only)) | (first | walk1 | (dsimp only; walk1)) | fail "no step")
    all_goals (refine hret _ news _ _ (by k_asm) (by first | k_asm | exact ntl (by k_asm)) ⟨rfl, _, rfl⟩)
end Mine
end
section
open PySem PySem.W PySem.Calls PyProof.Rows
namespace Mine
theorem reg30 : True := by
  w_top off
  k_with_none
  (k_with "execs cons" => (k_here; dsimp only))
  (k_with "execs nil" => (k_here; dsimp only))
  (k_with "subscriptTail Name Constant ref int" => (k_here; k_dflt (first
  | (refine' topTup_K ?hz_F ?hz_X ?hz_l ?hz_a ?hz_b ?hz_c ?hz_d ?_; (case hz_F => k_asm); (case hz_X => k_asm); (case hz_l => k_is); (case hz_a => decide); (case hz_b => decide); (case hz_c => rfl); (case hz_d => rfl))
  | (refine' item_tupleT (News.isTup (by k_asm) (by k_mem)) ?hz_a ?hz_b ?hz_c ?hz_d ?_; (case hz_a => decide); (case hz_b => decide); (case hz_c => rfl); (case hz_d => rfl); k_whole)
  | (refine' item_litK (News.isList (by k_asm) (by k_mem)) ?hz_a ?hz_b ?hz_d ?_; (case hz_a => decide); (case hz_b => decide); (case hz_d => rfl); k_whole))))
  (k_with "subscriptTail Name UnaryOp ref int" => (k_here; k_dflt (first
  | (refine' topTup_K ?hz_F ?hz_X ?hz_l ?hz_a ?hz_b ?hz_c ?hz_d ?_; (case hz_F => k_asm); (case hz_X => k_asm); (case hz_l => k_is); (case hz_a => decide); (case hz_b => decide); (case hz_c => rfl); (case hz_d => rfl))
  | (refine' item_tupleT (News.isTup (by k_asm) (by k_mem)) ?hz_a ?hz_b ?hz_c ?hz_d ?_; (case hz_a => decide); (case hz_b => decide); (case hz_c => rfl); (case hz_d => rfl); k_whole))))
  trivial
noncomputable def lowI (c : UInt8) : Int := if 65 ≤ (c.toNat : Int) ∧ (c.toNat : Int) ≤ 90 then (c.toNat : Int) + 32 else (c.toNat : Int)
noncomputable def lowB (b : Array UInt8) : Array UInt8 := byteArr (b.toList.map lowI)
theorem In_low {b : Array UInt8} : KBa.In (b.toList.map lowI) := by
  intro n hn
  obtain ⟨c, hc, rfl⟩ := List.mem_map.mp hn
  have := c.toNat_lt
  unfold lowI
  split <;> omega
theorem low_up {c : UInt8} (h1 : ¬ (c.toNat : Int) < 65) (h2 : ¬ 90 < (c.toNat : Int)) : (c.toNat : Int) + 32 = lowI c := by
  unfold lowI; rw [if_pos (by omega)]
theorem low_lo {c : UInt8} (h1 : (c.toNat : Int) < 65) : (c.toNat : Int) = lowI c := by
  unfold lowI; rw [if_neg (by omega)]
theorem low_hi {c : UInt8} (h1 : 90 < (c.toNat : Int)) : (c.toNat : Int) = lowI c := by
  unfold lowI; rw [if_neg (by omega)]
theorem turn_int {x y : Int} {t : Tok} (h : x = y) : Value.int x t = Value.int y t := by rw [h]
theorem reg31 : True := by
  (k_with "eval ListComp" => (k_here; k_dflt (refine lc_any (by k_asm) (by rfl) (by decide) (by rfl) (by decide) (by rfl) (by intro _; rfl) ?_)))
  (k_with "Src" => (k_here; k_dflt (refine' src_bytes Value.int lowI (by rfl) ?hz_F ?hz_N ?hz_sz (fun c' t' I' oI' C' oC' D' m' ys' h' tk' E' hm' hC' hx' F' N' off' ne' => ?_) (fun g' ys' hy' => ?_); (case hz_F => k_asm); (case hz_N => k_asm); (case hz_sz => rw [sizeLine_eq]; omega))))
  (k_with "TurnOk" => (refine ⟨_, _, _, rfl, by k_asm, by k_asm, turn_int ?_⟩; first | exact low_lo (by omega) | exact low_hi (by omega) | exact low_up (by omega) (by omega)))
  (k_with "call type:bytes" => (k_here; k_dflt (refine' KBa.make_K ?hz_F ?hz_N (by rfl) ?hz_l (AllAre.ints (by assumption)) In_low ?hz_z ?_; (case hz_F => k_asm); (case hz_N => k_asm); (case hz_l => exact News.isList (by k_asm) (by k_mem)); (case hz_z => rw [List.length_map, Array.length_toList]; omega); intro h' t' k' F' N' _; (try k_sweep))))
  trivial
set_option maxRecDepth 100000 in
set_option maxHeartbeats 8000000 in
theorem lower_ (w : World) (news : List (Addr × Obj)) (b : Array UInt8) (tb : Tok) (hb : b.size ≤ 100) :
   Ret PySem.Challenge.rw_nz0288_01.row.prog w (Mine.top.heap_1_39 w.params) Mine.top.view_1_40 LS 128 2 news [.bytes b tb]
     (fun news' r => news' = news ∧ ∃ t, r = .bytes (lowB b) t) := by
  k_fill
  unfold Ret
  intro mean mg mb dp un gd cn cs a ccd cl outer A₀ base h₀ L m s Q E B F X N T hk hd hu hret
  refine wpAny_call ?_
  k_dflt ktr_enter
  repeat' (first | (k_unfold; (try dsimp only)) | (first | walk1 | (dsimp only; walk1)) | fail "no step")
  all_goals (refine hret _ news _ _ (by k_asm) (by first | k_asm | exact ntl (by k_asm)) ⟨rfl, _, rfl⟩)
end Mine
end
section
open PySem PySem.W PySem.Calls PyProof.Rows
namespace Mine
theorem reg32 : True := by
  w_top off
  k_with_none
  (k_with "execs cons" => (k_here; dsimp only))
  (k_with "execs nil" => (k_here; dsimp only))
  (k_with "subscriptTail Name Constant ref int" => (k_here; k_dflt (first
  | (refine' topTup_K ?hz_F ?hz_X ?hz_l ?hz_a ?hz_b ?hz_c ?hz_d ?_; (case hz_F => k_asm); (case hz_X => k_asm); (case hz_l => k_is); (case hz_a => decide); (case hz_b => decide); (case hz_c => rfl); (case hz_d => rfl))
  | (refine' item_tupleT (News.isTup (by k_asm) (by k_mem)) ?hz_a ?hz_b ?hz_c ?hz_d ?_; (case hz_a => decide); (case hz_b => decide); (case hz_c => rfl); (case hz_d => rfl); k_whole)
  | (refine' item_litK (News.isList (by k_asm) (by k_mem)) ?hz_a ?hz_b ?hz_d ?_; (case hz_a => decide); (case hz_b => decide); (case hz_d => rfl); k_whole))))
  (k_with "subscriptTail Name UnaryOp ref int" => (k_here; k_dflt (first
  | (refine' topTup_K ?hz_F ?hz_X ?hz_l ?hz_a ?hz_b ?hz_c ?hz_d ?_; (case hz_F => k_asm); (case hz_X => k_asm); (case hz_l => k_is); (case hz_a => decide); (case hz_b => decide); (case hz_c => rfl); (case hz_d => rfl))
  | (refine' item_tupleT (News.isTup (by k_asm) (by k_mem)) ?hz_a ?hz_b ?hz_c ?hz_d ?_; (case hz_a => decide); (case hz_b => decide); (case hz_c => rfl); (case hz_d => rfl); k_whole))))
  trivial
noncomputable def plainC (c : UInt8) : Bool := decide (32 ≤ c.toNat) && decide (c.toNat ≤ 126)
noncomputable def quotable (b : Array UInt8) : Bool := decide (b.size ≤ 72) && b.toList.all plainC
theorem reg33 : True := by
  (k_with "eval ListComp" => (k_here; k_dflt (refine lc_any (by k_asm) (by rfl) (by decide) (by rfl) (by decide) (by rfl) (by intro _; rfl) ?_)))
  (k_with "Src" => (k_here; k_dflt (refine' src_bytes (fun b _ => Value.bool b) plainC (by rfl) ?hz_F ?hz_N ?hz_sz (fun c' t' I' oI' C' oC' D' m' ys' h' tk' E' hm' hC' hx' F' N' off' ne' => ?_) (fun g' ys' hy' => ?_); (case hz_F => k_asm); (case hz_N => k_asm); (case hz_sz => rw [sizeLine_eq]; omega))))
  trivial
theorem AllAre.bools {α : Type} {g : α → Bool} : ∀ {vs : List Value} {cs : List α}, AllAre (fun b _ => Value.bool b) g vs cs → LSm.BoolsAre vs (cs.map g)
  | _, _, .nil => .nil
  | _, _, .cons c t r => .cons (g c) r.bools
theorem turn_bool {x y : Bool} (h : x = y) : Value.bool x = Value.bool y := by rw [h]
theorem reg34 : True := by
  (k_with "TurnOk" => (refine ⟨_, _, 0, rfl, by k_asm, by k_asm, turn_bool ?_⟩; rw [Bool.eq_iff_iff]; simp [plainC]; omega))
  (k_with "call builtin:all cons nil" => (k_here; k_dflt (refine' LSm.all_bools (by k_asm) (by k_asm) (by rfl) (News.isList (by k_asm) (by k_mem)) (AllAre.bools (by assumption)) ?_; intro h' tk' F' N')))
  trivial
set_option maxRecDepth 100000 in
set_option maxHeartbeats 8000000 in
theorem is_quotable (w : World) (news : List (Addr × Obj)) (b : Array UInt8) (tb : Tok) (hb : b.size ≤ 100) :
   Ret PySem.Challenge.rw_nz0288_01.row.prog w (Mine.top.heap_1_39 w.params) Mine.top.view_1_40 LS 190 1 news [.bytes b tb]
     (fun news' r => news' = news ∧ r = .bool (quotable b)) := by
  k_fill
  unfold Ret
  intro mean mg mb dp un gd cn cs a ccd cl outer A₀ base h₀ L m s Q E B F X N T hk hd hu hret
  refine wpAny_call ?_
  k_dflt ktr_enter
  repeat' (first | (k_unfold; (try dsimp only)) | (first | walk1 | (dsimp only; walk1)) | fail "no step")
  all_goals (refine hret _ news _ _ (by k_asm) (by first | k_asm | exact ntl (by k_asm)) ⟨rfl, turn_bool ?_⟩; rw [Bool.eq_iff_iff]; simp [quotable]; omega)
end Mine
end
section
open PySem PySem.W PySem.Calls PyProof.Rows
namespace Mine
theorem reg35 : True := by
  w_top off
  k_with_none
  (k_with "execs cons" => (k_here; dsimp only))
  (k_with "execs nil" => (k_here; dsimp only))
  (k_with "subscriptTail Name Constant ref int" => (k_here; k_dflt (first
  | (refine' topTup_K ?hz_F ?hz_X ?hz_l ?hz_a ?hz_b ?hz_c ?hz_d ?_; (case hz_F => k_asm); (case hz_X => k_asm); (case hz_l => k_is); (case hz_a => decide); (case hz_b => decide); (case hz_c => rfl); (case hz_d => rfl))
  | (refine' item_tupleT (News.isTup (by k_asm) (by k_mem)) ?hz_a ?hz_b ?hz_c ?hz_d ?_; (case hz_a => decide); (case hz_b => decide); (case hz_c => rfl); (case hz_d => rfl); k_whole)
  | (refine' item_litK (News.isList (by k_asm) (by k_mem)) ?hz_a ?hz_b ?hz_d ?_; (case hz_a => decide); (case hz_b => decide); (case hz_d => rfl); k_whole))))
  (k_with "subscriptTail Name UnaryOp ref int" => (k_here; k_dflt (first
  | (refine' topTup_K ?hz_F ?hz_X ?hz_l ?hz_a ?hz_b ?hz_c ?hz_d ?_; (case hz_F => k_asm); (case hz_X => k_asm); (case hz_l => k_is); (case hz_a => decide); (case hz_b => decide); (case hz_c => rfl); (case hz_d => rfl))
  | (refine' item_tupleT (News.isTup (by k_asm) (by k_mem)) ?hz_a ?hz_b ?hz_c ?hz_d ?_; (case hz_a => decide); (case hz_b => decide); (case hz_c => rfl); (case hz_d => rfl); k_whole))))
  trivial
noncomputable def specials : Array UInt8 := #[40, 41, 123, 37, 42, 34, 92, 93]
noncomputable def astrC (c : UInt8) : Bool := (decide (33 ≤ c.toNat) && decide (c.toNat ≤ 126) && !(specials.contains c)) || decide (c.toNat = 93)
noncomputable abbrev astV (c : UInt8) : Bool := if 33 ≤ (c.toNat : Int) ∧ (c.toNat : Int) ≤ 126 then !(#[40, 41, 123, 37, 42, 34, 92, 93] : Array UInt8).contains ((c.toNat : Int)).toNat.toUInt8
      else if 33 ≤ (c.toNat : Int) ∧ ¬ (c.toNat : Int) ≤ 126 then decide ((c.toNat : Int) ≤ 126) else decide (33 ≤ (c.toNat : Int))
theorem astV_eq (c : UInt8) : astV c = (decide (33 ≤ c.toNat) && decide (c.toNat ≤ 126) && !(specials.contains c)) := by
  have hc : ((c.toNat : Int)).toNat.toUInt8 = c := by simp
  unfold astV
  rw [hc]
  show (if 33 ≤ (c.toNat : Int) ∧ (c.toNat : Int) ≤ 126 then !(specials.contains c) else if 33 ≤ (c.toNat : Int) ∧ ¬ (c.toNat : Int) ≤ 126 then decide ((c.toNat : Int) ≤ 126) else decide (33 ≤ (c.toNat : Int))) = _
  generalize specials.contains c = q
  have e1 : (33 ≤ (c.toNat : Int)) ↔ 33 ≤ c.toNat := by omega
  have e2 : ((c.toNat : Int) ≤ 126) ↔ c.toNat ≤ 126 := by omega
  simp only [e1, e2]
  by_cases h1 : 33 ≤ c.toNat <;> by_cases h2 : c.toNat ≤ 126 <;> simp [h1, h2]
theorem astr_fst {c : UInt8} (h : astV c = true) : astV c = astrC c := by
  unfold astrC
  rw [← astV_eq, h]
  rfl
theorem astr_snd {c : UInt8} (h : astV c = false) : ((c.toNat : Int) == 93) = astrC c := by
  unfold astrC
  rw [← astV_eq, h, Bool.false_or, Bool.eq_iff_iff]
  simp
  omega
theorem turn_bool2 {x y : Bool} (h : x = y) : Value.bool x = Value.bool y := by rw [h]
theorem reg36 : True := by
  (k_with "compareOp NotIn int bytes" => (k_here; k_dflt (refine notin_bytes (by omega) (by omega) ?_)))
  trivial
set_option maxRecDepth 100000 in
set_option maxHeartbeats 8000000 in
theorem is_astring_code (w : World) (news : List (Addr × Obj)) (c : UInt8) (tc : Tok) :
   Ret PySem.Challenge.rw_nz0288_01.row.prog w (Mine.top.heap_1_39 w.params) Mine.top.view_1_40 LS 178 3 news [.int (c.toNat : Int) tc]
     (fun news' r => news' = news ∧ r = .bool (astrC c)) := by
  k_fill
  unfold Ret
  intro mean mg mb dp un gd cn cs a ccd cl outer A₀ base h₀ L m s Q E B F X N T hk hd hu hret
  refine wpAny_call ?_
  k_dflt ktr_enter
  have hc1 := c.toNat_lt
  repeat' (first | (k_unfold; (try dsimp only)) | (first | walk1 | (dsimp only; walk1)) | fail "no step")
  all_goals (refine hret _ news _ _ (by k_asm) (by first | k_asm | exact ntl (by k_asm)) ⟨rfl, turn_bool2 ?_⟩; first | exact astr_fst (by assumption) | exact astr_snd (by assumption) | exact astr_snd (eq_false_of_ne_true (by assumption)))
end Mine
end
section
open PySem PySem.W PySem.Calls PyProof.Rows
namespace Mine
theorem reg37 : True := by
  w_top off
  k_with_none
  (k_with "execs cons" => (k_here; dsimp only))
  (k_with "execs nil" => (k_here; dsimp only))
  (k_with "subscriptTail Name Constant ref int" => (k_here; k_dflt (first
  | (refine' topTup_K ?hz_F ?hz_X ?hz_l ?hz_a ?hz_b ?hz_c ?hz_d ?_; (case hz_F => k_asm); (case hz_X => k_asm); (case hz_l => k_is); (case hz_a => decide); (case hz_b => decide); (case hz_c => rfl); (case hz_d => rfl))
  | (refine' item_tupleT (News.isTup (by k_asm) (by k_mem)) ?hz_a ?hz_b ?hz_c ?hz_d ?_; (case hz_a => decide); (case hz_b => decide); (case hz_c => rfl); (case hz_d => rfl); k_whole)
  | (refine' item_litK (News.isList (by k_asm) (by k_mem)) ?hz_a ?hz_b ?hz_d ?_; (case hz_a => decide); (case hz_b => decide); (case hz_d => rfl); k_whole))))
  (k_with "subscriptTail Name UnaryOp ref int" => (k_here; k_dflt (first
  | (refine' topTup_K ?hz_F ?hz_X ?hz_l ?hz_a ?hz_b ?hz_c ?hz_d ?_; (case hz_F => k_asm); (case hz_X => k_asm); (case hz_l => k_is); (case hz_a => decide); (case hz_b => decide); (case hz_c => rfl); (case hz_d => rfl))
  | (refine' item_tupleT (News.isTup (by k_asm) (by k_mem)) ?hz_a ?hz_b ?hz_c ?hz_d ?_; (case hz_a => decide); (case hz_b => decide); (case hz_c => rfl); (case hz_d => rfl); k_whole))))
  trivial
noncomputable def figs (n : Nat) : Str := Str.ofString (toString (n : Int))
theorem figs_cps (n : Nat) : (figs n).cps.toList = (Nat.toDigits 10 n).map Char.toNat := by
  unfold figs
  rw [Str.ofString_eq_toList]
  show ((Nat.repr n).toList.map Char.toNat).toArray.toList = _
  simp [Nat.repr]
theorem figs_lt (n : Nat) : ∀ c ∈ (figs n).cps.toList, c < 128 := by
  intro c hc
  rw [figs_cps] at hc
  obtain ⟨d, hd, rfl⟩ := List.mem_map.mp hc
  have := Nat.isDigit_of_mem_toDigits (by decide) (by decide) hd
  simp only [Char.isDigit, Bool.and_eq_true, decide_eq_true_eq] at this
  have h2 := this.2
  have : d.val.toNat ≤ 57 := by simpa using UInt32.le_iff_toNat_le.mp h2
  show d.val.toNat < 128
  omega
theorem figs_len {n : Nat} (h : n < 10 ^ 18) : (figs n).length ≤ 1000 := by
  have e : (figs n).length = (Nat.repr n).length := by
    show (figs n).cps.size = _
    rw [← Array.length_toList, figs_cps]
    simp [Nat.repr]
  rw [e]
  exact Nat.le_trans (nat_repr_length_le (k := 60) (by decide) (Nat.lt_of_lt_of_le h (by decide))) (by decide)
theorem reg38 : True := by
  (k_with "call ref" => (k_here; (with_reducible show wpAny _ _ (call (Value.ref 138) _) _ _ _); k_dflt (refine' ret_use (text_octets _ _ _ _ ?hz_ha ?hz_hl) ?hz_k1 ?hz_k2 ?hz_k3 ?hz_k4 ?hz_k5 ?hz_kK ?hz_kd ?hz_ku ?_; (case hz_k1 => k_asm); (case hz_k2 => k_asm); (case hz_k3 => k_asm); (case hz_k4 => k_asm); (case hz_k5 => k_asm); (case hz_kK => first | exact rfl | assumption); (case hz_ha => first | assumption | exact figs_lt _ | decide +kernel); (case hz_hl => first | assumption | exact figs_len (by assumption) | decide +kernel); (case hz_kd => ktr_room); (case hz_ku => ktr_units)); intro r9 news9 h9 tk9 F9 N9 hp9; obtain ⟨e8, t9, e9⟩ := hp9; replace e8 := e8.symm; subst e8; subst e9))
  trivial
set_option maxRecDepth 100000 in
set_option maxHeartbeats 8000000 in
theorem figures_of (w : World) (news : List (Addr × Obj)) (n : Nat) (tn : Tok) (hn : n < 10 ^ 18) :
   Ret PySem.Challenge.rw_nz0288_01.row.prog w (Mine.top.heap_1_39 w.params) Mine.top.view_1_40 LS 185 2 news [.int (n : Int) tn]
     (fun news' r => news' = news ∧ ∃ t, r = .bytes (octs (figs n)) t) := by
  k_fill
  unfold Ret
  intro mean mg mb dp un gd cn cs a ccd cl outer A₀ base h₀ L m s Q E B F X N T hk hd hu hret
  refine wpAny_call ?_
  k_dflt ktr_enter
  repeat' (first | (k_unfold; (try dsimp only)) | (first | walk1 | (dsimp only; walk1)) | fail "no step")
  all_goals (refine hret _ news _ _ (by k_asm) (by first | k_asm | exact ntl (by k_asm)) ⟨rfl, _, rfl⟩)
end Mine
end
section
open PySem PySem.W PySem.Calls PyProof.Rows
namespace Mine
theorem reg39 : True := by
  w_top off
  k_with_none
  (k_with "execs cons" => (k_here; dsimp only))
  (k_with "execs nil" => (k_here; dsimp only))
  (k_with "subscriptTail Name Constant ref int" => (k_here; k_dflt (first
  | (refine' topTup_K ?hz_F ?hz_X ?hz_l ?hz_a ?hz_b ?hz_c ?hz_d ?_; (case hz_F => k_asm); (case hz_X => k_asm); (case hz_l => k_is); (case hz_a => decide); (case hz_b => decide); (case hz_c => rfl); (case hz_d => rfl))
  | (refine' item_tupleT (News.isTup (by k_asm) (by k_mem)) ?hz_a ?hz_b ?hz_c ?hz_d ?_; (case hz_a => decide); (case hz_b => decide); (case hz_c => rfl); (case hz_d => rfl); k_whole)
  | (refine' item_litK (News.isList (by k_asm) (by k_mem)) ?hz_a ?hz_b ?hz_d ?_; (case hz_a => decide); (case hz_b => decide); (case hz_d => rfl); k_whole))))
  (k_with "subscriptTail Name UnaryOp ref int" => (k_here; k_dflt (first
  | (refine' topTup_K ?hz_F ?hz_X ?hz_l ?hz_a ?hz_b ?hz_c ?hz_d ?_; (case hz_F => k_asm); (case hz_X => k_asm); (case hz_l => k_is); (case hz_a => decide); (case hz_b => decide); (case hz_c => rfl); (case hz_d => rfl))
  | (refine' item_tupleT (News.isTup (by k_asm) (by k_mem)) ?hz_a ?hz_b ?hz_c ?hz_d ?_; (case hz_a => decide); (case hz_b => decide); (case hz_c => rfl); (case hz_d => rfl); k_whole))))
  (k_with "call type:bytes cons nil" => (k_here; (with_reducible show wpAny _ _ (call (Value.type "bytes") [Value.bytes _ _]) _ _ _); k_dflt (refine bytes_of_bytes ?_)))
  (k_with "binaryOp Add bytes bytes" => (k_here; k_dflt (refine' KBy.add_bytes ?hz_sz ?_); (case hz_sz => ((try simp only [Array.size_append, List.size_toArray, List.length_cons, List.length_nil]); omega)); intro t9 k9; (try dsimp only)))
  (k_with "call ref" => (k_here; (with_reducible show wpAny _ _ (call (Value.ref 185) _) _ _ _); k_dflt (refine' ret_use (figures_of _ _ _ _ ?hz_ha) ?hz_k1 ?hz_k2 ?hz_k3 ?hz_k4 ?hz_k5 ?hz_kK ?hz_kd ?hz_ku ?_; (case hz_k1 => k_asm); (case hz_k2 => k_asm); (case hz_k3 => k_asm); (case hz_k4 => k_asm); (case hz_k5 => k_asm); (case hz_kK => first | exact rfl | assumption); (case hz_ha => omega); (case hz_kd => ktr_room); (case hz_ku => ktr_units)); intro r9 news9 h9 tk9 F9 N9 hp9; obtain ⟨e8, t9, e9⟩ := hp9; replace e8 := e8.symm; subst e8; subst e9))
  trivial
theorem octs_size (x : Str) : (octs x).size = x.length := by
  unfold octs
  simp
  rfl
noncomputable def litOcts (b : Array UInt8) : Array UInt8 := #[123] ++ octs (figs b.size) ++ #[125] ++ #[13, 10] ++ b
set_option maxRecDepth 100000 in
set_option maxHeartbeats 8000000 in
theorem literal_octets (w : World) (news : List (Addr × Obj)) (b : Array UInt8) (tb : Tok) (hb : b.size ≤ 100) :
   Ret PySem.Challenge.rw_nz0288_01.row.prog w (Mine.top.heap_1_39 w.params) Mine.top.view_1_40 LS 205 3 news [.bytes b tb, .bool false]
     (fun news' r => news' = news ∧ ∃ t, r = .bytes (litOcts b) t) := by
  k_fill
  unfold Ret
  intro mean mg mb dp un gd cn cs a ccd cl outer A₀ base h₀ L m s Q E B F X N T hk hd hu hret
  refine wpAny_call ?_
  k_dflt k_enter
  have hfs : (octs (figs b.size)).size ≤ 1000 := by rw [octs_size]; exact figs_len (by omega)
  repeat' (first | (k_unfold; (try dsimp only)) | (first | walk1 | (dsimp only; walk1)) | fail "no step")
  all_goals (refine hret _ news _ _ (by k_asm) (by first | k_asm | exact ntl (by k_asm)) ⟨rfl, _, rfl⟩)
end Mine
end
section
open PySem PySem.W PySem.Calls PyProof.Rows
namespace Mine
theorem reg40 : True := by
  w_top off
  k_with_none
  (k_with "execs cons" => (k_here; dsimp only))
  (k_with "execs nil" => (k_here; dsimp only))
  (k_with "subscriptTail Name Constant ref int" => (k_here; k_dflt (first
  | (refine' topTup_K ?hz_F ?hz_X ?hz_l ?hz_a ?hz_b ?hz_c ?hz_d ?_; (case hz_F => k_asm); (case hz_X => k_asm); (case hz_l => k_is); (case hz_a => decide); (case hz_b => decide); (case hz_c => rfl); (case hz_d => rfl))
  | (refine' item_tupleT (News.isTup (by k_asm) (by k_mem)) ?hz_a ?hz_b ?hz_c ?hz_d ?_; (case hz_a => decide); (case hz_b => decide); (case hz_c => rfl); (case hz_d => rfl); k_whole)
  | (refine' item_litK (News.isList (by k_asm) (by k_mem)) ?hz_a ?hz_b ?hz_d ?_; (case hz_a => decide); (case hz_b => decide); (case hz_d => rfl); k_whole))))
  (k_with "subscriptTail Name UnaryOp ref int" => (k_here; k_dflt (first
  | (refine' topTup_K ?hz_F ?hz_X ?hz_l ?hz_a ?hz_b ?hz_c ?hz_d ?_; (case hz_F => k_asm); (case hz_X => k_asm); (case hz_l => k_is); (case hz_a => decide); (case hz_b => decide); (case hz_c => rfl); (case hz_d => rfl))
  | (refine' item_tupleT (News.isTup (by k_asm) (by k_mem)) ?hz_a ?hz_b ?hz_c ?hz_d ?_; (case hz_a => decide); (case hz_b => decide); (case hz_c => rfl); (case hz_d => rfl); k_whole))))
  (k_with "LeaveD" => (k_dflt (refine' leaveD_ ?hz_k1 ?hz_k2 ?_; (case hz_k1 => k_asm); (case hz_k2 => k_asm); k_whole); intro kF kN; ground_anew kF; (have kX := kFor kF (by k_asm))))
  (k_with "wpK" => ((with_reducible show wpK _ _ (execs (_ :: _) _) _ _); refine wpK_execs_cons ?_; (try dsimp only)))
  (k_with "wpK" => ((with_reducible show wpK _ _ (execs [] _) _ _); refine wpK_execs_nil ?_; (try dsimp only)))
  (k_with "wpK" => ((with_reducible show wpK _ _ (exec (Stmt.Return (some _) _) _) _ _); refine wpK_Return ?_; (try dsimp only)))
  (k_with "wpK" => ((with_reducible show wpK _ _ (exec (Stmt.If _ _ _ _) _) _ _); refine wpK_If ?_))
  (k_with "wpK" => ((with_reducible show wpK _ _ (exec (Stmt.Expr _ _) _) _ _); refine wpK_Expr ?_))
  (k_with "wpK" => ((with_reducible show wpK _ _ (exec (Stmt.Assign [Expr.Name _ _] _ _) _) _ _); refine wpK_Assign_Name ?_))
  (k_with "wpK" => ((with_reducible show wpK _ _ (eval (Expr.Name _ _) _) _ _); refine wpK_any ?_))
  (k_with "wpK" => ((with_reducible show wpK _ _ (eval (Expr.Constant _ _ _) _) _ _); refine wpK_any ?_))
  (k_with "wpK" => ((with_reducible show wpK _ _ (eval (Expr.BinOp _ _ _ _) _) _ _); refine wpK_BinOp ?_))
  (k_with "wpK" => ((with_reducible show wpK _ _ (eval (Expr.Compare _ [_] [_] _) _) _ _); refine wpK_Compare1 ?_))
  (k_with "wpK" => ((with_reducible show wpK _ _ (binaryOp _ _ _) _ _); refine wpK_any ?_))
  (k_with "wpK" => ((with_reducible show wpK _ _ (compareOp _ _ _) _ _); refine wpK_any ?_))
  (k_with "wpK" => ((with_reducible show wpK _ _ (eval (Expr.Call (Expr.Name _ _) _ [] _) _) _ _); refine wpK_CallName ?_))
  (k_with "wpK" => ((with_reducible show wpK _ _ (eval (Expr.Call (Expr.Attribute _ _ _) _ [] _) _) _ _); refine wpK_CallMeth ?_))
  (k_with "wpK" => ((with_reducible show wpK _ _ (callWith _ (Value.type _) _ _ _) _ _); k_dflt (refine callWithK_any rfl ?_)))
  (k_with "wpK" => ((with_reducible show wpK _ _ (callWith _ (Value.builtin _) _ _ _) _ _); k_dflt (refine callWithK_any rfl ?_)))
  (k_with "wpK" => ((with_reducible show wpK _ _ (callWith _ (Value.ref _) _ _ _) _ _); k_dflt (refine' callWithK_def ?hz_k1 ?hz_k2 ?_; (case hz_k1 => k_asm); (case hz_k2 => k_is); k_whole)))
  (k_with "wpK" => ((with_reducible show wpK _ _ (call (Value.type "bytearray") [Value.bytes _ _]) _ _); k_dflt (refine' make_K ?hz_k1 ?hz_k2 ?hz_k3 ?_; (case hz_k1 => k_asm); (case hz_k2 => k_asm); (case hz_k3 => size_fits); k_whole); intro D9 h9 ne9 F9 N9; (try dsimp only at F9 N9 ⊢)))
  (k_with "wpK" => ((with_reducible show wpK _ _ (call (Value.builtin "bytearray.append") _) _ _); k_dflt (refine' appendB_K ?hz_k1 ?hz_k2 ?hz_k3 ?hz_k4 ?hz_k5 ?hz_k6 ?_; (case hz_k1 => k_asm); (case hz_k2 => k_asm); (case hz_k3 => k_upd); (case hz_k4 => omega); (case hz_k5 => omega); (case hz_k6 => first | assumption | (rw [sizeLine_eq]; (try simp only [Array.size_push]); omega)); k_whole); intro h9 F9 N9; (try dsimp only at F9 N9 ⊢)))
  (k_with "getMethod ref" => (k_here; k_dflt (refine' method_append ?hz_k1 ?hz_k2 ?_; (case hz_k1 => k_asm); (case hz_k2 => k_mem); k_whole)))
  (k_with "call type:bytes cons nil" => (k_here; k_dflt (refine' bytes_K ?hz_k1 ?hz_k2 ?hz_k3 ?_; (case hz_k1 => k_asm); (case hz_k2 => k_mem); (case hz_k3 => first | assumption | size_fits); k_whole); intro t9 k9; (try dsimp only)))
  (k_with "wpK" => ((with_reducible show wpK _ _ (call (Value.type "bytes") _) _ _); refine wpK_any ?_))
  (k_with "call type:bytes cons nil" => (k_here; (with_reducible show wpAny _ _ (call (Value.type "bytes") [Value.bytes _ _]) _ _ _); k_dflt (refine bytes_of_bytes ?_)))
  (k_with "binaryOp Add bytes bytes" => (k_here; k_dflt (refine' KBy.add_bytes ?hz_sz ?_); (case hz_sz => ((try simp only [Array.size_append, List.size_toArray, List.length_cons, List.length_nil]); omega)); intro t9 k9; (try dsimp only)))
  (k_with "call ref" => (k_here; (with_reducible show wpAny _ _ (call (Value.ref 128) _) _ _ _); k_dflt (refine' ret_use (lower_ _ _ _ _ ?hz_ha) ?hz_k1 ?hz_k2 ?hz_k3 ?hz_k4 ?hz_k5 ?hz_kK ?hz_kd ?hz_ku ?_; (case hz_k1 => k_asm); (case hz_k2 => k_asm); (case hz_k3 => k_asm); (case hz_k4 => k_asm); (case hz_k5 => k_asm); (case hz_kK => first | exact rfl | assumption); (case hz_ha => assumption); (case hz_kd => ktr_room); (case hz_ku => ktr_units)); intro r9 news9 h9 tk9 F9 N9 hp9; obtain ⟨e8, t9, e9⟩ := hp9; replace e8 := e8.symm; subst e8; subst e9))
  (k_with "call ref" => (k_here; (with_reducible show wpAny _ _ (call (Value.ref 190) _) _ _ _); k_dflt (refine' ret_use (is_quotable _ _ _ _ ?hz_ha) ?hz_k1 ?hz_k2 ?hz_k3 ?hz_k4 ?hz_k5 ?hz_kK ?hz_kd ?hz_ku ?_; (case hz_k1 => k_asm); (case hz_k2 => k_asm); (case hz_k3 => k_asm); (case hz_k4 => k_asm); (case hz_k5 => k_asm); (case hz_kK => first | exact rfl | assumption); (case hz_ha => assumption); (case hz_kd => ktr_room); (case hz_ku => ktr_units)); intro r9 news9 h9 tk9 F9 N9 hp9; obtain ⟨e8, e9⟩ := hp9; replace e8 := e8.symm; subst e8; subst e9))
  (k_with "call ref" => (k_here; (with_reducible show wpAny _ _ (call (Value.ref 178) _) _ _ _); k_dflt (refine' ret_use (is_astring_code _ _ _ _) ?hz_k1 ?hz_k2 ?hz_k3 ?hz_k4 ?hz_k5 ?hz_kK ?hz_kd ?hz_ku ?_; (case hz_k1 => k_asm); (case hz_k2 => k_asm); (case hz_k3 => k_asm); (case hz_k4 => k_asm); (case hz_k5 => k_asm); (case hz_kK => first | exact rfl | assumption); (case hz_kd => ktr_room); (case hz_ku => ktr_units)); intro r9 news9 h9 tk9 F9 N9 hp9; obtain ⟨e8, e9⟩ := hp9; replace e8 := e8.symm; subst e8; subst e9))
  (k_with "call ref" => (k_here; (with_reducible show wpAny _ _ (call (Value.ref 205) _) _ _ _); k_dflt (refine' ret_use (literal_octets _ _ _ _ ?hz_ha) ?hz_k1 ?hz_k2 ?hz_k3 ?hz_k4 ?hz_k5 ?hz_kK ?hz_kd ?hz_ku ?_; (case hz_k1 => k_asm); (case hz_k2 => k_asm); (case hz_k3 => k_asm); (case hz_k4 => k_asm); (case hz_k5 => k_asm); (case hz_kK => first | exact rfl | assumption); (case hz_ha => assumption); (case hz_kd => ktr_room); (case hz_ku => ktr_units)); intro r9 news9 h9 tk9 F9 N9 hp9; obtain ⟨e8, t9, e9⟩ := hp9; replace e8 := e8.symm; subst e8; subst e9))
  (k_with "wpK" => ((with_reducible show wpK _ _ (call (Value.ref 205) _) _ _); refine wpK_any ?_))
  (k_with "wpK" => ((with_reducible show wpK _ _ (call (Value.ref 197) _) _ _); k_dflt (refine' kret_use (quoted_octets _ _ _ _ ?hz_ha) ?hz_k1 ?hz_k2 ?hz_k3 ?hz_k4 ?hz_k5 ?hz_kK ?hz_kd ?hz_ku ?_; (case hz_k1 => k_asm); (case hz_k2 => k_asm); (case hz_k3 => k_asm); (case hz_k4 => k_asm); (case hz_k5 => k_asm); (case hz_kK => first | exact rfl | assumption); (case hz_ha => assumption); (case hz_kd => ktr_room); (case hz_ku => ktr_units)); intro r9 news9 h9 tk9 F9 N9 hp9; obtain ⟨e8, t9, e9⟩ := hp9; replace e8 := e8.symm; subst e8; subst e9))
  trivial
noncomputable def strOcts (b : Array UInt8) : Array UInt8 := if quotable b = true then qtOcts b else litOcts b
theorem str_yes {b : Array UInt8} (h : quotable b = true) : qtOcts b = strOcts b := by unfold strOcts; rw [if_pos h]
theorem str_no {b : Array UInt8} (h : ¬ quotable b = true) : litOcts b = strOcts b := by unfold strOcts; rw [if_neg h]
theorem turn_bytes {x y : Array UInt8} {t : Tok} (h : x = y) : Value.bytes x t = Value.bytes y t := by rw [h]
set_option maxRecDepth 100000 in
set_option maxHeartbeats 8000000 in
theorem string_octets (w : World) (news : List (Addr × Obj)) (b : Array UInt8) (tb : Tok) (hb : b.size ≤ 100) :
   KRet PySem.Challenge.rw_nz0288_01.row.prog w (Mine.top.heap_1_39 w.params) Mine.top.view_1_40 LS 213 4 news [.bytes b tb, .bool false]
     (fun news' r => news' = news ∧ ∃ t, r = .bytes (strOcts b) t) := by
  k_fill
  unfold KRet
  intro mean mg mb dp un gd cn cs a ccd cl outer A₀ base h₀ L m s Q B F X N T hk hd hu hret
  refine wpK_call ?_
  k_dflt (refine' code_defK (binds := [(Str.ofString "octets", .bytes b tb), (Str.ofString "is_plus", .bool false)]) ?k1 ?k2 ?k3 ?k4 ?k5 ?kA ?kF ?kK ?k6 ?k7 ?k8 ?k9 ?kB ?_ ?c2 ?c3 ?c4 ?c5; (case kA => exact rfl); (case kF => exact rfl); (case kK => assumption); (case k1 => k_asm); (case k2 => k_asm); (case k3 => k_asm); (case k4 => k_asm); (case k5 => k_asm); (case k6 => k_is); (case k7 => k_is); (case k8 => ktr_room); (case k9 => first | exact BindsTo.of_eq rfl | exact binds_K (by k_in) rfl (by k_is) rfl rfl rfl); (case c5 => decide); (case kB => exact locs rfl); (case c2 => exact rfl); (case c3 => exact rfl); (case c4 => exact rfl); k_whole; intro g' L' h' FG' F' N' B' X' T'; (try dsimp only); (try k_fold))
  repeat' (first | (k_unfold; (try dsimp only)) | (first | walk1 | (dsimp only; walk1)) | fail "no step")
  all_goals (refine hret _ news _ _ (by k_asm) (by first | k_asm | exact ntl (by k_asm)) ⟨rfl, _, turn_bytes ?_⟩; first | exact str_yes (by assumption) | exact str_no (by assumption) | exact str_no (ne_true_of_eq_false (by assumption)))
end Mine
end
section
open PySem PySem.W PySem.Calls PyProof.Rows
namespace Mine
theorem reg41 : True := by
  w_top off
  k_with_none
  (k_with "execs cons" => (k_here; dsimp only))
  (k_with "execs nil" => (k_here; dsimp only))
  (k_with "subscriptTail Name Constant ref int" => (k_here; k_dflt (first
  | (refine' topTup_K ?hz_F ?hz_X ?hz_l ?hz_a ?hz_b ?hz_c ?hz_d ?_; (case hz_F => k_asm); (case hz_X => k_asm); (case hz_l => k_is); (case hz_a => decide); (case hz_b => decide); (case hz_c => rfl); (case hz_d => rfl))
  | (refine' item_tupleT (News.isTup (by k_asm) (by k_mem)) ?hz_a ?hz_b ?hz_c ?hz_d ?_; (case hz_a => decide); (case hz_b => decide); (case hz_c => rfl); (case hz_d => rfl); k_whole)
  | (refine' item_litK (News.isList (by k_asm) (by k_mem)) ?hz_a ?hz_b ?hz_d ?_; (case hz_a => decide); (case hz_b => decide); (case hz_d => rfl); k_whole))))
  (k_with "subscriptTail Name UnaryOp ref int" => (k_here; k_dflt (first
  | (refine' topTup_K ?hz_F ?hz_X ?hz_l ?hz_a ?hz_b ?hz_c ?hz_d ?_; (case hz_F => k_asm); (case hz_X => k_asm); (case hz_l => k_is); (case hz_a => decide); (case hz_b => decide); (case hz_c => rfl); (case hz_d => rfl))
  | (refine' item_tupleT (News.isTup (by k_asm) (by k_mem)) ?hz_a ?hz_b ?hz_c ?hz_d ?_; (case hz_a => decide); (case hz_b => decide); (case hz_c => rfl); (case hz_d => rfl); k_whole))))
  (k_with "LeaveD" => (k_dflt (refine' leaveD_ ?hz_k1 ?hz_k2 ?_; (case hz_k1 => k_asm); (case hz_k2 => k_asm); k_whole); intro kF kN; ground_anew kF; (have kX := kFor kF (by k_asm))))
  (k_with "wpK" => ((with_reducible show wpK _ _ (execs (_ :: _) _) _ _); refine wpK_execs_cons ?_; (try dsimp only)))
  (k_with "wpK" => ((with_reducible show wpK _ _ (execs [] _) _ _); refine wpK_execs_nil ?_; (try dsimp only)))
  (k_with "wpK" => ((with_reducible show wpK _ _ (exec (Stmt.Return (some _) _) _) _ _); refine wpK_Return ?_; (try dsimp only)))
  (k_with "wpK" => ((with_reducible show wpK _ _ (exec (Stmt.If _ _ _ _) _) _ _); refine wpK_If ?_))
  (k_with "wpK" => ((with_reducible show wpK _ _ (exec (Stmt.Expr _ _) _) _ _); refine wpK_Expr ?_))
  (k_with "wpK" => ((with_reducible show wpK _ _ (exec (Stmt.Assign [Expr.Name _ _] _ _) _) _ _); refine wpK_Assign_Name ?_))
  (k_with "wpK" => ((with_reducible show wpK _ _ (eval (Expr.Name _ _) _) _ _); refine wpK_any ?_))
  (k_with "wpK" => ((with_reducible show wpK _ _ (eval (Expr.Constant _ _ _) _) _ _); refine wpK_any ?_))
  (k_with "wpK" => ((with_reducible show wpK _ _ (eval (Expr.BinOp _ _ _ _) _) _ _); refine wpK_BinOp ?_))
  (k_with "wpK" => ((with_reducible show wpK _ _ (eval (Expr.Compare _ [_] [_] _) _) _ _); refine wpK_Compare1 ?_))
  (k_with "wpK" => ((with_reducible show wpK _ _ (binaryOp _ _ _) _ _); refine wpK_any ?_))
  (k_with "wpK" => ((with_reducible show wpK _ _ (compareOp _ _ _) _ _); refine wpK_any ?_))
  (k_with "wpK" => ((with_reducible show wpK _ _ (eval (Expr.Call (Expr.Name _ _) _ [] _) _) _ _); refine wpK_CallName ?_))
  (k_with "wpK" => ((with_reducible show wpK _ _ (eval (Expr.Call (Expr.Attribute _ _ _) _ [] _) _) _ _); refine wpK_CallMeth ?_))
  (k_with "wpK" => ((with_reducible show wpK _ _ (callWith _ (Value.type _) _ _ _) _ _); k_dflt (refine callWithK_any rfl ?_)))
  (k_with "wpK" => ((with_reducible show wpK _ _ (callWith _ (Value.builtin _) _ _ _) _ _); k_dflt (refine callWithK_any rfl ?_)))
  (k_with "wpK" => ((with_reducible show wpK _ _ (callWith _ (Value.ref _) _ _ _) _ _); k_dflt (refine' callWithK_def ?hz_k1 ?hz_k2 ?_; (case hz_k1 => k_asm); (case hz_k2 => k_is); k_whole)))
  (k_with "wpK" => ((with_reducible show wpK _ _ (call (Value.type "bytearray") [Value.bytes _ _]) _ _); k_dflt (refine' make_K ?hz_k1 ?hz_k2 ?hz_k3 ?_; (case hz_k1 => k_asm); (case hz_k2 => k_asm); (case hz_k3 => size_fits); k_whole); intro D9 h9 ne9 F9 N9; (try dsimp only at F9 N9 ⊢)))
  (k_with "wpK" => ((with_reducible show wpK _ _ (call (Value.builtin "bytearray.append") _) _ _); k_dflt (refine' appendB_K ?hz_k1 ?hz_k2 ?hz_k3 ?hz_k4 ?hz_k5 ?hz_k6 ?_; (case hz_k1 => k_asm); (case hz_k2 => k_asm); (case hz_k3 => k_upd); (case hz_k4 => omega); (case hz_k5 => omega); (case hz_k6 => first | assumption | (rw [sizeLine_eq]; (try simp only [Array.size_push]); omega)); k_whole); intro h9 F9 N9; (try dsimp only at F9 N9 ⊢)))
  (k_with "getMethod ref" => (k_here; k_dflt (refine' method_append ?hz_k1 ?hz_k2 ?_; (case hz_k1 => k_asm); (case hz_k2 => k_mem); k_whole)))
  (k_with "call type:bytes cons nil" => (k_here; k_dflt (refine' bytes_K ?hz_k1 ?hz_k2 ?hz_k3 ?_; (case hz_k1 => k_asm); (case hz_k2 => k_mem); (case hz_k3 => first | assumption | size_fits); k_whole); intro t9 k9; (try dsimp only)))
  (k_with "wpK" => ((with_reducible show wpK _ _ (call (Value.type "bytes") _) _ _); refine wpK_any ?_))
  (k_with "call type:bytes cons nil" => (k_here; (with_reducible show wpAny _ _ (call (Value.type "bytes") [Value.bytes _ _]) _ _ _); k_dflt (refine bytes_of_bytes ?_)))
  (k_with "binaryOp Add bytes bytes" => (k_here; k_dflt (refine' KBy.add_bytes ?hz_sz ?_); (case hz_sz => ((try simp only [Array.size_append, List.size_toArray, List.length_cons, List.length_nil]); omega)); intro t9 k9; (try dsimp only)))
  (k_with "call ref" => (k_here; (with_reducible show wpAny _ _ (call (Value.ref 128) _) _ _ _); k_dflt (refine' ret_use (lower_ _ _ _ _ ?hz_ha) ?hz_k1 ?hz_k2 ?hz_k3 ?hz_k4 ?hz_k5 ?hz_kK ?hz_kd ?hz_ku ?_; (case hz_k1 => k_asm); (case hz_k2 => k_asm); (case hz_k3 => k_asm); (case hz_k4 => k_asm); (case hz_k5 => k_asm); (case hz_kK => first | exact rfl | assumption); (case hz_ha => assumption); (case hz_kd => ktr_room); (case hz_ku => ktr_units)); intro r9 news9 h9 tk9 F9 N9 hp9; obtain ⟨e8, t9, e9⟩ := hp9; replace e8 := e8.symm; subst e8; subst e9))
  (k_with "call ref" => (k_here; (with_reducible show wpAny _ _ (call (Value.ref 178) _) _ _ _); k_dflt (refine' ret_use (is_astring_code _ _ _ _) ?hz_k1 ?hz_k2 ?hz_k3 ?hz_k4 ?hz_k5 ?hz_kK ?hz_kd ?hz_ku ?_; (case hz_k1 => k_asm); (case hz_k2 => k_asm); (case hz_k3 => k_asm); (case hz_k4 => k_asm); (case hz_k5 => k_asm); (case hz_kK => first | exact rfl | assumption); (case hz_kd => ktr_room); (case hz_ku => ktr_units)); intro r9 news9 h9 tk9 F9 N9 hp9; obtain ⟨e8, e9⟩ := hp9; replace e8 := e8.symm; subst e8; subst e9))
  (k_with "wpK" => ((with_reducible show wpK _ _ (call (Value.ref 213) _) _ _); k_dflt (refine' kret_use (string_octets _ _ _ _ ?hz_ha) ?hz_k1 ?hz_k2 ?hz_k3 ?hz_k4 ?hz_k5 ?hz_kK ?hz_kd ?hz_ku ?_; (case hz_k1 => k_asm); (case hz_k2 => k_asm); (case hz_k3 => k_asm); (case hz_k4 => k_asm); (case hz_k5 => k_asm); (case hz_kK => first | exact rfl | assumption); (case hz_ha => assumption); (case hz_kd => ktr_room); (case hz_ku => ktr_units)); intro r9 news9 h9 tk9 F9 N9 hp9; obtain ⟨e8, t9, e9⟩ := hp9; replace e8 := e8.symm; subst e8; subst e9))
  (k_with "eval ListComp" => (k_here; k_dflt (refine lc_any (by k_asm) (by rfl) (by decide) (by rfl) (by decide) (by rfl) (by intro _; rfl) ?_)))
  (k_with "Src" => (k_here; k_dflt (refine' src_bytes (fun b _ => Value.bool b) astrC (by rfl) ?hz_F ?hz_N ?hz_sz (fun c' t' I' oI' C' oC' D' m' ys' h' tk' E' hm' hC' hx' F' N' off' ne' => ?_) (fun g' ys' hy' => ?_); (case hz_F => k_asm); (case hz_N => k_asm); (case hz_sz => rw [sizeLine_eq]; omega))))
  (k_with "TurnOk" => exact ⟨_, _, 0, rfl, by k_asm, by k_asm, rfl⟩)
  (k_with "call builtin:all cons nil" => (k_here; k_dflt (refine' LSm.all_bools (by k_asm) (by k_asm) (by rfl) (News.isList (by k_asm) (by k_mem)) (AllAre.bools (by assumption)) ?_; intro h' tk' F' N')))
  trivial
noncomputable abbrev nilB : Array UInt8 := #[110, 105, 108]
noncomputable def astrOcts (b : Array UInt8) : Array UInt8 := if 0 < (b.size : Int) ∧ (b.size : Int) ≤ 72 ∧ ((lowB b).toList != nilB.toList) = true ∧ (b.toList.map astrC).all id = true then b else strOcts b
theorem astr_yes {b : Array UInt8} (h1 : 0 < (b.size : Int)) (h2 : (b.size : Int) ≤ 72) (h3 : ((lowB b).toList != nilB.toList) = true) (h4 : (b.toList.map astrC).all id = true) : b = astrOcts b := by
  unfold astrOcts; rw [if_pos ⟨h1, h2, h3, h4⟩]
theorem astr_no1 {b : Array UInt8} (h : ¬ 0 < (b.size : Int)) : strOcts b = astrOcts b := by
  unfold astrOcts; rw [if_neg fun q => h q.1]
theorem astr_no2 {b : Array UInt8} (h : ¬ (b.size : Int) ≤ 72) : strOcts b = astrOcts b := by
  unfold astrOcts; rw [if_neg fun q => h q.2.1]
theorem astr_no3 {b : Array UInt8} (h : ((lowB b).toList != nilB.toList) = false) : strOcts b = astrOcts b := by
  unfold astrOcts; rw [if_neg fun q => by have := q.2.2.1; rw [h] at this; cases this]
theorem astr_no4 {b : Array UInt8} (h : (b.toList.map astrC).all id = false) : strOcts b = astrOcts b := by
  unfold astrOcts; rw [if_neg fun q => by have := q.2.2.2; rw [h] at this; cases this]
set_option maxRecDepth 100000 in
set_option maxHeartbeats 8000000 in
theorem astring_octets (w : World) (news : List (Addr × Obj)) (b : Array UInt8) (tb : Tok) (hb : b.size ≤ 100) :
   KRet PySem.Challenge.rw_nz0288_01.row.prog w (Mine.top.heap_1_39 w.params) Mine.top.view_1_40 LS 219 5 news [.bytes b tb]
     (fun news' r => news' = news ∧ ∃ t, r = .bytes (astrOcts b) t) := by
  k_fill
  unfold KRet
  intro mean mg mb dp un gd cn cs a ccd cl outer A₀ base h₀ L m s Q B F X N T hk hd hu hret
  refine wpK_call ?_
  k_dflt (refine' code_defK (binds := [(Str.ofString "octets", .bytes b tb), (Str.ofString "is_plus", .bool false)]) ?k1 ?k2 ?k3 ?k4 ?k5 ?kA ?kF ?kK ?k6 ?k7 ?k8 ?k9 ?kB ?_ ?c2 ?c3 ?c4 ?c5; (case kA => exact rfl); (case kF => exact rfl); (case kK => assumption); (case k1 => k_asm); (case k2 => k_asm); (case k3 => k_asm); (case k4 => k_asm); (case k5 => k_asm); (case k6 => k_is); (case k7 => k_is); (case k8 => ktr_room); (case k9 => first | exact BindsTo.of_eq rfl | exact binds_K (by k_in) rfl (by k_is) rfl rfl rfl); (case c5 => decide); (case kB => exact locs rfl); (case c2 => exact rfl); (case c3 => exact rfl); (case c4 => exact rfl); k_whole; intro g' L' h' FG' F' N' B' X' T'; (try dsimp only); (try k_fold))
  repeat' (first | (k_unfold; (try dsimp only)) | (first | walk1 | (dsimp only; walk1)) | fail "no step")
  all_goals (refine hret _ news _ _ (by k_asm) (by first | k_asm | exact ntl (by k_asm)) ⟨rfl, _, turn_bytes ?_⟩; first | exact astr_yes (by assumption) (by assumption) (by assumption) (by assumption) | exact astr_no1 (by assumption) | exact astr_no2 (by assumption) | exact astr_no3 (by assumption) | exact astr_no4 (by assumption))
end Mine
end
section
open PySem PySem.W PySem.Calls PyProof.Rows
namespace Mine
theorem reg42 : True := by
  w_top off
  k_with_none
  trivial
end Mine
set_option maxRecDepth 100000
namespace Mine
noncomputable def octA : Nat → Array UInt8
  | 0 => #[116, 101, 97]
  | 1 => #[]
  | 2 => #[97, 32, 98]
  | 3 => #[113, 34, 92]
  | 4 => #[195, 169]
  | 5 => #[78, 73, 76]
  | 6 => #[120, 13, 10]
  | 7 => #[40, 122]
  | 8 => #[91, 97, 93]
  | _ => Array.replicate 73 107
noncomputable def dayW : Nat → Str
  | 0 => Str.ofString "before"
  | 1 => Str.ofString "senton"
  | 2 => Str.ofString "since"
  | 3 => Str.ofString "sentsince"
  | _ => Str.ofString "on"
noncomputable def numW : Nat → Str
  | 0 => Str.ofString "larger"
  | 1 => Str.ofString "smaller"
  | _ => Str.ofString "modseq"
noncomputable def txtW : Nat → Str
  | 0 => Str.ofString "text"
  | _ => Str.ofString "body"
inductive Leaf where
  | all
  | flag (i : Nat)
  | uid (i : Nat)
  | seq (i : Nat)
  | day (k j : Nat)
  | num (k n : Nat)
  | header (o : Nat)
  | text (k o : Nat)
inductive Tree where
  | leaf (l : Leaf)
  | not (t : Tree)
  | and (l r : Tree)
  | or (l r : Tree)
noncomputable abbrev tup (vs : List Value) : Obj := { cls := .type "tuple", data := .seq vs.toArray }
/-- the members of a leaf's tuple -/
noncomputable def leafVals : Leaf → List Value → Prop
  | .all, vs => ∃ t, vs = [.str (Str.ofString "all") t]
  | .flag i, vs => i < 4 ∧ ∃ t u, vs = [.str (Str.ofString "flag") t, .str (flagNm i) u]
  | .uid i, vs => i < 3 ∧ ∃ t, vs = [.str (Str.ofString "uid") t, .ref (setA i)]
  | .seq i, vs => i < 3 ∧ ∃ t, vs = [.str (Str.ofString "seq") t, .ref (setA i)]
  | .day k j, vs => k < 5 ∧ j < 2 ∧ ∃ t, vs = [.str (dayW k) t, .ref (dayA j)]
  | .num k n, vs => k < 3 ∧ n < 10 ^ 18 ∧ ∃ t u, vs = [.str (numW k) t, .int (n : Int) u]
  | .header o, vs => o < 10 ∧ ∃ t u z, vs = [.str (Str.ofString "header") t, .str (Str.ofString "x-a") u, .bytes (octA o) z]
  | .text k o, vs => k < 2 ∧ o < 10 ∧ ∃ t z, vs = [.str (txtW k) t, .bytes (octA o) z]
/-- a value stands for a tree; its tuples lie in the ledger -/
noncomputable def IsTree (news : List (Addr × Obj)) : Tree → Value → Prop
  | .leaf l, v => ∃ (a : Addr) (vs : List Value), v = .ref a ∧ (a, tup vs) ∈ news ∧ leafVals l vs
  | .not t, v => ∃ (a : Addr) (u : Tok) (x : Value), v = .ref a ∧ (a, tup [.str (Str.ofString "not") u, x]) ∈ news ∧ IsTree news t x
  | .and l r, v => ∃ (a : Addr) (u : Tok) (x y : Value), v = .ref a ∧ (a, tup [.str (Str.ofString "and") u, x, y]) ∈ news ∧ IsTree news l x ∧ IsTree news r y
  | .or l r, v => ∃ (a : Addr) (u : Tok) (x y : Value), v = .ref a ∧ (a, tup [.str (Str.ofString "or") u, x, y]) ∈ news ∧ IsTree news l x ∧ IsTree news r y
theorem IsTree.mono {news news' : List (Addr × Obj)} (h : ∀ p ∈ news, p ∈ news') : ∀ {t : Tree} {v : Value}, IsTree news t v → IsTree news' t v
  | .leaf _, _, ⟨a, vs, e, m, r⟩ => ⟨a, vs, e, h _ m, r⟩
  | .not _, _, ⟨a, u, x, e, m, r⟩ => ⟨a, u, x, e, h _ m, r.mono h⟩
  | .and _ _, _, ⟨a, u, x, y, e, m, r, q⟩ => ⟨a, u, x, y, e, h _ m, r.mono h, q.mono h⟩
  | .or _ _, _, ⟨a, u, x, y, e, m, r, q⟩ => ⟨a, u, x, y, e, h _ m, r.mono h, q.mono h⟩
/-- what a leaf is written as -/
noncomputable def leafQ : Leaf → Array UInt8
  | .all => #[65, 76, 76]
  | .flag i => octs (Str.ofString "" ++ flagTx i)
  | .uid i => octs (Str.ofString "UID " ++ setTx i)
  | .seq i => octs (setTx i)
  | .day k j => octs (upText (dayW k) ++ Str.ofString " " ++ dayTx j)
  | .num k n => octs (upText (numW k) ++ Str.ofString " " ++ figs n)
  | .header o => #[72, 69, 65, 68, 69, 82, 32] ++ astrOcts (octs (Str.ofString "x-a")) ++ #[32] ++ astrOcts (octA o)
  | .text k o => octs (upText (txtW k) ++ Str.ofString " ") ++ astrOcts (octA o)
noncomputable def unQ : Tree → Array UInt8 → Array UInt8
  | .leaf (.flag i), _ => octs (Str.ofString "UN" ++ flagTx i)
  | _, k => #[78, 79, 84, 32] ++ k
/-- the key of a tree, and its row -/
noncomputable def both : Tree → Array UInt8 × Array UInt8
  | .leaf l => (leafQ l, leafQ l)
  | .not t => (unQ t (both t).1, unQ t (both t).1)
  | .and l r => (#[40] ++ ((both l).2 ++ #[32] ++ (both r).1) ++ #[41], (both l).2 ++ #[32] ++ (both r).1)
  | .or l r => (#[79, 82, 32] ++ (both l).1 ++ #[32] ++ (both r).1, #[79, 82, 32] ++ (both l).1 ++ #[32] ++ (both r).1)
noncomputable abbrev keyQ (t : Tree) : Array UInt8 := (both t).1
noncomputable abbrev qryQ (t : Tree) : Array UInt8 := (both t).2
noncomputable def depth : Tree → Nat
  | .leaf _ => 0
  | .not t => depth t + 1
  | .and l r => max (depth l) (depth r) + 1
  | .or l r => max (depth l) (depth r) + 1
noncomputable def rowOf : Tree → List Tree
  | .and l r => rowOf l ++ [r]
  | t => [t]
theorem octA_size (o : Nat) : (octA o).size ≤ 100 := by
  unfold octA
  split <;> first | decide | simp
theorem set_lt {i : Nat} (hi : i < 3) : ∀ c ∈ (setTx i).cps.toList, c < 128 := by rcases i with _ | _ | _ | i <;> first | (exfalso; omega) | decide +kernel
theorem set_len {i : Nat} (hi : i < 3) : (setTx i).length ≤ 1000 := by rcases i with _ | _ | _ | i <;> first | (exfalso; omega) | decide +kernel
theorem uid_lt {i : Nat} (hi : i < 3) : ∀ c ∈ (Str.ofString "UID " ++ setTx i).cps.toList, c < 128 := by rcases i with _ | _ | _ | i <;> first | (exfalso; omega) | decide +kernel
theorem uid_len {i : Nat} (hi : i < 3) : (Str.ofString "UID " ++ setTx i).length ≤ 1000 := by rcases i with _ | _ | _ | i <;> first | (exfalso; omega) | decide +kernel
theorem day_lt {k j : Nat} (hk : k < 5) (hj : j < 2) : ∀ c ∈ (upText (dayW k) ++ Str.ofString " " ++ dayTx j).cps.toList, c < 128 := by rcases k with _ | _ | _ | _ | _ | k <;> rcases j with _ | _ | j <;> first | (exfalso; omega) | decide +kernel
theorem day_len {k j : Nat} (hk : k < 5) (hj : j < 2) : (upText (dayW k) ++ Str.ofString " " ++ dayTx j).length ≤ 1000 := by rcases k with _ | _ | _ | _ | _ | k <;> rcases j with _ | _ | j <;> first | (exfalso; omega) | decide +kernel
theorem cps_app (x y : Str) : (x ++ y).cps = x.cps ++ y.cps := rfl
theorem num_lt {k n : Nat} (hk : k < 3) : ∀ c ∈ (upText (numW k) ++ Str.ofString " " ++ figs n).cps.toList, c < 128 := by
  intro c hc
  have h1 : ∀ c ∈ (upText (numW k) ++ Str.ofString " ").cps.toList, c < 128 := by rcases k with _ | _ | _ | k <;> first | (exfalso; omega) | decide +kernel
  rw [cps_app, Array.toList_append] at hc
  rcases List.mem_append.mp hc with h | h
  · exact h1 c h
  · exact figs_lt n c h
theorem num_len {k n : Nat} (hk : k < 3) (h : n < 10 ^ 18) : (upText (numW k) ++ Str.ofString " " ++ figs n).length ≤ 1000 := by
  have e : (figs n).length = (Nat.repr n).length := by
    show (figs n).cps.size = _
    rw [← Array.length_toList, figs_cps]
    simp [Nat.repr]
  have h1 : (figs n).length ≤ 60 := by
    rw [e]
    exact nat_repr_length_le (k := 60) (by decide) (Nat.lt_of_lt_of_le h (by decide))
  have h2 : (upText (numW k) ++ Str.ofString " ").length ≤ 20 := by rcases k with _ | _ | _ | k <;> first | (exfalso; omega) | decide +kernel
  have h3 : (upText (numW k) ++ Str.ofString " " ++ figs n).length = (upText (numW k) ++ Str.ofString " ").length + (figs n).length := by
    show (_ : Array Nat).size = _
    rw [cps_app, Array.size_append]
    rfl
  omega
inductive RowIs (news : List (Addr × Obj)) : List Tree → List Value → Prop
  | nil : RowIs news [] []
  | cons {t v ts vs} : IsTree news t v → RowIs news ts vs → RowIs news (t :: ts) (v :: vs)
noncomputable def isAnd : Tree → Bool
  | .and _ _ => true
  | _ => false
/-- a tree that is no row of keys: its tuple's head is some other word -/
theorem nonAnd {news : List (Addr × Obj)} : ∀ {t : Tree} {v : Value}, isAnd t = false → IsTree news t v → ∃ (a : Addr) (k : Str) (u : Tok) (rest : List Value), v = .ref a ∧ (a, tup (.str k u :: rest)) ∈ news ∧ (k == Str.ofString "and") = false
  | .leaf l, v, _, ⟨a, vs, e, m, r⟩ => by
    cases l with
    | all => obtain ⟨t, rfl⟩ := r; exact ⟨a, _, _, _, e, m, by decide +kernel⟩
    | flag i => obtain ⟨_, t, u, rfl⟩ := r; exact ⟨a, _, _, _, e, m, by decide +kernel⟩
    | uid i => obtain ⟨_, t, rfl⟩ := r; exact ⟨a, _, _, _, e, m, by decide +kernel⟩
    | seq i => obtain ⟨_, t, rfl⟩ := r; exact ⟨a, _, _, _, e, m, by decide +kernel⟩
    | day k j =>
      obtain ⟨hk, _, t, rfl⟩ := r
      exact ⟨a, _, _, _, e, m, by rcases k with _ | _ | _ | _ | _ | k <;> first | (exfalso; omega) | decide +kernel⟩
    | num k n =>
      obtain ⟨hk, _, t, u, rfl⟩ := r
      exact ⟨a, _, _, _, e, m, by rcases k with _ | _ | _ | k <;> first | (exfalso; omega) | decide +kernel⟩
    | header o => obtain ⟨_, t, u, z, rfl⟩ := r; exact ⟨a, _, _, _, e, m, by decide +kernel⟩
    | text k o =>
      obtain ⟨hk, _, t, z, rfl⟩ := r
      exact ⟨a, _, _, _, e, m, by rcases k with _ | _ | k <;> first | (exfalso; omega) | decide +kernel⟩
  | .not _, _, _, ⟨a, u, x, e, m, _⟩ => ⟨a, _, _, _, e, m, by decide +kernel⟩
  | .or _ _, _, _, ⟨a, u, x, y, e, m, _⟩ => ⟨a, _, _, _, e, m, by decide +kernel⟩
  | .and _ _, _, h, _ => nomatch h
theorem dayT_len {j : Nat} (hj : j < 2) : (dayTx j).length ≤ 1000 := by rcases j with _ | _ | j <;> first | (exfalso; omega) | decide +kernel
theorem sz2 {a b : Nat} (ha : a ≤ 1000) (hb : b ≤ 1000) : a + b ≤ sizeLine := by rw [sizeLine_eq]; omega
theorem xa_size : (octs (Str.ofString "x-a")).size ≤ 100 := by decide +kernel
theorem lit_size {b : Array UInt8} (hb : b.size ≤ 100) : (litOcts b).size ≤ 2000 := by
  have h1 : (octs (figs b.size)).size ≤ 1000 := by rw [octs_size]; exact figs_len (by omega)
  unfold litOcts
  simp only [Array.size_append, List.size_toArray, List.length_cons, List.length_nil]
  omega
theorem qt_size {b : Array UInt8} (hb : b.size ≤ 100) : (qtOcts b).size ≤ 2000 := by
  have := qtPart_size b b.size
  unfold qtOcts
  rw [Array.size_push]
  omega
theorem astr_size {b : Array UInt8} (hb : b.size ≤ 100) : (astrOcts b).size ≤ 2000 := by
  unfold astrOcts
  split
  · omega
  · unfold strOcts
    split
    · exact qt_size hb
    · exact lit_size hb
end Mine
end
section
open PySem PySem.W PySem.Calls PyProof.Rows
namespace Mine
theorem reg43 : True := by
  w_top off
  (k_with "execs cons" => (k_here; dsimp only))
  (k_with "execs nil" => (k_here; dsimp only))
  (k_with "subscriptTail Name Constant ref int" => (k_here; k_dflt (first
  | (refine' topTup_K ?hz_F ?hz_X ?hz_l ?hz_a ?hz_b ?hz_c ?hz_d ?_; (case hz_F => k_asm); (case hz_X => k_asm); (case hz_l => k_is); (case hz_a => decide); (case hz_b => decide); (case hz_c => rfl); (case hz_d => rfl))
  | (refine' item_tupleT (News.isTup (by k_asm) (by k_mem)) ?hz_a ?hz_b ?hz_c ?hz_d ?_; (case hz_a => decide); (case hz_b => decide); (case hz_c => rfl); (case hz_d => rfl); k_whole)
  | (refine' item_litK (News.isList (by k_asm) (by k_mem)) ?hz_a ?hz_b ?hz_d ?_; (case hz_a => decide); (case hz_b => decide); (case hz_d => rfl); k_whole))))
  (k_with "subscriptTail Name UnaryOp ref int" => (k_here; k_dflt (first
  | (refine' topTup_K ?hz_F ?hz_X ?hz_l ?hz_a ?hz_b ?hz_c ?hz_d ?_; (case hz_F => k_asm); (case hz_X => k_asm); (case hz_l => k_is); (case hz_a => decide); (case hz_b => decide); (case hz_c => rfl); (case hz_d => rfl))
  | (refine' item_tupleT (News.isTup (by k_asm) (by k_mem)) ?hz_a ?hz_b ?hz_c ?hz_d ?_; (case hz_a => decide); (case hz_b => decide); (case hz_c => rfl); (case hz_d => rfl); k_whole))))
  (k_with "LeaveD" => (k_dflt (refine' leaveD_ ?hz_k1 ?hz_k2 ?_; (case hz_k1 => k_asm); (case hz_k2 => k_asm); k_whole); intro kF kN; ground_anew kF; (have kX := kFor kF (by k_asm))))
  (k_with "wpK" => ((with_reducible show wpK _ _ (execs (_ :: _) _) _ _); refine wpK_execs_cons ?_; (try dsimp only)))
  (k_with "wpK" => ((with_reducible show wpK _ _ (execs [] _) _ _); refine wpK_execs_nil ?_; (try dsimp only)))
  (k_with "wpK" => ((with_reducible show wpK _ _ (exec (Stmt.Return (some _) _) _) _ _); refine wpK_Return ?_; (try dsimp only)))
  (k_with "wpK" => ((with_reducible show wpK _ _ (exec (Stmt.If _ _ _ _) _) _ _); refine wpK_If ?_))
  (k_with "wpK" => ((with_reducible show wpK _ _ (exec (Stmt.Expr _ _) _) _ _); refine wpK_Expr ?_))
  (k_with "wpK" => ((with_reducible show wpK _ _ (exec (Stmt.Assign [Expr.Name _ _] _ _) _) _ _); refine wpK_Assign_Name ?_))
  (k_with "wpK" => ((with_reducible show wpK _ _ (eval (Expr.Name _ _) _) _ _); refine wpK_any ?_))
  (k_with "wpK" => ((with_reducible show wpK _ _ (eval (Expr.Constant _ _ _) _) _ _); refine wpK_any ?_))
  (k_with "wpK" => ((with_reducible show wpK _ _ (eval (Expr.BinOp _ _ _ _) _) _ _); refine wpK_BinOp ?_))
  (k_with "wpK" => ((with_reducible show wpK _ _ (eval (Expr.Compare _ [_] [_] _) _) _ _); refine wpK_Compare1 ?_))
  (k_with "wpK" => ((with_reducible show wpK _ _ (binaryOp _ _ _) _ _); refine wpK_any ?_))
  (k_with "wpK" => ((with_reducible show wpK _ _ (compareOp _ _ _) _ _); refine wpK_any ?_))
  (k_with "wpK" => ((with_reducible show wpK _ _ (eval (Expr.Call (Expr.Name _ _) _ [] _) _) _ _); refine wpK_CallName ?_))
  (k_with "wpK" => ((with_reducible show wpK _ _ (eval (Expr.Call (Expr.Attribute _ _ _) _ [] _) _) _ _); refine wpK_CallMeth ?_))
  (k_with "wpK" => ((with_reducible show wpK _ _ (callWith _ (Value.type _) _ _ _) _ _); k_dflt (refine callWithK_any rfl ?_)))
  (k_with "wpK" => ((with_reducible show wpK _ _ (callWith _ (Value.builtin _) _ _ _) _ _); k_dflt (refine callWithK_any rfl ?_)))
  (k_with "wpK" => ((with_reducible show wpK _ _ (callWith _ (Value.ref _) _ _ _) _ _); k_dflt (refine' callWithK_def ?hz_k1 ?hz_k2 ?_; (case hz_k1 => k_asm); (case hz_k2 => k_is); k_whole)))
  (k_with "wpK" => ((with_reducible show wpK _ _ (call (Value.type "bytearray") [Value.bytes _ _]) _ _); k_dflt (refine' make_K ?hz_k1 ?hz_k2 ?hz_k3 ?_; (case hz_k1 => k_asm); (case hz_k2 => k_asm); (case hz_k3 => size_fits); k_whole); intro D9 h9 ne9 F9 N9; (try dsimp only at F9 N9 ⊢)))
  (k_with "wpK" => ((with_reducible show wpK _ _ (call (Value.builtin "bytearray.append") _) _ _); k_dflt (refine' appendB_K ?hz_k1 ?hz_k2 ?hz_k3 ?hz_k4 ?hz_k5 ?hz_k6 ?_; (case hz_k1 => k_asm); (case hz_k2 => k_asm); (case hz_k3 => k_upd); (case hz_k4 => omega); (case hz_k5 => omega); (case hz_k6 => first | assumption | (rw [sizeLine_eq]; (try simp only [Array.size_push]); omega)); k_whole); intro h9 F9 N9; (try dsimp only at F9 N9 ⊢)))
  (k_with "getMethod ref" => (k_here; k_dflt (refine' method_append ?hz_k1 ?hz_k2 ?_; (case hz_k1 => k_asm); (case hz_k2 => k_mem); k_whole)))
  (k_with "call type:bytes cons nil" => (k_here; k_dflt (refine' bytes_K ?hz_k1 ?hz_k2 ?hz_k3 ?_; (case hz_k1 => k_asm); (case hz_k2 => k_mem); (case hz_k3 => first | assumption | size_fits); k_whole); intro t9 k9; (try dsimp only)))
  (k_with "wpK" => ((with_reducible show wpK _ _ (call (Value.type "bytes") _) _ _); refine wpK_any ?_))
  (k_with "call type:bytes cons nil" => (k_here; (with_reducible show wpAny _ _ (call (Value.type "bytes") [Value.bytes _ _]) _ _ _); k_dflt (refine bytes_of_bytes ?_)))
  (k_with "binaryOp Add bytes bytes" => (k_here; k_dflt (refine' KBy.add_bytes ?hz_sz ?_); (case hz_sz => ((try simp only [Array.size_append, List.size_toArray, List.length_cons, List.length_nil]); omega)); intro t9 k9; (try dsimp only)))
  (k_with "wpK" => ((with_reducible show wpK _ _ (exec (Stmt.Assign [Expr.Tuple _ _ _] _ _) _) _ _); refine wpK_any ?_))
  (k_with "k_mem" => assumption)
  (k_with "call ref" => (k_here; (with_reducible show wpAny _ _ (call (Value.ref 138) _) _ _ _); k_dflt (refine' ret_use (text_octets _ _ _ _ ?hz_ha ?hz_hl) ?hz_k1 ?hz_k2 ?hz_k3 ?hz_k4 ?hz_k5 ?hz_kK ?hz_kd ?hz_ku ?_; (case hz_k1 => k_asm); (case hz_k2 => k_asm); (case hz_k3 => k_asm); (case hz_k4 => k_asm); (case hz_k5 => k_asm); (case hz_kK => first | exact rfl | assumption); (case hz_ha => exact uid_lt (by assumption)); (case hz_hl => exact uid_len (by assumption)); (case hz_kd => ktr_room); (case hz_ku => ktr_units)); intro r9 news9 h9 tk9 F9 N9 hp9; obtain ⟨e8, t9, e9⟩ := hp9; replace e8 := e8.symm; subst e8; subst e9))
  (k_with "call ref" => (k_here; (with_reducible show wpAny _ _ (call (Value.ref 133) _) _ _ _); k_dflt (refine' ret_use (upper_text _ _ _ _ ?hz_ha ?hz_hl) ?hz_k1 ?hz_k2 ?hz_k3 ?hz_k4 ?hz_k5 ?hz_kK ?hz_kd ?hz_ku ?_; (case hz_k1 => k_asm); (case hz_k2 => k_asm); (case hz_k3 => k_asm); (case hz_k4 => k_asm); (case hz_k5 => k_asm); (case hz_kK => first | exact rfl | assumption); (case hz_ha => decide +kernel); (case hz_hl => decide +kernel); (case hz_kd => ktr_room); (case hz_ku => ktr_units)); intro r9 news9 h9 tk9 F9 N9 hp9; obtain ⟨e8, t9, e9⟩ := hp9; replace e8 := e8.symm; subst e8; subst e9))
  (k_with "call ref" => (k_here; (with_reducible show wpAny _ _ (call (Value.ref 157) _) _ _ _); k_dflt (refine' ret_use (show_set _ _ _ ?hz_ha) ?hz_k1 ?hz_k2 ?hz_k3 ?hz_k4 ?hz_k5 ?hz_kK ?hz_kd ?hz_ku ?_; (case hz_k1 => k_asm); (case hz_k2 => k_asm); (case hz_k3 => k_asm); (case hz_k4 => k_asm); (case hz_k5 => k_asm); (case hz_kK => first | exact rfl | assumption); (case hz_ha => assumption); (case hz_kd => ktr_room); (case hz_ku => ktr_units)); intro r9 news9 h9 tk9 F9 N9 hp9; obtain ⟨e8, t9, e9⟩ := hp9; replace e8 := e8.symm; subst e8; subst e9))
  (k_with "call ref" => (k_here; (with_reducible show wpAny _ _ (call (Value.ref 116) _) _ _ _); k_dflt (refine' ret_use (write_day _ _ _ ?hz_ha) ?hz_k1 ?hz_k2 ?hz_k3 ?hz_k4 ?hz_k5 ?hz_kK ?hz_kd ?hz_ku ?_; (case hz_k1 => k_asm); (case hz_k2 => k_asm); (case hz_k3 => k_asm); (case hz_k4 => k_asm); (case hz_k5 => k_asm); (case hz_kK => first | exact rfl | assumption); (case hz_ha => assumption); (case hz_kd => ktr_room); (case hz_ku => ktr_units)); intro r9 news9 h9 tk9 F9 N9 hp9; obtain ⟨e8, t9, e9⟩ := hp9; replace e8 := e8.symm; subst e8; subst e9))
  (k_with "call ref" => (k_here; (with_reducible show wpAny _ _ (call (Value.ref 233) _) _ _ _); k_dflt (refine' ret_use (show_flag _ _ _ ?hz_ha _ _ _ ?hz_hl) ?hz_k1 ?hz_k2 ?hz_k3 ?hz_k4 ?hz_k5 ?hz_kK ?hz_kd ?hz_ku ?_; (case hz_k1 => k_asm); (case hz_k2 => k_asm); (case hz_k3 => k_asm); (case hz_k4 => k_asm); (case hz_k5 => k_asm); (case hz_kK => first | exact rfl | assumption); (case hz_ha => assumption); (case hz_hl => first | exact .inl rfl | exact .inr rfl); (case hz_kd => ktr_room); (case hz_ku => ktr_units)); intro r9 news9 h9 tk9 F9 N9 hp9; obtain ⟨e8, t9, e9⟩ := hp9; replace e8 := e8.symm; subst e8; subst e9))
  (k_with "wpK" => ((with_reducible show wpK _ _ (call (Value.ref 219) _) _ _); k_dflt (refine' kret_use (astring_octets _ _ _ _ ?hz_ha) ?hz_k1 ?hz_k2 ?hz_k3 ?hz_k4 ?hz_k5 ?hz_kK ?hz_kd ?hz_ku ?_; (case hz_k1 => k_asm); (case hz_k2 => k_asm); (case hz_k3 => k_asm); (case hz_k4 => k_asm); (case hz_k5 => k_asm); (case hz_kK => first | exact rfl | assumption); (case hz_ha => first | exact octA_size _ | exact xa_size); (case hz_kd => ktr_room); (case hz_ku => ktr_units)); intro r9 news9 h9 tk9 F9 N9 hp9; obtain ⟨e8, t9, e9⟩ := hp9; replace e8 := e8.symm; subst e8; subst e9))
  (k_with "binaryOp Add str str" => (k_here; (refine SBL.add (hsz := ?hz_hsz) ?_); (case hz_hsz => exact sz2 (by first | exact set_len (by assumption) | exact dayT_len (by assumption) | exact figs_len (by assumption) | decide +kernel) (by first | exact set_len (by assumption) | exact dayT_len (by assumption) | exact figs_len (by assumption) | decide +kernel)); intro _ _))
  (k_with "wpK" => ((with_reducible show wpK _ _ (call (Value.ref 138) _) _ _); refine wpK_any ?_))
  (k_with "wpK" => ((with_reducible show wpK _ _ (call (Value.ref 233) _) _ _); refine wpK_any ?_))
  trivial
set_option maxRecDepth 100000 in
set_option maxHeartbeats 8000000 in
theorem leaf_uid (w : World) (news : List (Addr × Obj)) (b : Addr) (i : Nat) (hi : i < 3) (t1 : Tok) (hm : (b, tup [.str (Str.ofString "uid") t1, .ref (setA i)]) ∈ news) :
   KRet PySem.Challenge.rw_nz0288_01.row.prog w (Mine.top.heap_1_39 w.params) Mine.top.view_1_40 LS 240 6 news [.ref b]
     (fun news' r => news' = news ∧ ∃ t, r = .bytes (leafQ (.uid i)) t) := by
  k_fill
  unfold KRet
  intro mean mg mb dp un gd cn cs a ccd cl outer A₀ base h₀ L m s Q B F X N T hk hd hu hret
  refine wpK_call ?_
  k_dflt (refine' code_defK (binds := [(Str.ofString "tree", .ref b)]) ?k1 ?k2 ?k3 ?k4 ?k5 ?kA ?kF ?kK ?k6 ?k7 ?k8 ?k9 ?kB ?_ ?c2 ?c3 ?c4 ?c5; (case kA => exact rfl); (case kF => exact rfl); (case kK => assumption); (case k1 => k_asm); (case k2 => k_asm); (case k3 => k_asm); (case k4 => k_asm); (case k5 => k_asm); (case k6 => k_is); (case k7 => k_is); (case k8 => ktr_room); (case k9 => first | exact BindsTo.of_eq rfl | exact binds_K (by k_in) rfl (by k_is) rfl rfl rfl); (case c5 => decide); (case kB => exact locs rfl); (case c2 => exact rfl); (case c3 => exact rfl); (case c4 => exact rfl); k_whole; intro g' L' h' FG' F' N' B' X' T'; (try dsimp only); (try k_fold))
  repeat' (first | (k_unfold; (try dsimp only)) | (first | walk1 | (dsimp only; walk1)) | fail "no step")
  all_goals (refine hret _ news _ _ (by k_asm) (by first | k_asm | exact ntl (by k_asm) | exact ntl (ntl (by k_asm)) | exact ntl (ntl (ntl (by k_asm)))) ⟨rfl, _, rfl⟩)
end Mine
end
section
open PySem PySem.W PySem.Calls PyProof.Rows
namespace Mine
theorem reg44 : True := by
  w_top off
  k_with_none
  (k_with "execs cons" => (k_here; dsimp only))
  (k_with "execs nil" => (k_here; dsimp only))
  (k_with "subscriptTail Name Constant ref int" => (k_here; k_dflt (first
  | (refine' topTup_K ?hz_F ?hz_X ?hz_l ?hz_a ?hz_b ?hz_c ?hz_d ?_; (case hz_F => k_asm); (case hz_X => k_asm); (case hz_l => k_is); (case hz_a => decide); (case hz_b => decide); (case hz_c => rfl); (case hz_d => rfl))
  | (refine' item_tupleT (News.isTup (by k_asm) (by k_mem)) ?hz_a ?hz_b ?hz_c ?hz_d ?_; (case hz_a => decide); (case hz_b => decide); (case hz_c => rfl); (case hz_d => rfl); k_whole)
  | (refine' item_litK (News.isList (by k_asm) (by k_mem)) ?hz_a ?hz_b ?hz_d ?_; (case hz_a => decide); (case hz_b => decide); (case hz_d => rfl); k_whole))))
  (k_with "subscriptTail Name UnaryOp ref int" => (k_here; k_dflt (first
  | (refine' topTup_K ?hz_F ?hz_X ?hz_l ?hz_a ?hz_b ?hz_c ?hz_d ?_; (case hz_F => k_asm); (case hz_X => k_asm); (case hz_l => k_is); (case hz_a => decide); (case hz_b => decide); (case hz_c => rfl); (case hz_d => rfl))
  | (refine' item_tupleT (News.isTup (by k_asm) (by k_mem)) ?hz_a ?hz_b ?hz_c ?hz_d ?_; (case hz_a => decide); (case hz_b => decide); (case hz_c => rfl); (case hz_d => rfl); k_whole))))
  (k_with "LeaveD" => (k_dflt (refine' leaveD_ ?hz_k1 ?hz_k2 ?_; (case hz_k1 => k_asm); (case hz_k2 => k_asm); k_whole); intro kF kN; ground_anew kF; (have kX := kFor kF (by k_asm))))
  (k_with "wpK" => ((with_reducible show wpK _ _ (execs (_ :: _) _) _ _); refine wpK_execs_cons ?_; (try dsimp only)))
  (k_with "wpK" => ((with_reducible show wpK _ _ (execs [] _) _ _); refine wpK_execs_nil ?_; (try dsimp only)))
  (k_with "wpK" => ((with_reducible show wpK _ _ (exec (Stmt.Return (some _) _) _) _ _); refine wpK_Return ?_; (try dsimp only)))
  (k_with "wpK" => ((with_reducible show wpK _ _ (exec (Stmt.If _ _ _ _) _) _ _); refine wpK_If ?_))
  (k_with "wpK" => ((with_reducible show wpK _ _ (exec (Stmt.Expr _ _) _) _ _); refine wpK_Expr ?_))
  (k_with "wpK" => ((with_reducible show wpK _ _ (exec (Stmt.Assign [Expr.Name _ _] _ _) _) _ _); refine wpK_Assign_Name ?_))
  (k_with "wpK" => ((with_reducible show wpK _ _ (eval (Expr.Name _ _) _) _ _); refine wpK_any ?_))
  (k_with "wpK" => ((with_reducible show wpK _ _ (eval (Expr.Constant _ _ _) _) _ _); refine wpK_any ?_))
  (k_with "wpK" => ((with_reducible show wpK _ _ (eval (Expr.BinOp _ _ _ _) _) _ _); refine wpK_BinOp ?_))
  (k_with "wpK" => ((with_reducible show wpK _ _ (eval (Expr.Compare _ [_] [_] _) _) _ _); refine wpK_Compare1 ?_))
  (k_with "wpK" => ((with_reducible show wpK _ _ (binaryOp _ _ _) _ _); refine wpK_any ?_))
  (k_with "wpK" => ((with_reducible show wpK _ _ (compareOp _ _ _) _ _); refine wpK_any ?_))
  (k_with "wpK" => ((with_reducible show wpK _ _ (eval (Expr.Call (Expr.Name _ _) _ [] _) _) _ _); refine wpK_CallName ?_))
  (k_with "wpK" => ((with_reducible show wpK _ _ (eval (Expr.Call (Expr.Attribute _ _ _) _ [] _) _) _ _); refine wpK_CallMeth ?_))
  (k_with "wpK" => ((with_reducible show wpK _ _ (callWith _ (Value.type _) _ _ _) _ _); k_dflt (refine callWithK_any rfl ?_)))
  (k_with "wpK" => ((with_reducible show wpK _ _ (callWith _ (Value.builtin _) _ _ _) _ _); k_dflt (refine callWithK_any rfl ?_)))
  (k_with "wpK" => ((with_reducible show wpK _ _ (callWith _ (Value.ref _) _ _ _) _ _); k_dflt (refine' callWithK_def ?hz_k1 ?hz_k2 ?_; (case hz_k1 => k_asm); (case hz_k2 => k_is); k_whole)))
  (k_with "wpK" => ((with_reducible show wpK _ _ (call (Value.type "bytearray") [Value.bytes _ _]) _ _); k_dflt (refine' make_K ?hz_k1 ?hz_k2 ?hz_k3 ?_; (case hz_k1 => k_asm); (case hz_k2 => k_asm); (case hz_k3 => size_fits); k_whole); intro D9 h9 ne9 F9 N9; (try dsimp only at F9 N9 ⊢)))
  (k_with "wpK" => ((with_reducible show wpK _ _ (call (Value.builtin "bytearray.append") _) _ _); k_dflt (refine' appendB_K ?hz_k1 ?hz_k2 ?hz_k3 ?hz_k4 ?hz_k5 ?hz_k6 ?_; (case hz_k1 => k_asm); (case hz_k2 => k_asm); (case hz_k3 => k_upd); (case hz_k4 => omega); (case hz_k5 => omega); (case hz_k6 => first | assumption | (rw [sizeLine_eq]; (try simp only [Array.size_push]); omega)); k_whole); intro h9 F9 N9; (try dsimp only at F9 N9 ⊢)))
  (k_with "getMethod ref" => (k_here; k_dflt (refine' method_append ?hz_k1 ?hz_k2 ?_; (case hz_k1 => k_asm); (case hz_k2 => k_mem); k_whole)))
  (k_with "call type:bytes cons nil" => (k_here; k_dflt (refine' bytes_K ?hz_k1 ?hz_k2 ?hz_k3 ?_; (case hz_k1 => k_asm); (case hz_k2 => k_mem); (case hz_k3 => first | assumption | size_fits); k_whole); intro t9 k9; (try dsimp only)))
  (k_with "wpK" => ((with_reducible show wpK _ _ (call (Value.type "bytes") _) _ _); refine wpK_any ?_))
  (k_with "call type:bytes cons nil" => (k_here; (with_reducible show wpAny _ _ (call (Value.type "bytes") [Value.bytes _ _]) _ _ _); k_dflt (refine bytes_of_bytes ?_)))
  (k_with "binaryOp Add bytes bytes" => (k_here; k_dflt (refine' KBy.add_bytes ?hz_sz ?_); (case hz_sz => ((try simp only [Array.size_append, List.size_toArray, List.length_cons, List.length_nil]); omega)); intro t9 k9; (try dsimp only)))
  (k_with "wpK" => ((with_reducible show wpK _ _ (exec (Stmt.Assign [Expr.Tuple _ _ _] _ _) _) _ _); refine wpK_any ?_))
  (k_with "k_mem" => assumption)
  (k_with "call ref" => (k_here; (with_reducible show wpAny _ _ (call (Value.ref 138) _) _ _ _); k_dflt (refine' ret_use (text_octets _ _ _ _ ?hz_ha ?hz_hl) ?hz_k1 ?hz_k2 ?hz_k3 ?hz_k4 ?hz_k5 ?hz_kK ?hz_kd ?hz_ku ?_; (case hz_k1 => k_asm); (case hz_k2 => k_asm); (case hz_k3 => k_asm); (case hz_k4 => k_asm); (case hz_k5 => k_asm); (case hz_kK => first | exact rfl | assumption); (case hz_ha => exact set_lt (by assumption)); (case hz_hl => exact set_len (by assumption)); (case hz_kd => ktr_room); (case hz_ku => ktr_units)); intro r9 news9 h9 tk9 F9 N9 hp9; obtain ⟨e8, t9, e9⟩ := hp9; replace e8 := e8.symm; subst e8; subst e9))
  (k_with "call ref" => (k_here; (with_reducible show wpAny _ _ (call (Value.ref 133) _) _ _ _); k_dflt (refine' ret_use (upper_text _ _ _ _ ?hz_ha ?hz_hl) ?hz_k1 ?hz_k2 ?hz_k3 ?hz_k4 ?hz_k5 ?hz_kK ?hz_kd ?hz_ku ?_; (case hz_k1 => k_asm); (case hz_k2 => k_asm); (case hz_k3 => k_asm); (case hz_k4 => k_asm); (case hz_k5 => k_asm); (case hz_kK => first | exact rfl | assumption); (case hz_ha => decide +kernel); (case hz_hl => decide +kernel); (case hz_kd => ktr_room); (case hz_ku => ktr_units)); intro r9 news9 h9 tk9 F9 N9 hp9; obtain ⟨e8, t9, e9⟩ := hp9; replace e8 := e8.symm; subst e8; subst e9))
  (k_with "call ref" => (k_here; (with_reducible show wpAny _ _ (call (Value.ref 157) _) _ _ _); k_dflt (refine' ret_use (show_set _ _ _ ?hz_ha) ?hz_k1 ?hz_k2 ?hz_k3 ?hz_k4 ?hz_k5 ?hz_kK ?hz_kd ?hz_ku ?_; (case hz_k1 => k_asm); (case hz_k2 => k_asm); (case hz_k3 => k_asm); (case hz_k4 => k_asm); (case hz_k5 => k_asm); (case hz_kK => first | exact rfl | assumption); (case hz_ha => assumption); (case hz_kd => ktr_room); (case hz_ku => ktr_units)); intro r9 news9 h9 tk9 F9 N9 hp9; obtain ⟨e8, t9, e9⟩ := hp9; replace e8 := e8.symm; subst e8; subst e9))
  (k_with "call ref" => (k_here; (with_reducible show wpAny _ _ (call (Value.ref 116) _) _ _ _); k_dflt (refine' ret_use (write_day _ _ _ ?hz_ha) ?hz_k1 ?hz_k2 ?hz_k3 ?hz_k4 ?hz_k5 ?hz_kK ?hz_kd ?hz_ku ?_; (case hz_k1 => k_asm); (case hz_k2 => k_asm); (case hz_k3 => k_asm); (case hz_k4 => k_asm); (case hz_k5 => k_asm); (case hz_kK => first | exact rfl | assumption); (case hz_ha => assumption); (case hz_kd => ktr_room); (case hz_ku => ktr_units)); intro r9 news9 h9 tk9 F9 N9 hp9; obtain ⟨e8, t9, e9⟩ := hp9; replace e8 := e8.symm; subst e8; subst e9))
  (k_with "call ref" => (k_here; (with_reducible show wpAny _ _ (call (Value.ref 233) _) _ _ _); k_dflt (refine' ret_use (show_flag _ _ _ ?hz_ha _ _ _ ?hz_hl) ?hz_k1 ?hz_k2 ?hz_k3 ?hz_k4 ?hz_k5 ?hz_kK ?hz_kd ?hz_ku ?_; (case hz_k1 => k_asm); (case hz_k2 => k_asm); (case hz_k3 => k_asm); (case hz_k4 => k_asm); (case hz_k5 => k_asm); (case hz_kK => first | exact rfl | assumption); (case hz_ha => assumption); (case hz_hl => first | exact .inl rfl | exact .inr rfl); (case hz_kd => ktr_room); (case hz_ku => ktr_units)); intro r9 news9 h9 tk9 F9 N9 hp9; obtain ⟨e8, t9, e9⟩ := hp9; replace e8 := e8.symm; subst e8; subst e9))
  (k_with "wpK" => ((with_reducible show wpK _ _ (call (Value.ref 219) _) _ _); k_dflt (refine' kret_use (astring_octets _ _ _ _ ?hz_ha) ?hz_k1 ?hz_k2 ?hz_k3 ?hz_k4 ?hz_k5 ?hz_kK ?hz_kd ?hz_ku ?_; (case hz_k1 => k_asm); (case hz_k2 => k_asm); (case hz_k3 => k_asm); (case hz_k4 => k_asm); (case hz_k5 => k_asm); (case hz_kK => first | exact rfl | assumption); (case hz_ha => first | exact octA_size _ | exact xa_size); (case hz_kd => ktr_room); (case hz_ku => ktr_units)); intro r9 news9 h9 tk9 F9 N9 hp9; obtain ⟨e8, t9, e9⟩ := hp9; replace e8 := e8.symm; subst e8; subst e9))
  (k_with "binaryOp Add str str" => (k_here; (refine SBL.add (hsz := ?hz_hsz) ?_); (case hz_hsz => exact sz2 (by first | exact set_len (by assumption) | exact dayT_len (by assumption) | exact figs_len (by assumption) | decide +kernel) (by first | exact set_len (by assumption) | exact dayT_len (by assumption) | exact figs_len (by assumption) | decide +kernel)); intro _ _))
  (k_with "wpK" => ((with_reducible show wpK _ _ (call (Value.ref 138) _) _ _); refine wpK_any ?_))
  (k_with "wpK" => ((with_reducible show wpK _ _ (call (Value.ref 233) _) _ _); refine wpK_any ?_))
  trivial
set_option maxRecDepth 100000 in
set_option maxHeartbeats 8000000 in
theorem leaf_seq (w : World) (news : List (Addr × Obj)) (b : Addr) (i : Nat) (hi : i < 3) (t1 : Tok) (hm : (b, tup [.str (Str.ofString "seq") t1, .ref (setA i)]) ∈ news) :
   KRet PySem.Challenge.rw_nz0288_01.row.prog w (Mine.top.heap_1_39 w.params) Mine.top.view_1_40 LS 240 6 news [.ref b]
     (fun news' r => news' = news ∧ ∃ t, r = .bytes (leafQ (.seq i)) t) := by
  k_fill
  unfold KRet
  intro mean mg mb dp un gd cn cs a ccd cl outer A₀ base h₀ L m s Q B F X N T hk hd hu hret
  refine wpK_call ?_
  k_dflt (refine' code_defK (binds := [(Str.ofString "tree", .ref b)]) ?k1 ?k2 ?k3 ?k4 ?k5 ?kA ?kF ?kK ?k6 ?k7 ?k8 ?k9 ?kB ?_ ?c2 ?c3 ?c4 ?c5; (case kA => exact rfl); (case kF => exact rfl); (case kK => assumption); (case k1 => k_asm); (case k2 => k_asm); (case k3 => k_asm); (case k4 => k_asm); (case k5 => k_asm); (case k6 => k_is); (case k7 => k_is); (case k8 => ktr_room); (case k9 => first | exact BindsTo.of_eq rfl | exact binds_K (by k_in) rfl (by k_is) rfl rfl rfl); (case c5 => decide); (case kB => exact locs rfl); (case c2 => exact rfl); (case c3 => exact rfl); (case c4 => exact rfl); k_whole; intro g' L' h' FG' F' N' B' X' T'; (try dsimp only); (try k_fold))
  repeat' (first | (k_unfold; (try dsimp only)) | (first | walk1 | (dsimp only; walk1)) | fail "no step")
  all_goals (refine hret _ news _ _ (by k_asm) (by first | k_asm | exact ntl (by k_asm) | exact ntl (ntl (by k_asm)) | exact ntl (ntl (ntl (by k_asm)))) ⟨rfl, _, rfl⟩)
end Mine
end
section
open PySem PySem.W PySem.Calls PyProof.Rows
namespace Mine
theorem reg45 : True := by
  w_top off
  trivial
set_option maxRecDepth 100000 in
set_option maxHeartbeats 8000000 in
theorem leaf_flag (w : World) (news : List (Addr × Obj)) (b : Addr) (i : Nat) (hi : i < 4) (t1 u1 : Tok) (hm : (b, tup [.str (Str.ofString "flag") t1, .str (flagNm i) u1]) ∈ news) :
   KRet PySem.Challenge.rw_nz0288_01.row.prog w (Mine.top.heap_1_39 w.params) Mine.top.view_1_40 LS 240 6 news [.ref b]
     (fun news' r => news' = news ∧ ∃ t, r = .bytes (leafQ (.flag i)) t) := by
  k_fill
  unfold KRet
  intro mean mg mb dp un gd cn cs a ccd cl outer A₀ base h₀ L m s Q B F X N T hk hd hu hret
  refine wpK_call ?_
  k_dflt (refine' code_defK (binds := [(Str.ofString "tree", .ref b)]) ?k1 ?k2 ?k3 ?k4 ?k5 ?kA ?kF ?kK ?k6 ?k7 ?k8 ?k9 ?kB ?_ ?c2 ?c3 ?c4 ?c5; (case kA => exact rfl); (case kF => exact rfl); (case kK => assumption); (case k1 => k_asm); (case k2 => k_asm); (case k3 => k_asm); (case k4 => k_asm); (case k5 => k_asm); (case k6 => k_is); (case k7 => k_is); (case k8 => ktr_room); (case k9 => first | exact BindsTo.of_eq rfl | exact binds_K (by k_in) rfl (by k_is) rfl rfl rfl); (case c5 => decide); (case kB => exact locs rfl); (case c2 => exact rfl); (case c3 => exact rfl); (case c4 => exact rfl); k_whole; intro g' L' h' FG' F' N' B' X' T'; (try dsimp only); (try k_fold))
  repeat' (first | (k_unfold; (try dsimp only)) | (first | walk1 | (dsimp only; walk1)) | fail "no step")
  all_goals (refine hret _ news _ _ (by k_asm) (by first | k_asm | exact ntl (by k_asm) | exact ntl (ntl (by k_asm)) | exact ntl (ntl (ntl (by k_asm)))) ⟨rfl, _, rfl⟩)
end Mine
end
section
open PySem PySem.W PySem.Calls PyProof.Rows
namespace Mine
theorem reg46 : True := by
  w_top off
  k_with_none
  (k_with "execs cons" => (k_here; dsimp only))
  (k_with "execs nil" => (k_here; dsimp only))
  (k_with "subscriptTail Name Constant ref int" => (k_here; k_dflt (first
  | (refine' topTup_K ?hz_F ?hz_X ?hz_l ?hz_a ?hz_b ?hz_c ?hz_d ?_; (case hz_F => k_asm); (case hz_X => k_asm); (case hz_l => k_is); (case hz_a => decide); (case hz_b => decide); (case hz_c => rfl); (case hz_d => rfl))
  | (refine' item_tupleT (News.isTup (by k_asm) (by k_mem)) ?hz_a ?hz_b ?hz_c ?hz_d ?_; (case hz_a => decide); (case hz_b => decide); (case hz_c => rfl); (case hz_d => rfl); k_whole)
  | (refine' item_litK (News.isList (by k_asm) (by k_mem)) ?hz_a ?hz_b ?hz_d ?_; (case hz_a => decide); (case hz_b => decide); (case hz_d => rfl); k_whole))))
  (k_with "subscriptTail Name UnaryOp ref int" => (k_here; k_dflt (first
  | (refine' topTup_K ?hz_F ?hz_X ?hz_l ?hz_a ?hz_b ?hz_c ?hz_d ?_; (case hz_F => k_asm); (case hz_X => k_asm); (case hz_l => k_is); (case hz_a => decide); (case hz_b => decide); (case hz_c => rfl); (case hz_d => rfl))
  | (refine' item_tupleT (News.isTup (by k_asm) (by k_mem)) ?hz_a ?hz_b ?hz_c ?hz_d ?_; (case hz_a => decide); (case hz_b => decide); (case hz_c => rfl); (case hz_d => rfl); k_whole))))
  (k_with "LeaveD" => (k_dflt (refine' leaveD_ ?hz_k1 ?hz_k2 ?_; (case hz_k1 => k_asm); (case hz_k2 => k_asm); k_whole); intro kF kN; ground_anew kF; (have kX := kFor kF (by k_asm))))
  (k_with "wpK" => ((with_reducible show wpK _ _ (execs (_ :: _) _) _ _); refine wpK_execs_cons ?_; (try dsimp only)))
  (k_with "wpK" => ((with_reducible show wpK _ _ (execs [] _) _ _); refine wpK_execs_nil ?_; (try dsimp only)))
  (k_with "wpK" => ((with_reducible show wpK _ _ (exec (Stmt.Return (some _) _) _) _ _); refine wpK_Return ?_; (try dsimp only)))
  (k_with "wpK" => ((with_reducible show wpK _ _ (exec (Stmt.If _ _ _ _) _) _ _); refine wpK_If ?_))
  (k_with "wpK" => ((with_reducible show wpK _ _ (exec (Stmt.Expr _ _) _) _ _); refine wpK_Expr ?_))
  (k_with "wpK" => ((with_reducible show wpK _ _ (exec (Stmt.Assign [Expr.Name _ _] _ _) _) _ _); refine wpK_Assign_Name ?_))
  (k_with "wpK" => ((with_reducible show wpK _ _ (eval (Expr.Name _ _) _) _ _); refine wpK_any ?_))
  (k_with "wpK" => ((with_reducible show wpK _ _ (eval (Expr.Constant _ _ _) _) _ _); refine wpK_any ?_))
  (k_with "wpK" => ((with_reducible show wpK _ _ (eval (Expr.BinOp _ _ _ _) _) _ _); refine wpK_BinOp ?_))
  (k_with "wpK" => ((with_reducible show wpK _ _ (eval (Expr.Compare _ [_] [_] _) _) _ _); refine wpK_Compare1 ?_))
  (k_with "wpK" => ((with_reducible show wpK _ _ (binaryOp _ _ _) _ _); refine wpK_any ?_))
  (k_with "wpK" => ((with_reducible show wpK _ _ (compareOp _ _ _) _ _); refine wpK_any ?_))
  (k_with "wpK" => ((with_reducible show wpK _ _ (eval (Expr.Call (Expr.Name _ _) _ [] _) _) _ _); refine wpK_CallName ?_))
  (k_with "wpK" => ((with_reducible show wpK _ _ (eval (Expr.Call (Expr.Attribute _ _ _) _ [] _) _) _ _); refine wpK_CallMeth ?_))
  (k_with "wpK" => ((with_reducible show wpK _ _ (callWith _ (Value.type _) _ _ _) _ _); k_dflt (refine callWithK_any rfl ?_)))
  (k_with "wpK" => ((with_reducible show wpK _ _ (callWith _ (Value.builtin _) _ _ _) _ _); k_dflt (refine callWithK_any rfl ?_)))
  (k_with "wpK" => ((with_reducible show wpK _ _ (callWith _ (Value.ref _) _ _ _) _ _); k_dflt (refine' callWithK_def ?hz_k1 ?hz_k2 ?_; (case hz_k1 => k_asm); (case hz_k2 => k_is); k_whole)))
  (k_with "wpK" => ((with_reducible show wpK _ _ (call (Value.type "bytearray") [Value.bytes _ _]) _ _); k_dflt (refine' make_K ?hz_k1 ?hz_k2 ?hz_k3 ?_; (case hz_k1 => k_asm); (case hz_k2 => k_asm); (case hz_k3 => size_fits); k_whole); intro D9 h9 ne9 F9 N9; (try dsimp only at F9 N9 ⊢)))
  (k_with "wpK" => ((with_reducible show wpK _ _ (call (Value.builtin "bytearray.append") _) _ _); k_dflt (refine' appendB_K ?hz_k1 ?hz_k2 ?hz_k3 ?hz_k4 ?hz_k5 ?hz_k6 ?_; (case hz_k1 => k_asm); (case hz_k2 => k_asm); (case hz_k3 => k_upd); (case hz_k4 => omega); (case hz_k5 => omega); (case hz_k6 => first | assumption | (rw [sizeLine_eq]; (try simp only [Array.size_push]); omega)); k_whole); intro h9 F9 N9; (try dsimp only at F9 N9 ⊢)))
  (k_with "getMethod ref" => (k_here; k_dflt (refine' method_append ?hz_k1 ?hz_k2 ?_; (case hz_k1 => k_asm); (case hz_k2 => k_mem); k_whole)))
  (k_with "call type:bytes cons nil" => (k_here; k_dflt (refine' bytes_K ?hz_k1 ?hz_k2 ?hz_k3 ?_; (case hz_k1 => k_asm); (case hz_k2 => k_mem); (case hz_k3 => first | assumption | size_fits); k_whole); intro t9 k9; (try dsimp only)))
  (k_with "wpK" => ((with_reducible show wpK _ _ (call (Value.type "bytes") _) _ _); refine wpK_any ?_))
  (k_with "call type:bytes cons nil" => (k_here; (with_reducible show wpAny _ _ (call (Value.type "bytes") [Value.bytes _ _]) _ _ _); k_dflt (refine bytes_of_bytes ?_)))
  (k_with "binaryOp Add bytes bytes" => (k_here; k_dflt (refine' KBy.add_bytes ?hz_sz ?_); (case hz_sz => ((try simp only [Array.size_append, List.size_toArray, List.length_cons, List.length_nil]); omega)); intro t9 k9; (try dsimp only)))
  (k_with "wpK" => ((with_reducible show wpK _ _ (exec (Stmt.Assign [Expr.Tuple _ _ _] _ _) _) _ _); refine wpK_any ?_))
  (k_with "k_mem" => assumption)
  (k_with "call ref" => (k_here; (with_reducible show wpAny _ _ (call (Value.ref 138) _) _ _ _); k_dflt (refine' ret_use (text_octets _ _ _ _ ?hz_ha ?hz_hl) ?hz_k1 ?hz_k2 ?hz_k3 ?hz_k4 ?hz_k5 ?hz_kK ?hz_kd ?hz_ku ?_; (case hz_k1 => k_asm); (case hz_k2 => k_asm); (case hz_k3 => k_asm); (case hz_k4 => k_asm); (case hz_k5 => k_asm); (case hz_kK => first | exact rfl | assumption); (case hz_ha => exact day_lt (k := 0) (by decide) (by assumption)); (case hz_hl => exact day_len (k := 0) (by decide) (by assumption)); (case hz_kd => ktr_room); (case hz_ku => ktr_units)); intro r9 news9 h9 tk9 F9 N9 hp9; obtain ⟨e8, t9, e9⟩ := hp9; replace e8 := e8.symm; subst e8; subst e9))
  (k_with "call ref" => (k_here; (with_reducible show wpAny _ _ (call (Value.ref 133) _) _ _ _); k_dflt (refine' ret_use (upper_text _ _ _ _ ?hz_ha ?hz_hl) ?hz_k1 ?hz_k2 ?hz_k3 ?hz_k4 ?hz_k5 ?hz_kK ?hz_kd ?hz_ku ?_; (case hz_k1 => k_asm); (case hz_k2 => k_asm); (case hz_k3 => k_asm); (case hz_k4 => k_asm); (case hz_k5 => k_asm); (case hz_kK => first | exact rfl | assumption); (case hz_ha => decide +kernel); (case hz_hl => decide +kernel); (case hz_kd => ktr_room); (case hz_ku => ktr_units)); intro r9 news9 h9 tk9 F9 N9 hp9; obtain ⟨e8, t9, e9⟩ := hp9; replace e8 := e8.symm; subst e8; subst e9))
  (k_with "call ref" => (k_here; (with_reducible show wpAny _ _ (call (Value.ref 157) _) _ _ _); k_dflt (refine' ret_use (show_set _ _ _ ?hz_ha) ?hz_k1 ?hz_k2 ?hz_k3 ?hz_k4 ?hz_k5 ?hz_kK ?hz_kd ?hz_ku ?_; (case hz_k1 => k_asm); (case hz_k2 => k_asm); (case hz_k3 => k_asm); (case hz_k4 => k_asm); (case hz_k5 => k_asm); (case hz_kK => first | exact rfl | assumption); (case hz_ha => assumption); (case hz_kd => ktr_room); (case hz_ku => ktr_units)); intro r9 news9 h9 tk9 F9 N9 hp9; obtain ⟨e8, t9, e9⟩ := hp9; replace e8 := e8.symm; subst e8; subst e9))
  (k_with "call ref" => (k_here; (with_reducible show wpAny _ _ (call (Value.ref 116) _) _ _ _); k_dflt (refine' ret_use (write_day _ _ _ ?hz_ha) ?hz_k1 ?hz_k2 ?hz_k3 ?hz_k4 ?hz_k5 ?hz_kK ?hz_kd ?hz_ku ?_; (case hz_k1 => k_asm); (case hz_k2 => k_asm); (case hz_k3 => k_asm); (case hz_k4 => k_asm); (case hz_k5 => k_asm); (case hz_kK => first | exact rfl | assumption); (case hz_ha => assumption); (case hz_kd => ktr_room); (case hz_ku => ktr_units)); intro r9 news9 h9 tk9 F9 N9 hp9; obtain ⟨e8, t9, e9⟩ := hp9; replace e8 := e8.symm; subst e8; subst e9))
  (k_with "call ref" => (k_here; (with_reducible show wpAny _ _ (call (Value.ref 233) _) _ _ _); k_dflt (refine' ret_use (show_flag _ _ _ ?hz_ha _ _ _ ?hz_hl) ?hz_k1 ?hz_k2 ?hz_k3 ?hz_k4 ?hz_k5 ?hz_kK ?hz_kd ?hz_ku ?_; (case hz_k1 => k_asm); (case hz_k2 => k_asm); (case hz_k3 => k_asm); (case hz_k4 => k_asm); (case hz_k5 => k_asm); (case hz_kK => first | exact rfl | assumption); (case hz_ha => assumption); (case hz_hl => first | exact .inl rfl | exact .inr rfl); (case hz_kd => ktr_room); (case hz_ku => ktr_units)); intro r9 news9 h9 tk9 F9 N9 hp9; obtain ⟨e8, t9, e9⟩ := hp9; replace e8 := e8.symm; subst e8; subst e9))
  (k_with "wpK" => ((with_reducible show wpK _ _ (call (Value.ref 219) _) _ _); k_dflt (refine' kret_use (astring_octets _ _ _ _ ?hz_ha) ?hz_k1 ?hz_k2 ?hz_k3 ?hz_k4 ?hz_k5 ?hz_kK ?hz_kd ?hz_ku ?_; (case hz_k1 => k_asm); (case hz_k2 => k_asm); (case hz_k3 => k_asm); (case hz_k4 => k_asm); (case hz_k5 => k_asm); (case hz_kK => first | exact rfl | assumption); (case hz_ha => first | exact octA_size _ | exact xa_size); (case hz_kd => ktr_room); (case hz_ku => ktr_units)); intro r9 news9 h9 tk9 F9 N9 hp9; obtain ⟨e8, t9, e9⟩ := hp9; replace e8 := e8.symm; subst e8; subst e9))
  (k_with "binaryOp Add str str" => (k_here; (refine SBL.add (hsz := ?hz_hsz) ?_); (case hz_hsz => exact sz2 (by first | exact set_len (by assumption) | exact dayT_len (by assumption) | exact figs_len (by assumption) | decide +kernel) (by first | exact set_len (by assumption) | exact dayT_len (by assumption) | exact figs_len (by assumption) | decide +kernel)); intro _ _))
  (k_with "wpK" => ((with_reducible show wpK _ _ (call (Value.ref 138) _) _ _); refine wpK_any ?_))
  (k_with "wpK" => ((with_reducible show wpK _ _ (call (Value.ref 233) _) _ _); refine wpK_any ?_))
  trivial
set_option maxRecDepth 100000 in
set_option maxHeartbeats 8000000 in
theorem leaf_day0 (w : World) (news : List (Addr × Obj)) (b : Addr) (j : Nat) (hj : j < 2) (t1 : Tok) (hm : (b, tup [.str (Str.ofString "before") t1, .ref (dayA j)]) ∈ news) :
   KRet PySem.Challenge.rw_nz0288_01.row.prog w (Mine.top.heap_1_39 w.params) Mine.top.view_1_40 LS 240 6 news [.ref b]
     (fun news' r => news' = news ∧ ∃ t, r = .bytes (leafQ (.day 0 j)) t) := by
  k_fill
  unfold KRet
  intro mean mg mb dp un gd cn cs a ccd cl outer A₀ base h₀ L m s Q B F X N T hk hd hu hret
  refine wpK_call ?_
  k_dflt (refine' code_defK (binds := [(Str.ofString "tree", .ref b)]) ?k1 ?k2 ?k3 ?k4 ?k5 ?kA ?kF ?kK ?k6 ?k7 ?k8 ?k9 ?kB ?_ ?c2 ?c3 ?c4 ?c5; (case kA => exact rfl); (case kF => exact rfl); (case kK => assumption); (case k1 => k_asm); (case k2 => k_asm); (case k3 => k_asm); (case k4 => k_asm); (case k5 => k_asm); (case k6 => k_is); (case k7 => k_is); (case k8 => ktr_room); (case k9 => first | exact BindsTo.of_eq rfl | exact binds_K (by k_in) rfl (by k_is) rfl rfl rfl); (case c5 => decide); (case kB => exact locs rfl); (case c2 => exact rfl); (case c3 => exact rfl); (case c4 => exact rfl); k_whole; intro g' L' h' FG' F' N' B' X' T'; (try dsimp only); (try k_fold))
  repeat' (first | (k_unfold; (try dsimp only)) | (first | walk1 | (dsimp only; walk1)) | fail "no step")
  all_goals (refine hret _ news _ _ (by k_asm) (by first | k_asm | exact ntl (by k_asm) | exact ntl (ntl (by k_asm)) | exact ntl (ntl (ntl (by k_asm)))) ⟨rfl, _, rfl⟩)
end Mine
end
section
open PySem PySem.W PySem.Calls PyProof.Rows
namespace Mine
theorem reg47 : True := by
  w_top off
  k_with_none
  (k_with "execs cons" => (k_here; dsimp only))
  (k_with "execs nil" => (k_here; dsimp only))
  (k_with "subscriptTail Name Constant ref int" => (k_here; k_dflt (first
  | (refine' topTup_K ?hz_F ?hz_X ?hz_l ?hz_a ?hz_b ?hz_c ?hz_d ?_; (case hz_F => k_asm); (case hz_X => k_asm); (case hz_l => k_is); (case hz_a => decide); (case hz_b => decide); (case hz_c => rfl); (case hz_d => rfl))
  | (refine' item_tupleT (News.isTup (by k_asm) (by k_mem)) ?hz_a ?hz_b ?hz_c ?hz_d ?_; (case hz_a => decide); (case hz_b => decide); (case hz_c => rfl); (case hz_d => rfl); k_whole)
  | (refine' item_litK (News.isList (by k_asm) (by k_mem)) ?hz_a ?hz_b ?hz_d ?_; (case hz_a => decide); (case hz_b => decide); (case hz_d => rfl); k_whole))))
  (k_with "subscriptTail Name UnaryOp ref int" => (k_here; k_dflt (first
  | (refine' topTup_K ?hz_F ?hz_X ?hz_l ?hz_a ?hz_b ?hz_c ?hz_d ?_; (case hz_F => k_asm); (case hz_X => k_asm); (case hz_l => k_is); (case hz_a => decide); (case hz_b => decide); (case hz_c => rfl); (case hz_d => rfl))
  | (refine' item_tupleT (News.isTup (by k_asm) (by k_mem)) ?hz_a ?hz_b ?hz_c ?hz_d ?_; (case hz_a => decide); (case hz_b => decide); (case hz_c => rfl); (case hz_d => rfl); k_whole))))
  (k_with "LeaveD" => (k_dflt (refine' leaveD_ ?hz_k1 ?hz_k2 ?_; (case hz_k1 => k_asm); (case hz_k2 => k_asm); k_whole); intro kF kN; ground_anew kF; (have kX := kFor kF (by k_asm))))
  (k_with "wpK" => ((with_reducible show wpK _ _ (execs (_ :: _) _) _ _); refine wpK_execs_cons ?_; (try dsimp only)))
  (k_with "wpK" => ((with_reducible show wpK _ _ (execs [] _) _ _); refine wpK_execs_nil ?_; (try dsimp only)))
  (k_with "wpK" => ((with_reducible show wpK _ _ (exec (Stmt.Return (some _) _) _) _ _); refine wpK_Return ?_; (try dsimp only)))
  (k_with "wpK" => ((with_reducible show wpK _ _ (exec (Stmt.If _ _ _ _) _) _ _); refine wpK_If ?_))
  (k_with "wpK" => ((with_reducible show wpK _ _ (exec (Stmt.Expr _ _) _) _ _); refine wpK_Expr ?_))
  (k_with "wpK" => ((with_reducible show wpK _ _ (exec (Stmt.Assign [Expr.Name _ _] _ _) _) _ _); refine wpK_Assign_Name ?_))
  (k_with "wpK" => ((with_reducible show wpK _ _ (eval (Expr.Name _ _) _) _ _); refine wpK_any ?_))
  (k_with "wpK" => ((with_reducible show wpK _ _ (eval (Expr.Constant _ _ _) _) _ _); refine wpK_any ?_))
  (k_with "wpK" => ((with_reducible show wpK _ _ (eval (Expr.BinOp _ _ _ _) _) _ _); refine wpK_BinOp ?_))
  (k_with "wpK" => ((with_reducible show wpK _ _ (eval (Expr.Compare _ [_] [_] _) _) _ _); refine wpK_Compare1 ?_))
  (k_with "wpK" => ((with_reducible show wpK _ _ (binaryOp _ _ _) _ _); refine wpK_any ?_))
  (k_with "wpK" => ((with_reducible show wpK _ _ (compareOp _ _ _) _ _); refine wpK_any ?_))
  (k_with "wpK" => ((with_reducible show wpK _ _ (eval (Expr.Call (Expr.Name _ _) _ [] _) _) _ _); refine wpK_CallName ?_))
  (k_with "wpK" => ((with_reducible show wpK _ _ (eval (Expr.Call (Expr.Attribute _ _ _) _ [] _) _) _ _); refine wpK_CallMeth ?_))
  (k_with "wpK" => ((with_reducible show wpK _ _ (callWith _ (Value.type _) _ _ _) _ _); k_dflt (refine callWithK_any rfl ?_)))
  (k_with "wpK" => ((with_reducible show wpK _ _ (callWith _ (Value.builtin _) _ _ _) _ _); k_dflt (refine callWithK_any rfl ?_)))
  (k_with "wpK" => ((with_reducible show wpK _ _ (callWith _ (Value.ref _) _ _ _) _ _); k_dflt (refine' callWithK_def ?hz_k1 ?hz_k2 ?_; (case hz_k1 => k_asm); (case hz_k2 => k_is); k_whole)))
  (k_with "wpK" => ((with_reducible show wpK _ _ (call (Value.type "bytearray") [Value.bytes _ _]) _ _); k_dflt (refine' make_K ?hz_k1 ?hz_k2 ?hz_k3 ?_; (case hz_k1 => k_asm); (case hz_k2 => k_asm); (case hz_k3 => size_fits); k_whole); intro D9 h9 ne9 F9 N9; (try dsimp only at F9 N9 ⊢)))
  (k_with "wpK" => ((with_reducible show wpK _ _ (call (Value.builtin "bytearray.append") _) _ _); k_dflt (refine' appendB_K ?hz_k1 ?hz_k2 ?hz_k3 ?hz_k4 ?hz_k5 ?hz_k6 ?_; (case hz_k1 => k_asm); (case hz_k2 => k_asm); (case hz_k3 => k_upd); (case hz_k4 => omega); (case hz_k5 => omega); (case hz_k6 => first | assumption | (rw [sizeLine_eq]; (try simp only [Array.size_push]); omega)); k_whole); intro h9 F9 N9; (try dsimp only at F9 N9 ⊢)))
  (k_with "getMethod ref" => (k_here; k_dflt (refine' method_append ?hz_k1 ?hz_k2 ?_; (case hz_k1 => k_asm); (case hz_k2 => k_mem); k_whole)))
  (k_with "call type:bytes cons nil" => (k_here; k_dflt (refine' bytes_K ?hz_k1 ?hz_k2 ?hz_k3 ?_; (case hz_k1 => k_asm); (case hz_k2 => k_mem); (case hz_k3 => first | assumption | size_fits); k_whole); intro t9 k9; (try dsimp only)))
  (k_with "wpK" => ((with_reducible show wpK _ _ (call (Value.type "bytes") _) _ _); refine wpK_any ?_))
  (k_with "call type:bytes cons nil" => (k_here; (with_reducible show wpAny _ _ (call (Value.type "bytes") [Value.bytes _ _]) _ _ _); k_dflt (refine bytes_of_bytes ?_)))
  (k_with "binaryOp Add bytes bytes" => (k_here; k_dflt (refine' KBy.add_bytes ?hz_sz ?_); (case hz_sz => ((try simp only [Array.size_append, List.size_toArray, List.length_cons, List.length_nil]); omega)); intro t9 k9; (try dsimp only)))
  (k_with "wpK" => ((with_reducible show wpK _ _ (exec (Stmt.Assign [Expr.Tuple _ _ _] _ _) _) _ _); refine wpK_any ?_))
  (k_with "k_mem" => assumption)
  (k_with "call ref" => (k_here; (with_reducible show wpAny _ _ (call (Value.ref 138) _) _ _ _); k_dflt (refine' ret_use (text_octets _ _ _ _ ?hz_ha ?hz_hl) ?hz_k1 ?hz_k2 ?hz_k3 ?hz_k4 ?hz_k5 ?hz_kK ?hz_kd ?hz_ku ?_; (case hz_k1 => k_asm); (case hz_k2 => k_asm); (case hz_k3 => k_asm); (case hz_k4 => k_asm); (case hz_k5 => k_asm); (case hz_kK => first | exact rfl | assumption); (case hz_ha => exact day_lt (k := 1) (by decide) (by assumption)); (case hz_hl => exact day_len (k := 1) (by decide) (by assumption)); (case hz_kd => ktr_room); (case hz_ku => ktr_units)); intro r9 news9 h9 tk9 F9 N9 hp9; obtain ⟨e8, t9, e9⟩ := hp9; replace e8 := e8.symm; subst e8; subst e9))
  (k_with "call ref" => (k_here; (with_reducible show wpAny _ _ (call (Value.ref 133) _) _ _ _); k_dflt (refine' ret_use (upper_text _ _ _ _ ?hz_ha ?hz_hl) ?hz_k1 ?hz_k2 ?hz_k3 ?hz_k4 ?hz_k5 ?hz_kK ?hz_kd ?hz_ku ?_; (case hz_k1 => k_asm); (case hz_k2 => k_asm); (case hz_k3 => k_asm); (case hz_k4 => k_asm); (case hz_k5 => k_asm); (case hz_kK => first | exact rfl | assumption); (case hz_ha => decide +kernel); (case hz_hl => decide +kernel); (case hz_kd => ktr_room); (case hz_ku => ktr_units)); intro r9 news9 h9 tk9 F9 N9 hp9; obtain ⟨e8, t9, e9⟩ := hp9; replace e8 := e8.symm; subst e8; subst e9))
  (k_with "call ref" => (k_here; (with_reducible show wpAny _ _ (call (Value.ref 157) _) _ _ _); k_dflt (refine' ret_use (show_set _ _ _ ?hz_ha) ?hz_k1 ?hz_k2 ?hz_k3 ?hz_k4 ?hz_k5 ?hz_kK ?hz_kd ?hz_ku ?_; (case hz_k1 => k_asm); (case hz_k2 => k_asm); (case hz_k3 => k_asm); (case hz_k4 => k_asm); (case hz_k5 => k_asm); (case hz_kK => first | exact rfl | assumption); (case hz_ha => assumption); (case hz_kd => ktr_room); (case hz_ku => ktr_units)); intro r9 news9 h9 tk9 F9 N9 hp9; obtain ⟨e8, t9, e9⟩ := hp9; replace e8 := e8.symm; subst e8; subst e9))
  (k_with "call ref" => (k_here; (with_reducible show wpAny _ _ (call (Value.ref 116) _) _ _ _); k_dflt (refine' ret_use (write_day _ _ _ ?hz_ha) ?hz_k1 ?hz_k2 ?hz_k3 ?hz_k4 ?hz_k5 ?hz_kK ?hz_kd ?hz_ku ?_; (case hz_k1 => k_asm); (case hz_k2 => k_asm); (case hz_k3 => k_asm); (case hz_k4 => k_asm); (case hz_k5 => k_asm); (case hz_kK => first | exact rfl | assumption); (case hz_ha => assumption); (case hz_kd => ktr_room); (case hz_ku => ktr_units)); intro r9 news9 h9 tk9 F9 N9 hp9; obtain ⟨e8, t9, e9⟩ := hp9; replace e8 := e8.symm; subst e8; subst e9))
  (k_with "call ref" => (k_here; (with_reducible show wpAny _ _ (call (Value.ref 233) _) _ _ _); k_dflt (refine' ret_use (show_flag _ _ _ ?hz_ha _ _ _ ?hz_hl) ?hz_k1 ?hz_k2 ?hz_k3 ?hz_k4 ?hz_k5 ?hz_kK ?hz_kd ?hz_ku ?_; (case hz_k1 => k_asm); (case hz_k2 => k_asm); (case hz_k3 => k_asm); (case hz_k4 => k_asm); (case hz_k5 => k_asm); (case hz_kK => first | exact rfl | assumption); (case hz_ha => assumption); (case hz_hl => first | exact .inl rfl | exact .inr rfl); (case hz_kd => ktr_room); (case hz_ku => ktr_units)); intro r9 news9 h9 tk9 F9 N9 hp9; obtain ⟨e8, t9, e9⟩ := hp9; replace e8 := e8.symm; subst e8; subst e9))
  (k_with "wpK" => ((with_reducible show wpK _ _ (call (Value.ref 219) _) _ _); k_dflt (refine' kret_use (astring_octets _ _ _ _ ?hz_ha) ?hz_k1 ?hz_k2 ?hz_k3 ?hz_k4 ?hz_k5 ?hz_kK ?hz_kd ?hz_ku ?_; (case hz_k1 => k_asm); (case hz_k2 => k_asm); (case hz_k3 => k_asm); (case hz_k4 => k_asm); (case hz_k5 => k_asm); (case hz_kK => first | exact rfl | assumption); (case hz_ha => first | exact octA_size _ | exact xa_size); (case hz_kd => ktr_room); (case hz_ku => ktr_units)); intro r9 news9 h9 tk9 F9 N9 hp9; obtain ⟨e8, t9, e9⟩ := hp9; replace e8 := e8.symm; subst e8; subst e9))
  (k_with "binaryOp Add str str" => (k_here; (refine SBL.add (hsz := ?hz_hsz) ?_); (case hz_hsz => exact sz2 (by first | exact set_len (by assumption) | exact dayT_len (by assumption) | exact figs_len (by assumption) | decide +kernel) (by first | exact set_len (by assumption) | exact dayT_len (by assumption) | exact figs_len (by assumption) | decide +kernel)); intro _ _))
  (k_with "wpK" => ((with_reducible show wpK _ _ (call (Value.ref 138) _) _ _); refine wpK_any ?_))
  (k_with "wpK" => ((with_reducible show wpK _ _ (call (Value.ref 233) _) _ _); refine wpK_any ?_))
  trivial
set_option maxRecDepth 100000 in
set_option maxHeartbeats 8000000 in
theorem leaf_day1 (w : World) (news : List (Addr × Obj)) (b : Addr) (j : Nat) (hj : j < 2) (t1 : Tok) (hm : (b, tup [.str (Str.ofString "senton") t1, .ref (dayA j)]) ∈ news) :
   KRet PySem.Challenge.rw_nz0288_01.row.prog w (Mine.top.heap_1_39 w.params) Mine.top.view_1_40 LS 240 6 news [.ref b]
     (fun news' r => news' = news ∧ ∃ t, r = .bytes (leafQ (.day 1 j)) t) := by
  k_fill
  unfold KRet
  intro mean mg mb dp un gd cn cs a ccd cl outer A₀ base h₀ L m s Q B F X N T hk hd hu hret
  refine wpK_call ?_
  k_dflt (refine' code_defK (binds := [(Str.ofString "tree", .ref b)]) ?k1 ?k2 ?k3 ?k4 ?k5 ?kA ?kF ?kK ?k6 ?k7 ?k8 ?k9 ?kB ?_ ?c2 ?c3 ?c4 ?c5; (case kA => exact rfl); (case kF => exact rfl); (case kK => assumption); (case k1 => k_asm); (case k2 => k_asm); (case k3 => k_asm); (case k4 => k_asm); (case k5 => k_asm); (case k6 => k_is); (case k7 => k_is); (case k8 => ktr_room); (case k9 => first | exact BindsTo.of_eq rfl | exact binds_K (by k_in) rfl (by k_is) rfl rfl rfl); (case c5 => decide); (case kB => exact locs rfl); (case c2 => exact rfl); (case c3 => exact rfl); (case c4 => exact rfl); k_whole; intro g' L' h' FG' F' N' B' X' T'; (try dsimp only); (try k_fold))
  repeat' (first | (k_unfold; (try dsimp only)) | (first | walk1 | (dsimp only; walk1)) | fail "no step")
  all_goals (refine hret _ news _ _ (by k_asm) (by first | k_asm | exact ntl (by k_asm) | exact ntl (ntl (by k_asm)) | exact ntl (ntl (ntl (by k_asm)))) ⟨rfl, _, rfl⟩)
end Mine
end
section
open PySem PySem.W PySem.Calls PyProof.Rows
namespace Mine
theorem reg48 : True := by
  w_top off
  k_with_none
  (k_with "execs cons" => (k_here; dsimp only))
  (k_with "execs nil" => (k_here; dsimp only))
  (k_with "subscriptTail Name Constant ref int" => (k_here; k_dflt (first
  | (refine' topTup_K ?hz_F ?hz_X ?hz_l ?hz_a ?hz_b ?hz_c ?hz_d ?_; (case hz_F => k_asm); (case hz_X => k_asm); (case hz_l => k_is); (case hz_a => decide); (case hz_b => decide); (case hz_c => rfl); (case hz_d => rfl))
  | (refine' item_tupleT (News.isTup (by k_asm) (by k_mem)) ?hz_a ?hz_b ?hz_c ?hz_d ?_; (case hz_a => decide); (case hz_b => decide); (case hz_c => rfl); (case hz_d => rfl); k_whole)
  | (refine' item_litK (News.isList (by k_asm) (by k_mem)) ?hz_a ?hz_b ?hz_d ?_; (case hz_a => decide); (case hz_b => decide); (case hz_d => rfl); k_whole))))
  (k_with "subscriptTail Name UnaryOp ref int" => (k_here; k_dflt (first
  | (refine' topTup_K ?hz_F ?hz_X ?hz_l ?hz_a ?hz_b ?hz_c ?hz_d ?_; (case hz_F => k_asm); (case hz_X => k_asm); (case hz_l => k_is); (case hz_a => decide); (case hz_b => decide); (case hz_c => rfl); (case hz_d => rfl))
  | (refine' item_tupleT (News.isTup (by k_asm) (by k_mem)) ?hz_a ?hz_b ?hz_c ?hz_d ?_; (case hz_a => decide); (case hz_b => decide); (case hz_c => rfl); (case hz_d => rfl); k_whole))))
  (k_with "LeaveD" => (k_dflt (refine' leaveD_ ?hz_k1 ?hz_k2 ?_; (case hz_k1 => k_asm); (case hz_k2 => k_asm); k_whole); intro kF kN; ground_anew kF; (have kX := kFor kF (by k_asm))))
  (k_with "wpK" => ((with_reducible show wpK _ _ (execs (_ :: _) _) _ _); refine wpK_execs_cons ?_; (try dsimp only)))
  (k_with "wpK" => ((with_reducible show wpK _ _ (execs [] _) _ _); refine wpK_execs_nil ?_; (try dsimp only)))
  (k_with "wpK" => ((with_reducible show wpK _ _ (exec (Stmt.Return (some _) _) _) _ _); refine wpK_Return ?_; (try dsimp only)))
  (k_with "wpK" => ((with_reducible show wpK _ _ (exec (Stmt.If _ _ _ _) _) _ _); refine wpK_If ?_))
  (k_with "wpK" => ((with_reducible show wpK _ _ (exec (Stmt.Expr _ _) _) _ _); refine wpK_Expr ?_))
  (k_with "wpK" => ((with_reducible show wpK _ _ (exec (Stmt.Assign [Expr.Name _ _] _ _) _) _ _); refine wpK_Assign_Name ?_))
  (k_with "wpK" => ((with_reducible show wpK _ _ (eval (Expr.Name _ _) _) _ _); refine wpK_any ?_))
  (k_with "wpK" => ((with_reducible show wpK _ _ (eval (Expr.Constant _ _ _) _) _ _); refine wpK_any ?_))
  (k_with "wpK" => ((with_reducible show wpK _ _ (eval (Expr.BinOp _ _ _ _) _) _ _); refine wpK_BinOp ?_))
  (k_with "wpK" => ((with_reducible show wpK _ _ (eval (Expr.Compare _ [_] [_] _) _) _ _); refine wpK_Compare1 ?_))
  (k_with "wpK" => ((with_reducible show wpK _ _ (binaryOp _ _ _) _ _); refine wpK_any ?_))
  (k_with "wpK" => ((with_reducible show wpK _ _ (compareOp _ _ _) _ _); refine wpK_any ?_))
  (k_with "wpK" => ((with_reducible show wpK _ _ (eval (Expr.Call (Expr.Name _ _) _ [] _) _) _ _); refine wpK_CallName ?_))
  (k_with "wpK" => ((with_reducible show wpK _ _ (eval (Expr.Call (Expr.Attribute _ _ _) _ [] _) _) _ _); refine wpK_CallMeth ?_))
  (k_with "wpK" => ((with_reducible show wpK _ _ (callWith _ (Value.type _) _ _ _) _ _); k_dflt (refine callWithK_any rfl ?_)))
  (k_with "wpK" => ((with_reducible show wpK _ _ (callWith _ (Value.builtin _) _ _ _) _ _); k_dflt (refine callWithK_any rfl ?_)))
  (k_with "wpK" => ((with_reducible show wpK _ _ (callWith _ (Value.ref _) _ _ _) _ _); k_dflt (refine' callWithK_def ?hz_k1 ?hz_k2 ?_; (case hz_k1 => k_asm); (case hz_k2 => k_is); k_whole)))
  (k_with "wpK" => ((with_reducible show wpK _ _ (call (Value.type "bytearray") [Value.bytes _ _]) _ _); k_dflt (refine' make_K ?hz_k1 ?hz_k2 ?hz_k3 ?_; (case hz_k1 => k_asm); (case hz_k2 => k_asm); (case hz_k3 => size_fits); k_whole); intro D9 h9 ne9 F9 N9; (try dsimp only at F9 N9 ⊢)))
  (k_with "wpK" => ((with_reducible show wpK _ _ (call (Value.builtin "bytearray.append") _) _ _); k_dflt (refine' appendB_K ?hz_k1 ?hz_k2 ?hz_k3 ?hz_k4 ?hz_k5 ?hz_k6 ?_; (case hz_k1 => k_asm); (case hz_k2 => k_asm); (case hz_k3 => k_upd); (case hz_k4 => omega); (case hz_k5 => omega); (case hz_k6 => first | assumption | (rw [sizeLine_eq]; (try simp only [Array.size_push]); omega)); k_whole); intro h9 F9 N9; (try dsimp only at F9 N9 ⊢)))
  (k_with "getMethod ref" => (k_here; k_dflt (refine' method_append ?hz_k1 ?hz_k2 ?_; (case hz_k1 => k_asm); (case hz_k2 => k_mem); k_whole)))
  (k_with "call type:bytes cons nil" => (k_here; k_dflt (refine' bytes_K ?hz_k1 ?hz_k2 ?hz_k3 ?_; (case hz_k1 => k_asm); (case hz_k2 => k_mem); (case hz_k3 => first | assumption | size_fits); k_whole); intro t9 k9; (try dsimp only)))
  (k_with "wpK" => ((with_reducible show wpK _ _ (call (Value.type "bytes") _) _ _); refine wpK_any ?_))
  (k_with "call type:bytes cons nil" => (k_here; (with_reducible show wpAny _ _ (call (Value.type "bytes") [Value.bytes _ _]) _ _ _); k_dflt (refine bytes_of_bytes ?_)))
  (k_with "binaryOp Add bytes bytes" => (k_here; k_dflt (refine' KBy.add_bytes ?hz_sz ?_); (case hz_sz => ((try simp only [Array.size_append, List.size_toArray, List.length_cons, List.length_nil]); omega)); intro t9 k9; (try dsimp only)))
  (k_with "wpK" => ((with_reducible show wpK _ _ (exec (Stmt.Assign [Expr.Tuple _ _ _] _ _) _) _ _); refine wpK_any ?_))
  (k_with "k_mem" => assumption)
  (k_with "call ref" => (k_here; (with_reducible show wpAny _ _ (call (Value.ref 138) _) _ _ _); k_dflt (refine' ret_use (text_octets _ _ _ _ ?hz_ha ?hz_hl) ?hz_k1 ?hz_k2 ?hz_k3 ?hz_k4 ?hz_k5 ?hz_kK ?hz_kd ?hz_ku ?_; (case hz_k1 => k_asm); (case hz_k2 => k_asm); (case hz_k3 => k_asm); (case hz_k4 => k_asm); (case hz_k5 => k_asm); (case hz_kK => first | exact rfl | assumption); (case hz_ha => exact day_lt (k := 2) (by decide) (by assumption)); (case hz_hl => exact day_len (k := 2) (by decide) (by assumption)); (case hz_kd => ktr_room); (case hz_ku => ktr_units)); intro r9 news9 h9 tk9 F9 N9 hp9; obtain ⟨e8, t9, e9⟩ := hp9; replace e8 := e8.symm; subst e8; subst e9))
  (k_with "call ref" => (k_here; (with_reducible show wpAny _ _ (call (Value.ref 133) _) _ _ _); k_dflt (refine' ret_use (upper_text _ _ _ _ ?hz_ha ?hz_hl) ?hz_k1 ?hz_k2 ?hz_k3 ?hz_k4 ?hz_k5 ?hz_kK ?hz_kd ?hz_ku ?_; (case hz_k1 => k_asm); (case hz_k2 => k_asm); (case hz_k3 => k_asm); (case hz_k4 => k_asm); (case hz_k5 => k_asm); (case hz_kK => first | exact rfl | assumption); (case hz_ha => decide +kernel); (case hz_hl => decide +kernel); (case hz_kd => ktr_room); (case hz_ku => ktr_units)); intro r9 news9 h9 tk9 F9 N9 hp9; obtain ⟨e8, t9, e9⟩ := hp9; replace e8 := e8.symm; subst e8; subst e9))
  (k_with "call ref" => (k_here; (with_reducible show wpAny _ _ (call (Value.ref 157) _) _ _ _); k_dflt (refine' ret_use (show_set _ _ _ ?hz_ha) ?hz_k1 ?hz_k2 ?hz_k3 ?hz_k4 ?hz_k5 ?hz_kK ?hz_kd ?hz_ku ?_; (case hz_k1 => k_asm); (case hz_k2 => k_asm); (case hz_k3 => k_asm); (case hz_k4 => k_asm); (case hz_k5 => k_asm); (case hz_kK => first | exact rfl | assumption); (case hz_ha => assumption); (case hz_kd => ktr_room); (case hz_ku => ktr_units)); intro r9 news9 h9 tk9 F9 N9 hp9; obtain ⟨e8, t9, e9⟩ := hp9; replace e8 := e8.symm; subst e8; subst e9))
  (k_with "call ref" => (k_here; (with_reducible show wpAny _ _ (call (Value.ref 116) _) _ _ _); k_dflt (refine' ret_use (write_day _ _ _ ?hz_ha) ?hz_k1 ?hz_k2 ?hz_k3 ?hz_k4 ?hz_k5 ?hz_kK ?hz_kd ?hz_ku ?_; (case hz_k1 => k_asm); (case hz_k2 => k_asm); (case hz_k3 => k_asm); (case hz_k4 => k_asm); (case hz_k5 => k_asm); (case hz_kK => first | exact rfl | assumption); (case hz_ha => assumption); (case hz_kd => ktr_room); (case hz_ku => ktr_units)); intro r9 news9 h9 tk9 F9 N9 hp9; obtain ⟨e8, t9, e9⟩ := hp9; replace e8 := e8.symm; subst e8; subst e9))
  (k_with "call ref" => (k_here; (with_reducible show wpAny _ _ (call (Value.ref 233) _) _ _ _); k_dflt (refine' ret_use (show_flag _ _ _ ?hz_ha _ _ _ ?hz_hl) ?hz_k1 ?hz_k2 ?hz_k3 ?hz_k4 ?hz_k5 ?hz_kK ?hz_kd ?hz_ku ?_; (case hz_k1 => k_asm); (case hz_k2 => k_asm); (case hz_k3 => k_asm); (case hz_k4 => k_asm); (case hz_k5 => k_asm); (case hz_kK => first | exact rfl | assumption); (case hz_ha => assumption); (case hz_hl => first | exact .inl rfl | exact .inr rfl); (case hz_kd => ktr_room); (case hz_ku => ktr_units)); intro r9 news9 h9 tk9 F9 N9 hp9; obtain ⟨e8, t9, e9⟩ := hp9; replace e8 := e8.symm; subst e8; subst e9))
  (k_with "wpK" => ((with_reducible show wpK _ _ (call (Value.ref 219) _) _ _); k_dflt (refine' kret_use (astring_octets _ _ _ _ ?hz_ha) ?hz_k1 ?hz_k2 ?hz_k3 ?hz_k4 ?hz_k5 ?hz_kK ?hz_kd ?hz_ku ?_; (case hz_k1 => k_asm); (case hz_k2 => k_asm); (case hz_k3 => k_asm); (case hz_k4 => k_asm); (case hz_k5 => k_asm); (case hz_kK => first | exact rfl | assumption); (case hz_ha => first | exact octA_size _ | exact xa_size); (case hz_kd => ktr_room); (case hz_ku => ktr_units)); intro r9 news9 h9 tk9 F9 N9 hp9; obtain ⟨e8, t9, e9⟩ := hp9; replace e8 := e8.symm; subst e8; subst e9))
  (k_with "binaryOp Add str str" => (k_here; (refine SBL.add (hsz := ?hz_hsz) ?_); (case hz_hsz => exact sz2 (by first | exact set_len (by assumption) | exact dayT_len (by assumption) | exact figs_len (by assumption) | decide +kernel) (by first | exact set_len (by assumption) | exact dayT_len (by assumption) | exact figs_len (by assumption) | decide +kernel)); intro _ _))
  (k_with "wpK" => ((with_reducible show wpK _ _ (call (Value.ref 138) _) _ _); refine wpK_any ?_))
  (k_with "wpK" => ((with_reducible show wpK _ _ (call (Value.ref 233) _) _ _); refine wpK_any ?_))
  trivial
set_option maxRecDepth 100000 in
set_option maxHeartbeats 8000000 in
theorem leaf_day2 (w : World) (news : List (Addr × Obj)) (b : Addr) (j : Nat) (hj : j < 2) (t1 : Tok) (hm : (b, tup [.str (Str.ofString "since") t1, .ref (dayA j)]) ∈ news) :
   KRet PySem.Challenge.rw_nz0288_01.row.prog w (Mine.top.heap_1_39 w.params) Mine.top.view_1_40 LS 240 6 news [.ref b]
     (fun news' r => news' = news ∧ ∃ t, r = .bytes (leafQ (.day 2 j)) t) := by
  k_fill
  unfold KRet
  intro mean mg mb dp un gd cn cs a ccd cl outer A₀ base h₀ L m s Q B F X N T hk hd hu hret
  refine wpK_call ?_
  k_dflt (refine' code_defK (binds := [(Str.ofString "tree", .ref b)]) ?k1 ?k2 ?k3 ?k4 ?k5 ?kA ?kF ?kK ?k6 ?k7 ?k8 ?k9 ?kB ?_ ?c2 ?c3 ?c4 ?c5; (case kA => exact rfl); (case kF => exact rfl); (case kK => assumption); (case k1 => k_asm); (case k2 => k_asm); (case k3 => k_asm); (case k4 => k_asm); (case k5 => k_asm); (case k6 => k_is); (case k7 => k_is); (case k8 => ktr_room); (case k9 => first | exact BindsTo.of_eq rfl | exact binds_K (by k_in) rfl (by k_is) rfl rfl rfl); (case c5 => decide); (case kB => exact locs rfl); (case c2 => exact rfl); (case c3 => exact rfl); (case c4 => exact rfl); k_whole; intro g' L' h' FG' F' N' B' X' T'; (try dsimp only); (try k_fold))
  repeat' (first | (k_unfold; (try dsimp only)) | (first | walk1 | (dsimp only; walk1)) | fail "no step")
  all_goals (refine hret _ news _ _ (by k_asm) (by first | k_asm | exact ntl (by k_asm) | exact ntl (ntl (by k_asm)) | exact ntl (ntl (ntl (by k_asm)))) ⟨rfl, _, rfl⟩)
end Mine
end
section
open PySem PySem.W PySem.Calls PyProof.Rows
namespace Mine
theorem reg49 : True := by
  w_top off
  k_with_none
  (k_with "execs cons" => (k_here; dsimp only))
  (k_with "execs nil" => (k_here; dsimp only))
  (k_with "subscriptTail Name Constant ref int" => (k_here; k_dflt (first
  | (refine' topTup_K ?hz_F ?hz_X ?hz_l ?hz_a ?hz_b ?hz_c ?hz_d ?_; (case hz_F => k_asm); (case hz_X => k_asm); (case hz_l => k_is); (case hz_a => decide); (case hz_b => decide); (case hz_c => rfl); (case hz_d => rfl))
  | (refine' item_tupleT (News.isTup (by k_asm) (by k_mem)) ?hz_a ?hz_b ?hz_c ?hz_d ?_; (case hz_a => decide); (case hz_b => decide); (case hz_c => rfl); (case hz_d => rfl); k_whole)
  | (refine' item_litK (News.isList (by k_asm) (by k_mem)) ?hz_a ?hz_b ?hz_d ?_; (case hz_a => decide); (case hz_b => decide); (case hz_d => rfl); k_whole))))
  (k_with "subscriptTail Name UnaryOp ref int" => (k_here; k_dflt (first
  | (refine' topTup_K ?hz_F ?hz_X ?hz_l ?hz_a ?hz_b ?hz_c ?hz_d ?_; (case hz_F => k_asm); (case hz_X => k_asm); (case hz_l => k_is); (case hz_a => decide); (case hz_b => decide); (case hz_c => rfl); (case hz_d => rfl))
  | (refine' item_tupleT (News.isTup (by k_asm) (by k_mem)) ?hz_a ?hz_b ?hz_c ?hz_d ?_; (case hz_a => decide); (case hz_b => decide); (case hz_c => rfl); (case hz_d => rfl); k_whole))))
  (k_with "LeaveD" => (k_dflt (refine' leaveD_ ?hz_k1 ?hz_k2 ?_; (case hz_k1 => k_asm); (case hz_k2 => k_asm); k_whole); intro kF kN; ground_anew kF; (have kX := kFor kF (by k_asm))))
  (k_with "wpK" => ((with_reducible show wpK _ _ (execs (_ :: _) _) _ _); refine wpK_execs_cons ?_; (try dsimp only)))
  (k_with "wpK" => ((with_reducible show wpK _ _ (execs [] _) _ _); refine wpK_execs_nil ?_; (try dsimp only)))
  (k_with "wpK" => ((with_reducible show wpK _ _ (exec (Stmt.Return (some _) _) _) _ _); refine wpK_Return ?_; (try dsimp only)))
  (k_with "wpK" => ((with_reducible show wpK _ _ (exec (Stmt.If _ _ _ _) _) _ _); refine wpK_If ?_))
  (k_with "wpK" => ((with_reducible show wpK _ _ (exec (Stmt.Expr _ _) _) _ _); refine wpK_Expr ?_))
  (k_with "wpK" => ((with_reducible show wpK _ _ (exec (Stmt.Assign [Expr.Name _ _] _ _) _) _ _); refine wpK_Assign_Name ?_))
  (k_with "wpK" => ((with_reducible show wpK _ _ (eval (Expr.Name _ _) _) _ _); refine wpK_any ?_))
  (k_with "wpK" => ((with_reducible show wpK _ _ (eval (Expr.Constant _ _ _) _) _ _); refine wpK_any ?_))
  (k_with "wpK" => ((with_reducible show wpK _ _ (eval (Expr.BinOp _ _ _ _) _) _ _); refine wpK_BinOp ?_))
  (k_with "wpK" => ((with_reducible show wpK _ _ (eval (Expr.Compare _ [_] [_] _) _) _ _); refine wpK_Compare1 ?_))
  (k_with "wpK" => ((with_reducible show wpK _ _ (binaryOp _ _ _) _ _); refine wpK_any ?_))
  (k_with "wpK" => ((with_reducible show wpK _ _ (compareOp _ _ _) _ _); refine wpK_any ?_))
  (k_with "wpK" => ((with_reducible show wpK _ _ (eval (Expr.Call (Expr.Name _ _) _ [] _) _) _ _); refine wpK_CallName ?_))
  (k_with "wpK" => ((with_reducible show wpK _ _ (eval (Expr.Call (Expr.Attribute _ _ _) _ [] _) _) _ _); refine wpK_CallMeth ?_))
  (k_with "wpK" => ((with_reducible show wpK _ _ (callWith _ (Value.type _) _ _ _) _ _); k_dflt (refine callWithK_any rfl ?_)))
  (k_with "wpK" => ((with_reducible show wpK _ _ (callWith _ (Value.builtin _) _ _ _) _ _); k_dflt (refine callWithK_any rfl ?_)))
  (k_with "wpK" => ((with_reducible show wpK _ _ (callWith _ (Value.ref _) _ _ _) _ _); k_dflt (refine' callWithK_def ?hz_k1 ?hz_k2 ?_; (case hz_k1 => k_asm); (case hz_k2 => k_is); k_whole)))
  (k_with "wpK" => ((with_reducible show wpK _ _ (call (Value.type "bytearray") [Value.bytes _ _]) _ _); k_dflt (refine' make_K ?hz_k1 ?hz_k2 ?hz_k3 ?_; (case hz_k1 => k_asm); (case hz_k2 => k_asm); (case hz_k3 => size_fits); k_whole); intro D9 h9 ne9 F9 N9; (try dsimp only at F9 N9 ⊢)))
  (k_with "wpK" => ((with_reducible show wpK _ _ (call (Value.builtin "bytearray.append") _) _ _); k_dflt (refine' appendB_K ?hz_k1 ?hz_k2 ?hz_k3 ?hz_k4 ?hz_k5 ?hz_k6 ?_; (case hz_k1 => k_asm); (case hz_k2 => k_asm); (case hz_k3 => k_upd); (case hz_k4 => omega); (case hz_k5 => omega); (case hz_k6 => first | assumption | (rw [sizeLine_eq]; (try simp only [Array.size_push]); omega)); k_whole); intro h9 F9 N9; (try dsimp only at F9 N9 ⊢)))
  (k_with "getMethod ref" => (k_here; k_dflt (refine' method_append ?hz_k1 ?hz_k2 ?_; (case hz_k1 => k_asm); (case hz_k2 => k_mem); k_whole)))
  (k_with "call type:bytes cons nil" => (k_here; k_dflt (refine' bytes_K ?hz_k1 ?hz_k2 ?hz_k3 ?_; (case hz_k1 => k_asm); (case hz_k2 => k_mem); (case hz_k3 => first | assumption | size_fits); k_whole); intro t9 k9; (try dsimp only)))
  (k_with "wpK" => ((with_reducible show wpK _ _ (call (Value.type "bytes") _) _ _); refine wpK_any ?_))
  (k_with "call type:bytes cons nil" => (k_here; (with_reducible show wpAny _ _ (call (Value.type "bytes") [Value.bytes _ _]) _ _ _); k_dflt (refine bytes_of_bytes ?_)))
  (k_with "binaryOp Add bytes bytes" => (k_here; k_dflt (refine' KBy.add_bytes ?hz_sz ?_); (case hz_sz => ((try simp only [Array.size_append, List.size_toArray, List.length_cons, List.length_nil]); omega)); intro t9 k9; (try dsimp only)))
  (k_with "wpK" => ((with_reducible show wpK _ _ (exec (Stmt.Assign [Expr.Tuple _ _ _] _ _) _) _ _); refine wpK_any ?_))
  (k_with "k_mem" => assumption)
  (k_with "call ref" => (k_here; (with_reducible show wpAny _ _ (call (Value.ref 138) _) _ _ _); k_dflt (refine' ret_use (text_octets _ _ _ _ ?hz_ha ?hz_hl) ?hz_k1 ?hz_k2 ?hz_k3 ?hz_k4 ?hz_k5 ?hz_kK ?hz_kd ?hz_ku ?_; (case hz_k1 => k_asm); (case hz_k2 => k_asm); (case hz_k3 => k_asm); (case hz_k4 => k_asm); (case hz_k5 => k_asm); (case hz_kK => first | exact rfl | assumption); (case hz_ha => exact day_lt (k := 3) (by decide) (by assumption)); (case hz_hl => exact day_len (k := 3) (by decide) (by assumption)); (case hz_kd => ktr_room); (case hz_ku => ktr_units)); intro r9 news9 h9 tk9 F9 N9 hp9; obtain ⟨e8, t9, e9⟩ := hp9; replace e8 := e8.symm; subst e8; subst e9))
  (k_with "call ref" => (k_here; (with_reducible show wpAny _ _ (call (Value.ref 133) _) _ _ _); k_dflt (refine' ret_use (upper_text _ _ _ _ ?hz_ha ?hz_hl) ?hz_k1 ?hz_k2 ?hz_k3 ?hz_k4 ?hz_k5 ?hz_kK ?hz_kd ?hz_ku ?_; (case hz_k1 => k_asm); (case hz_k2 => k_asm); (case hz_k3 => k_asm); (case hz_k4 => k_asm); (case hz_k5 => k_asm); (case hz_kK => first | exact rfl | assumption); (case hz_ha => decide +kernel); (case hz_hl => decide +kernel); (case hz_kd => ktr_room); (case hz_ku => ktr_units)); intro r9 news9 h9 tk9 F9 N9 hp9; obtain ⟨e8, t9, e9⟩ := hp9; replace e8 := e8.symm; subst e8; subst e9))
  (k_with "call ref" => (k_here; (with_reducible show wpAny _ _ (call (Value.ref 157) _) _ _ _); k_dflt (refine' ret_use (show_set _ _ _ ?hz_ha) ?hz_k1 ?hz_k2 ?hz_k3 ?hz_k4 ?hz_k5 ?hz_kK ?hz_kd ?hz_ku ?_; (case hz_k1 => k_asm); (case hz_k2 => k_asm); (case hz_k3 => k_asm); (case hz_k4 => k_asm); (case hz_k5 => k_asm); (case hz_kK => first | exact rfl | assumption); (case hz_ha => assumption); (case hz_kd => ktr_room); (case hz_ku => ktr_units)); intro r9 news9 h9 tk9 F9 N9 hp9; obtain ⟨e8, t9, e9⟩ := hp9; replace e8 := e8.symm; subst e8; subst e9))
  (k_with "call ref" => (k_here; (with_reducible show wpAny _ _ (call (Value.ref 116) _) _ _ _); k_dflt (refine' ret_use (write_day _ _ _ ?hz_ha) ?hz_k1 ?hz_k2 ?hz_k3 ?hz_k4 ?hz_k5 ?hz_kK ?hz_kd ?hz_ku ?_; (case hz_k1 => k_asm); (case hz_k2 => k_asm); (case hz_k3 => k_asm); (case hz_k4 => k_asm); (case hz_k5 => k_asm); (case hz_kK => first | exact rfl | assumption); (case hz_ha => assumption); (case hz_kd => ktr_room); (case hz_ku => ktr_units)); intro r9 news9 h9 tk9 F9 N9 hp9; obtain ⟨e8, t9, e9⟩ := hp9; replace e8 := e8.symm; subst e8; subst e9))
  (k_with "call ref" => (k_here; (with_reducible show wpAny _ _ (call (Value.ref 233) _) _ _ _); k_dflt (refine' ret_use (show_flag _ _ _ ?hz_ha _ _ _ ?hz_hl) ?hz_k1 ?hz_k2 ?hz_k3 ?hz_k4 ?hz_k5 ?hz_kK ?hz_kd ?hz_ku ?_; (case hz_k1 => k_asm); (case hz_k2 => k_asm); (case hz_k3 => k_asm); (case hz_k4 => k_asm); (case hz_k5 => k_asm); (case hz_kK => first | exact rfl | assumption); (case hz_ha => assumption); (case hz_hl => first | exact .inl rfl | exact .inr rfl); (case hz_kd => ktr_room); (case hz_ku => ktr_units)); intro r9 news9 h9 tk9 F9 N9 hp9; obtain ⟨e8, t9, e9⟩ := hp9; replace e8 := e8.symm; subst e8; subst e9))
  (k_with "wpK" => ((with_reducible show wpK _ _ (call (Value.ref 219) _) _ _); k_dflt (refine' kret_use (astring_octets _ _ _ _ ?hz_ha) ?hz_k1 ?hz_k2 ?hz_k3 ?hz_k4 ?hz_k5 ?hz_kK ?hz_kd ?hz_ku ?_; (case hz_k1 => k_asm); (case hz_k2 => k_asm); (case hz_k3 => k_asm); (case hz_k4 => k_asm); (case hz_k5 => k_asm); (case hz_kK => first | exact rfl | assumption); (case hz_ha => first | exact octA_size _ | exact xa_size); (case hz_kd => ktr_room); (case hz_ku => ktr_units)); intro r9 news9 h9 tk9 F9 N9 hp9; obtain ⟨e8, t9, e9⟩ := hp9; replace e8 := e8.symm; subst e8; subst e9))
  (k_with "binaryOp Add str str" => (k_here; (refine SBL.add (hsz := ?hz_hsz) ?_); (case hz_hsz => exact sz2 (by first | exact set_len (by assumption) | exact dayT_len (by assumption) | exact figs_len (by assumption) | decide +kernel) (by first | exact set_len (by assumption) | exact dayT_len (by assumption) | exact figs_len (by assumption) | decide +kernel)); intro _ _))
  (k_with "wpK" => ((with_reducible show wpK _ _ (call (Value.ref 138) _) _ _); refine wpK_any ?_))
  (k_with "wpK" => ((with_reducible show wpK _ _ (call (Value.ref 233) _) _ _); refine wpK_any ?_))
  trivial
set_option maxRecDepth 100000 in
set_option maxHeartbeats 8000000 in
theorem leaf_day3 (w : World) (news : List (Addr × Obj)) (b : Addr) (j : Nat) (hj : j < 2) (t1 : Tok) (hm : (b, tup [.str (Str.ofString "sentsince") t1, .ref (dayA j)]) ∈ news) :
   KRet PySem.Challenge.rw_nz0288_01.row.prog w (Mine.top.heap_1_39 w.params) Mine.top.view_1_40 LS 240 6 news [.ref b]
     (fun news' r => news' = news ∧ ∃ t, r = .bytes (leafQ (.day 3 j)) t) := by
  k_fill
  unfold KRet
  intro mean mg mb dp un gd cn cs a ccd cl outer A₀ base h₀ L m s Q B F X N T hk hd hu hret
  refine wpK_call ?_
  k_dflt (refine' code_defK (binds := [(Str.ofString "tree", .ref b)]) ?k1 ?k2 ?k3 ?k4 ?k5 ?kA ?kF ?kK ?k6 ?k7 ?k8 ?k9 ?kB ?_ ?c2 ?c3 ?c4 ?c5; (case kA => exact rfl); (case kF => exact rfl); (case kK => assumption); (case k1 => k_asm); (case k2 => k_asm); (case k3 => k_asm); (case k4 => k_asm); (case k5 => k_asm); (case k6 => k_is); (case k7 => k_is); (case k8 => ktr_room); (case k9 => first | exact BindsTo.of_eq rfl | exact binds_K (by k_in) rfl (by k_is) rfl rfl rfl); (case c5 => decide); (case kB => exact locs rfl); (case c2 => exact rfl); (case c3 => exact rfl); (case c4 => exact rfl); k_whole; intro g' L' h' FG' F' N' B' X' T'; (try dsimp only); (try k_fold))
  repeat' (first | (k_unfold; (try dsimp only)) | (first | walk1 | (dsimp only; walk1)) | fail "no step")
  all_goals (refine hret _ news _ _ (by k_asm) (by first | k_asm | exact ntl (by k_asm) | exact ntl (ntl (by k_asm)) | exact ntl (ntl (ntl (by k_asm)))) ⟨rfl, _, rfl⟩)
end Mine
end
section
open PySem PySem.W PySem.Calls PyProof.Rows
namespace Mine
theorem reg50 : True := by
  w_top off
  k_with_none
  (k_with "execs cons" => (k_here; dsimp only))
  (k_with "execs nil" => (k_here; dsimp only))
  (k_with "subscriptTail Name Constant ref int" => (k_here; k_dflt (first
  | (refine' topTup_K ?hz_F ?hz_X ?hz_l ?hz_a ?hz_b ?hz_c ?hz_d ?_; (case hz_F => k_asm); (case hz_X => k_asm); (case hz_l => k_is); (case hz_a => decide); (case hz_b => decide); (case hz_c => rfl); (case hz_d => rfl))
  | (refine' item_tupleT (News.isTup (by k_asm) (by k_mem)) ?hz_a ?hz_b ?hz_c ?hz_d ?_; (case hz_a => decide); (case hz_b => decide); (case hz_c => rfl); (case hz_d => rfl); k_whole)
  | (refine' item_litK (News.isList (by k_asm) (by k_mem)) ?hz_a ?hz_b ?hz_d ?_; (case hz_a => decide); (case hz_b => decide); (case hz_d => rfl); k_whole))))
  (k_with "subscriptTail Name UnaryOp ref int" => (k_here; k_dflt (first
  | (refine' topTup_K ?hz_F ?hz_X ?hz_l ?hz_a ?hz_b ?hz_c ?hz_d ?_; (case hz_F => k_asm); (case hz_X => k_asm); (case hz_l => k_is); (case hz_a => decide); (case hz_b => decide); (case hz_c => rfl); (case hz_d => rfl))
  | (refine' item_tupleT (News.isTup (by k_asm) (by k_mem)) ?hz_a ?hz_b ?hz_c ?hz_d ?_; (case hz_a => decide); (case hz_b => decide); (case hz_c => rfl); (case hz_d => rfl); k_whole))))
  (k_with "LeaveD" => (k_dflt (refine' leaveD_ ?hz_k1 ?hz_k2 ?_; (case hz_k1 => k_asm); (case hz_k2 => k_asm); k_whole); intro kF kN; ground_anew kF; (have kX := kFor kF (by k_asm))))
  (k_with "wpK" => ((with_reducible show wpK _ _ (execs (_ :: _) _) _ _); refine wpK_execs_cons ?_; (try dsimp only)))
  (k_with "wpK" => ((with_reducible show wpK _ _ (execs [] _) _ _); refine wpK_execs_nil ?_; (try dsimp only)))
  (k_with "wpK" => ((with_reducible show wpK _ _ (exec (Stmt.Return (some _) _) _) _ _); refine wpK_Return ?_; (try dsimp only)))
  (k_with "wpK" => ((with_reducible show wpK _ _ (exec (Stmt.If _ _ _ _) _) _ _); refine wpK_If ?_))
  (k_with "wpK" => ((with_reducible show wpK _ _ (exec (Stmt.Expr _ _) _) _ _); refine wpK_Expr ?_))
  (k_with "wpK" => ((with_reducible show wpK _ _ (exec (Stmt.Assign [Expr.Name _ _] _ _) _) _ _); refine wpK_Assign_Name ?_))
  (k_with "wpK" => ((with_reducible show wpK _ _ (eval (Expr.Name _ _) _) _ _); refine wpK_any ?_))
  (k_with "wpK" => ((with_reducible show wpK _ _ (eval (Expr.Constant _ _ _) _) _ _); refine wpK_any ?_))
  (k_with "wpK" => ((with_reducible show wpK _ _ (eval (Expr.BinOp _ _ _ _) _) _ _); refine wpK_BinOp ?_))
  (k_with "wpK" => ((with_reducible show wpK _ _ (eval (Expr.Compare _ [_] [_] _) _) _ _); refine wpK_Compare1 ?_))
  (k_with "wpK" => ((with_reducible show wpK _ _ (binaryOp _ _ _) _ _); refine wpK_any ?_))
  (k_with "wpK" => ((with_reducible show wpK _ _ (compareOp _ _ _) _ _); refine wpK_any ?_))
  (k_with "wpK" => ((with_reducible show wpK _ _ (eval (Expr.Call (Expr.Name _ _) _ [] _) _) _ _); refine wpK_CallName ?_))
  (k_with "wpK" => ((with_reducible show wpK _ _ (eval (Expr.Call (Expr.Attribute _ _ _) _ [] _) _) _ _); refine wpK_CallMeth ?_))
  (k_with "wpK" => ((with_reducible show wpK _ _ (callWith _ (Value.type _) _ _ _) _ _); k_dflt (refine callWithK_any rfl ?_)))
  (k_with "wpK" => ((with_reducible show wpK _ _ (callWith _ (Value.builtin _) _ _ _) _ _); k_dflt (refine callWithK_any rfl ?_)))
  (k_with "wpK" => ((with_reducible show wpK _ _ (callWith _ (Value.ref _) _ _ _) _ _); k_dflt (refine' callWithK_def ?hz_k1 ?hz_k2 ?_; (case hz_k1 => k_asm); (case hz_k2 => k_is); k_whole)))
  (k_with "wpK" => ((with_reducible show wpK _ _ (call (Value.type "bytearray") [Value.bytes _ _]) _ _); k_dflt (refine' make_K ?hz_k1 ?hz_k2 ?hz_k3 ?_; (case hz_k1 => k_asm); (case hz_k2 => k_asm); (case hz_k3 => size_fits); k_whole); intro D9 h9 ne9 F9 N9; (try dsimp only at F9 N9 ⊢)))
  (k_with "wpK" => ((with_reducible show wpK _ _ (call (Value.builtin "bytearray.append") _) _ _); k_dflt (refine' appendB_K ?hz_k1 ?hz_k2 ?hz_k3 ?hz_k4 ?hz_k5 ?hz_k6 ?_; (case hz_k1 => k_asm); (case hz_k2 => k_asm); (case hz_k3 => k_upd); (case hz_k4 => omega); (case hz_k5 => omega); (case hz_k6 => first | assumption | (rw [sizeLine_eq]; (try simp only [Array.size_push]); omega)); k_whole); intro h9 F9 N9; (try dsimp only at F9 N9 ⊢)))
  (k_with "getMethod ref" => (k_here; k_dflt (refine' method_append ?hz_k1 ?hz_k2 ?_; (case hz_k1 => k_asm); (case hz_k2 => k_mem); k_whole)))
  (k_with "call type:bytes cons nil" => (k_here; k_dflt (refine' bytes_K ?hz_k1 ?hz_k2 ?hz_k3 ?_; (case hz_k1 => k_asm); (case hz_k2 => k_mem); (case hz_k3 => first | assumption | size_fits); k_whole); intro t9 k9; (try dsimp only)))
  (k_with "wpK" => ((with_reducible show wpK _ _ (call (Value.type "bytes") _) _ _); refine wpK_any ?_))
  (k_with "call type:bytes cons nil" => (k_here; (with_reducible show wpAny _ _ (call (Value.type "bytes") [Value.bytes _ _]) _ _ _); k_dflt (refine bytes_of_bytes ?_)))
  (k_with "binaryOp Add bytes bytes" => (k_here; k_dflt (refine' KBy.add_bytes ?hz_sz ?_); (case hz_sz => ((try simp only [Array.size_append, List.size_toArray, List.length_cons, List.length_nil]); omega)); intro t9 k9; (try dsimp only)))
  (k_with "wpK" => ((with_reducible show wpK _ _ (exec (Stmt.Assign [Expr.Tuple _ _ _] _ _) _) _ _); refine wpK_any ?_))
  (k_with "k_mem" => assumption)
  (k_with "call ref" => (k_here; (with_reducible show wpAny _ _ (call (Value.ref 138) _) _ _ _); k_dflt (refine' ret_use (text_octets _ _ _ _ ?hz_ha ?hz_hl) ?hz_k1 ?hz_k2 ?hz_k3 ?hz_k4 ?hz_k5 ?hz_kK ?hz_kd ?hz_ku ?_; (case hz_k1 => k_asm); (case hz_k2 => k_asm); (case hz_k3 => k_asm); (case hz_k4 => k_asm); (case hz_k5 => k_asm); (case hz_kK => first | exact rfl | assumption); (case hz_ha => exact day_lt (k := 4) (by decide) (by assumption)); (case hz_hl => exact day_len (k := 4) (by decide) (by assumption)); (case hz_kd => ktr_room); (case hz_ku => ktr_units)); intro r9 news9 h9 tk9 F9 N9 hp9; obtain ⟨e8, t9, e9⟩ := hp9; replace e8 := e8.symm; subst e8; subst e9))
  (k_with "call ref" => (k_here; (with_reducible show wpAny _ _ (call (Value.ref 133) _) _ _ _); k_dflt (refine' ret_use (upper_text _ _ _ _ ?hz_ha ?hz_hl) ?hz_k1 ?hz_k2 ?hz_k3 ?hz_k4 ?hz_k5 ?hz_kK ?hz_kd ?hz_ku ?_; (case hz_k1 => k_asm); (case hz_k2 => k_asm); (case hz_k3 => k_asm); (case hz_k4 => k_asm); (case hz_k5 => k_asm); (case hz_kK => first | exact rfl | assumption); (case hz_ha => decide +kernel); (case hz_hl => decide +kernel); (case hz_kd => ktr_room); (case hz_ku => ktr_units)); intro r9 news9 h9 tk9 F9 N9 hp9; obtain ⟨e8, t9, e9⟩ := hp9; replace e8 := e8.symm; subst e8; subst e9))
  (k_with "call ref" => (k_here; (with_reducible show wpAny _ _ (call (Value.ref 157) _) _ _ _); k_dflt (refine' ret_use (show_set _ _ _ ?hz_ha) ?hz_k1 ?hz_k2 ?hz_k3 ?hz_k4 ?hz_k5 ?hz_kK ?hz_kd ?hz_ku ?_; (case hz_k1 => k_asm); (case hz_k2 => k_asm); (case hz_k3 => k_asm); (case hz_k4 => k_asm); (case hz_k5 => k_asm); (case hz_kK => first | exact rfl | assumption); (case hz_ha => assumption); (case hz_kd => ktr_room); (case hz_ku => ktr_units)); intro r9 news9 h9 tk9 F9 N9 hp9; obtain ⟨e8, t9, e9⟩ := hp9; replace e8 := e8.symm; subst e8; subst e9))
  (k_with "call ref" => (k_here; (with_reducible show wpAny _ _ (call (Value.ref 116) _) _ _ _); k_dflt (refine' ret_use (write_day _ _ _ ?hz_ha) ?hz_k1 ?hz_k2 ?hz_k3 ?hz_k4 ?hz_k5 ?hz_kK ?hz_kd ?hz_ku ?_; (case hz_k1 => k_asm); (case hz_k2 => k_asm); (case hz_k3 => k_asm); (case hz_k4 => k_asm); (case hz_k5 => k_asm); (case hz_kK => first | exact rfl | assumption); (case hz_ha => assumption); (case hz_kd => ktr_room); (case hz_ku => ktr_units)); intro r9 news9 h9 tk9 F9 N9 hp9; obtain ⟨e8, t9, e9⟩ := hp9; replace e8 := e8.symm; subst e8; subst e9))
  (k_with "call ref" => (k_here; (with_reducible show wpAny _ _ (call (Value.ref 233) _) _ _ _); k_dflt (refine' ret_use (show_flag _ _ _ ?hz_ha _ _ _ ?hz_hl) ?hz_k1 ?hz_k2 ?hz_k3 ?hz_k4 ?hz_k5 ?hz_kK ?hz_kd ?hz_ku ?_; (case hz_k1 => k_asm); (case hz_k2 => k_asm); (case hz_k3 => k_asm); (case hz_k4 => k_asm); (case hz_k5 => k_asm); (case hz_kK => first | exact rfl | assumption); (case hz_ha => assumption); (case hz_hl => first | exact .inl rfl | exact .inr rfl); (case hz_kd => ktr_room); (case hz_ku => ktr_units)); intro r9 news9 h9 tk9 F9 N9 hp9; obtain ⟨e8, t9, e9⟩ := hp9; replace e8 := e8.symm; subst e8; subst e9))
  (k_with "wpK" => ((with_reducible show wpK _ _ (call (Value.ref 219) _) _ _); k_dflt (refine' kret_use (astring_octets _ _ _ _ ?hz_ha) ?hz_k1 ?hz_k2 ?hz_k3 ?hz_k4 ?hz_k5 ?hz_kK ?hz_kd ?hz_ku ?_; (case hz_k1 => k_asm); (case hz_k2 => k_asm); (case hz_k3 => k_asm); (case hz_k4 => k_asm); (case hz_k5 => k_asm); (case hz_kK => first | exact rfl | assumption); (case hz_ha => first | exact octA_size _ | exact xa_size); (case hz_kd => ktr_room); (case hz_ku => ktr_units)); intro r9 news9 h9 tk9 F9 N9 hp9; obtain ⟨e8, t9, e9⟩ := hp9; replace e8 := e8.symm; subst e8; subst e9))
  (k_with "binaryOp Add str str" => (k_here; (refine SBL.add (hsz := ?hz_hsz) ?_); (case hz_hsz => exact sz2 (by first | exact set_len (by assumption) | exact dayT_len (by assumption) | exact figs_len (by assumption) | decide +kernel) (by first | exact set_len (by assumption) | exact dayT_len (by assumption) | exact figs_len (by assumption) | decide +kernel)); intro _ _))
  (k_with "wpK" => ((with_reducible show wpK _ _ (call (Value.ref 138) _) _ _); refine wpK_any ?_))
  (k_with "wpK" => ((with_reducible show wpK _ _ (call (Value.ref 233) _) _ _); refine wpK_any ?_))
  trivial
set_option maxRecDepth 100000 in
set_option maxHeartbeats 8000000 in
theorem leaf_day4 (w : World) (news : List (Addr × Obj)) (b : Addr) (j : Nat) (hj : j < 2) (t1 : Tok) (hm : (b, tup [.str (Str.ofString "on") t1, .ref (dayA j)]) ∈ news) :
   KRet PySem.Challenge.rw_nz0288_01.row.prog w (Mine.top.heap_1_39 w.params) Mine.top.view_1_40 LS 240 6 news [.ref b]
     (fun news' r => news' = news ∧ ∃ t, r = .bytes (leafQ (.day 4 j)) t) := by
  k_fill
  unfold KRet
  intro mean mg mb dp un gd cn cs a ccd cl outer A₀ base h₀ L m s Q B F X N T hk hd hu hret
  refine wpK_call ?_
  k_dflt (refine' code_defK (binds := [(Str.ofString "tree", .ref b)]) ?k1 ?k2 ?k3 ?k4 ?k5 ?kA ?kF ?kK ?k6 ?k7 ?k8 ?k9 ?kB ?_ ?c2 ?c3 ?c4 ?c5; (case kA => exact rfl); (case kF => exact rfl); (case kK => assumption); (case k1 => k_asm); (case k2 => k_asm); (case k3 => k_asm); (case k4 => k_asm); (case k5 => k_asm); (case k6 => k_is); (case k7 => k_is); (case k8 => ktr_room); (case k9 => first | exact BindsTo.of_eq rfl | exact binds_K (by k_in) rfl (by k_is) rfl rfl rfl); (case c5 => decide); (case kB => exact locs rfl); (case c2 => exact rfl); (case c3 => exact rfl); (case c4 => exact rfl); k_whole; intro g' L' h' FG' F' N' B' X' T'; (try dsimp only); (try k_fold))
  repeat' (first | (k_unfold; (try dsimp only)) | (first | walk1 | (dsimp only; walk1)) | fail "no step")
  all_goals (refine hret _ news _ _ (by k_asm) (by first | k_asm | exact ntl (by k_asm) | exact ntl (ntl (by k_asm)) | exact ntl (ntl (ntl (by k_asm)))) ⟨rfl, _, rfl⟩)
end Mine
end
section
open PySem PySem.W PySem.Calls PyProof.Rows
namespace Mine
theorem reg51 : True := by
  w_top off
  k_with_none
  (k_with "execs cons" => (k_here; dsimp only))
  (k_with "execs nil" => (k_here; dsimp only))
  (k_with "subscriptTail Name Constant ref int" => (k_here; k_dflt (first
  | (refine' topTup_K ?hz_F ?hz_X ?hz_l ?hz_a ?hz_b ?hz_c ?hz_d ?_; (case hz_F => k_asm); (case hz_X => k_asm); (case hz_l => k_is); (case hz_a => decide); (case hz_b => decide); (case hz_c => rfl); (case hz_d => rfl))
  | (refine' item_tupleT (News.isTup (by k_asm) (by k_mem)) ?hz_a ?hz_b ?hz_c ?hz_d ?_; (case hz_a => decide); (case hz_b => decide); (case hz_c => rfl); (case hz_d => rfl); k_whole)
  | (refine' item_litK (News.isList (by k_asm) (by k_mem)) ?hz_a ?hz_b ?hz_d ?_; (case hz_a => decide); (case hz_b => decide); (case hz_d => rfl); k_whole))))
  (k_with "subscriptTail Name UnaryOp ref int" => (k_here; k_dflt (first
  | (refine' topTup_K ?hz_F ?hz_X ?hz_l ?hz_a ?hz_b ?hz_c ?hz_d ?_; (case hz_F => k_asm); (case hz_X => k_asm); (case hz_l => k_is); (case hz_a => decide); (case hz_b => decide); (case hz_c => rfl); (case hz_d => rfl))
  | (refine' item_tupleT (News.isTup (by k_asm) (by k_mem)) ?hz_a ?hz_b ?hz_c ?hz_d ?_; (case hz_a => decide); (case hz_b => decide); (case hz_c => rfl); (case hz_d => rfl); k_whole))))
  (k_with "LeaveD" => (k_dflt (refine' leaveD_ ?hz_k1 ?hz_k2 ?_; (case hz_k1 => k_asm); (case hz_k2 => k_asm); k_whole); intro kF kN; ground_anew kF; (have kX := kFor kF (by k_asm))))
  (k_with "wpK" => ((with_reducible show wpK _ _ (execs (_ :: _) _) _ _); refine wpK_execs_cons ?_; (try dsimp only)))
  (k_with "wpK" => ((with_reducible show wpK _ _ (execs [] _) _ _); refine wpK_execs_nil ?_; (try dsimp only)))
  (k_with "wpK" => ((with_reducible show wpK _ _ (exec (Stmt.Return (some _) _) _) _ _); refine wpK_Return ?_; (try dsimp only)))
  (k_with "wpK" => ((with_reducible show wpK _ _ (exec (Stmt.If _ _ _ _) _) _ _); refine wpK_If ?_))
  (k_with "wpK" => ((with_reducible show wpK _ _ (exec (Stmt.Expr _ _) _) _ _); refine wpK_Expr ?_))
  (k_with "wpK" => ((with_reducible show wpK _ _ (exec (Stmt.Assign [Expr.Name _ _] _ _) _) _ _); refine wpK_Assign_Name ?_))
  (k_with "wpK" => ((with_reducible show wpK _ _ (eval (Expr.Name _ _) _) _ _); refine wpK_any ?_))
  (k_with "wpK" => ((with_reducible show wpK _ _ (eval (Expr.Constant _ _ _) _) _ _); refine wpK_any ?_))
  (k_with "wpK" => ((with_reducible show wpK _ _ (eval (Expr.BinOp _ _ _ _) _) _ _); refine wpK_BinOp ?_))
  (k_with "wpK" => ((with_reducible show wpK _ _ (eval (Expr.Compare _ [_] [_] _) _) _ _); refine wpK_Compare1 ?_))
  (k_with "wpK" => ((with_reducible show wpK _ _ (binaryOp _ _ _) _ _); refine wpK_any ?_))
  (k_with "wpK" => ((with_reducible show wpK _ _ (compareOp _ _ _) _ _); refine wpK_any ?_))
  (k_with "wpK" => ((with_reducible show wpK _ _ (eval (Expr.Call (Expr.Name _ _) _ [] _) _) _ _); refine wpK_CallName ?_))
  (k_with "wpK" => ((with_reducible show wpK _ _ (eval (Expr.Call (Expr.Attribute _ _ _) _ [] _) _) _ _); refine wpK_CallMeth ?_))
  (k_with "wpK" => ((with_reducible show wpK _ _ (callWith _ (Value.type _) _ _ _) _ _); k_dflt (refine callWithK_any rfl ?_)))
  (k_with "wpK" => ((with_reducible show wpK _ _ (callWith _ (Value.builtin _) _ _ _) _ _); k_dflt (refine callWithK_any rfl ?_)))
  (k_with "wpK" => ((with_reducible show wpK _ _ (callWith _ (Value.ref _) _ _ _) _ _); k_dflt (refine' callWithK_def ?hz_k1 ?hz_k2 ?_; (case hz_k1 => k_asm); (case hz_k2 => k_is); k_whole)))
  (k_with "wpK" => ((with_reducible show wpK _ _ (call (Value.type "bytearray") [Value.bytes _ _]) _ _); k_dflt (refine' make_K ?hz_k1 ?hz_k2 ?hz_k3 ?_; (case hz_k1 => k_asm); (case hz_k2 => k_asm); (case hz_k3 => size_fits); k_whole); intro D9 h9 ne9 F9 N9; (try dsimp only at F9 N9 ⊢)))
  (k_with "wpK" => ((with_reducible show wpK _ _ (call (Value.builtin "bytearray.append") _) _ _); k_dflt (refine' appendB_K ?hz_k1 ?hz_k2 ?hz_k3 ?hz_k4 ?hz_k5 ?hz_k6 ?_; (case hz_k1 => k_asm); (case hz_k2 => k_asm); (case hz_k3 => k_upd); (case hz_k4 => omega); (case hz_k5 => omega); (case hz_k6 => first | assumption | (rw [sizeLine_eq]; (try simp only [Array.size_push]); omega)); k_whole); intro h9 F9 N9; (try dsimp only at F9 N9 ⊢)))
  (k_with "getMethod ref" => (k_here; k_dflt (refine' method_append ?hz_k1 ?hz_k2 ?_; (case hz_k1 => k_asm); (case hz_k2 => k_mem); k_whole)))
  (k_with "call type:bytes cons nil" => (k_here; k_dflt (refine' bytes_K ?hz_k1 ?hz_k2 ?hz_k3 ?_; (case hz_k1 => k_asm); (case hz_k2 => k_mem); (case hz_k3 => first | assumption | size_fits); k_whole); intro t9 k9; (try dsimp only)))
  (k_with "wpK" => ((with_reducible show wpK _ _ (call (Value.type "bytes") _) _ _); refine wpK_any ?_))
  (k_with "call type:bytes cons nil" => (k_here; (with_reducible show wpAny _ _ (call (Value.type "bytes") [Value.bytes _ _]) _ _ _); k_dflt (refine bytes_of_bytes ?_)))
  (k_with "binaryOp Add bytes bytes" => (k_here; k_dflt (refine' KBy.add_bytes ?hz_sz ?_); (case hz_sz => ((try simp only [Array.size_append, List.size_toArray, List.length_cons, List.length_nil]); omega)); intro t9 k9; (try dsimp only)))
  (k_with "wpK" => ((with_reducible show wpK _ _ (exec (Stmt.Assign [Expr.Tuple _ _ _] _ _) _) _ _); refine wpK_any ?_))
  (k_with "k_mem" => assumption)
  (k_with "call ref" => (k_here; (with_reducible show wpAny _ _ (call (Value.ref 138) _) _ _ _); k_dflt (refine' ret_use (text_octets _ _ _ _ ?hz_ha ?hz_hl) ?hz_k1 ?hz_k2 ?hz_k3 ?hz_k4 ?hz_k5 ?hz_kK ?hz_kd ?hz_ku ?_; (case hz_k1 => k_asm); (case hz_k2 => k_asm); (case hz_k3 => k_asm); (case hz_k4 => k_asm); (case hz_k5 => k_asm); (case hz_kK => first | exact rfl | assumption); (case hz_ha => exact num_lt (k := 0) (by decide)); (case hz_hl => exact num_len (k := 0) (by decide) (by assumption)); (case hz_kd => ktr_room); (case hz_ku => ktr_units)); intro r9 news9 h9 tk9 F9 N9 hp9; obtain ⟨e8, t9, e9⟩ := hp9; replace e8 := e8.symm; subst e8; subst e9))
  (k_with "call ref" => (k_here; (with_reducible show wpAny _ _ (call (Value.ref 133) _) _ _ _); k_dflt (refine' ret_use (upper_text _ _ _ _ ?hz_ha ?hz_hl) ?hz_k1 ?hz_k2 ?hz_k3 ?hz_k4 ?hz_k5 ?hz_kK ?hz_kd ?hz_ku ?_; (case hz_k1 => k_asm); (case hz_k2 => k_asm); (case hz_k3 => k_asm); (case hz_k4 => k_asm); (case hz_k5 => k_asm); (case hz_kK => first | exact rfl | assumption); (case hz_ha => decide +kernel); (case hz_hl => decide +kernel); (case hz_kd => ktr_room); (case hz_ku => ktr_units)); intro r9 news9 h9 tk9 F9 N9 hp9; obtain ⟨e8, t9, e9⟩ := hp9; replace e8 := e8.symm; subst e8; subst e9))
  (k_with "call ref" => (k_here; (with_reducible show wpAny _ _ (call (Value.ref 157) _) _ _ _); k_dflt (refine' ret_use (show_set _ _ _ ?hz_ha) ?hz_k1 ?hz_k2 ?hz_k3 ?hz_k4 ?hz_k5 ?hz_kK ?hz_kd ?hz_ku ?_; (case hz_k1 => k_asm); (case hz_k2 => k_asm); (case hz_k3 => k_asm); (case hz_k4 => k_asm); (case hz_k5 => k_asm); (case hz_kK => first | exact rfl | assumption); (case hz_ha => assumption); (case hz_kd => ktr_room); (case hz_ku => ktr_units)); intro r9 news9 h9 tk9 F9 N9 hp9; obtain ⟨e8, t9, e9⟩ := hp9; replace e8 := e8.symm; subst e8; subst e9))
  (k_with "call ref" => (k_here; (with_reducible show wpAny _ _ (call (Value.ref 116) _) _ _ _); k_dflt (refine' ret_use (write_day _ _ _ ?hz_ha) ?hz_k1 ?hz_k2 ?hz_k3 ?hz_k4 ?hz_k5 ?hz_kK ?hz_kd ?hz_ku ?_; (case hz_k1 => k_asm); (case hz_k2 => k_asm); (case hz_k3 => k_asm); (case hz_k4 => k_asm); (case hz_k5 => k_asm); (case hz_kK => first | exact rfl | assumption); (case hz_ha => assumption); (case hz_kd => ktr_room); (case hz_ku => ktr_units)); intro r9 news9 h9 tk9 F9 N9 hp9; obtain ⟨e8, t9, e9⟩ := hp9; replace e8 := e8.symm; subst e8; subst e9))
  (k_with "call ref" => (k_here; (with_reducible show wpAny _ _ (call (Value.ref 233) _) _ _ _); k_dflt (refine' ret_use (show_flag _ _ _ ?hz_ha _ _ _ ?hz_hl) ?hz_k1 ?hz_k2 ?hz_k3 ?hz_k4 ?hz_k5 ?hz_kK ?hz_kd ?hz_ku ?_; (case hz_k1 => k_asm); (case hz_k2 => k_asm); (case hz_k3 => k_asm); (case hz_k4 => k_asm); (case hz_k5 => k_asm); (case hz_kK => first | exact rfl | assumption); (case hz_ha => assumption); (case hz_hl => first | exact .inl rfl | exact .inr rfl); (case hz_kd => ktr_room); (case hz_ku => ktr_units)); intro r9 news9 h9 tk9 F9 N9 hp9; obtain ⟨e8, t9, e9⟩ := hp9; replace e8 := e8.symm; subst e8; subst e9))
  (k_with "wpK" => ((with_reducible show wpK _ _ (call (Value.ref 219) _) _ _); k_dflt (refine' kret_use (astring_octets _ _ _ _ ?hz_ha) ?hz_k1 ?hz_k2 ?hz_k3 ?hz_k4 ?hz_k5 ?hz_kK ?hz_kd ?hz_ku ?_; (case hz_k1 => k_asm); (case hz_k2 => k_asm); (case hz_k3 => k_asm); (case hz_k4 => k_asm); (case hz_k5 => k_asm); (case hz_kK => first | exact rfl | assumption); (case hz_ha => first | exact octA_size _ | exact xa_size); (case hz_kd => ktr_room); (case hz_ku => ktr_units)); intro r9 news9 h9 tk9 F9 N9 hp9; obtain ⟨e8, t9, e9⟩ := hp9; replace e8 := e8.symm; subst e8; subst e9))
  (k_with "binaryOp Add str str" => (k_here; (refine SBL.add (hsz := ?hz_hsz) ?_); (case hz_hsz => exact sz2 (by first | exact set_len (by assumption) | exact dayT_len (by assumption) | exact figs_len (by assumption) | decide +kernel) (by first | exact set_len (by assumption) | exact dayT_len (by assumption) | exact figs_len (by assumption) | decide +kernel)); intro _ _))
  (k_with "wpK" => ((with_reducible show wpK _ _ (call (Value.ref 138) _) _ _); refine wpK_any ?_))
  (k_with "wpK" => ((with_reducible show wpK _ _ (call (Value.ref 233) _) _ _); refine wpK_any ?_))
  trivial
set_option maxRecDepth 100000 in
set_option maxHeartbeats 8000000 in
theorem leaf_num0 (w : World) (news : List (Addr × Obj)) (b : Addr) (n : Nat) (hn : n < 10 ^ 18) (t1 u1 : Tok) (hm : (b, tup [.str (Str.ofString "larger") t1, .int (n : Int) u1]) ∈ news) :
   KRet PySem.Challenge.rw_nz0288_01.row.prog w (Mine.top.heap_1_39 w.params) Mine.top.view_1_40 LS 240 6 news [.ref b]
     (fun news' r => news' = news ∧ ∃ t, r = .bytes (leafQ (.num 0 n)) t) := by
  k_fill
  unfold KRet
  intro mean mg mb dp un gd cn cs a ccd cl outer A₀ base h₀ L m s Q B F X N T hk hd hu hret
  refine wpK_call ?_
  k_dflt (refine' code_defK (binds := [(Str.ofString "tree", .ref b)]) ?k1 ?k2 ?k3 ?k4 ?k5 ?kA ?kF ?kK ?k6 ?k7 ?k8 ?k9 ?kB ?_ ?c2 ?c3 ?c4 ?c5; (case kA => exact rfl); (case kF => exact rfl); (case kK => assumption); (case k1 => k_asm); (case k2 => k_asm); (case k3 => k_asm); (case k4 => k_asm); (case k5 => k_asm); (case k6 => k_is); (case k7 => k_is); (case k8 => ktr_room); (case k9 => first | exact BindsTo.of_eq rfl | exact binds_K (by k_in) rfl (by k_is) rfl rfl rfl); (case c5 => decide); (case kB => exact locs rfl); (case c2 => exact rfl); (case c3 => exact rfl); (case c4 => exact rfl); k_whole; intro g' L' h' FG' F' N' B' X' T'; (try dsimp only); (try k_fold))
  repeat' (first | (k_unfold; (try dsimp only)) | (first | walk1 | (dsimp only; walk1)) | fail "no step")
  all_goals (refine hret _ news _ _ (by k_asm) (by first | k_asm | exact ntl (by k_asm) | exact ntl (ntl (by k_asm)) | exact ntl (ntl (ntl (by k_asm)))) ⟨rfl, _, rfl⟩)
end Mine
end
section
open PySem PySem.W PySem.Calls PyProof.Rows
namespace Mine
theorem reg52 : True := by
  w_top off
  k_with_none
  (k_with "execs cons" => (k_here; dsimp only))
  (k_with "execs nil" => (k_here; dsimp only))
  (k_with "subscriptTail Name Constant ref int" => (k_here; k_dflt (first
  | (refine' topTup_K ?hz_F ?hz_X ?hz_l ?hz_a ?hz_b ?hz_c ?hz_d ?_; (case hz_F => k_asm); (case hz_X => k_asm); (case hz_l => k_is); (case hz_a => decide); (case hz_b => decide); (case hz_c => rfl); (case hz_d => rfl))
  | (refine' item_tupleT (News.isTup (by k_asm) (by k_mem)) ?hz_a ?hz_b ?hz_c ?hz_d ?_; (case hz_a => decide); (case hz_b => decide); (case hz_c => rfl); (case hz_d => rfl); k_whole)
  | (refine' item_litK (News.isList (by k_asm) (by k_mem)) ?hz_a ?hz_b ?hz_d ?_; (case hz_a => decide); (case hz_b => decide); (case hz_d => rfl); k_whole))))
  (k_with "subscriptTail Name UnaryOp ref int" => (k_here; k_dflt (first
  | (refine' topTup_K ?hz_F ?hz_X ?hz_l ?hz_a ?hz_b ?hz_c ?hz_d ?_; (case hz_F => k_asm); (case hz_X => k_asm); (case hz_l => k_is); (case hz_a => decide); (case hz_b => decide); (case hz_c => rfl); (case hz_d => rfl))
  | (refine' item_tupleT (News.isTup (by k_asm) (by k_mem)) ?hz_a ?hz_b ?hz_c ?hz_d ?_; (case hz_a => decide); (case hz_b => decide); (case hz_c => rfl); (case hz_d => rfl); k_whole))))
  (k_with "LeaveD" => (k_dflt (refine' leaveD_ ?hz_k1 ?hz_k2 ?_; (case hz_k1 => k_asm); (case hz_k2 => k_asm); k_whole); intro kF kN; ground_anew kF; (have kX := kFor kF (by k_asm))))
  (k_with "wpK" => ((with_reducible show wpK _ _ (execs (_ :: _) _) _ _); refine wpK_execs_cons ?_; (try dsimp only)))
  (k_with "wpK" => ((with_reducible show wpK _ _ (execs [] _) _ _); refine wpK_execs_nil ?_; (try dsimp only)))
  (k_with "wpK" => ((with_reducible show wpK _ _ (exec (Stmt.Return (some _) _) _) _ _); refine wpK_Return ?_; (try dsimp only)))
  (k_with "wpK" => ((with_reducible show wpK _ _ (exec (Stmt.If _ _ _ _) _) _ _); refine wpK_If ?_))
  (k_with "wpK" => ((with_reducible show wpK _ _ (exec (Stmt.Expr _ _) _) _ _); refine wpK_Expr ?_))
  (k_with "wpK" => ((with_reducible show wpK _ _ (exec (Stmt.Assign [Expr.Name _ _] _ _) _) _ _); refine wpK_Assign_Name ?_))
  (k_with "wpK" => ((with_reducible show wpK _ _ (eval (Expr.Name _ _) _) _ _); refine wpK_any ?_))
  (k_with "wpK" => ((with_reducible show wpK _ _ (eval (Expr.Constant _ _ _) _) _ _); refine wpK_any ?_))
  (k_with "wpK" => ((with_reducible show wpK _ _ (eval (Expr.BinOp _ _ _ _) _) _ _); refine wpK_BinOp ?_))
  (k_with "wpK" => ((with_reducible show wpK _ _ (eval (Expr.Compare _ [_] [_] _) _) _ _); refine wpK_Compare1 ?_))
  (k_with "wpK" => ((with_reducible show wpK _ _ (binaryOp _ _ _) _ _); refine wpK_any ?_))
  (k_with "wpK" => ((with_reducible show wpK _ _ (compareOp _ _ _) _ _); refine wpK_any ?_))
  (k_with "wpK" => ((with_reducible show wpK _ _ (eval (Expr.Call (Expr.Name _ _) _ [] _) _) _ _); refine wpK_CallName ?_))
  (k_with "wpK" => ((with_reducible show wpK _ _ (eval (Expr.Call (Expr.Attribute _ _ _) _ [] _) _) _ _); refine wpK_CallMeth ?_))
  (k_with "wpK" => ((with_reducible show wpK _ _ (callWith _ (Value.type _) _ _ _) _ _); k_dflt (refine callWithK_any rfl ?_)))
  (k_with "wpK" => ((with_reducible show wpK _ _ (callWith _ (Value.builtin _) _ _ _) _ _); k_dflt (refine callWithK_any rfl ?_)))
  (k_with "wpK" => ((with_reducible show wpK _ _ (callWith _ (Value.ref _) _ _ _) _ _); k_dflt (refine' callWithK_def ?hz_k1 ?hz_k2 ?_; (case hz_k1 => k_asm); (case hz_k2 => k_is); k_whole)))
  (k_with "wpK" => ((with_reducible show wpK _ _ (call (Value.type "bytearray") [Value.bytes _ _]) _ _); k_dflt (refine' make_K ?hz_k1 ?hz_k2 ?hz_k3 ?_; (case hz_k1 => k_asm); (case hz_k2 => k_asm); (case hz_k3 => size_fits); k_whole); intro D9 h9 ne9 F9 N9; (try dsimp only at F9 N9 ⊢)))
  (k_with "wpK" => ((with_reducible show wpK _ _ (call (Value.builtin "bytearray.append") _) _ _); k_dflt (refine' appendB_K ?hz_k1 ?hz_k2 ?hz_k3 ?hz_k4 ?hz_k5 ?hz_k6 ?_; (case hz_k1 => k_asm); (case hz_k2 => k_asm); (case hz_k3 => k_upd); (case hz_k4 => omega); (case hz_k5 => omega); (case hz_k6 => first | assumption | (rw [sizeLine_eq]; (try simp only [Array.size_push]); omega)); k_whole); intro h9 F9 N9; (try dsimp only at F9 N9 ⊢)))
  (k_with "getMethod ref" => (k_here; k_dflt (refine' method_append ?hz_k1 ?hz_k2 ?_; (case hz_k1 => k_asm); (case hz_k2 => k_mem); k_whole)))
  (k_with "call type:bytes cons nil" => (k_here; k_dflt (refine' bytes_K ?hz_k1 ?hz_k2 ?hz_k3 ?_; (case hz_k1 => k_asm); (case hz_k2 => k_mem); (case hz_k3 => first | assumption | size_fits); k_whole); intro t9 k9; (try dsimp only)))
  (k_with "wpK" => ((with_reducible show wpK _ _ (call (Value.type "bytes") _) _ _); refine wpK_any ?_))
  (k_with "call type:bytes cons nil" => (k_here; (with_reducible show wpAny _ _ (call (Value.type "bytes") [Value.bytes _ _]) _ _ _); k_dflt (refine bytes_of_bytes ?_)))
  (k_with "binaryOp Add bytes bytes" => (k_here; k_dflt (refine' KBy.add_bytes ?hz_sz ?_); (case hz_sz => ((try simp only [Array.size_append, List.size_toArray, List.length_cons, List.length_nil]); omega)); intro t9 k9; (try dsimp only)))
  (k_with "wpK" => ((with_reducible show wpK _ _ (exec (Stmt.Assign [Expr.Tuple _ _ _] _ _) _) _ _); refine wpK_any ?_))
  (k_with "k_mem" => assumption)
  (k_with "call ref" => (k_here; (with_reducible show wpAny _ _ (call (Value.ref 138) _) _ _ _); k_dflt (refine' ret_use (text_octets _ _ _ _ ?hz_ha ?hz_hl) ?hz_k1 ?hz_k2 ?hz_k3 ?hz_k4 ?hz_k5 ?hz_kK ?hz_kd ?hz_ku ?_; (case hz_k1 => k_asm); (case hz_k2 => k_asm); (case hz_k3 => k_asm); (case hz_k4 => k_asm); (case hz_k5 => k_asm); (case hz_kK => first | exact rfl | assumption); (case hz_ha => exact num_lt (k := 1) (by decide)); (case hz_hl => exact num_len (k := 1) (by decide) (by assumption)); (case hz_kd => ktr_room); (case hz_ku => ktr_units)); intro r9 news9 h9 tk9 F9 N9 hp9; obtain ⟨e8, t9, e9⟩ := hp9; replace e8 := e8.symm; subst e8; subst e9))
  (k_with "call ref" => (k_here; (with_reducible show wpAny _ _ (call (Value.ref 133) _) _ _ _); k_dflt (refine' ret_use (upper_text _ _ _ _ ?hz_ha ?hz_hl) ?hz_k1 ?hz_k2 ?hz_k3 ?hz_k4 ?hz_k5 ?hz_kK ?hz_kd ?hz_ku ?_; (case hz_k1 => k_asm); (case hz_k2 => k_asm); (case hz_k3 => k_asm); (case hz_k4 => k_asm); (case hz_k5 => k_asm); (case hz_kK => first | exact rfl | assumption); (case hz_ha => decide +kernel); (case hz_hl => decide +kernel); (case hz_kd => ktr_room); (case hz_ku => ktr_units)); intro r9 news9 h9 tk9 F9 N9 hp9; obtain ⟨e8, t9, e9⟩ := hp9; replace e8 := e8.symm; subst e8; subst e9))
  (k_with "call ref" => (k_here; (with_reducible show wpAny _ _ (call (Value.ref 157) _) _ _ _); k_dflt (refine' ret_use (show_set _ _ _ ?hz_ha) ?hz_k1 ?hz_k2 ?hz_k3 ?hz_k4 ?hz_k5 ?hz_kK ?hz_kd ?hz_ku ?_; (case hz_k1 => k_asm); (case hz_k2 => k_asm); (case hz_k3 => k_asm); (case hz_k4 => k_asm); (case hz_k5 => k_asm); (case hz_kK => first | exact rfl | assumption); (case hz_ha => assumption); (case hz_kd => ktr_room); (case hz_ku => ktr_units)); intro r9 news9 h9 tk9 F9 N9 hp9; obtain ⟨e8, t9, e9⟩ := hp9; replace e8 := e8.symm; subst e8; subst e9))
  (k_with "call ref" => (k_here; (with_reducible show wpAny _ _ (call (Value.ref 116) _) _ _ _); k_dflt (refine' ret_use (write_day _ _ _ ?hz_ha) ?hz_k1 ?hz_k2 ?hz_k3 ?hz_k4 ?hz_k5 ?hz_kK ?hz_kd ?hz_ku ?_; (case hz_k1 => k_asm); (case hz_k2 => k_asm); (case hz_k3 => k_asm); (case hz_k4 => k_asm); (case hz_k5 => k_asm); (case hz_kK => first | exact rfl | assumption); (case hz_ha => assumption); (case hz_kd => ktr_room); (case hz_ku => ktr_units)); intro r9 news9 h9 tk9 F9 N9 hp9; obtain ⟨e8, t9, e9⟩ := hp9; replace e8 := e8.symm; subst e8; subst e9))
  (k_with "call ref" => (k_here; (with_reducible show wpAny _ _ (call (Value.ref 233) _) _ _ _); k_dflt (refine' ret_use (show_flag _ _ _ ?hz_ha _ _ _ ?hz_hl) ?hz_k1 ?hz_k2 ?hz_k3 ?hz_k4 ?hz_k5 ?hz_kK ?hz_kd ?hz_ku ?_; (case hz_k1 => k_asm); (case hz_k2 => k_asm); (case hz_k3 => k_asm); (case hz_k4 => k_asm); (case hz_k5 => k_asm); (case hz_kK => first | exact rfl | assumption); (case hz_ha => assumption); (case hz_hl => first | exact .inl rfl | exact .inr rfl); (case hz_kd => ktr_room); (case hz_ku => ktr_units)); intro r9 news9 h9 tk9 F9 N9 hp9; obtain ⟨e8, t9, e9⟩ := hp9; replace e8 := e8.symm; subst e8; subst e9))
  (k_with "wpK" => ((with_reducible show wpK _ _ (call (Value.ref 219) _) _ _); k_dflt (refine' kret_use (astring_octets _ _ _ _ ?hz_ha) ?hz_k1 ?hz_k2 ?hz_k3 ?hz_k4 ?hz_k5 ?hz_kK ?hz_kd ?hz_ku ?_; (case hz_k1 => k_asm); (case hz_k2 => k_asm); (case hz_k3 => k_asm); (case hz_k4 => k_asm); (case hz_k5 => k_asm); (case hz_kK => first | exact rfl | assumption); (case hz_ha => first | exact octA_size _ | exact xa_size); (case hz_kd => ktr_room); (case hz_ku => ktr_units)); intro r9 news9 h9 tk9 F9 N9 hp9; obtain ⟨e8, t9, e9⟩ := hp9; replace e8 := e8.symm; subst e8; subst e9))
  (k_with "binaryOp Add str str" => (k_here; (refine SBL.add (hsz := ?hz_hsz) ?_); (case hz_hsz => exact sz2 (by first | exact set_len (by assumption) | exact dayT_len (by assumption) | exact figs_len (by assumption) | decide +kernel) (by first | exact set_len (by assumption) | exact dayT_len (by assumption) | exact figs_len (by assumption) | decide +kernel)); intro _ _))
  (k_with "wpK" => ((with_reducible show wpK _ _ (call (Value.ref 138) _) _ _); refine wpK_any ?_))
  (k_with "wpK" => ((with_reducible show wpK _ _ (call (Value.ref 233) _) _ _); refine wpK_any ?_))
  trivial
set_option maxRecDepth 100000 in
set_option maxHeartbeats 8000000 in
theorem leaf_num1 (w : World) (news : List (Addr × Obj)) (b : Addr) (n : Nat) (hn : n < 10 ^ 18) (t1 u1 : Tok) (hm : (b, tup [.str (Str.ofString "smaller") t1, .int (n : Int) u1]) ∈ news) :
   KRet PySem.Challenge.rw_nz0288_01.row.prog w (Mine.top.heap_1_39 w.params) Mine.top.view_1_40 LS 240 6 news [.ref b]
     (fun news' r => news' = news ∧ ∃ t, r = .bytes (leafQ (.num 1 n)) t) := by
  k_fill
  unfold KRet
  intro mean mg mb dp un gd cn cs a ccd cl outer A₀ base h₀ L m s Q B F X N T hk hd hu hret
  refine wpK_call ?_
  k_dflt (refine' code_defK (binds := [(Str.ofString "tree", .ref b)]) ?k1 ?k2 ?k3 ?k4 ?k5 ?kA ?kF ?kK ?k6 ?k7 ?k8 ?k9 ?kB ?_ ?c2 ?c3 ?c4 ?c5; (case kA => exact rfl); (case kF => exact rfl); (case kK => assumption); (case k1 => k_asm); (case k2 => k_asm); (case k3 => k_asm); (case k4 => k_asm); (case k5 => k_asm); (case k6 => k_is); (case k7 => k_is); (case k8 => ktr_room); (case k9 => first | exact BindsTo.of_eq rfl | exact binds_K (by k_in) rfl (by k_is) rfl rfl rfl); (case c5 => decide); (case kB => exact locs rfl); (case c2 => exact rfl); (case c3 => exact rfl); (case c4 => exact rfl); k_whole; intro g' L' h' FG' F' N' B' X' T'; (try dsimp only); (try k_fold))
  repeat' (first | (k_unfold; (try dsimp only)) | (first | walk1 | (dsimp only; walk1)) | fail "no step")
  all_goals (refine hret _ news _ _ (by k_asm) (by first | k_asm | exact ntl (by k_asm) | exact ntl (ntl (by k_asm)) | exact ntl (ntl (ntl (by k_asm)))) ⟨rfl, _, rfl⟩)
end Mine
end
section
open PySem PySem.W PySem.Calls PyProof.Rows
namespace Mine
theorem reg53 : True := by
  w_top off
  k_with_none
  (k_with "execs cons" => (k_here; dsimp only))
  (k_with "execs nil" => (k_here; dsimp only))
  (k_with "subscriptTail Name Constant ref int" => (k_here; k_dflt (first
  | (refine' topTup_K ?hz_F ?hz_X ?hz_l ?hz_a ?hz_b ?hz_c ?hz_d ?_; (case hz_F => k_asm); (case hz_X => k_asm); (case hz_l => k_is); (case hz_a => decide); (case hz_b => decide); (case hz_c => rfl); (case hz_d => rfl))
  | (refine' item_tupleT (News.isTup (by k_asm) (by k_mem)) ?hz_a ?hz_b ?hz_c ?hz_d ?_; (case hz_a => decide); (case hz_b => decide); (case hz_c => rfl); (case hz_d => rfl); k_whole)
  | (refine' item_litK (News.isList (by k_asm) (by k_mem)) ?hz_a ?hz_b ?hz_d ?_; (case hz_a => decide); (case hz_b => decide); (case hz_d => rfl); k_whole))))
  (k_with "subscriptTail Name UnaryOp ref int" => (k_here; k_dflt (first
  | (refine' topTup_K ?hz_F ?hz_X ?hz_l ?hz_a ?hz_b ?hz_c ?hz_d ?_; (case hz_F => k_asm); (case hz_X => k_asm); (case hz_l => k_is); (case hz_a => decide); (case hz_b => decide); (case hz_c => rfl); (case hz_d => rfl))
  | (refine' item_tupleT (News.isTup (by k_asm) (by k_mem)) ?hz_a ?hz_b ?hz_c ?hz_d ?_; (case hz_a => decide); (case hz_b => decide); (case hz_c => rfl); (case hz_d => rfl); k_whole))))
  (k_with "LeaveD" => (k_dflt (refine' leaveD_ ?hz_k1 ?hz_k2 ?_; (case hz_k1 => k_asm); (case hz_k2 => k_asm); k_whole); intro kF kN; ground_anew kF; (have kX := kFor kF (by k_asm))))
  (k_with "wpK" => ((with_reducible show wpK _ _ (execs (_ :: _) _) _ _); refine wpK_execs_cons ?_; (try dsimp only)))
  (k_with "wpK" => ((with_reducible show wpK _ _ (execs [] _) _ _); refine wpK_execs_nil ?_; (try dsimp only)))
  (k_with "wpK" => ((with_reducible show wpK _ _ (exec (Stmt.Return (some _) _) _) _ _); refine wpK_Return ?_; (try dsimp only)))
  (k_with "wpK" => ((with_reducible show wpK _ _ (exec (Stmt.If _ _ _ _) _) _ _); refine wpK_If ?_))
  (k_with "wpK" => ((with_reducible show wpK _ _ (exec (Stmt.Expr _ _) _) _ _); refine wpK_Expr ?_))
  (k_with "wpK" => ((with_reducible show wpK _ _ (exec (Stmt.Assign [Expr.Name _ _] _ _) _) _ _); refine wpK_Assign_Name ?_))
  (k_with "wpK" => ((with_reducible show wpK _ _ (eval (Expr.Name _ _) _) _ _); refine wpK_any ?_))
  (k_with "wpK" => ((with_reducible show wpK _ _ (eval (Expr.Constant _ _ _) _) _ _); refine wpK_any ?_))
  (k_with "wpK" => ((with_reducible show wpK _ _ (eval (Expr.BinOp _ _ _ _) _) _ _); refine wpK_BinOp ?_))
  (k_with "wpK" => ((with_reducible show wpK _ _ (eval (Expr.Compare _ [_] [_] _) _) _ _); refine wpK_Compare1 ?_))
  (k_with "wpK" => ((with_reducible show wpK _ _ (binaryOp _ _ _) _ _); refine wpK_any ?_))
  (k_with "wpK" => ((with_reducible show wpK _ _ (compareOp _ _ _) _ _); refine wpK_any ?_))
  (k_with "wpK" => ((with_reducible show wpK _ _ (eval (Expr.Call (Expr.Name _ _) _ [] _) _) _ _); refine wpK_CallName ?_))
  (k_with "wpK" => ((with_reducible show wpK _ _ (eval (Expr.Call (Expr.Attribute _ _ _) _ [] _) _) _ _); refine wpK_CallMeth ?_))
  (k_with "wpK" => ((with_reducible show wpK _ _ (callWith _ (Value.type _) _ _ _) _ _); k_dflt (refine callWithK_any rfl ?_)))
  (k_with "wpK" => ((with_reducible show wpK _ _ (callWith _ (Value.builtin _) _ _ _) _ _); k_dflt (refine callWithK_any rfl ?_)))
  (k_with "wpK" => ((with_reducible show wpK _ _ (callWith _ (Value.ref _) _ _ _) _ _); k_dflt (refine' callWithK_def ?hz_k1 ?hz_k2 ?_; (case hz_k1 => k_asm); (case hz_k2 => k_is); k_whole)))
  (k_with "wpK" => ((with_reducible show wpK _ _ (call (Value.type "bytearray") [Value.bytes _ _]) _ _); k_dflt (refine' make_K ?hz_k1 ?hz_k2 ?hz_k3 ?_; (case hz_k1 => k_asm); (case hz_k2 => k_asm); (case hz_k3 => size_fits); k_whole); intro D9 h9 ne9 F9 N9; (try dsimp only at F9 N9 ⊢)))
  (k_with "wpK" => ((with_reducible show wpK _ _ (call (Value.builtin "bytearray.append") _) _ _); k_dflt (refine' appendB_K ?hz_k1 ?hz_k2 ?hz_k3 ?hz_k4 ?hz_k5 ?hz_k6 ?_; (case hz_k1 => k_asm); (case hz_k2 => k_asm); (case hz_k3 => k_upd); (case hz_k4 => omega); (case hz_k5 => omega); (case hz_k6 => first | assumption | (rw [sizeLine_eq]; (try simp only [Array.size_push]); omega)); k_whole); intro h9 F9 N9; (try dsimp only at F9 N9 ⊢)))
  (k_with "getMethod ref" => (k_here; k_dflt (refine' method_append ?hz_k1 ?hz_k2 ?_; (case hz_k1 => k_asm); (case hz_k2 => k_mem); k_whole)))
  (k_with "call type:bytes cons nil" => (k_here; k_dflt (refine' bytes_K ?hz_k1 ?hz_k2 ?hz_k3 ?_; (case hz_k1 => k_asm); (case hz_k2 => k_mem); (case hz_k3 => first | assumption | size_fits); k_whole); intro t9 k9; (try dsimp only)))
  (k_with "wpK" => ((with_reducible show wpK _ _ (call (Value.type "bytes") _) _ _); refine wpK_any ?_))
  (k_with "call type:bytes cons nil" => (k_here; (with_reducible show wpAny _ _ (call (Value.type "bytes") [Value.bytes _ _]) _ _ _); k_dflt (refine bytes_of_bytes ?_)))
  (k_with "binaryOp Add bytes bytes" => (k_here; k_dflt (refine' KBy.add_bytes ?hz_sz ?_); (case hz_sz => ((try simp only [Array.size_append, List.size_toArray, List.length_cons, List.length_nil]); omega)); intro t9 k9; (try dsimp only)))
  (k_with "wpK" => ((with_reducible show wpK _ _ (exec (Stmt.Assign [Expr.Tuple _ _ _] _ _) _) _ _); refine wpK_any ?_))
  (k_with "k_mem" => assumption)
  (k_with "call ref" => (k_here; (with_reducible show wpAny _ _ (call (Value.ref 138) _) _ _ _); k_dflt (refine' ret_use (text_octets _ _ _ _ ?hz_ha ?hz_hl) ?hz_k1 ?hz_k2 ?hz_k3 ?hz_k4 ?hz_k5 ?hz_kK ?hz_kd ?hz_ku ?_; (case hz_k1 => k_asm); (case hz_k2 => k_asm); (case hz_k3 => k_asm); (case hz_k4 => k_asm); (case hz_k5 => k_asm); (case hz_kK => first | exact rfl | assumption); (case hz_ha => exact num_lt (k := 2) (by decide)); (case hz_hl => exact num_len (k := 2) (by decide) (by assumption)); (case hz_kd => ktr_room); (case hz_ku => ktr_units)); intro r9 news9 h9 tk9 F9 N9 hp9; obtain ⟨e8, t9, e9⟩ := hp9; replace e8 := e8.symm; subst e8; subst e9))
  (k_with "call ref" => (k_here; (with_reducible show wpAny _ _ (call (Value.ref 133) _) _ _ _); k_dflt (refine' ret_use (upper_text _ _ _ _ ?hz_ha ?hz_hl) ?hz_k1 ?hz_k2 ?hz_k3 ?hz_k4 ?hz_k5 ?hz_kK ?hz_kd ?hz_ku ?_; (case hz_k1 => k_asm); (case hz_k2 => k_asm); (case hz_k3 => k_asm); (case hz_k4 => k_asm); (case hz_k5 => k_asm); (case hz_kK => first | exact rfl | assumption); (case hz_ha => decide +kernel); (case hz_hl => decide +kernel); (case hz_kd => ktr_room); (case hz_ku => ktr_units)); intro r9 news9 h9 tk9 F9 N9 hp9; obtain ⟨e8, t9, e9⟩ := hp9; replace e8 := e8.symm; subst e8; subst e9))
  (k_with "call ref" => (k_here; (with_reducible show wpAny _ _ (call (Value.ref 157) _) _ _ _); k_dflt (refine' ret_use (show_set _ _ _ ?hz_ha) ?hz_k1 ?hz_k2 ?hz_k3 ?hz_k4 ?hz_k5 ?hz_kK ?hz_kd ?hz_ku ?_; (case hz_k1 => k_asm); (case hz_k2 => k_asm); (case hz_k3 => k_asm); (case hz_k4 => k_asm); (case hz_k5 => k_asm); (case hz_kK => first | exact rfl | assumption); (case hz_ha => assumption); (case hz_kd => ktr_room); (case hz_ku => ktr_units)); intro r9 news9 h9 tk9 F9 N9 hp9; obtain ⟨e8, t9, e9⟩ := hp9; replace e8 := e8.symm; subst e8; subst e9))
  (k_with "call ref" => (k_here; (with_reducible show wpAny _ _ (call (Value.ref 116) _) _ _ _); k_dflt (refine' ret_use (write_day _ _ _ ?hz_ha) ?hz_k1 ?hz_k2 ?hz_k3 ?hz_k4 ?hz_k5 ?hz_kK ?hz_kd ?hz_ku ?_; (case hz_k1 => k_asm); (case hz_k2 => k_asm); (case hz_k3 => k_asm); (case hz_k4 => k_asm); (case hz_k5 => k_asm); (case hz_kK => first | exact rfl | assumption); (case hz_ha => assumption); (case hz_kd => ktr_room); (case hz_ku => ktr_units)); intro r9 news9 h9 tk9 F9 N9 hp9; obtain ⟨e8, t9, e9⟩ := hp9; replace e8 := e8.symm; subst e8; subst e9))
  (k_with "call ref" => (k_here; (with_reducible show wpAny _ _ (call (Value.ref 233) _) _ _ _); k_dflt (refine' ret_use (show_flag _ _ _ ?hz_ha _ _ _ ?hz_hl) ?hz_k1 ?hz_k2 ?hz_k3 ?hz_k4 ?hz_k5 ?hz_kK ?hz_kd ?hz_ku ?_; (case hz_k1 => k_asm); (case hz_k2 => k_asm); (case hz_k3 => k_asm); (case hz_k4 => k_asm); (case hz_k5 => k_asm); (case hz_kK => first | exact rfl | assumption); (case hz_ha => assumption); (case hz_hl => first | exact .inl rfl | exact .inr rfl); (case hz_kd => ktr_room); (case hz_ku => ktr_units)); intro r9 news9 h9 tk9 F9 N9 hp9; obtain ⟨e8, t9, e9⟩ := hp9; replace e8 := e8.symm; subst e8; subst e9))
  (k_with "wpK" => ((with_reducible show wpK _ _ (call (Value.ref 219) _) _ _); k_dflt (refine' kret_use (astring_octets _ _ _ _ ?hz_ha) ?hz_k1 ?hz_k2 ?hz_k3 ?hz_k4 ?hz_k5 ?hz_kK ?hz_kd ?hz_ku ?_; (case hz_k1 => k_asm); (case hz_k2 => k_asm); (case hz_k3 => k_asm); (case hz_k4 => k_asm); (case hz_k5 => k_asm); (case hz_kK => first | exact rfl | assumption); (case hz_ha => first | exact octA_size _ | exact xa_size); (case hz_kd => ktr_room); (case hz_ku => ktr_units)); intro r9 news9 h9 tk9 F9 N9 hp9; obtain ⟨e8, t9, e9⟩ := hp9; replace e8 := e8.symm; subst e8; subst e9))
  (k_with "binaryOp Add str str" => (k_here; (refine SBL.add (hsz := ?hz_hsz) ?_); (case hz_hsz => exact sz2 (by first | exact set_len (by assumption) | exact dayT_len (by assumption) | exact figs_len (by assumption) | decide +kernel) (by first | exact set_len (by assumption) | exact dayT_len (by assumption) | exact figs_len (by assumption) | decide +kernel)); intro _ _))
  (k_with "wpK" => ((with_reducible show wpK _ _ (call (Value.ref 138) _) _ _); refine wpK_any ?_))
  (k_with "wpK" => ((with_reducible show wpK _ _ (call (Value.ref 233) _) _ _); refine wpK_any ?_))
  trivial
set_option maxRecDepth 100000 in
set_option maxHeartbeats 8000000 in
theorem leaf_num2 (w : World) (news : List (Addr × Obj)) (b : Addr) (n : Nat) (hn : n < 10 ^ 18) (t1 u1 : Tok) (hm : (b, tup [.str (Str.ofString "modseq") t1, .int (n : Int) u1]) ∈ news) :
   KRet PySem.Challenge.rw_nz0288_01.row.prog w (Mine.top.heap_1_39 w.params) Mine.top.view_1_40 LS 240 6 news [.ref b]
     (fun news' r => news' = news ∧ ∃ t, r = .bytes (leafQ (.num 2 n)) t) := by
  k_fill
  unfold KRet
  intro mean mg mb dp un gd cn cs a ccd cl outer A₀ base h₀ L m s Q B F X N T hk hd hu hret
  refine wpK_call ?_
  k_dflt (refine' code_defK (binds := [(Str.ofString "tree", .ref b)]) ?k1 ?k2 ?k3 ?k4 ?k5 ?kA ?kF ?kK ?k6 ?k7 ?k8 ?k9 ?kB ?_ ?c2 ?c3 ?c4 ?c5; (case kA => exact rfl); (case kF => exact rfl); (case kK => assumption); (case k1 => k_asm); (case k2 => k_asm); (case k3 => k_asm); (case k4 => k_asm); (case k5 => k_asm); (case k6 => k_is); (case k7 => k_is); (case k8 => ktr_room); (case k9 => first | exact BindsTo.of_eq rfl | exact binds_K (by k_in) rfl (by k_is) rfl rfl rfl); (case c5 => decide); (case kB => exact locs rfl); (case c2 => exact rfl); (case c3 => exact rfl); (case c4 => exact rfl); k_whole; intro g' L' h' FG' F' N' B' X' T'; (try dsimp only); (try k_fold))
  repeat' (first | (k_unfold; (try dsimp only)) | (first | walk1 | (dsimp only; walk1)) | fail "no step")
  all_goals (refine hret _ news _ _ (by k_asm) (by first | k_asm | exact ntl (by k_asm) | exact ntl (ntl (by k_asm)) | exact ntl (ntl (ntl (by k_asm)))) ⟨rfl, _, rfl⟩)
end Mine
end
section
open PySem PySem.W PySem.Calls PyProof.Rows
namespace Mine
theorem reg54 : True := by
  w_top off
  k_with_none
  (k_with "execs cons" => (k_here; dsimp only))
  (k_with "execs nil" => (k_here; dsimp only))
  (k_with "subscriptTail Name Constant ref int" => (k_here; k_dflt (first
  | (refine' topTup_K ?hz_F ?hz_X ?hz_l ?hz_a ?hz_b ?hz_c ?hz_d ?_; (case hz_F => k_asm); (case hz_X => k_asm); (case hz_l => k_is); (case hz_a => decide); (case hz_b => decide); (case hz_c => rfl); (case hz_d => rfl))
  | (refine' item_tupleT (News.isTup (by k_asm) (by k_mem)) ?hz_a ?hz_b ?hz_c ?hz_d ?_; (case hz_a => decide); (case hz_b => decide); (case hz_c => rfl); (case hz_d => rfl); k_whole)
  | (refine' item_litK (News.isList (by k_asm) (by k_mem)) ?hz_a ?hz_b ?hz_d ?_; (case hz_a => decide); (case hz_b => decide); (case hz_d => rfl); k_whole))))
  (k_with "subscriptTail Name UnaryOp ref int" => (k_here; k_dflt (first
  | (refine' topTup_K ?hz_F ?hz_X ?hz_l ?hz_a ?hz_b ?hz_c ?hz_d ?_; (case hz_F => k_asm); (case hz_X => k_asm); (case hz_l => k_is); (case hz_a => decide); (case hz_b => decide); (case hz_c => rfl); (case hz_d => rfl))
  | (refine' item_tupleT (News.isTup (by k_asm) (by k_mem)) ?hz_a ?hz_b ?hz_c ?hz_d ?_; (case hz_a => decide); (case hz_b => decide); (case hz_c => rfl); (case hz_d => rfl); k_whole))))
  (k_with "LeaveD" => (k_dflt (refine' leaveD_ ?hz_k1 ?hz_k2 ?_; (case hz_k1 => k_asm); (case hz_k2 => k_asm); k_whole); intro kF kN; ground_anew kF; (have kX := kFor kF (by k_asm))))
  (k_with "wpK" => ((with_reducible show wpK _ _ (execs (_ :: _) _) _ _); refine wpK_execs_cons ?_; (try dsimp only)))
  (k_with "wpK" => ((with_reducible show wpK _ _ (execs [] _) _ _); refine wpK_execs_nil ?_; (try dsimp only)))
  (k_with "wpK" => ((with_reducible show wpK _ _ (exec (Stmt.Return (some _) _) _) _ _); refine wpK_Return ?_; (try dsimp only)))
  (k_with "wpK" => ((with_reducible show wpK _ _ (exec (Stmt.If _ _ _ _) _) _ _); refine wpK_If ?_))
  (k_with "wpK" => ((with_reducible show wpK _ _ (exec (Stmt.Expr _ _) _) _ _); refine wpK_Expr ?_))
  (k_with "wpK" => ((with_reducible show wpK _ _ (exec (Stmt.Assign [Expr.Name _ _] _ _) _) _ _); refine wpK_Assign_Name ?_))
  (k_with "wpK" => ((with_reducible show wpK _ _ (eval (Expr.Name _ _) _) _ _); refine wpK_any ?_))
  (k_with "wpK" => ((with_reducible show wpK _ _ (eval (Expr.Constant _ _ _) _) _ _); refine wpK_any ?_))
  (k_with "wpK" => ((with_reducible show wpK _ _ (eval (Expr.BinOp _ _ _ _) _) _ _); refine wpK_BinOp ?_))
  (k_with "wpK" => ((with_reducible show wpK _ _ (eval (Expr.Compare _ [_] [_] _) _) _ _); refine wpK_Compare1 ?_))
  (k_with "wpK" => ((with_reducible show wpK _ _ (binaryOp _ _ _) _ _); refine wpK_any ?_))
  (k_with "wpK" => ((with_reducible show wpK _ _ (compareOp _ _ _) _ _); refine wpK_any ?_))
  (k_with "wpK" => ((with_reducible show wpK _ _ (eval (Expr.Call (Expr.Name _ _) _ [] _) _) _ _); refine wpK_CallName ?_))
  (k_with "wpK" => ((with_reducible show wpK _ _ (eval (Expr.Call (Expr.Attribute _ _ _) _ [] _) _) _ _); refine wpK_CallMeth ?_))
  (k_with "wpK" => ((with_reducible show wpK _ _ (callWith _ (Value.type _) _ _ _) _ _); k_dflt (refine callWithK_any rfl ?_)))
  (k_with "wpK" => ((with_reducible show wpK _ _ (callWith _ (Value.builtin _) _ _ _) _ _); k_dflt (refine callWithK_any rfl ?_)))
  (k_with "wpK" => ((with_reducible show wpK _ _ (callWith _ (Value.ref _) _ _ _) _ _); k_dflt (refine' callWithK_def ?hz_k1 ?hz_k2 ?_; (case hz_k1 => k_asm); (case hz_k2 => k_is); k_whole)))
  (k_with "wpK" => ((with_reducible show wpK _ _ (call (Value.type "bytearray") [Value.bytes _ _]) _ _); k_dflt (refine' make_K ?hz_k1 ?hz_k2 ?hz_k3 ?_; (case hz_k1 => k_asm); (case hz_k2 => k_asm); (case hz_k3 => size_fits); k_whole); intro D9 h9 ne9 F9 N9; (try dsimp only at F9 N9 ⊢)))
  (k_with "wpK" => ((with_reducible show wpK _ _ (call (Value.builtin "bytearray.append") _) _ _); k_dflt (refine' appendB_K ?hz_k1 ?hz_k2 ?hz_k3 ?hz_k4 ?hz_k5 ?hz_k6 ?_; (case hz_k1 => k_asm); (case hz_k2 => k_asm); (case hz_k3 => k_upd); (case hz_k4 => omega); (case hz_k5 => omega); (case hz_k6 => first | assumption | (rw [sizeLine_eq]; (try simp only [Array.size_push]); omega)); k_whole); intro h9 F9 N9; (try dsimp only at F9 N9 ⊢)))
  (k_with "getMethod ref" => (k_here; k_dflt (refine' method_append ?hz_k1 ?hz_k2 ?_; (case hz_k1 => k_asm); (case hz_k2 => k_mem); k_whole)))
  (k_with "call type:bytes cons nil" => (k_here; k_dflt (refine' bytes_K ?hz_k1 ?hz_k2 ?hz_k3 ?_; (case hz_k1 => k_asm); (case hz_k2 => k_mem); (case hz_k3 => first | assumption | size_fits); k_whole); intro t9 k9; (try dsimp only)))
  (k_with "wpK" => ((with_reducible show wpK _ _ (call (Value.type "bytes") _) _ _); refine wpK_any ?_))
  (k_with "call type:bytes cons nil" => (k_here; (with_reducible show wpAny _ _ (call (Value.type "bytes") [Value.bytes _ _]) _ _ _); k_dflt (refine bytes_of_bytes ?_)))
  (k_with "binaryOp Add bytes bytes" => (k_here; k_dflt (refine' KBy.add_bytes ?hz_sz ?_); (case hz_sz => ((try simp only [Array.size_append, List.size_toArray, List.length_cons, List.length_nil]); omega)); intro t9 k9; (try dsimp only)))
  (k_with "wpK" => ((with_reducible show wpK _ _ (exec (Stmt.Assign [Expr.Tuple _ _ _] _ _) _) _ _); refine wpK_any ?_))
  (k_with "k_mem" => assumption)
  (k_with "call ref" => (k_here; (with_reducible show wpAny _ _ (call (Value.ref 138) _) _ _ _); k_dflt (refine' ret_use (text_octets _ _ _ _ ?hz_ha ?hz_hl) ?hz_k1 ?hz_k2 ?hz_k3 ?hz_k4 ?hz_k5 ?hz_kK ?hz_kd ?hz_ku ?_; (case hz_k1 => k_asm); (case hz_k2 => k_asm); (case hz_k3 => k_asm); (case hz_k4 => k_asm); (case hz_k5 => k_asm); (case hz_kK => first | exact rfl | assumption); (case hz_ha => exact (by decide +kernel)); (case hz_hl => exact (by decide +kernel)); (case hz_kd => ktr_room); (case hz_ku => ktr_units)); intro r9 news9 h9 tk9 F9 N9 hp9; obtain ⟨e8, t9, e9⟩ := hp9; replace e8 := e8.symm; subst e8; subst e9))
  (k_with "call ref" => (k_here; (with_reducible show wpAny _ _ (call (Value.ref 133) _) _ _ _); k_dflt (refine' ret_use (upper_text _ _ _ _ ?hz_ha ?hz_hl) ?hz_k1 ?hz_k2 ?hz_k3 ?hz_k4 ?hz_k5 ?hz_kK ?hz_kd ?hz_ku ?_; (case hz_k1 => k_asm); (case hz_k2 => k_asm); (case hz_k3 => k_asm); (case hz_k4 => k_asm); (case hz_k5 => k_asm); (case hz_kK => first | exact rfl | assumption); (case hz_ha => decide +kernel); (case hz_hl => decide +kernel); (case hz_kd => ktr_room); (case hz_ku => ktr_units)); intro r9 news9 h9 tk9 F9 N9 hp9; obtain ⟨e8, t9, e9⟩ := hp9; replace e8 := e8.symm; subst e8; subst e9))
  (k_with "call ref" => (k_here; (with_reducible show wpAny _ _ (call (Value.ref 157) _) _ _ _); k_dflt (refine' ret_use (show_set _ _ _ ?hz_ha) ?hz_k1 ?hz_k2 ?hz_k3 ?hz_k4 ?hz_k5 ?hz_kK ?hz_kd ?hz_ku ?_; (case hz_k1 => k_asm); (case hz_k2 => k_asm); (case hz_k3 => k_asm); (case hz_k4 => k_asm); (case hz_k5 => k_asm); (case hz_kK => first | exact rfl | assumption); (case hz_ha => assumption); (case hz_kd => ktr_room); (case hz_ku => ktr_units)); intro r9 news9 h9 tk9 F9 N9 hp9; obtain ⟨e8, t9, e9⟩ := hp9; replace e8 := e8.symm; subst e8; subst e9))
  (k_with "call ref" => (k_here; (with_reducible show wpAny _ _ (call (Value.ref 116) _) _ _ _); k_dflt (refine' ret_use (write_day _ _ _ ?hz_ha) ?hz_k1 ?hz_k2 ?hz_k3 ?hz_k4 ?hz_k5 ?hz_kK ?hz_kd ?hz_ku ?_; (case hz_k1 => k_asm); (case hz_k2 => k_asm); (case hz_k3 => k_asm); (case hz_k4 => k_asm); (case hz_k5 => k_asm); (case hz_kK => first | exact rfl | assumption); (case hz_ha => assumption); (case hz_kd => ktr_room); (case hz_ku => ktr_units)); intro r9 news9 h9 tk9 F9 N9 hp9; obtain ⟨e8, t9, e9⟩ := hp9; replace e8 := e8.symm; subst e8; subst e9))
  (k_with "call ref" => (k_here; (with_reducible show wpAny _ _ (call (Value.ref 233) _) _ _ _); k_dflt (refine' ret_use (show_flag _ _ _ ?hz_ha _ _ _ ?hz_hl) ?hz_k1 ?hz_k2 ?hz_k3 ?hz_k4 ?hz_k5 ?hz_kK ?hz_kd ?hz_ku ?_; (case hz_k1 => k_asm); (case hz_k2 => k_asm); (case hz_k3 => k_asm); (case hz_k4 => k_asm); (case hz_k5 => k_asm); (case hz_kK => first | exact rfl | assumption); (case hz_ha => assumption); (case hz_hl => first | exact .inl rfl | exact .inr rfl); (case hz_kd => ktr_room); (case hz_ku => ktr_units)); intro r9 news9 h9 tk9 F9 N9 hp9; obtain ⟨e8, t9, e9⟩ := hp9; replace e8 := e8.symm; subst e8; subst e9))
  (k_with "wpK" => ((with_reducible show wpK _ _ (call (Value.ref 219) _) _ _); k_dflt (refine' kret_use (astring_octets _ _ _ _ ?hz_ha) ?hz_k1 ?hz_k2 ?hz_k3 ?hz_k4 ?hz_k5 ?hz_kK ?hz_kd ?hz_ku ?_; (case hz_k1 => k_asm); (case hz_k2 => k_asm); (case hz_k3 => k_asm); (case hz_k4 => k_asm); (case hz_k5 => k_asm); (case hz_kK => first | exact rfl | assumption); (case hz_ha => first | exact octA_size _ | exact xa_size); (case hz_kd => ktr_room); (case hz_ku => ktr_units)); intro r9 news9 h9 tk9 F9 N9 hp9; obtain ⟨e8, t9, e9⟩ := hp9; replace e8 := e8.symm; subst e8; subst e9))
  (k_with "binaryOp Add str str" => (k_here; (refine SBL.add (hsz := ?hz_hsz) ?_); (case hz_hsz => exact sz2 (by first | exact set_len (by assumption) | exact dayT_len (by assumption) | exact figs_len (by assumption) | decide +kernel) (by first | exact set_len (by assumption) | exact dayT_len (by assumption) | exact figs_len (by assumption) | decide +kernel)); intro _ _))
  (k_with "wpK" => ((with_reducible show wpK _ _ (call (Value.ref 138) _) _ _); refine wpK_any ?_))
  (k_with "wpK" => ((with_reducible show wpK _ _ (call (Value.ref 233) _) _ _); refine wpK_any ?_))
  trivial
set_option maxRecDepth 100000 in
set_option maxHeartbeats 8000000 in
theorem leaf_header (w : World) (news : List (Addr × Obj)) (b : Addr) (o : Nat) (ho : o < 10) (t1 u1 z1 : Tok) (hm : (b, tup [.str (Str.ofString "header") t1, .str (Str.ofString "x-a") u1, .bytes (octA o) z1]) ∈ news) :
   KRet PySem.Challenge.rw_nz0288_01.row.prog w (Mine.top.heap_1_39 w.params) Mine.top.view_1_40 LS 240 6 news [.ref b]
     (fun news' r => news' = news ∧ ∃ t, r = .bytes (leafQ (.header o)) t) := by
  k_fill
  unfold KRet
  intro mean mg mb dp un gd cn cs a ccd cl outer A₀ base h₀ L m s Q B F X N T hk hd hu hret
  have hs1 : (astrOcts (octA o)).size ≤ 2000 := astr_size (octA_size o)
  have hs2 : (astrOcts (octs (Str.ofString "x-a"))).size ≤ 2000 := astr_size xa_size
  refine wpK_call ?_
  k_dflt (refine' code_defK (binds := [(Str.ofString "tree", .ref b)]) ?k1 ?k2 ?k3 ?k4 ?k5 ?kA ?kF ?kK ?k6 ?k7 ?k8 ?k9 ?kB ?_ ?c2 ?c3 ?c4 ?c5; (case kA => exact rfl); (case kF => exact rfl); (case kK => assumption); (case k1 => k_asm); (case k2 => k_asm); (case k3 => k_asm); (case k4 => k_asm); (case k5 => k_asm); (case k6 => k_is); (case k7 => k_is); (case k8 => ktr_room); (case k9 => first | exact BindsTo.of_eq rfl | exact binds_K (by k_in) rfl (by k_is) rfl rfl rfl); (case c5 => decide); (case kB => exact locs rfl); (case c2 => exact rfl); (case c3 => exact rfl); (case c4 => exact rfl); k_whole; intro g' L' h' FG' F' N' B' X' T'; (try dsimp only); (try k_fold))
  repeat' (first | (k_unfold; (try dsimp only)) | (first | walk1 | (dsimp only; walk1)) | fail "no step")
  all_goals (refine hret _ news _ _ (by k_asm) (by first | k_asm | exact ntl (by k_asm) | exact ntl (ntl (by k_asm)) | exact ntl (ntl (ntl (by k_asm)))) ⟨rfl, _, rfl⟩)
end Mine
end
section
open PySem PySem.W PySem.Calls PyProof.Rows
namespace Mine
theorem reg55 : True := by
  w_top off
  trivial
set_option maxRecDepth 100000 in
set_option maxHeartbeats 8000000 in
theorem leaf_text0 (w : World) (news : List (Addr × Obj)) (b : Addr) (o : Nat) (ho : o < 10) (t1 z1 : Tok) (hm : (b, tup [.str (Str.ofString "text") t1, .bytes (octA o) z1]) ∈ news) :
   KRet PySem.Challenge.rw_nz0288_01.row.prog w (Mine.top.heap_1_39 w.params) Mine.top.view_1_40 LS 240 6 news [.ref b]
     (fun news' r => news' = news ∧ ∃ t, r = .bytes (leafQ (.text 0 o)) t) := by
  k_fill
  unfold KRet
  intro mean mg mb dp un gd cn cs a ccd cl outer A₀ base h₀ L m s Q B F X N T hk hd hu hret
  have hs1 : (astrOcts (octA o)).size ≤ 2000 := astr_size (octA_size o)
  have hs2 : (octs (upText (Str.ofString "text") ++ Str.ofString " ")).size ≤ 100 := by decide +kernel
  refine wpK_call ?_
  k_dflt (refine' code_defK (binds := [(Str.ofString "tree", .ref b)]) ?k1 ?k2 ?k3 ?k4 ?k5 ?kA ?kF ?kK ?k6 ?k7 ?k8 ?k9 ?kB ?_ ?c2 ?c3 ?c4 ?c5; (case kA => exact rfl); (case kF => exact rfl); (case kK => assumption); (case k1 => k_asm); (case k2 => k_asm); (case k3 => k_asm); (case k4 => k_asm); (case k5 => k_asm); (case k6 => k_is); (case k7 => k_is); (case k8 => ktr_room); (case k9 => first | exact BindsTo.of_eq rfl | exact binds_K (by k_in) rfl (by k_is) rfl rfl rfl); (case c5 => decide); (case kB => exact locs rfl); (case c2 => exact rfl); (case c3 => exact rfl); (case c4 => exact rfl); k_whole; intro g' L' h' FG' F' N' B' X' T'; (try dsimp only); (try k_fold))
  repeat' (first | (k_unfold; (try dsimp only)) | (first | walk1 | (dsimp only; walk1)) | fail "no step")
  all_goals (refine hret _ news _ _ (by k_asm) (by first | k_asm | exact ntl (by k_asm) | exact ntl (ntl (by k_asm)) | exact ntl (ntl (ntl (by k_asm)))) ⟨rfl, _, rfl⟩)
end Mine
end
section
open PySem PySem.W PySem.Calls PyProof.Rows
namespace Mine
theorem reg56 : True := by
  w_top off
  trivial
set_option maxRecDepth 100000 in
set_option maxHeartbeats 8000000 in
theorem leaf_text1 (w : World) (news : List (Addr × Obj)) (b : Addr) (o : Nat) (ho : o < 10) (t1 z1 : Tok) (hm : (b, tup [.str (Str.ofString "body") t1, .bytes (octA o) z1]) ∈ news) :
   KRet PySem.Challenge.rw_nz0288_01.row.prog w (Mine.top.heap_1_39 w.params) Mine.top.view_1_40 LS 240 6 news [.ref b]
     (fun news' r => news' = news ∧ ∃ t, r = .bytes (leafQ (.text 1 o)) t) := by
  k_fill
  unfold KRet
  intro mean mg mb dp un gd cn cs a ccd cl outer A₀ base h₀ L m s Q B F X N T hk hd hu hret
  have hs1 : (astrOcts (octA o)).size ≤ 2000 := astr_size (octA_size o)
  have hs2 : (octs (upText (Str.ofString "body") ++ Str.ofString " ")).size ≤ 100 := by decide +kernel
  refine wpK_call ?_
  k_dflt (refine' code_defK (binds := [(Str.ofString "tree", .ref b)]) ?k1 ?k2 ?k3 ?k4 ?k5 ?kA ?kF ?kK ?k6 ?k7 ?k8 ?k9 ?kB ?_ ?c2 ?c3 ?c4 ?c5; (case kA => exact rfl); (case kF => exact rfl); (case kK => assumption); (case k1 => k_asm); (case k2 => k_asm); (case k3 => k_asm); (case k4 => k_asm); (case k5 => k_asm); (case k6 => k_is); (case k7 => k_is); (case k8 => ktr_room); (case k9 => first | exact BindsTo.of_eq rfl | exact binds_K (by k_in) rfl (by k_is) rfl rfl rfl); (case c5 => decide); (case kB => exact locs rfl); (case c2 => exact rfl); (case c3 => exact rfl); (case c4 => exact rfl); k_whole; intro g' L' h' FG' F' N' B' X' T'; (try dsimp only); (try k_fold))
  repeat' (first | (k_unfold; (try dsimp only)) | (first | walk1 | (dsimp only; walk1)) | fail "no step")
  all_goals (refine hret _ news _ _ (by k_asm) (by first | k_asm | exact ntl (by k_asm) | exact ntl (ntl (by k_asm)) | exact ntl (ntl (ntl (by k_asm)))) ⟨rfl, _, rfl⟩)
end Mine
end
section
open PySem PySem.W PySem.Calls PyProof.Rows
namespace Mine
theorem reg57 : True := by
  w_top off
  k_with_none
  trivial
theorem show_leaf (w : World) (news : List (Addr × Obj)) (l : Leaf) (b : Addr) (vs : List Value) (hm : (b, tup vs) ∈ news) (hv : leafVals l vs) (hl : l ≠ .all) :
   KRet PySem.Challenge.rw_nz0288_01.row.prog w (Mine.top.heap_1_39 w.params) Mine.top.view_1_40 LS 240 6 news [.ref b]
     (fun news' r => news' = news ∧ ∃ t, r = .bytes (leafQ l) t) := by
  cases l with
  | all => exact absurd rfl hl
  | flag i => obtain ⟨hi, t1, u1, rfl⟩ := hv; exact leaf_flag w news b i hi t1 u1 hm
  | uid i => obtain ⟨hi, t1, rfl⟩ := hv; exact leaf_uid w news b i hi t1 hm
  | seq i => obtain ⟨hi, t1, rfl⟩ := hv; exact leaf_seq w news b i hi t1 hm
  | day k j =>
    obtain ⟨hk, hj, t1, rfl⟩ := hv
    rcases k with _ | _ | _ | _ | _ | k
    · exact leaf_day0 w news b j hj t1 hm
    · exact leaf_day1 w news b j hj t1 hm
    · exact leaf_day2 w news b j hj t1 hm
    · exact leaf_day3 w news b j hj t1 hm
    · exact leaf_day4 w news b j hj t1 hm
    · omega
  | num k n =>
    obtain ⟨hk, hn, t1, u1, rfl⟩ := hv
    rcases k with _ | _ | _ | k
    · exact leaf_num0 w news b n hn t1 u1 hm
    · exact leaf_num1 w news b n hn t1 u1 hm
    · exact leaf_num2 w news b n hn t1 u1 hm
    · omega
  | header o => obtain ⟨ho, t1, u1, z1, rfl⟩ := hv; exact leaf_header w news b o ho t1 u1 z1 hm
  | text k o =>
    obtain ⟨hk, ho, t1, z1, rfl⟩ := hv
    rcases k with _ | _ | k
    · exact leaf_text0 w news b o ho t1 z1 hm
    · exact leaf_text1 w news b o ho t1 z1 hm
    · omega
end Mine
end
section
open PySem PySem.W PySem.Calls PyProof.Rows
namespace Mine
theorem reg58 : True := by
  w_top off
  trivial
theorem nsk {h₀ h : Heap} {L : Addr} {p q : Addr × Obj} {news : List (Addr × Obj)} (N : News h₀ L h (p :: q :: news)) : News h₀ L h (p :: news) := fun r hr => by
  rcases List.mem_cons.mp hr with rfl | hr
  · exact N _ (.head _)
  · exact N _ (.tail _ (.tail _ hr))
theorem seq0 (n : Nat) : seqIndex? 0 (n + 1) = some 0 := by
  unfold seqIndex?
  simp
theorem whlF {b : Bool} {p q : Prop} (h : b = false) (x : q) : WhlIf b p q := by subst h; exact x
end Mine
end
section
open PySem PySem.W PySem.Calls PyProof.Rows
namespace Mine
theorem reg59 : True := by
  w_top off
  (k_with "execs cons" => (k_here; dsimp only))
  (k_with "execs nil" => (k_here; dsimp only))
  (k_with "subscriptTail Name Constant ref int" => (k_here; k_dflt (first
  | (refine' topTup_K ?hz_F ?hz_X ?hz_l ?hz_a ?hz_b ?hz_c ?hz_d ?_; (case hz_F => k_asm); (case hz_X => k_asm); (case hz_l => k_is); (case hz_a => decide); (case hz_b => decide); (case hz_c => rfl); (case hz_d => rfl))
  | (refine' item_tupleT (News.isTup (by k_asm) (by k_mem)) ?hz_a ?hz_b ?hz_c ?hz_d ?_; (case hz_a => decide); (case hz_b => decide); (case hz_c => rfl); (case hz_d => rfl); k_whole)
  | (refine' item_litK (News.isList (by k_asm) (by k_mem)) ?hz_a ?hz_b ?hz_d ?_; (case hz_a => decide); (case hz_b => decide); (case hz_d => rfl); k_whole))))
  (k_with "subscriptTail Name UnaryOp ref int" => (k_here; k_dflt (first
  | (refine' topTup_K ?hz_F ?hz_X ?hz_l ?hz_a ?hz_b ?hz_c ?hz_d ?_; (case hz_F => k_asm); (case hz_X => k_asm); (case hz_l => k_is); (case hz_a => decide); (case hz_b => decide); (case hz_c => rfl); (case hz_d => rfl))
  | (refine' item_tupleT (News.isTup (by k_asm) (by k_mem)) ?hz_a ?hz_b ?hz_c ?hz_d ?_; (case hz_a => decide); (case hz_b => decide); (case hz_c => rfl); (case hz_d => rfl); k_whole))))
  (k_with "call type:bytes cons nil" => (k_here; (with_reducible show wpAny _ _ (call (Value.type "bytes") [Value.bytes _ _]) _ _ _); k_dflt (refine bytes_of_bytes ?_)))
  (k_with "binaryOp Add bytes bytes" => (k_here; k_dflt (refine' KBy.add_bytes ?hz_sz ?_); (case hz_sz => ((try simp only [Array.size_append, List.size_toArray, List.length_cons, List.length_nil]); omega)); intro t9 k9; (try dsimp only)))
  (k_with "k_mem" => assumption)
  (k_with "subscriptTail Name Constant ref int" => (k_here; k_dflt (refine' item_tupleT (News.isTup (by k_asm) (by k_mem)) ?hz_a ?hz_b (seq0 _) ?hz_d ?_; (case hz_a => decide); (case hz_b => decide); (case hz_d => rfl); k_whole)))
  (k_with "WhlIf" => (refine whlF (by assumption) ?_))
  trivial
set_option maxRecDepth 100000 in
set_option maxHeartbeats 8000000 in
theorem row0 (w : World) (news : List (Addr × Obj)) (b0 : Addr) (k : Str) (u : Tok) (rest : List Value) (hm : (b0, tup (.str k u :: rest)) ∈ news) (hk0 : (k == Str.ofString "and") = false) :
   Ret PySem.Challenge.rw_nz0288_01.row.prog w (Mine.top.heap_1_39 w.params) Mine.top.view_1_40 LS 226 1 news [.ref b0]
     (fun news' r => ∃ (D : Addr) (n : Nat), news' = (D, { cls := .type "list", data := .seq ([.ref b0] : List Value).toArray n }) :: news ∧ r = .ref D) := by
  k_fill
  unfold Ret
  intro mean mg mb dp un gd cn cs a ccd cl outer A₀ base h₀ L m s Q E B F X N T hk hd hu hret
  refine wpAny_call ?_
  k_dflt (refine' code_def (binds := [(Str.ofString "tree", .ref b0)]) ?k1 ?k2 ?k3 ?k4 ?k5 ?kA ?kF ?kK ?k6 ?k7 ?k8 ?k9 ?kB ?_ ?c2 ?c3 ?c4 ?c5; (case kA => exact rfl); (case kF => exact rfl); (case kK => assumption); (case k1 => k_asm); (case k2 => k_asm); (case k3 => k_asm); (case k4 => k_asm); (case k5 => k_asm); (case k6 => k_is); (case k7 => k_is); (case k8 => ktr_room); (case k9 => first | exact BindsTo.of_eq rfl | exact binds_K (by k_in) rfl (by k_is) rfl rfl rfl); (case c5 => decide); (case kB => exact locs rfl); (case c2 => exact rfl); (case c3 => exact rfl); (case c4 => exact rfl); k_whole; intro g' L' h' FG' F' N' B' X' T'; (try dsimp only); (try k_fold))
  repeat' (first | (k_unfold; (try dsimp only)) | (first | walk1 | (dsimp only; walk1)) | fail "no step")
  all_goals (refine hret _ _ _ _ (by k_asm) (nsk (by k_asm)) ⟨_, _, rfl, rfl⟩)
end Mine
end
section
open PySem PySem.W PySem.Calls PyProof.Rows
namespace Mine
theorem reg60 : True := by
  w_top off
  trivial
set_option maxRecDepth 100000 in
set_option maxHeartbeats 8000000 in
theorem row1 (w : World) (news : List (Addr × Obj)) (b0 b1 : Addr) (u0 : Tok) (x0 : Value) (k : Str) (u : Tok) (rest : List Value) (m0 : (b0, tup [.str (Str.ofString "and") u0, .ref b1, x0]) ∈ news) (hm : (b1, tup (.str k u :: rest)) ∈ news) (hk0 : (k == Str.ofString "and") = false) :
   Ret PySem.Challenge.rw_nz0288_01.row.prog w (Mine.top.heap_1_39 w.params) Mine.top.view_1_40 LS 226 1 news [.ref b0]
     (fun news' r => ∃ (D : Addr) (n : Nat), news' = (D, { cls := .type "list", data := .seq ([.ref b1, x0] : List Value).toArray n }) :: news ∧ r = .ref D) := by
  k_fill
  unfold Ret
  intro mean mg mb dp un gd cn cs a ccd cl outer A₀ base h₀ L m s Q E B F X N T hk hd hu hret
  refine wpAny_call ?_
  k_dflt (refine' code_def (binds := [(Str.ofString "tree", .ref b0)]) ?k1 ?k2 ?k3 ?k4 ?k5 ?kA ?kF ?kK ?k6 ?k7 ?k8 ?k9 ?kB ?_ ?c2 ?c3 ?c4 ?c5; (case kA => exact rfl); (case kF => exact rfl); (case kK => assumption); (case k1 => k_asm); (case k2 => k_asm); (case k3 => k_asm); (case k4 => k_asm); (case k5 => k_asm); (case k6 => k_is); (case k7 => k_is); (case k8 => ktr_room); (case k9 => first | exact BindsTo.of_eq rfl | exact binds_K (by k_in) rfl (by k_is) rfl rfl rfl); (case c5 => decide); (case kB => exact locs rfl); (case c2 => exact rfl); (case c3 => exact rfl); (case c4 => exact rfl); k_whole; intro g' L' h' FG' F' N' B' X' T'; (try dsimp only); (try k_fold))
  repeat' (first | (k_unfold; (try dsimp only)) | (first | walk1 | (dsimp only; walk1)) | fail "no step")
  all_goals (refine hret _ _ _ _ (by k_asm) (nsk (by k_asm)) ⟨_, _, rfl, rfl⟩)
end Mine
end
section
open PySem PySem.W PySem.Calls PyProof.Rows
namespace Mine
theorem reg61 : True := by
  w_top off
  trivial
set_option maxRecDepth 100000 in
set_option maxHeartbeats 8000000 in
theorem row2 (w : World) (news : List (Addr × Obj)) (b0 b1 b2 : Addr) (u0 : Tok) (x0 : Value) (u1 : Tok) (x1 : Value) (k : Str) (u : Tok) (rest : List Value) (m0 : (b0, tup [.str (Str.ofString "and") u0, .ref b1, x0]) ∈ news) (m1 : (b1, tup [.str (Str.ofString "and") u1, .ref b2, x1]) ∈ news) (hm : (b2, tup (.str k u :: rest)) ∈ news) (hk0 : (k == Str.ofString "and") = false) :
   Ret PySem.Challenge.rw_nz0288_01.row.prog w (Mine.top.heap_1_39 w.params) Mine.top.view_1_40 LS 226 1 news [.ref b0]
     (fun news' r => ∃ (D : Addr) (n : Nat), news' = (D, { cls := .type "list", data := .seq ([.ref b2, x1, x0] : List Value).toArray n }) :: news ∧ r = .ref D) := by
  k_fill
  unfold Ret
  intro mean mg mb dp un gd cn cs a ccd cl outer A₀ base h₀ L m s Q E B F X N T hk hd hu hret
  refine wpAny_call ?_
  k_dflt (refine' code_def (binds := [(Str.ofString "tree", .ref b0)]) ?k1 ?k2 ?k3 ?k4 ?k5 ?kA ?kF ?kK ?k6 ?k7 ?k8 ?k9 ?kB ?_ ?c2 ?c3 ?c4 ?c5; (case kA => exact rfl); (case kF => exact rfl); (case kK => assumption); (case k1 => k_asm); (case k2 => k_asm); (case k3 => k_asm); (case k4 => k_asm); (case k5 => k_asm); (case k6 => k_is); (case k7 => k_is); (case k8 => ktr_room); (case k9 => first | exact BindsTo.of_eq rfl | exact binds_K (by k_in) rfl (by k_is) rfl rfl rfl); (case c5 => decide); (case kB => exact locs rfl); (case c2 => exact rfl); (case c3 => exact rfl); (case c4 => exact rfl); k_whole; intro g' L' h' FG' F' N' B' X' T'; (try dsimp only); (try k_fold))
  repeat' (first | (k_unfold; (try dsimp only)) | (first | walk1 | (dsimp only; walk1)) | fail "no step")
  all_goals (refine hret _ _ _ _ (by k_asm) (nsk (by k_asm)) ⟨_, _, rfl, rfl⟩)
end Mine
end
section
open PySem PySem.W PySem.Calls PyProof.Rows
namespace Mine
theorem reg62 : True := by
  w_top off
  trivial
set_option maxRecDepth 100000 in
set_option maxHeartbeats 8000000 in
theorem row3 (w : World) (news : List (Addr × Obj)) (b0 b1 b2 b3 : Addr) (u0 : Tok) (x0 : Value) (u1 : Tok) (x1 : Value) (u2 : Tok) (x2 : Value) (k : Str) (u : Tok) (rest : List Value) (m0 : (b0, tup [.str (Str.ofString "and") u0, .ref b1, x0]) ∈ news) (m1 : (b1, tup [.str (Str.ofString "and") u1, .ref b2, x1]) ∈ news) (m2 : (b2, tup [.str (Str.ofString "and") u2, .ref b3, x2]) ∈ news) (hm : (b3, tup (.str k u :: rest)) ∈ news) (hk0 : (k == Str.ofString "and") = false) :
   Ret PySem.Challenge.rw_nz0288_01.row.prog w (Mine.top.heap_1_39 w.params) Mine.top.view_1_40 LS 226 1 news [.ref b0]
     (fun news' r => ∃ (D : Addr) (n : Nat), news' = (D, { cls := .type "list", data := .seq ([.ref b3, x2, x1, x0] : List Value).toArray n }) :: news ∧ r = .ref D) := by
  k_fill
  unfold Ret
  intro mean mg mb dp un gd cn cs a ccd cl outer A₀ base h₀ L m s Q E B F X N T hk hd hu hret
  refine wpAny_call ?_
  k_dflt (refine' code_def (binds := [(Str.ofString "tree", .ref b0)]) ?k1 ?k2 ?k3 ?k4 ?k5 ?kA ?kF ?kK ?k6 ?k7 ?k8 ?k9 ?kB ?_ ?c2 ?c3 ?c4 ?c5; (case kA => exact rfl); (case kF => exact rfl); (case kK => assumption); (case k1 => k_asm); (case k2 => k_asm); (case k3 => k_asm); (case k4 => k_asm); (case k5 => k_asm); (case k6 => k_is); (case k7 => k_is); (case k8 => ktr_room); (case k9 => first | exact BindsTo.of_eq rfl | exact binds_K (by k_in) rfl (by k_is) rfl rfl rfl); (case c5 => decide); (case kB => exact locs rfl); (case c2 => exact rfl); (case c3 => exact rfl); (case c4 => exact rfl); k_whole; intro g' L' h' FG' F' N' B' X' T'; (try dsimp only); (try k_fold))
  repeat' (first | (k_unfold; (try dsimp only)) | (first | walk1 | (dsimp only; walk1)) | fail "no step")
  all_goals (refine hret _ _ _ _ (by k_asm) (nsk (by k_asm)) ⟨_, _, rfl, rfl⟩)
end Mine
end
section
open PySem PySem.W PySem.Calls PyProof.Rows
namespace Mine
theorem reg63 : True := by
  w_top off
  k_with_none
  trivial
end Mine
set_option maxRecDepth 100000
namespace Mine
theorem joinB_snoc (sep y : Array UInt8) : ∀ xs : List (Array UInt8), xs ≠ [] → joinB sep (xs ++ [y]) = joinB sep xs ++ sep ++ y
  | [], h => absurd rfl h
  | [x], _ => by simp [joinB]
  | x :: z :: r, _ => by
    have ih := joinB_snoc sep y (z :: r) (by simp)
    show x ++ sep ++ joinB sep ((z :: r) ++ [y]) = x ++ sep ++ joinB sep (z :: r) ++ sep ++ y
    rw [ih]
    simp [Array.append_assoc]
theorem rowOf_ne (T : Tree) : rowOf T ≠ [] := by cases T <;> simp [rowOf]
theorem row_join : ∀ T : Tree, joinB #[32] ((rowOf T).map keyQ) = qryQ T
  | .leaf _ => rfl
  | .not _ => rfl
  | .or _ _ => rfl
  | .and l r => by
    show joinB #[32] ((rowOf l ++ [r]).map keyQ) = _
    rw [List.map_append, List.map_singleton, joinB_snoc _ _ _ (by simp [rowOf_ne]), row_join l]
    rfl
theorem row_sum : ∀ T : Tree, (((rowOf T).map keyQ).map (·.size)).sum ≤ (qryQ T).size
  | .leaf _ => by simp [rowOf, keyQ, qryQ, both]
  | .not _ => by simp [rowOf, keyQ, qryQ, both]
  | .or _ _ => by simp [rowOf, keyQ, qryQ, both]
  | .and l r => by
    have := row_sum l
    show (((rowOf l ++ [r]).map keyQ).map (·.size)).sum ≤ ((both l).2 ++ #[32] ++ (both r).1).size
    simp only [List.map_append, List.map_singleton, List.sum_append, List.sum_singleton, Array.size_append]
    have h1 : (qryQ l).size = (both l).2.size := rfl
    have h2 : (keyQ r).size = (both r).1.size := rfl
    omega
theorem row_len : ∀ T : Tree, (rowOf T).length ≤ depth T + 1
  | .leaf _ => Nat.le_refl _
  | .not _ => by simp [rowOf]
  | .or _ _ => by simp [rowOf]
  | .and l r => by
    have := row_len l
    show (rowOf l ++ [r]).length ≤ max (depth l) (depth r) + 1 + 1
    rw [List.length_append]
    simp only [List.length_singleton]
    omega
theorem row_depth : ∀ T : Tree, ∀ p ∈ rowOf T, isAnd T = true → depth p < depth T
  | .and l r, p, hp, _ => by
    show depth p < max (depth l) (depth r) + 1
    rcases List.mem_append.mp hp with h | h
    · cases ha : isAnd l with
      | true => have := row_depth l p h ha; omega
      | false =>
        have : p = l := by cases l <;> first | (cases ha; done) | (simpa [rowOf] using h)
        subst this
        omega
    · have : p = r := by simpa using h
      subst this
      omega
/-- its leaves are within their ranges -/
noncomputable def Fine : Tree → Prop
  | .leaf l => (leafQ l).size ≤ 6000
  | .not t => Fine t
  | .and l r => Fine l ∧ Fine r
  | .or l r => Fine l ∧ Fine r
theorem leaf_size {l : Leaf} {vs : List Value} (h : leafVals l vs) : (leafQ l).size ≤ 6000 := by
  cases l with
  | all => decide
  | flag i =>
    obtain ⟨hi, _⟩ := h
    rcases i with _ | _ | _ | _ | i <;> first | (exfalso; omega) | decide +kernel
  | uid i => obtain ⟨hi, _⟩ := h; exact Nat.le_trans (by rw [leafQ, octs_size]; exact uid_len hi) (by decide)
  | seq i => obtain ⟨hi, _⟩ := h; exact Nat.le_trans (by rw [leafQ, octs_size]; exact set_len hi) (by decide)
  | day k j => obtain ⟨hk, hj, _⟩ := h; exact Nat.le_trans (by rw [leafQ, octs_size]; exact day_len hk hj) (by decide)
  | num k n => obtain ⟨hk, hn, _⟩ := h; exact Nat.le_trans (by rw [leafQ, octs_size]; exact num_len hk hn) (by decide)
  | header o =>
    have h1 := astr_size (octA_size o)
    have h2 := astr_size xa_size
    simp only [leafQ, Array.size_append, List.size_toArray, List.length_cons, List.length_nil]
    omega
  | text k o =>
    obtain ⟨hk, _⟩ := h
    have h1 := astr_size (octA_size o)
    have h2 : (octs (upText (txtW k) ++ Str.ofString " ")).size ≤ 100 := by rcases k with _ | _ | k <;> first | (exfalso; omega) | decide +kernel
    simp only [leafQ, Array.size_append]
    omega
theorem IsTree.fine {news : List (Addr × Obj)} : ∀ {t : Tree} {v : Value}, IsTree news t v → Fine t
  | .leaf _, _, ⟨_, _, _, _, r⟩ => leaf_size r
  | .not _, _, ⟨_, _, _, _, _, r⟩ => r.fine
  | .and _ _, _, ⟨_, _, _, _, _, _, r, q⟩ => ⟨r.fine, q.fine⟩
  | .or _ _, _, ⟨_, _, _, _, _, _, r, q⟩ => ⟨r.fine, q.fine⟩
theorem pow_max {a b : Nat} : 3 ^ a ≤ 3 ^ max a b ∧ 3 ^ b ≤ 3 ^ max a b :=
  ⟨Nat.pow_le_pow_right (by decide) (Nat.le_max_left _ _), Nat.pow_le_pow_right (by decide) (Nat.le_max_right _ _)⟩
theorem both_size : ∀ {T : Tree}, Fine T → (both T).1.size ≤ 6000 * 3 ^ depth T ∧ (both T).2.size ≤ 6000 * 3 ^ depth T
  | .leaf l, h => by
    show (leafQ l).size ≤ 6000 * 3 ^ 0 ∧ (leafQ l).size ≤ 6000 * 3 ^ 0
    have h' : (leafQ l).size ≤ 6000 := h
    omega
  | .not t, h => by
    have ih := both_size (T := t) h
    have p := Nat.pow_pos (n := depth t) (show 0 < 3 by decide)
    have key : (unQ t (both t).1).size ≤ 6000 * 3 ^ (depth t + 1) := by
      rw [Nat.pow_succ]
      unfold unQ
      split
      · rename_i i
        have : (octs (Str.ofString "UN" ++ flagTx i)).size ≤ 100 := by
          rw [octs_size]
          unfold flagTx
          split <;> decide +kernel
        omega
      · simp only [Array.size_append, List.size_toArray, List.length_cons, List.length_nil]
        omega
    exact ⟨key, key⟩
  | .and l r, h => by
    have i1 := both_size (T := l) h.1
    have i2 := both_size (T := r) h.2
    have p := @pow_max (depth l) (depth r)
    have p0 := Nat.pow_pos (n := max (depth l) (depth r)) (show 0 < 3 by decide)
    show (#[40] ++ ((both l).2 ++ #[32] ++ (both r).1) ++ #[41]).size ≤ 6000 * 3 ^ (max (depth l) (depth r) + 1) ∧ ((both l).2 ++ #[32] ++ (both r).1).size ≤ 6000 * 3 ^ (max (depth l) (depth r) + 1)
    rw [Nat.pow_succ]
    simp only [Array.size_append, List.size_toArray, List.length_cons, List.length_nil]
    omega
  | .or l r, h => by
    have i1 := both_size (T := l) h.1
    have i2 := both_size (T := r) h.2
    have p := @pow_max (depth l) (depth r)
    have p0 := Nat.pow_pos (n := max (depth l) (depth r)) (show 0 < 3 by decide)
    show (#[79, 82, 32] ++ (both l).1 ++ #[32] ++ (both r).1).size ≤ 6000 * 3 ^ (max (depth l) (depth r) + 1) ∧ (#[79, 82, 32] ++ (both l).1 ++ #[32] ++ (both r).1).size ≤ 6000 * 3 ^ (max (depth l) (depth r) + 1)
    rw [Nat.pow_succ]
    simp only [Array.size_append, List.size_toArray, List.length_cons, List.length_nil]
    omega
theorem size_le {T : Tree} (h : Fine T) (hd : depth T ≤ 3) : (keyQ T).size ≤ 162000 ∧ (qryQ T).size ≤ 162000 := by
  have h1 := both_size h
  have h2 : 3 ^ depth T ≤ 3 ^ 3 := Nat.pow_le_pow_right (by decide) hd
  show (both T).1.size ≤ 162000 ∧ (both T).2.size ≤ 162000
  omega
theorem RowIs.snoc {news : List (Addr × Obj)} {t : Tree} {v : Value} (h : IsTree news t v) : ∀ {ts vs}, RowIs news ts vs → RowIs news (ts ++ [t]) (vs ++ [v])
  | _, _, .nil => .cons h .nil
  | _, _, .cons a r => .cons a (r.snoc h)
theorem RowIs.len {news : List (Addr × Obj)} : ∀ {ts vs}, RowIs news ts vs → ts.length = vs.length
  | _, _, .nil => rfl
  | _, _, .cons _ r => by rw [List.length_cons, List.length_cons, r.len]
theorem RowIs.at {news : List (Addr × Obj)} {ts vs} (h : RowIs news ts vs) : ∀ (i : Nat) (v : Value), vs[i]? = some v → ∃ t, ts[i]? = some t ∧ IsTree news t v := by
  induction h with
  | nil => intro i v hv; simp at hv
  | cons a r ih =>
    intro i v hv
    cases i with
    | zero =>
      rw [List.getElem?_cons_zero] at hv
      cases hv
      exact ⟨_, rfl, a⟩
    | succ i => obtain ⟨t, e, q⟩ := ih i v (by simpa using hv); exact ⟨t, by simpa using e, q⟩
theorem row_non {T : Tree} (h : isAnd T = false) : rowOf T = [T] := by cases T <;> first | rfl | cases h
theorem ret_mono {prog : Program} {w : World} {K : Frag} {p : Program} {loose : List Str} {f : Addr} {need : Nat} {news : List (Addr × Obj)} {vs : List Value} {Post Post' : List (Addr × Obj) → Value → Prop} (C : Ret prog w K p loose f need news vs Post) (h : ∀ n r, Post n r → Post' n r) : Ret prog w K p loose f need news vs Post' := by
  intro mean mg mb dp un gd cn cs a ccd cl outer A₀ base h₀ L m s Q E B F X N T hk hd hu hret
  exact ret_use C B F X N T hk hd hu fun r news' h' tk' F' N' hp => hret r news' h' tk' F' N' (h _ _ hp)
theorem row_of (w : World) (news : List (Addr × Obj)) (T : Tree) (v : Value) (hT : IsTree news T v) (hd : depth T ≤ 3) :
   Ret PySem.Challenge.rw_nz0288_01.row.prog w (Mine.top.heap_1_39 w.params) Mine.top.view_1_40 LS 226 1 news [v]
     (fun news' r => ∃ (D : Addr) (n : Nat) (vs : List Value), news' = (D, { cls := .type "list", data := .seq vs.toArray n }) :: news ∧ r = .ref D ∧ RowIs news (rowOf T) vs) := by
  cases a0 : isAnd T with
  | false =>
    have hT0 := hT
    obtain ⟨b0, k, u, rest, rfl, m, hk⟩ := nonAnd a0 hT
    refine ret_mono (row0 w news b0 k u rest m hk) ?_
    rintro n' r ⟨D, n, e, rfl⟩
    exact ⟨D, n, _, e, rfl, by rw [row_non a0]; exact .cons hT0 .nil⟩
  | true =>
    cases T with
    | and T1 r0 =>
      obtain ⟨b0, u0, x1, y0, rfl, m0, hT1, hr0⟩ := hT
      have hd1 : depth T1 ≤ 2 := by have : max (depth T1) (depth r0) + 1 ≤ 3 := hd; omega
      cases a1 : isAnd T1 with
      | false =>
        have hT10 := hT1
        obtain ⟨b1, k, u, rest, rfl, m, hk⟩ := nonAnd a1 hT1
        refine ret_mono (row1 w news b0 b1 u0 y0 k u rest m0 m hk) ?_
        rintro n' r ⟨D, n, e, rfl⟩
        refine ⟨D, n, _, e, rfl, ?_⟩
        show RowIs news (rowOf T1 ++ [r0]) _
        rw [row_non a1]
        exact .cons hT10 (.cons hr0 .nil)
      | true =>
        cases T1 with
        | and T2 r1 =>
          obtain ⟨b1, u1, x2, y1, rfl, m1, hT2, hr1⟩ := hT1
          have hd2 : depth T2 ≤ 1 := by have : max (depth T2) (depth r1) + 1 ≤ 2 := hd1; omega
          cases a2 : isAnd T2 with
          | false =>
            have hT20 := hT2
            obtain ⟨b2, k, u, rest, rfl, m, hk⟩ := nonAnd a2 hT2
            refine ret_mono (row2 w news b0 b1 b2 u0 y0 u1 y1 k u rest m0 m1 m hk) ?_
            rintro n' r ⟨D, n, e, rfl⟩
            refine ⟨D, n, _, e, rfl, ?_⟩
            show RowIs news ((rowOf T2 ++ [r1]) ++ [r0]) _
            rw [row_non a2]
            exact .cons hT20 (.cons hr1 (.cons hr0 .nil))
          | true =>
            cases T2 with
            | and T3 r2 =>
              obtain ⟨b2, u2, x3, y2, rfl, m2, hT3, hr2⟩ := hT2
              have hd3 : depth T3 ≤ 0 := by have : max (depth T3) (depth r2) + 1 ≤ 1 := hd2; omega
              cases a3 : isAnd T3 with
              | false =>
                have hT30 := hT3
                obtain ⟨b3, k, u, rest, rfl, m, hk⟩ := nonAnd a3 hT3
                refine ret_mono (row3 w news b0 b1 b2 b3 u0 y0 u1 y1 u2 y2 k u rest m0 m1 m2 m hk) ?_
                rintro n' r ⟨D, n, e, rfl⟩
                refine ⟨D, n, _, e, rfl, ?_⟩
                show RowIs news (((rowOf T3 ++ [r2]) ++ [r1]) ++ [r0]) _
                rw [row_non a3]
                exact .cons hT30 (.cons hr2 (.cons hr1 (.cons hr0 .nil)))
              | true =>
                cases T3 with
                | and x y => have : max (depth x) (depth y) + 1 ≤ 0 := hd3; omega
                | _ => cases a3
            | _ => cases a2
        | _ => cases a1
    | _ => cases a0
end Mine
end
section
open PySem PySem.W PySem.Calls PyProof.Rows
namespace Mine
theorem reg64 : True := by
  w_top off
  (k_with "execs cons" => (k_here; dsimp only))
  (k_with "execs nil" => (k_here; dsimp only))
  (k_with "subscriptTail Name Constant ref int" => (k_here; k_dflt (first
  | (refine' topTup_K ?hz_F ?hz_X ?hz_l ?hz_a ?hz_b ?hz_c ?hz_d ?_; (case hz_F => k_asm); (case hz_X => k_asm); (case hz_l => k_is); (case hz_a => decide); (case hz_b => decide); (case hz_c => rfl); (case hz_d => rfl))
  | (refine' item_tupleT (News.isTup (by k_asm) (by k_mem)) ?hz_a ?hz_b ?hz_c ?hz_d ?_; (case hz_a => decide); (case hz_b => decide); (case hz_c => rfl); (case hz_d => rfl); k_whole)
  | (refine' item_litK (News.isList (by k_asm) (by k_mem)) ?hz_a ?hz_b ?hz_d ?_; (case hz_a => decide); (case hz_b => decide); (case hz_d => rfl); k_whole))))
  (k_with "subscriptTail Name UnaryOp ref int" => (k_here; k_dflt (first
  | (refine' topTup_K ?hz_F ?hz_X ?hz_l ?hz_a ?hz_b ?hz_c ?hz_d ?_; (case hz_F => k_asm); (case hz_X => k_asm); (case hz_l => k_is); (case hz_a => decide); (case hz_b => decide); (case hz_c => rfl); (case hz_d => rfl))
  | (refine' item_tupleT (News.isTup (by k_asm) (by k_mem)) ?hz_a ?hz_b ?hz_c ?hz_d ?_; (case hz_a => decide); (case hz_b => decide); (case hz_c => rfl); (case hz_d => rfl); k_whole))))
  (k_with "LeaveD" => (k_dflt (refine' leaveD_ ?hz_k1 ?hz_k2 ?_; (case hz_k1 => k_asm); (case hz_k2 => k_asm); k_whole); intro kF kN; ground_anew kF; (have kX := kFor kF (by k_asm))))
  (k_with "wpK" => ((with_reducible show wpK _ _ (execs (_ :: _) _) _ _); refine wpK_execs_cons ?_; (try dsimp only)))
  (k_with "wpK" => ((with_reducible show wpK _ _ (execs [] _) _ _); refine wpK_execs_nil ?_; (try dsimp only)))
  (k_with "wpK" => ((with_reducible show wpK _ _ (exec (Stmt.Return (some _) _) _) _ _); refine wpK_Return ?_; (try dsimp only)))
  (k_with "wpK" => ((with_reducible show wpK _ _ (exec (Stmt.If _ _ _ _) _) _ _); refine wpK_If ?_))
  (k_with "wpK" => ((with_reducible show wpK _ _ (exec (Stmt.Expr _ _) _) _ _); refine wpK_Expr ?_))
  (k_with "wpK" => ((with_reducible show wpK _ _ (exec (Stmt.Assign [Expr.Name _ _] _ _) _) _ _); refine wpK_Assign_Name ?_))
  (k_with "wpK" => ((with_reducible show wpK _ _ (eval (Expr.Name _ _) _) _ _); refine wpK_any ?_))
  (k_with "wpK" => ((with_reducible show wpK _ _ (eval (Expr.Constant _ _ _) _) _ _); refine wpK_any ?_))
  (k_with "wpK" => ((with_reducible show wpK _ _ (eval (Expr.BinOp _ _ _ _) _) _ _); refine wpK_BinOp ?_))
  (k_with "wpK" => ((with_reducible show wpK _ _ (eval (Expr.Compare _ [_] [_] _) _) _ _); refine wpK_Compare1 ?_))
  (k_with "wpK" => ((with_reducible show wpK _ _ (binaryOp _ _ _) _ _); refine wpK_any ?_))
  (k_with "wpK" => ((with_reducible show wpK _ _ (compareOp _ _ _) _ _); refine wpK_any ?_))
  (k_with "wpK" => ((with_reducible show wpK _ _ (eval (Expr.Call (Expr.Name _ _) _ [] _) _) _ _); refine wpK_CallName ?_))
  (k_with "wpK" => ((with_reducible show wpK _ _ (eval (Expr.Call (Expr.Attribute _ _ _) _ [] _) _) _ _); refine wpK_CallMeth ?_))
  (k_with "wpK" => ((with_reducible show wpK _ _ (callWith _ (Value.type _) _ _ _) _ _); k_dflt (refine callWithK_any rfl ?_)))
  (k_with "wpK" => ((with_reducible show wpK _ _ (callWith _ (Value.builtin _) _ _ _) _ _); k_dflt (refine callWithK_any rfl ?_)))
  (k_with "wpK" => ((with_reducible show wpK _ _ (callWith _ (Value.ref _) _ _ _) _ _); k_dflt (refine' callWithK_def ?hz_k1 ?hz_k2 ?_; (case hz_k1 => k_asm); (case hz_k2 => k_is); k_whole)))
  (k_with "wpK" => ((with_reducible show wpK _ _ (call (Value.type "bytearray") [Value.bytes _ _]) _ _); k_dflt (refine' make_K ?hz_k1 ?hz_k2 ?hz_k3 ?_; (case hz_k1 => k_asm); (case hz_k2 => k_asm); (case hz_k3 => size_fits); k_whole); intro D9 h9 ne9 F9 N9; (try dsimp only at F9 N9 ⊢)))
  (k_with "wpK" => ((with_reducible show wpK _ _ (call (Value.builtin "bytearray.append") _) _ _); k_dflt (refine' appendB_K ?hz_k1 ?hz_k2 ?hz_k3 ?hz_k4 ?hz_k5 ?hz_k6 ?_; (case hz_k1 => k_asm); (case hz_k2 => k_asm); (case hz_k3 => k_upd); (case hz_k4 => omega); (case hz_k5 => omega); (case hz_k6 => first | assumption | (rw [sizeLine_eq]; (try simp only [Array.size_push]); omega)); k_whole); intro h9 F9 N9; (try dsimp only at F9 N9 ⊢)))
  (k_with "getMethod ref" => (k_here; k_dflt (refine' method_append ?hz_k1 ?hz_k2 ?_; (case hz_k1 => k_asm); (case hz_k2 => k_mem); k_whole)))
  (k_with "call type:bytes cons nil" => (k_here; k_dflt (refine' bytes_K ?hz_k1 ?hz_k2 ?hz_k3 ?_; (case hz_k1 => k_asm); (case hz_k2 => k_mem); (case hz_k3 => first | assumption | size_fits); k_whole); intro t9 k9; (try dsimp only)))
  (k_with "wpK" => ((with_reducible show wpK _ _ (call (Value.type "bytes") _) _ _); refine wpK_any ?_))
  (k_with "call type:bytes cons nil" => (k_here; (with_reducible show wpAny _ _ (call (Value.type "bytes") [Value.bytes _ _]) _ _ _); k_dflt (refine bytes_of_bytes ?_)))
  (k_with "binaryOp Add bytes bytes" => (k_here; k_dflt (refine' KBy.add_bytes ?hz_sz ?_); (case hz_sz => ((try simp only [Array.size_append, List.size_toArray, List.length_cons, List.length_nil]); omega)); intro t9 k9; (try dsimp only)))
  (k_with "wpK" => ((with_reducible show wpK _ _ (exec (Stmt.Assign [Expr.Tuple _ _ _] _ _) _) _ _); refine wpK_any ?_))
  trivial
/-- a key's call, from every ledger above one -/
noncomputable def SubKey (w : World) (f : Addr) (need : Nat) (news : List (Addr × Obj)) (v : Value) (b : Array UInt8) : Prop :=
  ∀ news2, (∀ q ∈ news, q ∈ news2) → KRet PySem.Challenge.rw_nz0288_01.row.prog w (Mine.top.heap_1_39 w.params) Mine.top.view_1_40 LS f need news2 [v] (fun news' r => news' = news2 ∧ ∃ t, r = .bytes b t)
theorem SubKey.use {w : World} {f : Addr} {need : Nat} {news : List (Addr × Obj)} {v : Value} {b : Array UInt8} (h : SubKey w f need news v b) {news2 : List (Addr × Obj)} (hs : ∀ q ∈ news, q ∈ news2) :
    KRet PySem.Challenge.rw_nz0288_01.row.prog w (Mine.top.heap_1_39 w.params) Mine.top.view_1_40 LS f need news2 [v] (fun news' r => news' = news2 ∧ ∃ t, r = .bytes b t) := h news2 hs
theorem reg65 : True := by
  (k_with "k_mem" => assumption)
  (k_with "call ref" => (k_here; (with_reducible show wpAny _ _ (call (Value.ref 226) _) _ _ _); k_dflt (refine' ret_use (row_of _ _ _ _ ?hz_ha ?hz_hl) ?hz_k1 ?hz_k2 ?hz_k3 ?hz_k4 ?hz_k5 ?hz_kK ?hz_kd ?hz_ku ?_; (case hz_k1 => k_asm); (case hz_k2 => k_asm); (case hz_k3 => k_asm); (case hz_k4 => k_asm); (case hz_k5 => k_asm); (case hz_kK => first | exact rfl | assumption); (case hz_ha => assumption); (case hz_hl => assumption); (case hz_kd => ktr_room); (case hz_ku => ktr_units)); intro r9 news9 h9 tk9 F9 N9 hp9; obtain ⟨D8, n8, vs8, e8, e9, R8⟩ := hp9; subst e8; subst e9))
  (k_with "wpK" => ((with_reducible show wpK _ _ (callWith _ (Value.builtin "bytes.join") _ _ _) _ _); k_dflt (refine callWithK_one ?_)))
  (k_with "wpK" => ((with_reducible show wpK _ _ (eval (Expr.ListComp _ _ _ _) _) _ _); k_dflt (refine lcK (by k_asm) (by rfl) (by decide) (by rfl) (by decide) (by rfl) (by intro _; rfl) ?_)))
  (k_with "getMethod bytes" => (k_here; k_dflt (refine method_join ?_)))
  (k_with "wpK" => ((with_reducible show wpK _ _ (call (Value.builtin "bytes.join") _) _ _); refine wpK_any ?_))
  (k_with "call builtin:bytes.join" => (k_here; k_dflt (refine' call_join (News.isList (by k_asm) (by exact List.Mem.head _)) (by assumption) (by assumption) ?_); intro t' k'; rw [row_join]))
  (k_with "wpK" => ((with_reducible show wpK _ _ (call (Value.ref 247) _) _ _); k_dflt (refine' kret_use (SubKey.use ?hz_sb ?hz_hs) ?hz_k1 ?hz_k2 ?hz_k3 ?hz_k4 ?hz_k5 ?hz_kK ?hz_kd ?hz_ku ?_; (case hz_sb => assumption); (case hz_k1 => k_asm); (case hz_k2 => k_asm); (case hz_k3 => k_asm); (case hz_k4 => k_asm); (case hz_k5 => k_asm); (case hz_hs => (intro q hq; repeat (first | exact hq | apply List.Mem.tail))); (case hz_kK => first | exact rfl | assumption); (case hz_kd => ktr_room); (case hz_ku => ktr_units)); intro r9 news9 h9 tk9 F9 N9 hp9; obtain ⟨e8, t9, e9⟩ := hp9; replace e8 := e8.symm; subst e8; subst e9))
  (k_with "TurnOk" => exact ⟨_, _, _, rfl, by k_asm, by k_asm, rfl⟩)
  trivial
set_option maxRecDepth 100000 in
set_option maxHeartbeats 8000000 in
theorem show_query_of (w : World) (news : List (Addr × Obj)) (Tr : Tree) (v : Value) (need : Nat) (hn : 1 ≤ need) (hT : IsTree news Tr v) (hd3 : depth Tr ≤ 3)
   (hkey : ∀ p ∈ rowOf Tr, ∀ news2 v2, IsTree news2 p v2 → KRet PySem.Challenge.rw_nz0288_01.row.prog w (Mine.top.heap_1_39 w.params) Mine.top.view_1_40 LS 247 need news2 [v2] (fun news' r => news' = news2 ∧ ∃ t, r = .bytes (keyQ p) t)) :
   KRet PySem.Challenge.rw_nz0288_01.row.prog w (Mine.top.heap_1_39 w.params) Mine.top.view_1_40 LS 252 (need + 1) news [v]
     (fun news' r => news' = news ∧ ∃ t, r = .bytes (qryQ Tr) t) := by
  k_fill
  unfold KRet
  intro mean mg mb dp un gd cn cs a ccd cl outer A₀ base h₀ L m s Q B F X N T hk hd hu hret
  have hsz : (((rowOf Tr).map keyQ).map (·.size)).sum + ((rowOf Tr).map keyQ).length * (#[32] : Array UInt8).size ≤ 1000000 := by
    have h1 := row_sum Tr
    have h2 := (size_le hT.fine hd3).2
    have h3 := row_len Tr
    rw [List.length_map]
    have : (#[32] : Array UInt8).size = 1 := rfl
    rw [this, Nat.mul_one]
    omega
  refine wpK_call ?_
  k_dflt (refine' code_defK (binds := [(Str.ofString "tree", v)]) ?k1 ?k2 ?k3 ?k4 ?k5 ?kA ?kF ?kK ?k6 ?k7 ?k8 ?k9 ?kB ?_ ?c2 ?c3 ?c4 ?c5; (case kA => exact rfl); (case kF => exact rfl); (case kK => assumption); (case k1 => k_asm); (case k2 => k_asm); (case k3 => k_asm); (case k4 => k_asm); (case k5 => k_asm); (case k6 => k_is); (case k7 => k_is); (case k8 => ktr_room); (case k9 => first | exact BindsTo.of_eq rfl | exact binds_K (by k_in) rfl (by k_is) rfl rfl rfl); (case c5 => decide); (case kB => exact locs rfl); (case c2 => exact rfl); (case c3 => exact rfl); (case c4 => exact rfl); k_whole; intro g' L' h' FG' F' N' B' X' T'; (try dsimp only); (try k_fold))
  repeat' (first | (k_unfold; (try dsimp only)) | (first | walk1 | (dsimp only; walk1)) | fail "no step")
  rename RowIs _ _ _ => R8
  have hl8 := R8.len
  have hl9 := row_len Tr
  refine ⟨_, _, _, _, (rowOf Tr).map keyQ, rfl, rfl, (by k_asm), (by k_asm), .head _, (by rw [sizeLine_eq, ← hl8]; omega), (by rw [List.length_map]; exact hl8), ?turn, ?fin⟩
  case turn =>
    intro i v8 b8 I oI C oC D m₂ ys h tk hv hb hC hx F8 N8 off ne
    obtain ⟨p8, e8, hp8⟩ := R8.at i v8 hv
    have hmem : p8 ∈ rowOf Tr := List.mem_of_getElem? e8
    have hb8 : b8 = keyQ p8 := by
      rw [List.getElem?_map, e8] at hb
      simpa using hb.symm
    subst hb8
    have C8 : SubKey w 247 need news v8 (keyQ p8) := fun news2 hs => hkey p8 hmem news2 v8 (hp8.mono hs)
    repeat' (first | (k_unfold; (try dsimp only)) | (first | walk1 | (dsimp only; walk1)) | fail "no step")
    all_goals (refine hret _ news _ _ (by k_asm) (by first | k_asm | exact ntl (by k_asm) | exact ntl (ntl (by k_asm)) | exact ntl (ntl (ntl (by k_asm)))) ⟨rfl, _, rfl⟩)
  case fin =>
    intro D8 h8 tk8 ys8 F8 N8 hys
    repeat' (first | (k_unfold; (try dsimp only)) | (first | walk1 | (dsimp only; walk1)) | fail "no step")
    all_goals (refine hret _ news _ _ (by k_asm) (by first | k_asm | exact ntl (by k_asm) | exact ntl (ntl (by k_asm)) | exact ntl (ntl (ntl (by k_asm)))) ⟨rfl, _, rfl⟩)
end Mine
end
section
open PySem PySem.W PySem.Calls PyProof.Rows
namespace Mine
theorem reg66 : True := by
  w_top off
  k_with_none
  trivial
noncomputable def isFlag : Tree → Bool
  | .leaf (.flag _) => true
  | _ => false
/-- the head of a leaf's tuple: no word of a greater tree -/
theorem leafHead {l : Leaf} {vs : List Value} (h : leafVals l vs) (hl : l ≠ .all) : ∃ (k : Str) (u : Tok) (rest : List Value), vs = .str k u :: rest ∧ (k == Str.ofString "all") = false ∧ (k == Str.ofString "and") = false ∧ (k == Str.ofString "or") = false ∧ (k == Str.ofString "not") = false := by
  cases l with
  | all => exact absurd rfl hl
  | flag i => obtain ⟨_, t, u, rfl⟩ := h; exact ⟨_, _, _, rfl, by decide +kernel⟩
  | uid i => obtain ⟨_, t, rfl⟩ := h; exact ⟨_, _, _, rfl, by decide +kernel⟩
  | seq i => obtain ⟨_, t, rfl⟩ := h; exact ⟨_, _, _, rfl, by decide +kernel⟩
  | day k j => obtain ⟨hk, _, t, rfl⟩ := h; exact ⟨_, _, _, rfl, by rcases k with _ | _ | _ | _ | _ | k <;> first | (exfalso; omega) | decide +kernel⟩
  | num k n => obtain ⟨hk, _, t, u, rfl⟩ := h; exact ⟨_, _, _, rfl, by rcases k with _ | _ | _ | k <;> first | (exfalso; omega) | decide +kernel⟩
  | header o => obtain ⟨_, t, u, z, rfl⟩ := h; exact ⟨_, _, _, rfl, by decide +kernel⟩
  | text k o => obtain ⟨hk, _, t, z, rfl⟩ := h; exact ⟨_, _, _, rfl, by rcases k with _ | _ | k <;> first | (exfalso; omega) | decide +kernel⟩
theorem nonFlag {news : List (Addr × Obj)} : ∀ {t : Tree} {v : Value}, isFlag t = false → IsTree news t v → ∃ (a : Addr) (k : Str) (u : Tok) (rest : List Value), v = .ref a ∧ (a, tup (.str k u :: rest)) ∈ news ∧ (k == Str.ofString "flag") = false
  | .leaf l, v, hf, ⟨a, vs, e, m, r⟩ => by
    cases l with
    | all => obtain ⟨t, rfl⟩ := r; exact ⟨a, _, _, _, e, m, by decide +kernel⟩
    | flag i => cases hf
    | uid i => obtain ⟨_, t, rfl⟩ := r; exact ⟨a, _, _, _, e, m, by decide +kernel⟩
    | seq i => obtain ⟨_, t, rfl⟩ := r; exact ⟨a, _, _, _, e, m, by decide +kernel⟩
    | day k j =>
      obtain ⟨hk, _, t, rfl⟩ := r
      exact ⟨a, _, _, _, e, m, by rcases k with _ | _ | _ | _ | _ | k <;> first | (exfalso; omega) | decide +kernel⟩
    | num k n =>
      obtain ⟨hk, _, t, u, rfl⟩ := r
      exact ⟨a, _, _, _, e, m, by rcases k with _ | _ | _ | k <;> first | (exfalso; omega) | decide +kernel⟩
    | header o => obtain ⟨_, t, u, z, rfl⟩ := r; exact ⟨a, _, _, _, e, m, by decide +kernel⟩
    | text k o =>
      obtain ⟨hk, _, t, z, rfl⟩ := r
      exact ⟨a, _, _, _, e, m, by rcases k with _ | _ | k <;> first | (exfalso; omega) | decide +kernel⟩
  | .not _, _, _, ⟨a, u, x, e, m, _⟩ => ⟨a, _, _, _, e, m, by decide +kernel⟩
  | .or _ _, _, _, ⟨a, u, x, y, e, m, _⟩ => ⟨a, _, _, _, e, m, by decide +kernel⟩
  | .and _ _, _, _, ⟨a, u, x, y, e, m, _⟩ => ⟨a, _, _, _, e, m, by decide +kernel⟩
end Mine
end
section
open PySem PySem.W PySem.Calls PyProof.Rows
namespace Mine
theorem reg67 : True := by
  w_top off
  (k_with "execs cons" => (k_here; dsimp only))
  (k_with "execs nil" => (k_here; dsimp only))
  (k_with "subscriptTail Name Constant ref int" => (k_here; k_dflt (first
  | (refine' topTup_K ?hz_F ?hz_X ?hz_l ?hz_a ?hz_b ?hz_c ?hz_d ?_; (case hz_F => k_asm); (case hz_X => k_asm); (case hz_l => k_is); (case hz_a => decide); (case hz_b => decide); (case hz_c => rfl); (case hz_d => rfl))
  | (refine' item_tupleT (News.isTup (by k_asm) (by k_mem)) ?hz_a ?hz_b ?hz_c ?hz_d ?_; (case hz_a => decide); (case hz_b => decide); (case hz_c => rfl); (case hz_d => rfl); k_whole)
  | (refine' item_litK (News.isList (by k_asm) (by k_mem)) ?hz_a ?hz_b ?hz_d ?_; (case hz_a => decide); (case hz_b => decide); (case hz_d => rfl); k_whole))))
  (k_with "subscriptTail Name UnaryOp ref int" => (k_here; k_dflt (first
  | (refine' topTup_K ?hz_F ?hz_X ?hz_l ?hz_a ?hz_b ?hz_c ?hz_d ?_; (case hz_F => k_asm); (case hz_X => k_asm); (case hz_l => k_is); (case hz_a => decide); (case hz_b => decide); (case hz_c => rfl); (case hz_d => rfl))
  | (refine' item_tupleT (News.isTup (by k_asm) (by k_mem)) ?hz_a ?hz_b ?hz_c ?hz_d ?_; (case hz_a => decide); (case hz_b => decide); (case hz_c => rfl); (case hz_d => rfl); k_whole))))
  (k_with "LeaveD" => (k_dflt (refine' leaveD_ ?hz_k1 ?hz_k2 ?_; (case hz_k1 => k_asm); (case hz_k2 => k_asm); k_whole); intro kF kN; ground_anew kF; (have kX := kFor kF (by k_asm))))
  (k_with "wpK" => ((with_reducible show wpK _ _ (execs (_ :: _) _) _ _); refine wpK_execs_cons ?_; (try dsimp only)))
  (k_with "wpK" => ((with_reducible show wpK _ _ (execs [] _) _ _); refine wpK_execs_nil ?_; (try dsimp only)))
  (k_with "wpK" => ((with_reducible show wpK _ _ (exec (Stmt.Return (some _) _) _) _ _); refine wpK_Return ?_; (try dsimp only)))
  (k_with "wpK" => ((with_reducible show wpK _ _ (exec (Stmt.If _ _ _ _) _) _ _); refine wpK_If ?_))
  (k_with "wpK" => ((with_reducible show wpK _ _ (exec (Stmt.Expr _ _) _) _ _); refine wpK_Expr ?_))
  (k_with "wpK" => ((with_reducible show wpK _ _ (exec (Stmt.Assign [Expr.Name _ _] _ _) _) _ _); refine wpK_Assign_Name ?_))
  (k_with "wpK" => ((with_reducible show wpK _ _ (eval (Expr.Name _ _) _) _ _); refine wpK_any ?_))
  (k_with "wpK" => ((with_reducible show wpK _ _ (eval (Expr.Constant _ _ _) _) _ _); refine wpK_any ?_))
  (k_with "wpK" => ((with_reducible show wpK _ _ (eval (Expr.BinOp _ _ _ _) _) _ _); refine wpK_BinOp ?_))
  (k_with "wpK" => ((with_reducible show wpK _ _ (eval (Expr.Compare _ [_] [_] _) _) _ _); refine wpK_Compare1 ?_))
  (k_with "wpK" => ((with_reducible show wpK _ _ (binaryOp _ _ _) _ _); refine wpK_any ?_))
  (k_with "wpK" => ((with_reducible show wpK _ _ (compareOp _ _ _) _ _); refine wpK_any ?_))
  (k_with "wpK" => ((with_reducible show wpK _ _ (eval (Expr.Call (Expr.Name _ _) _ [] _) _) _ _); refine wpK_CallName ?_))
  (k_with "wpK" => ((with_reducible show wpK _ _ (eval (Expr.Call (Expr.Attribute _ _ _) _ [] _) _) _ _); refine wpK_CallMeth ?_))
  (k_with "wpK" => ((with_reducible show wpK _ _ (callWith _ (Value.type _) _ _ _) _ _); k_dflt (refine callWithK_any rfl ?_)))
  (k_with "wpK" => ((with_reducible show wpK _ _ (callWith _ (Value.builtin _) _ _ _) _ _); k_dflt (refine callWithK_any rfl ?_)))
  (k_with "wpK" => ((with_reducible show wpK _ _ (callWith _ (Value.ref _) _ _ _) _ _); k_dflt (refine' callWithK_def ?hz_k1 ?hz_k2 ?_; (case hz_k1 => k_asm); (case hz_k2 => k_is); k_whole)))
  (k_with "wpK" => ((with_reducible show wpK _ _ (call (Value.type "bytearray") [Value.bytes _ _]) _ _); k_dflt (refine' make_K ?hz_k1 ?hz_k2 ?hz_k3 ?_; (case hz_k1 => k_asm); (case hz_k2 => k_asm); (case hz_k3 => size_fits); k_whole); intro D9 h9 ne9 F9 N9; (try dsimp only at F9 N9 ⊢)))
  (k_with "wpK" => ((with_reducible show wpK _ _ (call (Value.builtin "bytearray.append") _) _ _); k_dflt (refine' appendB_K ?hz_k1 ?hz_k2 ?hz_k3 ?hz_k4 ?hz_k5 ?hz_k6 ?_; (case hz_k1 => k_asm); (case hz_k2 => k_asm); (case hz_k3 => k_upd); (case hz_k4 => omega); (case hz_k5 => omega); (case hz_k6 => first | assumption | (rw [sizeLine_eq]; (try simp only [Array.size_push]); omega)); k_whole); intro h9 F9 N9; (try dsimp only at F9 N9 ⊢)))
  (k_with "getMethod ref" => (k_here; k_dflt (refine' method_append ?hz_k1 ?hz_k2 ?_; (case hz_k1 => k_asm); (case hz_k2 => k_mem); k_whole)))
  (k_with "call type:bytes cons nil" => (k_here; k_dflt (refine' bytes_K ?hz_k1 ?hz_k2 ?hz_k3 ?_; (case hz_k1 => k_asm); (case hz_k2 => k_mem); (case hz_k3 => first | assumption | size_fits); k_whole); intro t9 k9; (try dsimp only)))
  (k_with "wpK" => ((with_reducible show wpK _ _ (call (Value.type "bytes") _) _ _); refine wpK_any ?_))
  (k_with "call type:bytes cons nil" => (k_here; (with_reducible show wpAny _ _ (call (Value.type "bytes") [Value.bytes _ _]) _ _ _); k_dflt (refine bytes_of_bytes ?_)))
  (k_with "binaryOp Add bytes bytes" => (k_here; k_dflt (refine' KBy.add_bytes ?hz_sz ?_); (case hz_sz => ((try simp only [Array.size_append, List.size_toArray, List.length_cons, List.length_nil]); omega)); intro t9 k9; (try dsimp only)))
  (k_with "wpK" => ((with_reducible show wpK _ _ (exec (Stmt.Assign [Expr.Tuple _ _ _] _ _) _) _ _); refine wpK_any ?_))
  (k_with "wpK" => ((with_reducible show wpK _ _ (eval (Expr.Subscript _ _ _) _) _ _); refine wpK_any ?_))
  (k_with "k_mem" => assumption)
  (k_with "wpK" => ((with_reducible show wpK _ _ (call (Value.ref 247) _) _ _); k_dflt (refine' kret_use (SubKey.use ?hz_sb ?hz_hs) ?hz_k1 ?hz_k2 ?hz_k3 ?hz_k4 ?hz_k5 ?hz_kK ?hz_kd ?hz_ku ?_; (case hz_sb => assumption); (case hz_k1 => k_asm); (case hz_k2 => k_asm); (case hz_k3 => k_asm); (case hz_k4 => k_asm); (case hz_k5 => k_asm); (case hz_hs => (intro q hq; repeat (first | exact hq | apply List.Mem.tail))); (case hz_kK => first | exact rfl | assumption); (case hz_kd => ktr_room); (case hz_ku => ktr_units)); intro r9 news9 h9 tk9 F9 N9 hp9; obtain ⟨e8, t9, e9⟩ := hp9; replace e8 := e8.symm; subst e8; subst e9))
  (k_with "wpK" => ((with_reducible show wpK _ _ (call (Value.ref 252) _) _ _); k_dflt (refine' kret_use (SubKey.use ?hz_sb ?hz_hs) ?hz_k1 ?hz_k2 ?hz_k3 ?hz_k4 ?hz_k5 ?hz_kK ?hz_kd ?hz_ku ?_; (case hz_sb => assumption); (case hz_k1 => k_asm); (case hz_k2 => k_asm); (case hz_k3 => k_asm); (case hz_k4 => k_asm); (case hz_k5 => k_asm); (case hz_hs => (intro q hq; repeat (first | exact hq | apply List.Mem.tail))); (case hz_kK => first | exact rfl | assumption); (case hz_kd => ktr_room); (case hz_ku => ktr_units)); intro r9 news9 h9 tk9 F9 N9 hp9; obtain ⟨e8, t9, e9⟩ := hp9; replace e8 := e8.symm; subst e8; subst e9))
  (k_with "wpK" => ((with_reducible show wpK _ _ (call (Value.ref 240) _) _ _); k_dflt (refine' kret_use (show_leaf _ _ _ _ _ ?hz_ha ?hz_hb ?hz_hc) ?hz_k1 ?hz_k2 ?hz_k3 ?hz_k4 ?hz_k5 ?hz_kK ?hz_kd ?hz_ku ?_; (case hz_k1 => k_asm); (case hz_k2 => k_asm); (case hz_k3 => k_asm); (case hz_k4 => k_asm); (case hz_k5 => k_asm); (case hz_kK => first | exact rfl | assumption); (case hz_hb => assumption); (case hz_ha => assumption); (case hz_hc => assumption); (case hz_kd => ktr_room); (case hz_ku => ktr_units)); intro r9 news9 h9 tk9 F9 N9 hp9; obtain ⟨e8, t9, e9⟩ := hp9; replace e8 := e8.symm; subst e8; subst e9))
  (k_with "call ref" => (k_here; (with_reducible show wpAny _ _ (call (Value.ref 233) _) _ _ _); k_dflt (refine' ret_use (show_flag _ _ _ ?hz_ha _ _ _ ?hz_hl) ?hz_k1 ?hz_k2 ?hz_k3 ?hz_k4 ?hz_k5 ?hz_kK ?hz_kd ?hz_ku ?_; (case hz_k1 => k_asm); (case hz_k2 => k_asm); (case hz_k3 => k_asm); (case hz_k4 => k_asm); (case hz_k5 => k_asm); (case hz_kK => first | exact rfl | assumption); (case hz_ha => assumption); (case hz_hl => first | exact .inl rfl | exact .inr rfl); (case hz_kd => ktr_room); (case hz_ku => ktr_units)); intro r9 news9 h9 tk9 F9 N9 hp9; obtain ⟨e8, t9, e9⟩ := hp9; replace e8 := e8.symm; subst e8; subst e9))
  (k_with "wpK" => ((with_reducible show wpK _ _ (call (Value.ref 233) _) _ _); refine wpK_any ?_))
  trivial
set_option maxRecDepth 100000 in
set_option maxHeartbeats 8000000 in
theorem key_all (w : World) (news : List (Addr × Obj)) (b : Addr) (t1 : Tok) (hm : (b, tup [.str (Str.ofString "all") t1]) ∈ news) :
   KRet PySem.Challenge.rw_nz0288_01.row.prog w (Mine.top.heap_1_39 w.params) Mine.top.view_1_40 LS 247 (7) news [.ref b]
     (fun news' r => news' = news ∧ ∃ t, r = .bytes (leafQ .all) t) := by
  k_fill
  unfold KRet
  intro mean mg mb dp un gd cn cs a ccd cl outer A₀ base h₀ L m s Q B F X N T hk hd hu hret
  refine wpK_call ?_
  k_dflt (refine' code_defK (binds := [(Str.ofString "tree", .ref b)]) ?k1 ?k2 ?k3 ?k4 ?k5 ?kA ?kF ?kK ?k6 ?k7 ?k8 ?k9 ?kB ?_ ?c2 ?c3 ?c4 ?c5; (case kA => exact rfl); (case kF => exact rfl); (case kK => assumption); (case k1 => k_asm); (case k2 => k_asm); (case k3 => k_asm); (case k4 => k_asm); (case k5 => k_asm); (case k6 => k_is); (case k7 => k_is); (case k8 => ktr_room); (case k9 => first | exact BindsTo.of_eq rfl | exact binds_K (by k_in) rfl (by k_is) rfl rfl rfl); (case c5 => decide); (case kB => exact locs rfl); (case c2 => exact rfl); (case c3 => exact rfl); (case c4 => exact rfl); k_whole; intro g' L' h' FG' F' N' B' X' T'; (try dsimp only); (try k_fold))
  repeat' (first | (k_unfold; (try dsimp only)) | (first | walk1 | (dsimp only; walk1)) | fail "no step")
  all_goals (refine hret _ news _ _ (by k_asm) (by first | k_asm | exact ntl (by k_asm) | exact ntl (ntl (by k_asm)) | exact ntl (ntl (ntl (by k_asm)))) ⟨rfl, _, rfl⟩)
end Mine
end
section
open PySem PySem.W PySem.Calls PyProof.Rows
namespace Mine
theorem reg68 : True := by
  w_top off
  (k_with "subscriptTail Name Constant ref int" => (k_here; k_dflt (refine' item_tupleT (News.isTup (by k_asm) (by k_mem)) ?hz_a ?hz_b (seq0 _) ?hz_d ?_; (case hz_a => decide); (case hz_b => decide); (case hz_d => rfl); k_whole)))
  (k_with "ite" => (refine ite_neg (ne_true_of_eq_false (by assumption)) ?_))
  trivial
set_option maxRecDepth 100000 in
set_option maxHeartbeats 8000000 in
theorem key_leaf (w : World) (news : List (Addr × Obj)) (b : Addr) (l : Leaf) (vs : List Value) (k : Str) (u : Tok) (rest : List Value) (hm : (b, tup vs) ∈ news) (hv : leafVals l vs) (hl : l ≠ .all) (hm2 : (b, tup (.str k u :: rest)) ∈ news) (q1 : (k == Str.ofString "all") = false) (q2 : (k == Str.ofString "and") = false) (q3 : (k == Str.ofString "or") = false) (q4 : (k == Str.ofString "not") = false) :
   KRet PySem.Challenge.rw_nz0288_01.row.prog w (Mine.top.heap_1_39 w.params) Mine.top.view_1_40 LS 247 (7) news [.ref b]
     (fun news' r => news' = news ∧ ∃ t, r = .bytes (leafQ l) t) := by
  k_fill
  unfold KRet
  intro mean mg mb dp un gd cn cs a ccd cl outer A₀ base h₀ L m s Q B F X N T hk hd hu hret
  refine wpK_call ?_
  k_dflt (refine' code_defK (binds := [(Str.ofString "tree", .ref b)]) ?k1 ?k2 ?k3 ?k4 ?k5 ?kA ?kF ?kK ?k6 ?k7 ?k8 ?k9 ?kB ?_ ?c2 ?c3 ?c4 ?c5; (case kA => exact rfl); (case kF => exact rfl); (case kK => assumption); (case k1 => k_asm); (case k2 => k_asm); (case k3 => k_asm); (case k4 => k_asm); (case k5 => k_asm); (case k6 => k_is); (case k7 => k_is); (case k8 => ktr_room); (case k9 => first | exact BindsTo.of_eq rfl | exact binds_K (by k_in) rfl (by k_is) rfl rfl rfl); (case c5 => decide); (case kB => exact locs rfl); (case c2 => exact rfl); (case c3 => exact rfl); (case c4 => exact rfl); k_whole; intro g' L' h' FG' F' N' B' X' T'; (try dsimp only); (try k_fold))
  repeat' (first | (k_unfold; (try dsimp only)) | (first | walk1 | (dsimp only; walk1)) | fail "no step")
  all_goals (refine hret _ news _ _ (by k_asm) (by first | k_asm | exact ntl (by k_asm) | exact ntl (ntl (by k_asm)) | exact ntl (ntl (ntl (by k_asm)))) ⟨rfl, _, rfl⟩)
end Mine
end
section
open PySem PySem.W PySem.Calls PyProof.Rows
namespace Mine
theorem reg69 : True := by
  w_top off
  k_with_none
  (k_with "execs cons" => (k_here; dsimp only))
  (k_with "execs nil" => (k_here; dsimp only))
  (k_with "subscriptTail Name Constant ref int" => (k_here; k_dflt (first
  | (refine' topTup_K ?hz_F ?hz_X ?hz_l ?hz_a ?hz_b ?hz_c ?hz_d ?_; (case hz_F => k_asm); (case hz_X => k_asm); (case hz_l => k_is); (case hz_a => decide); (case hz_b => decide); (case hz_c => rfl); (case hz_d => rfl))
  | (refine' item_tupleT (News.isTup (by k_asm) (by k_mem)) ?hz_a ?hz_b ?hz_c ?hz_d ?_; (case hz_a => decide); (case hz_b => decide); (case hz_c => rfl); (case hz_d => rfl); k_whole)
  | (refine' item_litK (News.isList (by k_asm) (by k_mem)) ?hz_a ?hz_b ?hz_d ?_; (case hz_a => decide); (case hz_b => decide); (case hz_d => rfl); k_whole))))
  (k_with "subscriptTail Name UnaryOp ref int" => (k_here; k_dflt (first
  | (refine' topTup_K ?hz_F ?hz_X ?hz_l ?hz_a ?hz_b ?hz_c ?hz_d ?_; (case hz_F => k_asm); (case hz_X => k_asm); (case hz_l => k_is); (case hz_a => decide); (case hz_b => decide); (case hz_c => rfl); (case hz_d => rfl))
  | (refine' item_tupleT (News.isTup (by k_asm) (by k_mem)) ?hz_a ?hz_b ?hz_c ?hz_d ?_; (case hz_a => decide); (case hz_b => decide); (case hz_c => rfl); (case hz_d => rfl); k_whole))))
  (k_with "LeaveD" => (k_dflt (refine' leaveD_ ?hz_k1 ?hz_k2 ?_; (case hz_k1 => k_asm); (case hz_k2 => k_asm); k_whole); intro kF kN; ground_anew kF; (have kX := kFor kF (by k_asm))))
  (k_with "wpK" => ((with_reducible show wpK _ _ (execs (_ :: _) _) _ _); refine wpK_execs_cons ?_; (try dsimp only)))
  (k_with "wpK" => ((with_reducible show wpK _ _ (execs [] _) _ _); refine wpK_execs_nil ?_; (try dsimp only)))
  (k_with "wpK" => ((with_reducible show wpK _ _ (exec (Stmt.Return (some _) _) _) _ _); refine wpK_Return ?_; (try dsimp only)))
  (k_with "wpK" => ((with_reducible show wpK _ _ (exec (Stmt.If _ _ _ _) _) _ _); refine wpK_If ?_))
  (k_with "wpK" => ((with_reducible show wpK _ _ (exec (Stmt.Expr _ _) _) _ _); refine wpK_Expr ?_))
  (k_with "wpK" => ((with_reducible show wpK _ _ (exec (Stmt.Assign [Expr.Name _ _] _ _) _) _ _); refine wpK_Assign_Name ?_))
  (k_with "wpK" => ((with_reducible show wpK _ _ (eval (Expr.Name _ _) _) _ _); refine wpK_any ?_))
  (k_with "wpK" => ((with_reducible show wpK _ _ (eval (Expr.Constant _ _ _) _) _ _); refine wpK_any ?_))
  (k_with "wpK" => ((with_reducible show wpK _ _ (eval (Expr.BinOp _ _ _ _) _) _ _); refine wpK_BinOp ?_))
  (k_with "wpK" => ((with_reducible show wpK _ _ (eval (Expr.Compare _ [_] [_] _) _) _ _); refine wpK_Compare1 ?_))
  (k_with "wpK" => ((with_reducible show wpK _ _ (binaryOp _ _ _) _ _); refine wpK_any ?_))
  (k_with "wpK" => ((with_reducible show wpK _ _ (compareOp _ _ _) _ _); refine wpK_any ?_))
  (k_with "wpK" => ((with_reducible show wpK _ _ (eval (Expr.Call (Expr.Name _ _) _ [] _) _) _ _); refine wpK_CallName ?_))
  (k_with "wpK" => ((with_reducible show wpK _ _ (eval (Expr.Call (Expr.Attribute _ _ _) _ [] _) _) _ _); refine wpK_CallMeth ?_))
  (k_with "wpK" => ((with_reducible show wpK _ _ (callWith _ (Value.type _) _ _ _) _ _); k_dflt (refine callWithK_any rfl ?_)))
  (k_with "wpK" => ((with_reducible show wpK _ _ (callWith _ (Value.builtin _) _ _ _) _ _); k_dflt (refine callWithK_any rfl ?_)))
  (k_with "wpK" => ((with_reducible show wpK _ _ (callWith _ (Value.ref _) _ _ _) _ _); k_dflt (refine' callWithK_def ?hz_k1 ?hz_k2 ?_; (case hz_k1 => k_asm); (case hz_k2 => k_is); k_whole)))
  (k_with "wpK" => ((with_reducible show wpK _ _ (call (Value.type "bytearray") [Value.bytes _ _]) _ _); k_dflt (refine' make_K ?hz_k1 ?hz_k2 ?hz_k3 ?_; (case hz_k1 => k_asm); (case hz_k2 => k_asm); (case hz_k3 => size_fits); k_whole); intro D9 h9 ne9 F9 N9; (try dsimp only at F9 N9 ⊢)))
  (k_with "wpK" => ((with_reducible show wpK _ _ (call (Value.builtin "bytearray.append") _) _ _); k_dflt (refine' appendB_K ?hz_k1 ?hz_k2 ?hz_k3 ?hz_k4 ?hz_k5 ?hz_k6 ?_; (case hz_k1 => k_asm); (case hz_k2 => k_asm); (case hz_k3 => k_upd); (case hz_k4 => omega); (case hz_k5 => omega); (case hz_k6 => first | assumption | (rw [sizeLine_eq]; (try simp only [Array.size_push]); omega)); k_whole); intro h9 F9 N9; (try dsimp only at F9 N9 ⊢)))
  (k_with "getMethod ref" => (k_here; k_dflt (refine' method_append ?hz_k1 ?hz_k2 ?_; (case hz_k1 => k_asm); (case hz_k2 => k_mem); k_whole)))
  (k_with "call type:bytes cons nil" => (k_here; k_dflt (refine' bytes_K ?hz_k1 ?hz_k2 ?hz_k3 ?_; (case hz_k1 => k_asm); (case hz_k2 => k_mem); (case hz_k3 => first | assumption | size_fits); k_whole); intro t9 k9; (try dsimp only)))
  (k_with "wpK" => ((with_reducible show wpK _ _ (call (Value.type "bytes") _) _ _); refine wpK_any ?_))
  (k_with "call type:bytes cons nil" => (k_here; (with_reducible show wpAny _ _ (call (Value.type "bytes") [Value.bytes _ _]) _ _ _); k_dflt (refine bytes_of_bytes ?_)))
  (k_with "binaryOp Add bytes bytes" => (k_here; k_dflt (refine' KBy.add_bytes ?hz_sz ?_); (case hz_sz => ((try simp only [Array.size_append, List.size_toArray, List.length_cons, List.length_nil]); omega)); intro t9 k9; (try dsimp only)))
  (k_with "wpK" => ((with_reducible show wpK _ _ (exec (Stmt.Assign [Expr.Tuple _ _ _] _ _) _) _ _); refine wpK_any ?_))
  (k_with "wpK" => ((with_reducible show wpK _ _ (eval (Expr.Subscript _ _ _) _) _ _); refine wpK_any ?_))
  (k_with "k_mem" => assumption)
  (k_with "wpK" => ((with_reducible show wpK _ _ (call (Value.ref 247) _) _ _); k_dflt (refine' kret_use (SubKey.use ?hz_sb ?hz_hs) ?hz_k1 ?hz_k2 ?hz_k3 ?hz_k4 ?hz_k5 ?hz_kK ?hz_kd ?hz_ku ?_; (case hz_sb => assumption); (case hz_k1 => k_asm); (case hz_k2 => k_asm); (case hz_k3 => k_asm); (case hz_k4 => k_asm); (case hz_k5 => k_asm); (case hz_hs => (intro q hq; repeat (first | exact hq | apply List.Mem.tail))); (case hz_kK => first | exact rfl | assumption); (case hz_kd => ktr_room); (case hz_ku => ktr_units)); intro r9 news9 h9 tk9 F9 N9 hp9; obtain ⟨e8, t9, e9⟩ := hp9; replace e8 := e8.symm; subst e8; subst e9))
  (k_with "wpK" => ((with_reducible show wpK _ _ (call (Value.ref 252) _) _ _); k_dflt (refine' kret_use (SubKey.use ?hz_sb ?hz_hs) ?hz_k1 ?hz_k2 ?hz_k3 ?hz_k4 ?hz_k5 ?hz_kK ?hz_kd ?hz_ku ?_; (case hz_sb => assumption); (case hz_k1 => k_asm); (case hz_k2 => k_asm); (case hz_k3 => k_asm); (case hz_k4 => k_asm); (case hz_k5 => k_asm); (case hz_hs => (intro q hq; repeat (first | exact hq | apply List.Mem.tail))); (case hz_kK => first | exact rfl | assumption); (case hz_kd => ktr_room); (case hz_ku => ktr_units)); intro r9 news9 h9 tk9 F9 N9 hp9; obtain ⟨e8, t9, e9⟩ := hp9; replace e8 := e8.symm; subst e8; subst e9))
  (k_with "wpK" => ((with_reducible show wpK _ _ (call (Value.ref 240) _) _ _); k_dflt (refine' kret_use (show_leaf _ _ _ _ _ ?hz_ha ?hz_hb ?hz_hc) ?hz_k1 ?hz_k2 ?hz_k3 ?hz_k4 ?hz_k5 ?hz_kK ?hz_kd ?hz_ku ?_; (case hz_k1 => k_asm); (case hz_k2 => k_asm); (case hz_k3 => k_asm); (case hz_k4 => k_asm); (case hz_k5 => k_asm); (case hz_kK => first | exact rfl | assumption); (case hz_hb => assumption); (case hz_ha => assumption); (case hz_hc => assumption); (case hz_kd => ktr_room); (case hz_ku => ktr_units)); intro r9 news9 h9 tk9 F9 N9 hp9; obtain ⟨e8, t9, e9⟩ := hp9; replace e8 := e8.symm; subst e8; subst e9))
  (k_with "call ref" => (k_here; (with_reducible show wpAny _ _ (call (Value.ref 233) _) _ _ _); k_dflt (refine' ret_use (show_flag _ _ _ ?hz_ha _ _ _ ?hz_hl) ?hz_k1 ?hz_k2 ?hz_k3 ?hz_k4 ?hz_k5 ?hz_kK ?hz_kd ?hz_ku ?_; (case hz_k1 => k_asm); (case hz_k2 => k_asm); (case hz_k3 => k_asm); (case hz_k4 => k_asm); (case hz_k5 => k_asm); (case hz_kK => first | exact rfl | assumption); (case hz_ha => assumption); (case hz_hl => first | exact .inl rfl | exact .inr rfl); (case hz_kd => ktr_room); (case hz_ku => ktr_units)); intro r9 news9 h9 tk9 F9 N9 hp9; obtain ⟨e8, t9, e9⟩ := hp9; replace e8 := e8.symm; subst e8; subst e9))
  (k_with "wpK" => ((with_reducible show wpK _ _ (call (Value.ref 233) _) _ _); refine wpK_any ?_))
  (k_with "subscriptTail Name Constant ref int" => (k_here; k_dflt (refine' item_tupleT (News.isTup (by k_asm) (by k_mem)) ?hz_a ?hz_b ?hz_c ?hz_d ?_; (case hz_a => decide); (case hz_b => decide); (case hz_c => first | rfl | exact seq0 _); (case hz_d => rfl); k_whole)))
  trivial
set_option maxRecDepth 100000 in
set_option maxHeartbeats 8000000 in
theorem key_notflag (w : World) (news : List (Addr × Obj)) (b : Addr) (i : Nat) (u1 t1 v1 : Tok) (c : Addr) (hi : i < 4) (hm : (b, tup [.str (Str.ofString "not") u1, .ref c]) ∈ news) (hm2 : (c, tup [.str (Str.ofString "flag") t1, .str (flagNm i) v1]) ∈ news) :
   KRet PySem.Challenge.rw_nz0288_01.row.prog w (Mine.top.heap_1_39 w.params) Mine.top.view_1_40 LS 247 (7) news [.ref b]
     (fun news' r => news' = news ∧ ∃ t, r = .bytes (octs (Str.ofString "UN" ++ flagTx i)) t) := by
  k_fill
  unfold KRet
  intro mean mg mb dp un gd cn cs a ccd cl outer A₀ base h₀ L m s Q B F X N T hk hd hu hret
  refine wpK_call ?_
  k_dflt (refine' code_defK (binds := [(Str.ofString "tree", .ref b)]) ?k1 ?k2 ?k3 ?k4 ?k5 ?kA ?kF ?kK ?k6 ?k7 ?k8 ?k9 ?kB ?_ ?c2 ?c3 ?c4 ?c5; (case kA => exact rfl); (case kF => exact rfl); (case kK => assumption); (case k1 => k_asm); (case k2 => k_asm); (case k3 => k_asm); (case k4 => k_asm); (case k5 => k_asm); (case k6 => k_is); (case k7 => k_is); (case k8 => ktr_room); (case k9 => first | exact BindsTo.of_eq rfl | exact binds_K (by k_in) rfl (by k_is) rfl rfl rfl); (case c5 => decide); (case kB => exact locs rfl); (case c2 => exact rfl); (case c3 => exact rfl); (case c4 => exact rfl); k_whole; intro g' L' h' FG' F' N' B' X' T'; (try dsimp only); (try k_fold))
  repeat' (first | (k_unfold; (try dsimp only)) | (first | walk1 | (dsimp only; walk1)) | fail "no step")
  all_goals (refine hret _ news _ _ (by k_asm) (by first | k_asm | exact ntl (by k_asm) | exact ntl (ntl (by k_asm)) | exact ntl (ntl (ntl (by k_asm)))) ⟨rfl, _, rfl⟩)
end Mine
end
section
open PySem PySem.W PySem.Calls PyProof.Rows
namespace Mine
theorem reg70 : True := by
  w_top off
  (k_with "ite" => (refine ite_neg (ne_true_of_eq_false (by assumption)) ?_))
  trivial
set_option maxRecDepth 100000 in
set_option maxHeartbeats 8000000 in
theorem key_not (w : World) (news : List (Addr × Obj)) (b : Addr) (n : Nat) (u1 u2 : Tok) (c : Addr) (k : Str) (rest : List Value) (q : Array UInt8) (hm : (b, tup [.str (Str.ofString "not") u1, .ref c]) ∈ news) (hm2 : (c, tup (.str k u2 :: rest)) ∈ news) (q1 : (k == Str.ofString "flag") = false) (hq : q.size ≤ 200000) (C8 : SubKey w 247 n news (.ref c) q) :
   KRet PySem.Challenge.rw_nz0288_01.row.prog w (Mine.top.heap_1_39 w.params) Mine.top.view_1_40 LS 247 (n + 1) news [.ref b]
     (fun news' r => news' = news ∧ ∃ t, r = .bytes (#[78, 79, 84, 32] ++ q) t) := by
  k_fill
  unfold KRet
  intro mean mg mb dp un gd cn cs a ccd cl outer A₀ base h₀ L m s Q B F X N T hk hd hu hret
  refine wpK_call ?_
  k_dflt (refine' code_defK (binds := [(Str.ofString "tree", .ref b)]) ?k1 ?k2 ?k3 ?k4 ?k5 ?kA ?kF ?kK ?k6 ?k7 ?k8 ?k9 ?kB ?_ ?c2 ?c3 ?c4 ?c5; (case kA => exact rfl); (case kF => exact rfl); (case kK => assumption); (case k1 => k_asm); (case k2 => k_asm); (case k3 => k_asm); (case k4 => k_asm); (case k5 => k_asm); (case k6 => k_is); (case k7 => k_is); (case k8 => ktr_room); (case k9 => first | exact BindsTo.of_eq rfl | exact binds_K (by k_in) rfl (by k_is) rfl rfl rfl); (case c5 => decide); (case kB => exact locs rfl); (case c2 => exact rfl); (case c3 => exact rfl); (case c4 => exact rfl); k_whole; intro g' L' h' FG' F' N' B' X' T'; (try dsimp only); (try k_fold))
  repeat' (first | (k_unfold; (try dsimp only)) | (first | walk1 | (dsimp only; walk1)) | fail "no step")
  all_goals (refine hret _ news _ _ (by k_asm) (by first | k_asm | exact ntl (by k_asm) | exact ntl (ntl (by k_asm)) | exact ntl (ntl (ntl (by k_asm)))) ⟨rfl, _, rfl⟩)
end Mine
end
section
open PySem PySem.W PySem.Calls PyProof.Rows
namespace Mine
theorem reg71 : True := by
  w_top off
  k_with_none
  (k_with "execs cons" => (k_here; dsimp only))
  (k_with "execs nil" => (k_here; dsimp only))
  (k_with "subscriptTail Name Constant ref int" => (k_here; k_dflt (first
  | (refine' topTup_K ?hz_F ?hz_X ?hz_l ?hz_a ?hz_b ?hz_c ?hz_d ?_; (case hz_F => k_asm); (case hz_X => k_asm); (case hz_l => k_is); (case hz_a => decide); (case hz_b => decide); (case hz_c => rfl); (case hz_d => rfl))
  | (refine' item_tupleT (News.isTup (by k_asm) (by k_mem)) ?hz_a ?hz_b ?hz_c ?hz_d ?_; (case hz_a => decide); (case hz_b => decide); (case hz_c => rfl); (case hz_d => rfl); k_whole)
  | (refine' item_litK (News.isList (by k_asm) (by k_mem)) ?hz_a ?hz_b ?hz_d ?_; (case hz_a => decide); (case hz_b => decide); (case hz_d => rfl); k_whole))))
  (k_with "subscriptTail Name UnaryOp ref int" => (k_here; k_dflt (first
  | (refine' topTup_K ?hz_F ?hz_X ?hz_l ?hz_a ?hz_b ?hz_c ?hz_d ?_; (case hz_F => k_asm); (case hz_X => k_asm); (case hz_l => k_is); (case hz_a => decide); (case hz_b => decide); (case hz_c => rfl); (case hz_d => rfl))
  | (refine' item_tupleT (News.isTup (by k_asm) (by k_mem)) ?hz_a ?hz_b ?hz_c ?hz_d ?_; (case hz_a => decide); (case hz_b => decide); (case hz_c => rfl); (case hz_d => rfl); k_whole))))
  (k_with "LeaveD" => (k_dflt (refine' leaveD_ ?hz_k1 ?hz_k2 ?_; (case hz_k1 => k_asm); (case hz_k2 => k_asm); k_whole); intro kF kN; ground_anew kF; (have kX := kFor kF (by k_asm))))
  (k_with "wpK" => ((with_reducible show wpK _ _ (execs (_ :: _) _) _ _); refine wpK_execs_cons ?_; (try dsimp only)))
  (k_with "wpK" => ((with_reducible show wpK _ _ (execs [] _) _ _); refine wpK_execs_nil ?_; (try dsimp only)))
  (k_with "wpK" => ((with_reducible show wpK _ _ (exec (Stmt.Return (some _) _) _) _ _); refine wpK_Return ?_; (try dsimp only)))
  (k_with "wpK" => ((with_reducible show wpK _ _ (exec (Stmt.If _ _ _ _) _) _ _); refine wpK_If ?_))
  (k_with "wpK" => ((with_reducible show wpK _ _ (exec (Stmt.Expr _ _) _) _ _); refine wpK_Expr ?_))
  (k_with "wpK" => ((with_reducible show wpK _ _ (exec (Stmt.Assign [Expr.Name _ _] _ _) _) _ _); refine wpK_Assign_Name ?_))
  (k_with "wpK" => ((with_reducible show wpK _ _ (eval (Expr.Name _ _) _) _ _); refine wpK_any ?_))
  (k_with "wpK" => ((with_reducible show wpK _ _ (eval (Expr.Constant _ _ _) _) _ _); refine wpK_any ?_))
  (k_with "wpK" => ((with_reducible show wpK _ _ (eval (Expr.BinOp _ _ _ _) _) _ _); refine wpK_BinOp ?_))
  (k_with "wpK" => ((with_reducible show wpK _ _ (eval (Expr.Compare _ [_] [_] _) _) _ _); refine wpK_Compare1 ?_))
  (k_with "wpK" => ((with_reducible show wpK _ _ (binaryOp _ _ _) _ _); refine wpK_any ?_))
  (k_with "wpK" => ((with_reducible show wpK _ _ (compareOp _ _ _) _ _); refine wpK_any ?_))
  (k_with "wpK" => ((with_reducible show wpK _ _ (eval (Expr.Call (Expr.Name _ _) _ [] _) _) _ _); refine wpK_CallName ?_))
  (k_with "wpK" => ((with_reducible show wpK _ _ (eval (Expr.Call (Expr.Attribute _ _ _) _ [] _) _) _ _); refine wpK_CallMeth ?_))
  (k_with "wpK" => ((with_reducible show wpK _ _ (callWith _ (Value.type _) _ _ _) _ _); k_dflt (refine callWithK_any rfl ?_)))
  (k_with "wpK" => ((with_reducible show wpK _ _ (callWith _ (Value.builtin _) _ _ _) _ _); k_dflt (refine callWithK_any rfl ?_)))
  (k_with "wpK" => ((with_reducible show wpK _ _ (callWith _ (Value.ref _) _ _ _) _ _); k_dflt (refine' callWithK_def ?hz_k1 ?hz_k2 ?_; (case hz_k1 => k_asm); (case hz_k2 => k_is); k_whole)))
  (k_with "wpK" => ((with_reducible show wpK _ _ (call (Value.type "bytearray") [Value.bytes _ _]) _ _); k_dflt (refine' make_K ?hz_k1 ?hz_k2 ?hz_k3 ?_; (case hz_k1 => k_asm); (case hz_k2 => k_asm); (case hz_k3 => size_fits); k_whole); intro D9 h9 ne9 F9 N9; (try dsimp only at F9 N9 ⊢)))
  (k_with "wpK" => ((with_reducible show wpK _ _ (call (Value.builtin "bytearray.append") _) _ _); k_dflt (refine' appendB_K ?hz_k1 ?hz_k2 ?hz_k3 ?hz_k4 ?hz_k5 ?hz_k6 ?_; (case hz_k1 => k_asm); (case hz_k2 => k_asm); (case hz_k3 => k_upd); (case hz_k4 => omega); (case hz_k5 => omega); (case hz_k6 => first | assumption | (rw [sizeLine_eq]; (try simp only [Array.size_push]); omega)); k_whole); intro h9 F9 N9; (try dsimp only at F9 N9 ⊢)))
  (k_with "getMethod ref" => (k_here; k_dflt (refine' method_append ?hz_k1 ?hz_k2 ?_; (case hz_k1 => k_asm); (case hz_k2 => k_mem); k_whole)))
  (k_with "call type:bytes cons nil" => (k_here; k_dflt (refine' bytes_K ?hz_k1 ?hz_k2 ?hz_k3 ?_; (case hz_k1 => k_asm); (case hz_k2 => k_mem); (case hz_k3 => first | assumption | size_fits); k_whole); intro t9 k9; (try dsimp only)))
  (k_with "wpK" => ((with_reducible show wpK _ _ (call (Value.type "bytes") _) _ _); refine wpK_any ?_))
  (k_with "call type:bytes cons nil" => (k_here; (with_reducible show wpAny _ _ (call (Value.type "bytes") [Value.bytes _ _]) _ _ _); k_dflt (refine bytes_of_bytes ?_)))
  (k_with "binaryOp Add bytes bytes" => (k_here; k_dflt (refine' KBy.add_bytes ?hz_sz ?_); (case hz_sz => ((try simp only [Array.size_append, List.size_toArray, List.length_cons, List.length_nil]); omega)); intro t9 k9; (try dsimp only)))
  (k_with "wpK" => ((with_reducible show wpK _ _ (exec (Stmt.Assign [Expr.Tuple _ _ _] _ _) _) _ _); refine wpK_any ?_))
  (k_with "wpK" => ((with_reducible show wpK _ _ (eval (Expr.Subscript _ _ _) _) _ _); refine wpK_any ?_))
  (k_with "k_mem" => assumption)
  (k_with "wpK" => ((with_reducible show wpK _ _ (call (Value.ref 247) _) _ _); k_dflt (refine' kret_use (SubKey.use ?hz_sb ?hz_hs) ?hz_k1 ?hz_k2 ?hz_k3 ?hz_k4 ?hz_k5 ?hz_kK ?hz_kd ?hz_ku ?_; (case hz_sb => assumption); (case hz_k1 => k_asm); (case hz_k2 => k_asm); (case hz_k3 => k_asm); (case hz_k4 => k_asm); (case hz_k5 => k_asm); (case hz_hs => (intro q hq; repeat (first | exact hq | apply List.Mem.tail))); (case hz_kK => first | exact rfl | assumption); (case hz_kd => ktr_room); (case hz_ku => ktr_units)); intro r9 news9 h9 tk9 F9 N9 hp9; obtain ⟨e8, t9, e9⟩ := hp9; replace e8 := e8.symm; subst e8; subst e9))
  (k_with "wpK" => ((with_reducible show wpK _ _ (call (Value.ref 252) _) _ _); k_dflt (refine' kret_use (SubKey.use ?hz_sb ?hz_hs) ?hz_k1 ?hz_k2 ?hz_k3 ?hz_k4 ?hz_k5 ?hz_kK ?hz_kd ?hz_ku ?_; (case hz_sb => assumption); (case hz_k1 => k_asm); (case hz_k2 => k_asm); (case hz_k3 => k_asm); (case hz_k4 => k_asm); (case hz_k5 => k_asm); (case hz_hs => (intro q hq; repeat (first | exact hq | apply List.Mem.tail))); (case hz_kK => first | exact rfl | assumption); (case hz_kd => ktr_room); (case hz_ku => ktr_units)); intro r9 news9 h9 tk9 F9 N9 hp9; obtain ⟨e8, t9, e9⟩ := hp9; replace e8 := e8.symm; subst e8; subst e9))
  (k_with "wpK" => ((with_reducible show wpK _ _ (call (Value.ref 240) _) _ _); k_dflt (refine' kret_use (show_leaf _ _ _ _ _ ?hz_ha ?hz_hb ?hz_hc) ?hz_k1 ?hz_k2 ?hz_k3 ?hz_k4 ?hz_k5 ?hz_kK ?hz_kd ?hz_ku ?_; (case hz_k1 => k_asm); (case hz_k2 => k_asm); (case hz_k3 => k_asm); (case hz_k4 => k_asm); (case hz_k5 => k_asm); (case hz_kK => first | exact rfl | assumption); (case hz_hb => assumption); (case hz_ha => assumption); (case hz_hc => assumption); (case hz_kd => ktr_room); (case hz_ku => ktr_units)); intro r9 news9 h9 tk9 F9 N9 hp9; obtain ⟨e8, t9, e9⟩ := hp9; replace e8 := e8.symm; subst e8; subst e9))
  (k_with "call ref" => (k_here; (with_reducible show wpAny _ _ (call (Value.ref 233) _) _ _ _); k_dflt (refine' ret_use (show_flag _ _ _ ?hz_ha _ _ _ ?hz_hl) ?hz_k1 ?hz_k2 ?hz_k3 ?hz_k4 ?hz_k5 ?hz_kK ?hz_kd ?hz_ku ?_; (case hz_k1 => k_asm); (case hz_k2 => k_asm); (case hz_k3 => k_asm); (case hz_k4 => k_asm); (case hz_k5 => k_asm); (case hz_kK => first | exact rfl | assumption); (case hz_ha => assumption); (case hz_hl => first | exact .inl rfl | exact .inr rfl); (case hz_kd => ktr_room); (case hz_ku => ktr_units)); intro r9 news9 h9 tk9 F9 N9 hp9; obtain ⟨e8, t9, e9⟩ := hp9; replace e8 := e8.symm; subst e8; subst e9))
  (k_with "wpK" => ((with_reducible show wpK _ _ (call (Value.ref 233) _) _ _); refine wpK_any ?_))
  trivial
set_option maxRecDepth 100000 in
set_option maxHeartbeats 8000000 in
theorem key_or (w : World) (news : List (Addr × Obj)) (b : Addr) (n : Nat) (u1 : Tok) (x y : Value) (q q2 : Array UInt8) (hm : (b, tup [.str (Str.ofString "or") u1, x, y]) ∈ news) (hq : q.size ≤ 200000) (hr : q2.size ≤ 200000) (C8 : SubKey w 247 n news x q) (C9 : SubKey w 247 n news y q2) :
   KRet PySem.Challenge.rw_nz0288_01.row.prog w (Mine.top.heap_1_39 w.params) Mine.top.view_1_40 LS 247 (n + 1) news [.ref b]
     (fun news' r => news' = news ∧ ∃ t, r = .bytes (#[79, 82, 32] ++ q ++ #[32] ++ q2) t) := by
  k_fill
  unfold KRet
  intro mean mg mb dp un gd cn cs a ccd cl outer A₀ base h₀ L m s Q B F X N T hk hd hu hret
  refine wpK_call ?_
  k_dflt (refine' code_defK (binds := [(Str.ofString "tree", .ref b)]) ?k1 ?k2 ?k3 ?k4 ?k5 ?kA ?kF ?kK ?k6 ?k7 ?k8 ?k9 ?kB ?_ ?c2 ?c3 ?c4 ?c5; (case kA => exact rfl); (case kF => exact rfl); (case kK => assumption); (case k1 => k_asm); (case k2 => k_asm); (case k3 => k_asm); (case k4 => k_asm); (case k5 => k_asm); (case k6 => k_is); (case k7 => k_is); (case k8 => ktr_room); (case k9 => first | exact BindsTo.of_eq rfl | exact binds_K (by k_in) rfl (by k_is) rfl rfl rfl); (case c5 => decide); (case kB => exact locs rfl); (case c2 => exact rfl); (case c3 => exact rfl); (case c4 => exact rfl); k_whole; intro g' L' h' FG' F' N' B' X' T'; (try dsimp only); (try k_fold))
  repeat' (first | (k_unfold; (try dsimp only)) | (first | walk1 | (dsimp only; walk1)) | fail "no step")
  all_goals (refine hret _ news _ _ (by k_asm) (by first | k_asm | exact ntl (by k_asm) | exact ntl (ntl (by k_asm)) | exact ntl (ntl (ntl (by k_asm)))) ⟨rfl, _, rfl⟩)
end Mine
end
section
open PySem PySem.W PySem.Calls PyProof.Rows
namespace Mine
theorem reg72 : True := by
  w_top off
  trivial
set_option maxRecDepth 100000 in
set_option maxHeartbeats 8000000 in
theorem key_and (w : World) (news : List (Addr × Obj)) (b : Addr) (n : Nat) (u1 : Tok) (x y : Value) (q : Array UInt8) (hm : (b, tup [.str (Str.ofString "and") u1, x, y]) ∈ news) (hq : q.size ≤ 200000) (C8 : SubKey w 252 n news (.ref b) q) :
   KRet PySem.Challenge.rw_nz0288_01.row.prog w (Mine.top.heap_1_39 w.params) Mine.top.view_1_40 LS 247 (n + 1) news [.ref b]
     (fun news' r => news' = news ∧ ∃ t, r = .bytes (#[40] ++ q ++ #[41]) t) := by
  k_fill
  unfold KRet
  intro mean mg mb dp un gd cn cs a ccd cl outer A₀ base h₀ L m s Q B F X N T hk hd hu hret
  refine wpK_call ?_
  k_dflt (refine' code_defK (binds := [(Str.ofString "tree", .ref b)]) ?k1 ?k2 ?k3 ?k4 ?k5 ?kA ?kF ?kK ?k6 ?k7 ?k8 ?k9 ?kB ?_ ?c2 ?c3 ?c4 ?c5; (case kA => exact rfl); (case kF => exact rfl); (case kK => assumption); (case k1 => k_asm); (case k2 => k_asm); (case k3 => k_asm); (case k4 => k_asm); (case k5 => k_asm); (case k6 => k_is); (case k7 => k_is); (case k8 => ktr_room); (case k9 => first | exact BindsTo.of_eq rfl | exact binds_K (by k_in) rfl (by k_is) rfl rfl rfl); (case c5 => decide); (case kB => exact locs rfl); (case c2 => exact rfl); (case c3 => exact rfl); (case c4 => exact rfl); k_whole; intro g' L' h' FG' F' N' B' X' T'; (try dsimp only); (try k_fold))
  repeat' (first | (k_unfold; (try dsimp only)) | (first | walk1 | (dsimp only; walk1)) | fail "no step")
  all_goals (refine hret _ news _ _ (by k_asm) (by first | k_asm | exact ntl (by k_asm) | exact ntl (ntl (by k_asm)) | exact ntl (ntl (ntl (by k_asm)))) ⟨rfl, _, rfl⟩)
end Mine
end
section
open PySem PySem.W PySem.Calls PyProof.Rows
namespace Mine
theorem reg73 : True := by
  w_top off
  k_with_none
  trivial
noncomputable abbrev KeyOk (w : World) (f : Addr) (n : Nat) (news : List (Addr × Obj)) (v : Value) (b : Array UInt8) : Prop :=
  KRet PySem.Challenge.rw_nz0288_01.row.prog w (Mine.top.heap_1_39 w.params) Mine.top.view_1_40 LS f n news [v] (fun news' r => news' = news ∧ ∃ t, r = .bytes b t)
theorem kret_need {prog : Program} {w : World} {K : Frag} {p : Program} {loose : List Str} {f : Addr} {n n' : Nat} {news : List (Addr × Obj)} {vs : List Value} {Post : List (Addr × Obj) → Value → Prop} (C : KRet prog w K p loose f n news vs Post) (h : n ≤ n') : KRet prog w K p loose f n' news vs Post := by
  intro mean mg mb dp un gd cn cs a ccd cl outer A₀ base h₀ L m s Q B F X N T hk hd hu hret
  exact kret_use C B F X N T hk (by omega) (by omega) hret
theorem unQ_non : ∀ {t : Tree} {k : Array UInt8}, isFlag t = false → unQ t k = #[78, 79, 84, 32] ++ k
  | .leaf l, k, h => by cases l <;> first | rfl | cases h
  | .not _, _, _ => rfl
  | .and _ _, _, _ => rfl
  | .or _ _, _, _ => rfl
theorem key_of_leaf (w : World) (news : List (Addr × Obj)) (l : Leaf) (v : Value) (hT : IsTree news (.leaf l) v) : KeyOk w 247 7 news v (keyQ (.leaf l)) := by
  obtain ⟨b, vs, rfl, hm, hv⟩ := hT
  by_cases hl : l = .all
  · subst hl
    obtain ⟨t, rfl⟩ := hv
    exact key_all w news b t hm
  · have hv' := hv
    obtain ⟨k, u, rest, e, q1, q2, q3, q4⟩ := leafHead hv hl
    exact key_leaf w news b l vs k u rest hm hv' hl (e ▸ hm) q1 q2 q3 q4
theorem show_key (w : World) : ∀ (d : Nat), d ≤ 3 → ∀ (Tr : Tree), depth Tr ≤ d → ∀ (news : List (Addr × Obj)) (v : Value), IsTree news Tr v → KeyOk w 247 (7 + 2 * d) news v (keyQ Tr) := by
  intro d
  induction d with
  | zero =>
    intro _ Tr hd news v hT
    cases Tr with
    | leaf l => exact key_of_leaf w news l v hT
    | not t => exact absurd hd (by show ¬ depth t + 1 ≤ 0; omega)
    | and l r => exact absurd hd (by show ¬ max (depth l) (depth r) + 1 ≤ 0; omega)
    | or l r => exact absurd hd (by show ¬ max (depth l) (depth r) + 1 ≤ 0; omega)
  | succ d ih =>
    intro h3 Tr hd news v hT
    have IH := ih (by omega)
    cases Tr with
    | leaf l => exact kret_need (key_of_leaf w news l v hT) (by omega)
    | not t =>
      have hdt : depth t ≤ d := by have : depth t + 1 ≤ d + 1 := hd; omega
      obtain ⟨b, u, x, rfl, hm, hx⟩ := hT
      cases hf : isFlag t with
      | true =>
        cases t with
        | leaf l =>
          cases l with
          | flag i =>
            obtain ⟨c, vs, rfl, hm2, hi, t1, v1, rfl⟩ := hx
            exact kret_need (key_notflag w news b i u t1 v1 c hi hm hm2) (by omega)
          | _ => cases hf
        | _ => cases hf
      | false =>
        have hx0 := hx
        obtain ⟨c, k, u2, rest, rfl, hm2, q1⟩ := nonFlag hf hx
        have e : keyQ (.not t) = #[78, 79, 84, 32] ++ keyQ t := unQ_non hf
        rw [e]
        exact kret_need (key_not w news b (7 + 2 * d) u u2 c k rest (keyQ t) hm hm2 q1 (Nat.le_trans (size_le hx0.fine (by omega)).1 (by decide)) (fun n2 hs => IH t hdt n2 _ (hx0.mono hs))) (by omega)
    | or l r =>
      have hdl : max (depth l) (depth r) + 1 ≤ d + 1 := hd
      obtain ⟨b, u, x, y, rfl, hm, hx, hy⟩ := hT
      exact kret_need (key_or w news b (7 + 2 * d) u x y (keyQ l) (keyQ r) hm (Nat.le_trans (size_le hx.fine (by omega)).1 (by decide)) (Nat.le_trans (size_le hy.fine (by omega)).1 (by decide))
        (fun n2 hs => IH l (by omega) n2 _ (hx.mono hs)) (fun n2 hs => IH r (by omega) n2 _ (hy.mono hs))) (by omega)
    | and l r =>
      have hT0 := hT
      have hdl : max (depth l) (depth r) + 1 ≤ d + 1 := hd
      have hd3 : depth (.and l r) ≤ 3 := by omega
      obtain ⟨b, u, x, y, rfl, hm, hx, hy⟩ := hT
      exact kret_need (key_and w news b (7 + 2 * d + 1) u x y (qryQ (.and l r)) hm (Nat.le_trans (size_le hT0.fine hd3).2 (by decide))
        (fun n2 hs => show_query_of w n2 (.and l r) (.ref b) (7 + 2 * d) (by omega) (hT0.mono hs) hd3 fun p hp n3 v3 hp3 => IH p (by have := row_depth (.and l r) p hp rfl; omega) n3 v3 hp3)) (by omega)
theorem row_depth_le : ∀ T : Tree, ∀ p ∈ rowOf T, depth p ≤ depth T := by
  intro T p hp
  cases ha : isAnd T with
  | true => exact Nat.le_of_lt (row_depth T p hp ha)
  | false => rw [row_non ha] at hp; have : p = T := by simpa using hp
             rw [this]
             exact Nat.le_refl _
theorem show_query (w : World) (news : List (Addr × Obj)) (Tr : Tree) (v : Value) (hT : IsTree news Tr v) (hd : depth Tr ≤ 3) : KeyOk w 252 14 news v (qryQ Tr) :=
  show_query_of w news Tr v 13 (by decide) hT hd fun p hp n3 v3 hp3 => show_key w 3 (Nat.le_refl _) p (Nat.le_trans (row_depth_le Tr p hp) hd) n3 v3 hp3
end Mine
end
section
open PySem PySem.W PySem.Calls PyProof.Rows
namespace Mine
theorem reg74 : True := by
  w_top off
  (k_with "execs cons" => (k_here; dsimp only))
  (k_with "execs nil" => (k_here; dsimp only))
  (k_with "subscriptTail Name Constant ref int" => (k_here; k_dflt (first
  | (refine' topTup_K ?hz_F ?hz_X ?hz_l ?hz_a ?hz_b ?hz_c ?hz_d ?_; (case hz_F => k_asm); (case hz_X => k_asm); (case hz_l => k_is); (case hz_a => decide); (case hz_b => decide); (case hz_c => rfl); (case hz_d => rfl))
  | (refine' item_tupleT (News.isTup (by k_asm) (by k_mem)) ?hz_a ?hz_b ?hz_c ?hz_d ?_; (case hz_a => decide); (case hz_b => decide); (case hz_c => rfl); (case hz_d => rfl); k_whole)
  | (refine' item_litK (News.isList (by k_asm) (by k_mem)) ?hz_a ?hz_b ?hz_d ?_; (case hz_a => decide); (case hz_b => decide); (case hz_d => rfl); k_whole))))
  (k_with "subscriptTail Name UnaryOp ref int" => (k_here; k_dflt (first
  | (refine' topTup_K ?hz_F ?hz_X ?hz_l ?hz_a ?hz_b ?hz_c ?hz_d ?_; (case hz_F => k_asm); (case hz_X => k_asm); (case hz_l => k_is); (case hz_a => decide); (case hz_b => decide); (case hz_c => rfl); (case hz_d => rfl))
  | (refine' item_tupleT (News.isTup (by k_asm) (by k_mem)) ?hz_a ?hz_b ?hz_c ?hz_d ?_; (case hz_a => decide); (case hz_b => decide); (case hz_c => rfl); (case hz_d => rfl); k_whole))))
  (k_with "call type:bytes cons nil" => (k_here; (with_reducible show wpAny _ _ (call (Value.type "bytes") [Value.bytes _ _]) _ _ _); k_dflt (refine bytes_of_bytes ?_)))
  (k_with "binaryOp Add bytes bytes" => (k_here; k_dflt (refine' KBy.add_bytes ?hz_sz ?_); (case hz_sz => ((try simp only [Array.size_append, List.size_toArray, List.length_cons, List.length_nil]); omega)); intro t9 k9; (try dsimp only)))
  trivial
noncomputable abbrev lawSpec : Array UInt8 := #[40, 41, 123, 37, 42, 34, 92]
noncomputable def plainP (c : UInt8) : Bool := decide (33 ≤ c.toNat) && decide (c.toNat ≤ 126) && !(lawSpec.contains c)
noncomputable def badP (c : UInt8) : Bool := !(decide (32 ≤ c.toNat) && decide (c.toNat ≤ 126))
noncomputable abbrev escS : Array UInt8 := #[34, 92]
noncomputable def escB (c : UInt8) : Array UInt8 := if escS.contains c = true then #[92] ++ #[c] else #[c]
theorem back8 (c : UInt8) : ((c.toNat : Int)).toNat.toUInt8 = c := by simp
theorem pl_no1 {c : UInt8} (h : ¬ 33 ≤ (c.toNat : Int)) : false = plainP c := by
  have : ¬ 33 ≤ c.toNat := by omega
  simp [plainP, this]
theorem pl_no2 {c : UInt8} (h : ¬ (c.toNat : Int) ≤ 126) : false = plainP c := by
  have : ¬ c.toNat ≤ 126 := by omega
  simp [plainP, this]
theorem pl_no3 {c : UInt8} (h : lawSpec.contains ((c.toNat : Int)).toNat.toUInt8 = true) : false = plainP c := by
  rw [back8] at h
  unfold plainP
  rw [h]
  simp
theorem pl_yes {c : UInt8} (h1 : 33 ≤ (c.toNat : Int)) (h2 : (c.toNat : Int) ≤ 126) (h : lawSpec.contains ((c.toNat : Int)).toNat.toUInt8 = false) : true = plainP c := by
  rw [back8] at h
  have q1 : 33 ≤ c.toNat := by omega
  have q2 : c.toNat ≤ 126 := by omega
  unfold plainP
  rw [h]
  simp [q1, q2]
theorem byteArr1 (c : UInt8) : byteArr [(c.toNat : Int)] = #[c] := by simp [byteArr]
theorem esc_yes {c : UInt8} (h : escS.contains ((c.toNat : Int)).toNat.toUInt8 = true) : (#[92] : Array UInt8) ++ byteArr [(c.toNat : Int)] = escB c := by
  rw [back8] at h
  unfold escB
  rw [if_pos h, byteArr1]
theorem esc_no {c : UInt8} (h : escS.contains ((c.toNat : Int)).toNat.toUInt8 = false) : byteArr [(c.toNat : Int)] = escB c := by
  rw [back8] at h
  unfold escB
  rw [if_neg (ne_true_of_eq_false h), byteArr1]
theorem AllAre.bytes {α : Type} {g : α → Array UInt8} : ∀ {vs : List Value} {cs : List α}, AllAre Value.bytes g vs cs → BytesAre vs (cs.map g)
  | _, _, .nil => .nil
  | _, _, .cons c t r => .cons (g c) t r.bytes
theorem In_one {c : UInt8} : KBa.In [(c.toNat : Int)] := by
  intro n hn
  have := c.toNat_lt
  have : n = (c.toNat : Int) := by simpa using hn
  omega
theorem len_all {prog : Program} {w : World} {A : Around} {E : Value → Shared → Prop} {s : Shared} {h₀ : Heap} {L l : Addr} {news : List (Addr × Obj)} {α β : Type} {mk : β → Tok → Value} {g : α → β} {ys : List Value} {cs : List α} {Q : Value → Shared → Prop} (N : News h₀ L s.heap news) (hm : (l, LCg.lst ys) ∈ news) (hy : AllAre mk g ys cs) (hfit : cs.length ≤ 1000)
    (h : ∀ t k, Q (.int (cs.length : Int) t) { s with toks := k }) : wpAny (model prog w) A (call (.builtin "len") [.ref l]) Q E s := by
  refine len_list (News.isList N hm) ?_ ?_
  · rw [List.size_toArray, hy.len]
    omega
  · rw [List.size_toArray, hy.len]
    exact h _ _
theorem filter_le {b : Array UInt8} {p : UInt8 → Bool} (hb : b.size ≤ 100) : (b.toList.filter p).length ≤ 1000 := by
  have := List.length_filter_le p b.toList
  have e : b.toList.length = b.size := by simp
  omega
noncomputable def lawText (b : Array UInt8) : Array UInt8 :=
  if 0 < (b.size : Int) ∧ (b.size : Int) ≤ 72 ∧ ((b.toList.filter plainP).length : Int) = (b.size : Int) ∧ (b.toList != [78, 73, 76]) = true then b
  else if (b.size : Int) ≤ 72 ∧ (b.toList.filter badP).map (fun c : UInt8 => (c.toNat : Int)) = [] then #[34] ++ joinB #[] (b.toList.map escB) ++ #[34]
  else #[123] ++ octs (figs b.size) ++ #[125, 13, 10] ++ b
noncomputable abbrev lt_c1 (b : Array UInt8) : Prop := 0 < (b.size : Int) ∧ (b.size : Int) ≤ 72 ∧ ((b.toList.filter plainP).length : Int) = (b.size : Int) ∧ (b.toList != [78, 73, 76]) = true
theorem lt_1 {b : Array UInt8} (h1 : 0 < (b.size : Int)) (h2 : (b.size : Int) ≤ 72) (h3 : ((b.toList.filter plainP).length : Int) = (b.size : Int)) (h4 : (b.toList != [78, 73, 76]) = true) : b = lawText b := by
  unfold lawText; rw [if_pos ⟨h1, h2, h3, h4⟩]
theorem lt_2 {b : Array UInt8} (hn : ¬ lt_c1 b) (h2 : (b.size : Int) ≤ 72) (h3 : (b.toList.filter badP).map (fun c : UInt8 => (c.toNat : Int)) = []) : #[34] ++ joinB #[] (b.toList.map escB) ++ #[34] = lawText b := by
  unfold lawText
  rw [if_neg hn, if_pos ⟨h2, h3⟩]
theorem lt_3 {b : Array UInt8} (hn : ¬ lt_c1 b) (hm : ¬ ((b.size : Int) ≤ 72 ∧ (b.toList.filter badP).map (fun c : UInt8 => (c.toNat : Int)) = [])) : #[123] ++ octs (figs b.size) ++ #[125, 13, 10] ++ b = lawText b := by
  unfold lawText
  rw [if_neg hn, if_neg hm]
theorem esc_size {b : Array UInt8} (hb : b.size ≤ 100) : ((b.toList.map escB).map (·.size)).sum + (b.toList.map escB).length * (#[] : Array UInt8).size ≤ 1000 := by
  have e : ∀ l : List UInt8, ((l.map escB).map (·.size)).sum ≤ 2 * l.length := by
    intro l
    induction l with
    | nil => exact Nat.le_refl _
    | cons c r ih =>
      have : (escB c).size ≤ 2 := by unfold escB; split <;> simp
      simp only [List.map_cons, List.sum_cons, List.length_cons]
      omega
  have := e b.toList
  have h2 : b.toList.length = b.size := by simp
  have h3 : (#[] : Array UInt8).size = 0 := rfl
  rw [h3, Nat.mul_zero]
  omega
theorem join_esc {b : Array UInt8} (hb : b.size ≤ 100) : (joinB #[] (b.toList.map escB)).size ≤ 1000 := Nat.le_trans (join_size_le _ _) (esc_size hb)
theorem reg75 : True := by
  (k_with "exec Assign cons ListComp" => (k_here; k_dflt (refine lca_test (by k_asm) (by rfl) (by rfl) (by decide) (by rfl) (by decide) (by rfl) (by rfl) (by rfl) (by intro _; rfl) ?_)))
  (k_with "compareOp NotIn int bytes" => (k_here; k_dflt (refine notin_bytes (by omega) (by omega) ?_)))
  (k_with "compareOp In int bytes" => (k_here; k_dflt (refine in_bytes (by omega) (by omega) ?_)))
  (k_with "eval ListComp" => (k_here; (with_reducible show wpAny _ _ (eval (Expr.ListComp _ [⟨_, _, [], _⟩] _ _) _) _ _ _); k_dflt (refine lc_any (by k_asm) (by rfl) (by decide) (by rfl) (by decide) (by rfl) (by intro _; rfl) ?_)))
  (k_with "eval ListComp" => (k_here; (with_reducible show wpAny _ _ (eval (Expr.ListComp _ [⟨_, _, [_], _⟩] _ _) _) _ _ _); k_dflt (refine lc_test (by k_asm) (by rfl) (by decide) (by rfl) (by decide) (by rfl) (by intro _; rfl) ?_)))
  (k_with "Src" => (k_here; (with_reducible show Src _ _ _ _ _ _ _ (fun S n P news s₂ => LCt.CompRestT _ _ _ _ _ _ _ (Expr.BoolOp _ _ _) _ _ _ _ _ _ _ _ _ _ _ _) _ _); k_dflt (refine' src_bytesG _ Value.int (fun c : UInt8 => (c.toNat : Int)) plainP (by rfl) ?hz_F ?hz_N ?hz_sz (fun c' t' I' oI' C' oC' D' m' ys' h' tk' E' hm' hC' hx' F' N' off' ne' => ?_) (fun c' t' I' oI' C' oC' D' m' ys' h' tk' E' hm' hp' hC' hx' F' N' off' ne' => ?_) (fun g' ys' hy' => ?_); (case hz_F => k_asm); (case hz_N => k_asm); (case hz_sz => rw [sizeLine_eq]; omega)); (all_goals (try (have hcl' := c'.toNat_lt)))))
  (k_with "Src" => (k_here; (with_reducible show Src _ _ _ _ _ _ _ (fun S n P news s₂ => LCt.CompRestT _ _ _ _ _ _ _ (Expr.UnaryOp _ _ _) _ _ _ _ _ _ _ _ _ _ _ _) _ _); k_dflt (refine' src_bytesG _ Value.int (fun c : UInt8 => (c.toNat : Int)) badP (by rfl) ?hz_F ?hz_N ?hz_sz (fun c' t' I' oI' C' oC' D' m' ys' h' tk' E' hm' hC' hx' F' N' off' ne' => ?_) (fun c' t' I' oI' C' oC' D' m' ys' h' tk' E' hm' hp' hC' hx' F' N' off' ne' => ?_) (fun g' ys' hy' => ?_); (case hz_F => k_asm); (case hz_N => k_asm); (case hz_sz => rw [sizeLine_eq]; omega))))
  (k_with "Src" => (k_here; (with_reducible show Src _ _ _ _ _ _ _ (fun S n P news s₂ => LCg.CompRest _ _ _ _ _ _ _ _ _ _ _ _ _ _ _ _ _ _ _) (Value.bytes _ _) _); k_dflt (refine' src_bytes Value.bytes escB (by rfl) ?hz_F ?hz_N ?hz_sz (fun c' t' I' oI' C' oC' D' m' ys' h' tk' E' hm' hC' hx' F' N' off' ne' => ?_) (fun g' ys' hy' => ?_); (case hz_F => k_asm); (case hz_N => k_asm); (case hz_sz => rw [sizeLine_eq]; omega)); (all_goals (try (have hcl' := c'.toNat_lt)))))
  (k_with "Src" => (k_here; (with_reducible show Src _ _ _ _ _ _ _ (fun S n P news s₂ => LCg.CompRest _ _ _ _ _ _ _ _ _ _ _ _ _ _ _ _ _ _ _) (Value.str _ _) _); k_dflt (refine' src_str Value.int (fun c : Nat => (c : Int)) (by rfl) ?hz_F ?hz_N ?hz_sz (fun c' t' I' oI' C' oC' D' m' ys' h' tk' E' hm' hC' hx' F' N' off' ne' => ?_) (fun g' ys' hy' => ?_); (case hz_F => k_asm); (case hz_N => k_asm); (case hz_sz => rw [sizeLine_eq]; exact Nat.le_trans (figs_len (by omega)) (by decide)))))
  (k_with "TestOk" => (refine ⟨?_, _, _, rfl, by k_asm, by k_asm⟩; first | exact pl_no1 (by assumption) | exact pl_no2 (by assumption) | exact pl_no3 (by assumption) | exact pl_yes (by assumption) (by assumption) (by assumption) | (rw [Bool.eq_iff_iff]; simp [badP]; omega)))
  (k_with "TurnOk" => first | exact ⟨_, _, _, rfl, by k_asm, by k_asm, rfl⟩ | exact ⟨_, _, _, rfl, by k_asm, ntl (by k_asm), turn_bytes (esc_yes (by assumption))⟩ | exact ⟨_, _, _, rfl, by k_asm, ntl (by k_asm), turn_bytes (esc_no (by assumption))⟩)
  (k_with "call builtin:len cons nil" => (k_here; (with_reducible show wpAny _ _ (call (Value.builtin "len") [Value.ref _]) _ _ _); k_dflt (refine' len_all ?hz_N ?hz_m ?hz_y (filter_le (by assumption)) ?_; (case hz_N => k_asm); (case hz_m => k_mem); (case hz_y => assumption)); intro t' k'))
  (k_with "compareOp Eq ref ref" => (k_here; k_dflt (refine' ke_eq_ints ?hz_a ?hz_b (AllAre.ints ?hz_c) (ys := []) IntsAre.nil ?hz_u ?_; (case hz_a => exact News.isList (by k_asm) (by k_mem)); (case hz_b => exact News.isList (by k_asm) (by k_mem)); (case hz_c => assumption); (case hz_u => ktr_units))))
  (k_with "call type:bytes cons nil" => (k_here; (with_reducible show wpAny _ _ (call (Value.type "bytes") [Value.ref _]) _ _ _); k_dflt (refine' KBa.make_K ?hz_F ?hz_N (by rfl) ?hz_l (IntsAre.cons _ _ .nil) In_one ?hz_z ?_; (case hz_F => k_asm); (case hz_N => k_asm); (case hz_l => exact News.isList (by k_asm) (by k_mem)); (case hz_z => decide)); intro h' t' k' F' N' _; (try k_sweep)))
  (k_with "call type:bytes cons nil" => (k_here; (with_reducible show wpAny _ _ (call (Value.type "bytes") [Value.ref _]) _ _ _); k_dflt (refine' KBa.make_K ?hz_F ?hz_N (by rfl) ?hz_l (AllAre.ints ?hz_c) (In_octs (figs_lt _)) ?hz_z ?_; (case hz_F => k_asm); (case hz_N => k_asm); (case hz_l => exact News.isList (by k_asm) (by k_mem)); (case hz_c => assumption); (case hz_z => (rw [List.length_map, Array.length_toList]; exact Nat.le_trans (figs_len (by omega)) (by decide)))); intro h' t' k' F' N' _; rw [byteArr_octs]; (try k_sweep)))
  (k_with "getMethod bytes" => (k_here; k_dflt (refine method_join ?_)))
  (k_with "call builtin:bytes.join" => (k_here; k_dflt (refine' call_join (News.isList (by k_asm) (by k_mem)) (AllAre.bytes (by assumption)) (Nat.le_trans (esc_size (by assumption)) (by decide)) ?_); intro t' k'))
  trivial
set_option maxRecDepth 100000 in
set_option maxHeartbeats 8000000 in
theorem law_text (w : World) (news : List (Addr × Obj)) (b : Array UInt8) (tb : Tok) (hb : b.size ≤ 100) :
   Ret PySem.Challenge.rw_nz0288_01.row.prog w (Mine.top.heap_1_39 w.params) Mine.top.view_1_40 LS 288 10 news [.bytes b tb]
     (fun news' r => news' = news ∧ ∃ t, r = .bytes (lawText b) t) := by
  k_fill
  unfold Ret
  intro mean mg mb dp un gd cn cs a ccd cl outer A₀ base h₀ L m s Q E B F X N T hk hd hu hret
  have hfs : (octs (figs b.size)).size ≤ 1000 := by rw [octs_size]; exact figs_len (by omega)
  have hje := join_esc hb
  refine wpAny_call ?_
  k_dflt (refine' code_def (binds := [(Str.ofString "octets", .bytes b tb)]) ?k1 ?k2 ?k3 ?k4 ?k5 ?kA ?kF ?kK ?k6 ?k7 ?k8 ?k9 ?kB ?_ ?c2 ?c3 ?c4 ?c5; (case kA => exact rfl); (case kF => exact rfl); (case kK => assumption); (case k1 => k_asm); (case k2 => k_asm); (case k3 => k_asm); (case k4 => k_asm); (case k5 => k_asm); (case k6 => k_is); (case k7 => k_is); (case k8 => ktr_room); (case k9 => first | exact BindsTo.of_eq rfl | exact binds_K (by k_in) rfl (by k_is) rfl rfl rfl); (case c5 => decide); (case kB => exact locs rfl); (case c2 => exact rfl); (case c3 => exact rfl); (case c4 => exact rfl); k_whole; intro g' L' h' FG' F' N' B' X' T'; (try dsimp only); (try k_fold))
  repeat' (first | (k_unfold; (try dsimp only)) | (first | walk1 | (dsimp only; walk1)) | fail "no step")
  all_goals (refine hret _ news _ _ (by k_asm) (by first | k_asm | exact ntl (by k_asm) | exact ntl (ntl (by k_asm)) | exact ntl (ntl (ntl (by k_asm))) | exact ntl (ntl (ntl (ntl (by k_asm)))) | exact ntl (ntl (ntl (ntl (ntl (by k_asm)))))) ⟨rfl, _, turn_bytes ?_⟩)
  all_goals first
    | ((with_reducible refine lt_1 ?_ ?_ ?_ ?_) <;> assumption)
    | (with_reducible refine lt_2 ?g1 ?g2 ?g3
       case g2 => omega
       case g3 => exact of_decide_eq_true (by assumption)
       case g1 =>
         rintro ⟨q1, q2, q3, q4⟩
         first | exact absurd q1 (by assumption) | exact absurd q3 (by assumption) | exact absurd q4 (ne_true_of_eq_false (by assumption)) | omega)
    | (with_reducible refine lt_3 (fun ⟨q1, q2, q3, q4⟩ => ?_) (fun ⟨q1, q2⟩ => ?_)
       · first | exact absurd q1 (by assumption) | exact absurd q2 (by assumption) | exact absurd q3 (by assumption) | exact absurd q4 (ne_true_of_eq_false (by assumption)) | omega
       · first | exact absurd q1 (by assumption) | exact absurd (decide_eq_true q2) (ne_true_of_eq_false (by assumption)) | omega)
    | fail
end Mine
end
section
open PySem PySem.W PySem.Calls PyProof.Rows
namespace Mine
theorem reg76 : True := by
  w_top off
  k_with_none
  (k_with "execs cons" => (k_here; dsimp only))
  (k_with "execs nil" => (k_here; dsimp only))
  (k_with "subscriptTail Name Constant ref int" => (k_here; k_dflt (first
  | (refine' topTup_K ?hz_F ?hz_X ?hz_l ?hz_a ?hz_b ?hz_c ?hz_d ?_; (case hz_F => k_asm); (case hz_X => k_asm); (case hz_l => k_is); (case hz_a => decide); (case hz_b => decide); (case hz_c => rfl); (case hz_d => rfl))
  | (refine' item_tupleT (News.isTup (by k_asm) (by k_mem)) ?hz_a ?hz_b ?hz_c ?hz_d ?_; (case hz_a => decide); (case hz_b => decide); (case hz_c => rfl); (case hz_d => rfl); k_whole)
  | (refine' item_litK (News.isList (by k_asm) (by k_mem)) ?hz_a ?hz_b ?hz_d ?_; (case hz_a => decide); (case hz_b => decide); (case hz_d => rfl); k_whole))))
  (k_with "subscriptTail Name UnaryOp ref int" => (k_here; k_dflt (first
  | (refine' topTup_K ?hz_F ?hz_X ?hz_l ?hz_a ?hz_b ?hz_c ?hz_d ?_; (case hz_F => k_asm); (case hz_X => k_asm); (case hz_l => k_is); (case hz_a => decide); (case hz_b => decide); (case hz_c => rfl); (case hz_d => rfl))
  | (refine' item_tupleT (News.isTup (by k_asm) (by k_mem)) ?hz_a ?hz_b ?hz_c ?hz_d ?_; (case hz_a => decide); (case hz_b => decide); (case hz_c => rfl); (case hz_d => rfl); k_whole))))
  (k_with "call type:bytes cons nil" => (k_here; (with_reducible show wpAny _ _ (call (Value.type "bytes") [Value.bytes _ _]) _ _ _); k_dflt (refine bytes_of_bytes ?_)))
  (k_with "binaryOp Add bytes bytes" => (k_here; k_dflt (refine' KBy.add_bytes ?hz_sz ?_); (case hz_sz => ((try simp only [Array.size_append, List.size_toArray, List.length_cons, List.length_nil]); omega)); intro t9 k9; (try dsimp only)))
  trivial
/-- the tuple of the ten octets -/
noncomputable def octTup (t0 t1 t2 t3 t4 t5 t6 t7 t8 t9 : Tok) : Obj := tup [.bytes (octA 0) t0, .bytes (octA 1) t1, .bytes (octA 2) t2, .bytes (octA 3) t3, .bytes (octA 4) t4, .bytes (octA 5) t5, .bytes (octA 6) t6, .bytes (octA 7) t7, .bytes (octA 8) t8, .bytes (octA 9) t9]
theorem ltD {D : Addr} {news : List (Addr × Obj)} (h : ∀ p ∈ news, p.1 < D) : ∀ p ∈ news, p.1 ≠ D := fun p hp => Nat.ne_of_lt (h p hp)
set_option maxRecDepth 100000 in
set_option maxHeartbeats 8000000 in
theorem law_octets (w : World) (news : List (Addr × Obj)) :
   Ret PySem.Challenge.rw_nz0288_01.row.prog w (Mine.top.heap_1_39 w.params) Mine.top.view_1_40 LS 259 1 news []
     (fun news' r => ∃ (D : Addr) (t0 t1 t2 t3 t4 t5 t6 t7 t8 t9 : Tok), news' = (D, octTup t0 t1 t2 t3 t4 t5 t6 t7 t8 t9) :: news ∧ r = .ref D ∧ ∀ p ∈ news, p.1 ≠ D) := by
  k_fill
  unfold Ret
  intro mean mg mb dp un gd cn cs a ccd cl outer A₀ base h₀ L m s Q E B F X N T hk hd hu hret
  refine wpAny_call ?_
  k_dflt (refine' code_def (binds := []) ?k1 ?k2 ?k3 ?k4 ?k5 ?kA ?kF ?kK ?k6 ?k7 ?k8 ?k9 ?kB ?_ ?c2 ?c3 ?c4 ?c5; (case kA => exact rfl); (case kF => exact rfl); (case kK => assumption); (case k1 => k_asm); (case k2 => k_asm); (case k3 => k_asm); (case k4 => k_asm); (case k5 => k_asm); (case k6 => k_is); (case k7 => k_is); (case k8 => ktr_room); (case k9 => first | exact BindsTo.of_eq rfl | exact binds_K (by k_in) rfl (by k_is) rfl rfl rfl); (case c5 => decide); (case kB => exact locs rfl); (case c2 => exact rfl); (case c3 => exact rfl); (case c4 => exact rfl); k_whole; intro g' L' h' FG' F' N' B' X' T'; (try dsimp only); (try k_fold))
  repeat' (first | (k_unfold; (try dsimp only)) | (first | walk1 | (dsimp only; walk1)) | fail "no step")
  all_goals (refine hret _ _ _ _ (by k_asm) (by k_asm) ⟨_, _, _, _, _, _, _, _, _, _, _, rfl, rfl, ltD (by assumption)⟩)
end Mine
end
section
open PySem PySem.W PySem.Calls PyProof.Rows
namespace Mine
theorem reg77 : True := by
  w_top off
  k_with_none
  trivial
end Mine
set_option maxRecDepth 100000
namespace Mine
theorem law_astr (o : Nat) (ho : o < 10) : lawText (octA o) = astrOcts (octA o) := by
  rcases o with _ | _ | _ | _ | _ | _ | _ | _ | _ | _ | o <;> first | (exfalso; omega) | decide +kernel
theorem xa_astr : astrOcts (octs (Str.ofString "x-a")) = #[120, 45, 97] := by decide +kernel
end Mine
end
section
open PySem PySem.W PySem.Calls PyProof.Rows
namespace Mine
theorem reg78 : True := by
  w_top off
  (k_with "execs cons" => (k_here; dsimp only))
  (k_with "execs nil" => (k_here; dsimp only))
  (k_with "subscriptTail Name Constant ref int" => (k_here; k_dflt (first
  | (refine' topTup_K ?hz_F ?hz_X ?hz_l ?hz_a ?hz_b ?hz_c ?hz_d ?_; (case hz_F => k_asm); (case hz_X => k_asm); (case hz_l => k_is); (case hz_a => decide); (case hz_b => decide); (case hz_c => rfl); (case hz_d => rfl))
  | (refine' item_tupleT (News.isTup (by k_asm) (by k_mem)) ?hz_a ?hz_b ?hz_c ?hz_d ?_; (case hz_a => decide); (case hz_b => decide); (case hz_c => rfl); (case hz_d => rfl); k_whole)
  | (refine' item_litK (News.isList (by k_asm) (by k_mem)) ?hz_a ?hz_b ?hz_d ?_; (case hz_a => decide); (case hz_b => decide); (case hz_d => rfl); k_whole))))
  (k_with "subscriptTail Name UnaryOp ref int" => (k_here; k_dflt (first
  | (refine' topTup_K ?hz_F ?hz_X ?hz_l ?hz_a ?hz_b ?hz_c ?hz_d ?_; (case hz_F => k_asm); (case hz_X => k_asm); (case hz_l => k_is); (case hz_a => decide); (case hz_b => decide); (case hz_c => rfl); (case hz_d => rfl))
  | (refine' item_tupleT (News.isTup (by k_asm) (by k_mem)) ?hz_a ?hz_b ?hz_c ?hz_d ?_; (case hz_a => decide); (case hz_b => decide); (case hz_c => rfl); (case hz_d => rfl); k_whole))))
  (k_with "call type:bytes cons nil" => (k_here; (with_reducible show wpAny _ _ (call (Value.type "bytes") [Value.bytes _ _]) _ _ _); k_dflt (refine bytes_of_bytes ?_)))
  (k_with "binaryOp Add bytes bytes" => (k_here; k_dflt (refine' KBy.add_bytes ?hz_sz ?_); (case hz_sz => ((try simp only [Array.size_append, List.size_toArray, List.length_cons, List.length_nil]); omega)); intro t9 k9; (try dsimp only)))
  trivial
theorem pow18 : (10 : Int) ^ Int.toNat 18 = 1000000000000000000 := by decide
theorem reg79 : True := by
  (k_with "call ref" => (k_here; (with_reducible show wpAny _ _ (call (Value.ref 283) _) _ _ _); (try rw [pow18]); k_dflt (refine' ret_use (draw _ _ _ _ _ _ _ _ _ _ _ _ _ _ _ _ ?hz_a1 ?hz_a2 ?hz_a3 ?hz_a4 ?hz_a5 ?hz_a6 ?hz_a7 ?hz_a8 ?hz_a9 ?hz_b1 ?hz_b2) ?hz_k1 ?hz_k2 ?hz_k3 ?hz_k4 ?hz_k5 ?hz_kK ?hz_kd ?hz_ku ?_; (case hz_k1 => k_asm); (case hz_k2 => k_asm); (case hz_k3 => k_asm); (case hz_k4 => first | k_asm | exact ntl (by k_asm) | exact ntl (ntl (by k_asm))); (case hz_k5 => k_asm); (case hz_kK => first | exact rfl | assumption); (case hz_a1 => assumption); (case hz_a2 => assumption); (case hz_a3 => omega); (case hz_a4 => omega); (case hz_a5 => omega); (case hz_a6 => omega); (case hz_a7 => omega); (case hz_a8 => omega); (case hz_a9 => omega); (case hz_b1 => assumption); (case hz_b2 => assumption); (case hz_kd => ktr_room); (case hz_ku => ktr_units)); intro r9 news9 h9 tk9 F9 N9 hp9; obtain ⟨d8, t8, p18, t18, p28, t28, t38, e8, e9, hd0, hd1, en, hp0, hp1, hp2⟩ := hp9; subst e9; subst en; (try ((rename _ < (1000000000000000000 : Int) => q9); obtain ⟨n9, hn9⟩ := Int.eq_ofNat_of_zero_le hd0; subst hn9; (have hq9 : n9 < 10 ^ 18 := by omega)))))
  trivial
theorem str_figs {prog : Program} {w : World} {A : Around} {E : Value → Shared → Prop} {s : Shared} {Q : Value → Shared → Prop} {n : Nat} {t : Tok} (hn : n < 10 ^ 18) (h : Q (.str (figs n) s.toks) { s with toks := s.toks + 1 }) : wpAny (model prog w) A (call (.type "str") [.int (n : Int) t]) Q E s := by
  refine P.str_of_int ?_ h
  have h2 : (n : Int).natAbs < 2 ^ 60 := by omega
  by_cases hz : (n : Int).natAbs = 0
  · rw [hz]; decide
  · exact Nat.lt_of_lt_of_le ((Nat.log2_lt hz).mpr h2) (by decide)
theorem app_len (x y : Str) : (x ++ y).length = x.length + y.length := by
  show (_ : Array Nat).size = _
  rw [cps_app, Array.size_append]
  rfl
theorem numT_len {x : Str} {n : Nat} (hx : x.length ≤ 20) (h : n < 10 ^ 18) : (x ++ figs n).length ≤ 1000 := by
  have e : (figs n).length = (Nat.repr n).length := by
    show (figs n).cps.size = _
    rw [← Array.length_toList, figs_cps]
    simp [Nat.repr]
  have h1 : (figs n).length ≤ 60 := by
    rw [e]
    exact nat_repr_length_le (k := 60) (by decide) (Nat.lt_of_lt_of_le h (by decide))
  rw [app_len]
  omega
theorem numT_lt {x : Str} {n : Nat} (hx : ∀ c ∈ x.cps.toList, c < 128) : ∀ c ∈ (x ++ figs n).cps.toList, c < 128 := by
  intro c hc
  rw [cps_app, Array.toList_append] at hc
  rcases List.mem_append.mp hc with h | h
  · exact hx c h
  · exact figs_lt n c h
theorem sz3 {a b : Nat} (ha : a ≤ 4000) (hb : b ≤ 4000) : a + b ≤ 16777216 := by omega
theorem lawT_size (o : Nat) : (lawText (octA o)).size ≤ 4000 := by
  by_cases h : o < 10
  · rw [law_astr o h]
    exact Nat.le_trans (astr_size (octA_size o)) (by decide)
  · have e : octA o = octA 9 := by
      obtain ⟨k, rfl⟩ : ∃ k, o = k + 10 := ⟨o - 10, by omega⟩
      rfl
    rw [e, law_astr 9 (by decide)]
    exact Nat.le_trans (astr_size (octA_size 9)) (by decide)
theorem header_eq {o : Nat} (ho : o < 10) : (#[72, 69, 65, 68, 69, 82, 32, 120, 45, 97, 32] : Array UInt8) ++ lawText (octA o) = leafQ (.header o) := by
  rw [law_astr o ho]
  show _ = (#[72, 69, 65, 68, 69, 82, 32] ++ astrOcts (octs (Str.ofString "x-a")) ++ #[32]) ++ astrOcts (octA o)
  exact congrArg (fun z => z ++ astrOcts (octA o)) (by rw [xa_astr]; decide)
theorem text_eq {k o : Nat} {x : Array UInt8} (ho : o < 10) (hx : x = octs (upText (txtW k) ++ Str.ofString " ")) : x ++ lawText (octA o) = leafQ (.text k o) := by
  rw [law_astr o ho, hx]
  rfl
theorem num_eq {k n : Nat} {x : Str} (hx : x = upText (numW k) ++ Str.ofString " ") : octs (x ++ figs n) = leafQ (.num k n) := by
  rw [hx]
  rfl
/-- what a drawn leaf leaves behind -/
noncomputable def LeafPost (P C : Addr) (cells : List Value) (p1 p3 : Int) (e' : Nat) (rest : List (Addr × Obj)) (news' : List (Addr × Obj)) (r : Value) : Prop :=
  ∃ (lf : Leaf) (vs : List Value) (b R : Addr) (t : Tok) (p1' : Int) (t1' : Tok) (p2' : Int) (t2' t3' : Tok) (e'' : Nat), r = .ref R ∧ leafVals lf vs ∧
       news' = (P, listOf #[.ref C, .int p1' t1', .int p2' t2', .int p3 t3'] e'') :: (C, listOf cells.toArray e') :: (R, tup [.ref b, .bytes (leafQ lf) t]) :: (b, tup vs) :: rest ∧ 0 ≤ p1' ∧ p1' ≤ p1 + 3 ∧ 0 ≤ p2' ∧ R ≠ P ∧ b ≠ P
theorem leaf_out {h₀ h : Heap} {L P C R b : Addr} {B : Array UInt8} {t t1 t2 t3 : Tok} {a1 a2 p1 p3 : Int} {e' e'' tk : Nat} {cells vs : List Value} {rest led : List (Addr × Obj)} {lf : Leaf} {m : Str → Option Value} {s : Shared} {Q : Value → Shared → Prop}
    (hret : ∀ r news' h' tk', Fr h₀ L h' m → News h₀ L h' news' → LeafPost P C cells p1 p3 e' rest news' r → Q r { s with heap := h', toks := tk' })
    (F : Fr h₀ L h m) (N : News h₀ L h led) (hR : (R, tup [.ref b, .bytes B t]) ∈ led) (hb : (b, tup vs) ∈ led) (hP : (P, listOf #[.ref C, .int a1 t1, .int a2 t2, .int p3 t3] e'') ∈ led) (hC : (C, listOf cells.toArray e') ∈ led) (hr : ∀ q ∈ rest, q ∈ led)
    (e : B = leafQ lf) (lv : leafVals lf vs) (q : 0 ≤ a1 ∧ a1 ≤ p1 + 3 ∧ 0 ≤ a2 ∧ @LT.lt Nat _ P R ∧ @LT.lt Nat _ P b) : Q (.ref R) { s with heap := h, toks := tk } := by
  subst e
  refine hret _ _ _ _ F (fun p hp => ?_) ⟨lf, vs, b, R, t, a1, t1, a2, t2, t3, e'', rfl, lv, rfl, q.1, q.2.1, q.2.2.1, Nat.ne_of_gt q.2.2.2.1, Nat.ne_of_gt q.2.2.2.2⟩
  rcases List.mem_cons.mp hp with rfl | hp
  · exact N _ hP
  rcases List.mem_cons.mp hp with rfl | hp
  · exact N _ hC
  rcases List.mem_cons.mp hp with rfl | hp
  · exact N _ hR
  rcases List.mem_cons.mp hp with rfl | hp
  · exact N _ hb
  exact N _ (hr _ hp)
theorem reg80 : True := by
  (k_with "call type:str cons nil" => (k_here; (with_reducible refine str_figs (by assumption) ?_)))
  trivial
theorem sz1 {a : Nat} (ha : a ≤ 1000) : a ≤ sizeLine := by rw [sizeLine_eq]; omega
section
variable {prog : Program} {w : World} {A : Around} {E : Value → Shared → Prop} {s : Shared} {value slice : Expr} {v : Value} {u : Tok} {Q : Value → Shared → Prop} {d : Int}
theorem reg81 : True := by
  (k_with "eval ListComp" => (k_here; k_dflt (refine lc_any (by k_asm) (by rfl) (by decide) (by rfl) (by decide) (by rfl) (by intro _; rfl) ?_)))
  (k_with "Src" => (k_here; k_dflt (refine' src_str Value.int (fun c : Nat => (c : Int)) (by rfl) ?hz_F ?hz_N ?hz_sz (fun c' t' I' oI' C' oC' D' m' ys' h' tk' E' hm' hC' hx' F' N' off' ne' => ?_) (fun g' ys' hy' => ?_); (case hz_F => k_asm); (case hz_N => k_asm); (case hz_sz => exact sz1 (by first | decide +kernel | exact numT_len (by decide +kernel) (by assumption))))))
  (k_with "TurnOk" => exact ⟨_, _, _, rfl, by k_asm, by k_asm, rfl⟩)
  (k_with "call type:bytes cons nil" => (k_here; (with_reducible show wpAny _ _ (call (Value.type "bytes") [Value.ref _]) _ _ _); k_dflt (refine' KBa.make_K ?hz_F ?hz_N (by rfl) ?hz_l (AllAre.ints ?hz_c) (In_octs ?hz_ha) ?hz_z ?_; (case hz_F => k_asm); (case hz_N => k_asm); (case hz_l => exact News.isList (by k_asm) (by k_mem)); (case hz_c => assumption); (case hz_ha => first | decide +kernel | exact numT_lt (by decide +kernel)); (case hz_z => (rw [List.length_map, Array.length_toList]; exact Nat.le_trans (by first | decide +kernel | exact numT_len (by decide +kernel) (by assumption)) (by decide : 1000 ≤ 16777216)))); intro h' t' k' F' N' _; rw [byteArr_octs]; (try k_sweep)))
  (k_with "call ref" => (k_here; (with_reducible show wpAny _ _ (call (Value.ref 259) _) _ _ _); k_dflt (refine' ret_use (law_octets _ _) ?hz_k1 ?hz_k2 ?hz_k3 ?hz_k4 ?hz_k5 ?hz_kK ?hz_kd ?hz_ku ?_; (case hz_k1 => k_asm); (case hz_k2 => k_asm); (case hz_k3 => k_asm); (case hz_k4 => k_asm); (case hz_k5 => k_asm); (case hz_kK => first | exact rfl | assumption); (case hz_kd => ktr_room); (case hz_ku => ktr_units)); intro r9 news9 h9 tk9 F9 N9 hp9; obtain ⟨D8, u0, u1, u2, u3, u4, u5, u6, u7, u8, u9, en, e9, hne⟩ := hp9; subst e9; subst en))
  (k_with "call ref" => (k_here; (with_reducible show wpAny _ _ (call (Value.ref 288) _) _ _ _); k_dflt (refine' ret_use (law_text _ _ _ _ ?hz_ha) ?hz_k1 ?hz_k2 ?hz_k3 ?hz_k4 ?hz_k5 ?hz_kK ?hz_kd ?hz_ku ?_; (case hz_k1 => k_asm); (case hz_k2 => k_asm); (case hz_k3 => k_asm); (case hz_k4 => k_asm); (case hz_k5 => k_asm); (case hz_kK => first | exact rfl | assumption); (case hz_ha => exact octA_size _); (case hz_kd => ktr_room); (case hz_ku => ktr_units)); intro r9 news9 h9 tk9 F9 N9 hp9; obtain ⟨e8, t9, e9⟩ := hp9; replace e8 := e8.symm; subst e8; subst e9))
  (k_with "binaryOp Add bytes bytes" => (k_here; k_dflt (refine' KBy.add_bytes ?hz_sz ?_); (case hz_sz => first | decide +kernel | exact sz3 (by decide +kernel) (lawT_size _) | ((try simp only [Array.size_append, List.size_toArray, List.length_cons, List.length_nil]); omega)); intro t9 k9; (try dsimp only)))
  trivial
theorem div2_sub (h0 : 0 ≤ d) (h1 : d < 10) (q0 : Int.fdiv d 2 = 0 → wpAny (model prog w) A (subscriptTail value slice v (.int 0 u)) Q E s) (q1 : Int.fdiv d 2 = 1 → wpAny (model prog w) A (subscriptTail value slice v (.int 1 u)) Q E s) (q2 : Int.fdiv d 2 = 2 → wpAny (model prog w) A (subscriptTail value slice v (.int 2 u)) Q E s) (q3 : Int.fdiv d 2 = 3 → wpAny (model prog w) A (subscriptTail value slice v (.int 3 u)) Q E s) (q4 : Int.fdiv d 2 = 4 → wpAny (model prog w) A (subscriptTail value slice v (.int 4 u)) Q E s) : wpAny (model prog w) A (subscriptTail value slice v (.int (Int.fdiv d 2) u)) Q E s := by
  have hk : Int.fdiv d 2 = 0 ∨ Int.fdiv d 2 = 1 ∨ Int.fdiv d 2 = 2 ∨ Int.fdiv d 2 = 3 ∨ Int.fdiv d 2 = 4 := by
    rw [Int.fdiv_eq_ediv_of_nonneg _ (by decide)]
    omega
  rcases hk with e | e | e | e | e
  · rw [e]; exact q0 e
  · rw [e]; exact q1 e
  · rw [e]; exact q2 e
  · rw [e]; exact q3 e
  · rw [e]; exact q4 e
theorem mod2_sub (q0 : Int.fmod d 2 = 0 → wpAny (model prog w) A (subscriptTail value slice v (.int 0 u)) Q E s) (q1 : Int.fmod d 2 = 1 → wpAny (model prog w) A (subscriptTail value slice v (.int 1 u)) Q E s) : wpAny (model prog w) A (subscriptTail value slice v (.int (Int.fmod d 2) u)) Q E s := by
  have hk : Int.fmod d 2 = 0 ∨ Int.fmod d 2 = 1 := by
    rw [Int.fmod_eq_emod_of_nonneg _ (by decide)]
    omega
  rcases hk with e | e
  · rw [e]; exact q0 e
  · rw [e]; exact q1 e
theorem mod3_sub (q0 : Int.fmod d 3 = 0 → wpAny (model prog w) A (subscriptTail value slice v (.int 0 u)) Q E s) (q1 : Int.fmod d 3 = 1 → wpAny (model prog w) A (subscriptTail value slice v (.int 1 u)) Q E s) (q2 : Int.fmod d 3 = 2 → wpAny (model prog w) A (subscriptTail value slice v (.int 2 u)) Q E s) : wpAny (model prog w) A (subscriptTail value slice v (.int (Int.fmod d 3) u)) Q E s := by
  have hk : Int.fmod d 3 = 0 ∨ Int.fmod d 3 = 1 ∨ Int.fmod d 3 = 2 := by
    rw [Int.fmod_eq_emod_of_nonneg _ (by decide)]
    omega
  rcases hk with e | e | e
  · rw [e]; exact q0 e
  · rw [e]; exact q1 e
  · rw [e]; exact q2 e
theorem oct_item {h₀ : Heap} {L D : Addr} {news : List (Addr × Obj)} {t0 t1 t2 t3 t4 t5 t6 t7 t8 t9 : Tok} (N : News h₀ L s.heap news) (hm : (D, octTup t0 t1 t2 t3 t4 t5 t6 t7 t8 t9) ∈ news) (h0 : 0 ≤ d) (h1 : d < 10) (h : ∀ t, Q (.bytes (octA d.toNat) t) s)
    (hs : ∀ k : Int, subscripted slice false (.ref D) (.int k u) = operate [.ref D, .int k u] (getItem (.ref D) (.int k u))) : wpAny (model prog w) A (subscriptTail value slice (.ref D) (.int d u)) Q E s := by
  have hT := News.isTup N hm
  have hd : d = 0 ∨ d = 1 ∨ d = 2 ∨ d = 3 ∨ d = 4 ∨ d = 5 ∨ d = 6 ∨ d = 7 ∨ d = 8 ∨ d = 9 := by omega
  rcases hd with rfl | rfl | rfl | rfl | rfl | rfl | rfl | rfl | rfl | rfl <;> exact item_tupleT hT (by decide) (by decide) rfl rfl (h _) (hs _)
end
theorem reg82 : True := by
  (k_with "subscriptTail Name BinOp ref int" => (k_here; (with_reducible refine div2_sub ?hz_a ?hz_b ?_ ?_ ?_ ?_ ?_); (case hz_a => omega); (case hz_b => omega); all_goals intro e8))
  (k_with "subscriptTail Name BinOp ref int" => (k_here; (with_reducible refine mod2_sub ?_ ?_) <;> intro e8))
  (k_with "subscriptTail Name BinOp ref int" => (k_here; (with_reducible refine mod3_sub ?_ ?_ ?_) <;> intro e8))
  (k_with "subscriptTail Name Name ref int" => (k_here; k_dflt (refine' oct_item ?hz_N ?hz_m ?hz_a ?hz_b ?_ ?hz_hs; (case hz_N => k_asm); (case hz_m => k_mem); (case hz_a => omega); (case hz_b => omega); (case hz_hs => intro _; with_unfolding_all rfl)); intro t8))
  (k_with "binaryOp Add str str" => (k_here; (refine SBL.add (hsz := ?hz_hsz) ?_); (case hz_hsz => exact sz2 (by first | exact figs_len (by assumption) | decide +kernel) (by first | exact figs_len (by assumption) | decide +kernel)); intro _ _))
  (k_with "callWith ref nil nil" => (k_here; (with_reducible show wpAny _ _ (callWith _ (Value.ref _) _ (backTo _ (starEach [] _)) []) _ _ _); k_dflt (refine' callWith_K0 ?hz_k1 ?hz_k2 ?_; (case hz_k1 => (with_reducible first | assumption | exact Frag.In.keeps (by k_asm) (Fr.keep (by k_asm)))); (case hz_k2 => k_is); k_whole)))
  (k_with "subscriptTail Tuple cons BinOp ref int" => (k_here; (with_reducible refine div2_sub ?hz_a ?hz_b ?_ ?_ ?_ ?_ ?_); (case hz_a => omega); (case hz_b => omega); all_goals intro e8))
  (k_with "subscriptTail Tuple cons BinOp ref int" => (k_here; (with_reducible refine mod2_sub ?_ ?_) <;> intro e8))
  (k_with "subscriptTail Tuple cons BinOp ref int" => (k_here; (with_reducible refine mod3_sub ?_ ?_ ?_) <;> intro e8))
  (k_with "subscriptTail Tuple cons BinOp ref int" => (k_here; k_dflt (refine' item_tupleT (News.isTup (by k_asm) (by k_mem)) ?hz_a ?hz_b ?hz_c ?hz_d ?_; (case hz_a => decide); (case hz_b => decide); (case hz_c => rfl); (case hz_d => rfl); k_whole)))
  (k_with "subscriptTail Call Name nil nil Name ref int" => (k_here; k_dflt (refine' oct_item ?hz_N ?hz_m ?hz_a ?hz_b ?_ ?hz_hs; (case hz_N => k_asm); (case hz_m => k_mem); (case hz_a => omega); (case hz_b => omega); (case hz_hs => intro _; with_unfolding_all rfl)); intro t8))
  trivial
noncomputable abbrev nOf {n : Nat} (_ : n < 10 ^ 18) : Nat := n
theorem way_cases {d : Int} (h1 : d < 9) (h0 : 0 ≤ d) : d = 0 ∨ (1 ≤ d ∧ d ≤ 2) ∨ (3 ≤ d ∧ d ≤ 4) ∨ d = 5 ∨ d = 6 ∨ d = 7 ∨ d = 8 := by omega
set_option maxRecDepth 100000 in
set_option maxHeartbeats 8000000 in
theorem law_leaf (w : World) (P C : Addr) (cells : List Value) (ns : List Int) (p1 p2 p3 : Int) (t1 t2 t3 : Tok) (e e' : Nat) (rest : List (Addr × Obj))
   (hc : IntsAre cells ns) (hn : ns.length ≤ 63) (h1 : 0 ≤ p1) (h1' : p1 ≤ 900) (h2 : 0 ≤ p2) (h3 : 0 ≤ p3) (h3' : p3 ≤ 1008) (hPC : C ≠ P) (hP : ∀ q ∈ rest, q.1 ≠ P) :
   Ret PySem.Challenge.rw_nz0288_01.row.prog w (Mine.top.heap_1_39 w.params) Mine.top.view_1_40 LS 293 11
    ((P, listOf #[.ref C, .int p1 t1, .int p2 t2, .int p3 t3] e) :: (C, listOf cells.toArray e') :: rest) [.ref P] (LeafPost P C cells p1 p3 e' rest) := by
  k_fill
  unfold Ret
  intro mean mg mb dp un gd cn cs a ccd cl outer A₀ base h₀ L m s Q E B F X N T hk hd hu hret
  refine wpAny_call ?_
  k_dflt (refine' code_def (binds := [(Str.ofString "pen", .ref P)]) ?k1 ?k2 ?k3 ?k4 ?k5 ?kA ?kF ?kK ?k6 ?k7 ?k8 ?k9 ?kB ?_ ?c2 ?c3 ?c4 ?c5; (case kA => exact rfl); (case kF => exact rfl); (case kK => assumption); (case k1 => k_asm); (case k2 => k_asm); (case k3 => k_asm); (case k4 => k_asm); (case k5 => k_asm); (case k6 => k_is); (case k7 => k_is); (case k8 => ktr_room); (case k9 => first | exact BindsTo.of_eq rfl | exact binds_K (by k_in) rfl (by k_is) rfl rfl rfl); (case c5 => decide); (case kB => exact locs rfl); (case c2 => exact rfl); (case c3 => exact rfl); (case c4 => exact rfl); k_whole; intro g' L' h' FG' F' N' B' X' T'; (try dsimp only); (try k_fold))
  iterate 35 ((first | (k_unfold; (try dsimp only)) | (first | walk1 | (dsimp only; walk1)) | fail "no step"))
  (rename _ < (9 : Int) => hw9)
  rcases way_cases hw9 (by omega) with e | ⟨ea, eb⟩ | ⟨ea, eb⟩ | e | e | e | e
  · subst e
    repeat' (first | (k_unfold; (try dsimp only)) | (first | walk1 | (dsimp only; walk1)) | fail "no step")
    all_goals (rename News _ _ _ _ => N9)
    all_goals first
      | ((refine' leaf_out (lf := .all) (vs := [.str (Str.ofString "all") _]) hret ?kF N9 ?hR ?hb ?hP ?hC ?hr ?e ?lv ?q); (case kF => k_asm); (case hR => with_reducible repeat (first | exact List.mem_cons_self | apply List.mem_cons_of_mem)); (case hb => with_reducible repeat (first | exact List.mem_cons_self | apply List.mem_cons_of_mem)); (case hP => repeat (first | exact List.Mem.head _ | apply List.Mem.tail)); (case hC => repeat (first | exact List.Mem.head _ | apply List.Mem.tail)); (case hr => (intro q hq; repeat (first | exact hq | apply List.Mem.tail))); (case e => rfl); (case lv => exact ⟨_, rfl⟩); (case q => omega))
      | (exfalso; omega)
      | fail
  · repeat' (first | (k_unfold; (try dsimp only)) | (first | walk1 | (dsimp only; walk1)) | fail "no step")
    all_goals (rename News _ _ _ _ => N9)
    all_goals first
      | ((refine' leaf_out (lf := (.flag 0)) (vs := [.str (Str.ofString "flag") _, .str (Str.ofString "\\Seen") _]) hret ?kF N9 ?hR ?hb ?hP ?hC ?hr ?e ?lv ?q); (case kF => k_asm); (case hR => with_reducible repeat (first | exact List.mem_cons_self | apply List.mem_cons_of_mem)); (case hb => with_reducible repeat (first | exact List.mem_cons_self | apply List.mem_cons_of_mem)); (case hP => repeat (first | exact List.Mem.head _ | apply List.Mem.tail)); (case hC => repeat (first | exact List.Mem.head _ | apply List.Mem.tail)); (case hr => (intro q hq; repeat (first | exact hq | apply List.Mem.tail))); (case e => decide +kernel); (case lv => exact ⟨by decide, _, _, rfl⟩); (case q => omega))
      | ((refine' leaf_out (lf := (.flag 1)) (vs := [.str (Str.ofString "flag") _, .str (Str.ofString "\\Answered") _]) hret ?kF N9 ?hR ?hb ?hP ?hC ?hr ?e ?lv ?q); (case kF => k_asm); (case hR => with_reducible repeat (first | exact List.mem_cons_self | apply List.mem_cons_of_mem)); (case hb => with_reducible repeat (first | exact List.mem_cons_self | apply List.mem_cons_of_mem)); (case hP => repeat (first | exact List.Mem.head _ | apply List.Mem.tail)); (case hC => repeat (first | exact List.Mem.head _ | apply List.Mem.tail)); (case hr => (intro q hq; repeat (first | exact hq | apply List.Mem.tail))); (case e => decide +kernel); (case lv => exact ⟨by decide, _, _, rfl⟩); (case q => omega))
      | ((refine' leaf_out (lf := (.flag 2)) (vs := [.str (Str.ofString "flag") _, .str (Str.ofString "work") _]) hret ?kF N9 ?hR ?hb ?hP ?hC ?hr ?e ?lv ?q); (case kF => k_asm); (case hR => with_reducible repeat (first | exact List.mem_cons_self | apply List.mem_cons_of_mem)); (case hb => with_reducible repeat (first | exact List.mem_cons_self | apply List.mem_cons_of_mem)); (case hP => repeat (first | exact List.Mem.head _ | apply List.Mem.tail)); (case hC => repeat (first | exact List.Mem.head _ | apply List.Mem.tail)); (case hr => (intro q hq; repeat (first | exact hq | apply List.Mem.tail))); (case e => decide +kernel); (case lv => exact ⟨by decide, _, _, rfl⟩); (case q => omega))
      | ((refine' leaf_out (lf := (.flag 3)) (vs := [.str (Str.ofString "flag") _, .str (Str.ofString "$Junk") _]) hret ?kF N9 ?hR ?hb ?hP ?hC ?hr ?e ?lv ?q); (case kF => k_asm); (case hR => with_reducible repeat (first | exact List.mem_cons_self | apply List.mem_cons_of_mem)); (case hb => with_reducible repeat (first | exact List.mem_cons_self | apply List.mem_cons_of_mem)); (case hP => repeat (first | exact List.Mem.head _ | apply List.Mem.tail)); (case hC => repeat (first | exact List.Mem.head _ | apply List.Mem.tail)); (case hr => (intro q hq; repeat (first | exact hq | apply List.Mem.tail))); (case e => decide +kernel); (case lv => exact ⟨by decide, _, _, rfl⟩); (case q => omega))
      | (exfalso; omega)
      | fail
  · repeat' (first | (k_unfold; (try dsimp only)) | (first | walk1 | (dsimp only; walk1)) | fail "no step")
    all_goals (rename News _ _ _ _ => N9)
    all_goals first
      | ((refine' leaf_out (lf := (.uid 0)) (vs := [.str (Str.ofString "uid") _, .ref 262]) hret ?kF N9 ?hR ?hb ?hP ?hC ?hr ?e ?lv ?q); (case kF => k_asm); (case hR => with_reducible repeat (first | exact List.mem_cons_self | apply List.mem_cons_of_mem)); (case hb => with_reducible repeat (first | exact List.mem_cons_self | apply List.mem_cons_of_mem)); (case hP => repeat (first | exact List.Mem.head _ | apply List.Mem.tail)); (case hC => repeat (first | exact List.Mem.head _ | apply List.Mem.tail)); (case hr => (intro q hq; repeat (first | exact hq | apply List.Mem.tail))); (case e => decide +kernel); (case lv => exact ⟨by decide, _, rfl⟩); (case q => omega))
      | ((refine' leaf_out (lf := (.uid 1)) (vs := [.str (Str.ofString "uid") _, .ref 265]) hret ?kF N9 ?hR ?hb ?hP ?hC ?hr ?e ?lv ?q); (case kF => k_asm); (case hR => with_reducible repeat (first | exact List.mem_cons_self | apply List.mem_cons_of_mem)); (case hb => with_reducible repeat (first | exact List.mem_cons_self | apply List.mem_cons_of_mem)); (case hP => repeat (first | exact List.Mem.head _ | apply List.Mem.tail)); (case hC => repeat (first | exact List.Mem.head _ | apply List.Mem.tail)); (case hr => (intro q hq; repeat (first | exact hq | apply List.Mem.tail))); (case e => decide +kernel); (case lv => exact ⟨by decide, _, rfl⟩); (case q => omega))
      | ((refine' leaf_out (lf := (.uid 2)) (vs := [.str (Str.ofString "uid") _, .ref 269]) hret ?kF N9 ?hR ?hb ?hP ?hC ?hr ?e ?lv ?q); (case kF => k_asm); (case hR => with_reducible repeat (first | exact List.mem_cons_self | apply List.mem_cons_of_mem)); (case hb => with_reducible repeat (first | exact List.mem_cons_self | apply List.mem_cons_of_mem)); (case hP => repeat (first | exact List.Mem.head _ | apply List.Mem.tail)); (case hC => repeat (first | exact List.Mem.head _ | apply List.Mem.tail)); (case hr => (intro q hq; repeat (first | exact hq | apply List.Mem.tail))); (case e => decide +kernel); (case lv => exact ⟨by decide, _, rfl⟩); (case q => omega))
      | ((refine' leaf_out (lf := (.seq 0)) (vs := [.str (Str.ofString "seq") _, .ref 262]) hret ?kF N9 ?hR ?hb ?hP ?hC ?hr ?e ?lv ?q); (case kF => k_asm); (case hR => with_reducible repeat (first | exact List.mem_cons_self | apply List.mem_cons_of_mem)); (case hb => with_reducible repeat (first | exact List.mem_cons_self | apply List.mem_cons_of_mem)); (case hP => repeat (first | exact List.Mem.head _ | apply List.Mem.tail)); (case hC => repeat (first | exact List.Mem.head _ | apply List.Mem.tail)); (case hr => (intro q hq; repeat (first | exact hq | apply List.Mem.tail))); (case e => decide +kernel); (case lv => exact ⟨by decide, _, rfl⟩); (case q => omega))
      | ((refine' leaf_out (lf := (.seq 1)) (vs := [.str (Str.ofString "seq") _, .ref 265]) hret ?kF N9 ?hR ?hb ?hP ?hC ?hr ?e ?lv ?q); (case kF => k_asm); (case hR => with_reducible repeat (first | exact List.mem_cons_self | apply List.mem_cons_of_mem)); (case hb => with_reducible repeat (first | exact List.mem_cons_self | apply List.mem_cons_of_mem)); (case hP => repeat (first | exact List.Mem.head _ | apply List.Mem.tail)); (case hC => repeat (first | exact List.Mem.head _ | apply List.Mem.tail)); (case hr => (intro q hq; repeat (first | exact hq | apply List.Mem.tail))); (case e => decide +kernel); (case lv => exact ⟨by decide, _, rfl⟩); (case q => omega))
      | ((refine' leaf_out (lf := (.seq 2)) (vs := [.str (Str.ofString "seq") _, .ref 269]) hret ?kF N9 ?hR ?hb ?hP ?hC ?hr ?e ?lv ?q); (case kF => k_asm); (case hR => with_reducible repeat (first | exact List.mem_cons_self | apply List.mem_cons_of_mem)); (case hb => with_reducible repeat (first | exact List.mem_cons_self | apply List.mem_cons_of_mem)); (case hP => repeat (first | exact List.Mem.head _ | apply List.Mem.tail)); (case hC => repeat (first | exact List.Mem.head _ | apply List.Mem.tail)); (case hr => (intro q hq; repeat (first | exact hq | apply List.Mem.tail))); (case e => decide +kernel); (case lv => exact ⟨by decide, _, rfl⟩); (case q => omega))
      | (exfalso; omega)
      | fail
  · subst e
    repeat' (first | (k_unfold; (try dsimp only)) | (first | walk1 | (dsimp only; walk1)) | fail "no step")
    all_goals (rename News _ _ _ _ => N9)
    all_goals first
      | ((refine' leaf_out (lf := (.day 0 0)) (vs := [.str (Str.ofString "before") _, .ref 272]) hret ?kF N9 ?hR ?hb ?hP ?hC ?hr ?e ?lv ?q); (case kF => k_asm); (case hR => with_reducible repeat (first | exact List.mem_cons_self | apply List.mem_cons_of_mem)); (case hb => with_reducible repeat (first | exact List.mem_cons_self | apply List.mem_cons_of_mem)); (case hP => repeat (first | exact List.Mem.head _ | apply List.Mem.tail)); (case hC => repeat (first | exact List.Mem.head _ | apply List.Mem.tail)); (case hr => (intro q hq; repeat (first | exact hq | apply List.Mem.tail))); (case e => decide +kernel); (case lv => exact ⟨by decide, by decide, _, rfl⟩); (case q => omega))
      | ((refine' leaf_out (lf := (.day 0 1)) (vs := [.str (Str.ofString "before") _, .ref 274]) hret ?kF N9 ?hR ?hb ?hP ?hC ?hr ?e ?lv ?q); (case kF => k_asm); (case hR => with_reducible repeat (first | exact List.mem_cons_self | apply List.mem_cons_of_mem)); (case hb => with_reducible repeat (first | exact List.mem_cons_self | apply List.mem_cons_of_mem)); (case hP => repeat (first | exact List.Mem.head _ | apply List.Mem.tail)); (case hC => repeat (first | exact List.Mem.head _ | apply List.Mem.tail)); (case hr => (intro q hq; repeat (first | exact hq | apply List.Mem.tail))); (case e => decide +kernel); (case lv => exact ⟨by decide, by decide, _, rfl⟩); (case q => omega))
      | ((refine' leaf_out (lf := (.day 1 0)) (vs := [.str (Str.ofString "senton") _, .ref 272]) hret ?kF N9 ?hR ?hb ?hP ?hC ?hr ?e ?lv ?q); (case kF => k_asm); (case hR => with_reducible repeat (first | exact List.mem_cons_self | apply List.mem_cons_of_mem)); (case hb => with_reducible repeat (first | exact List.mem_cons_self | apply List.mem_cons_of_mem)); (case hP => repeat (first | exact List.Mem.head _ | apply List.Mem.tail)); (case hC => repeat (first | exact List.Mem.head _ | apply List.Mem.tail)); (case hr => (intro q hq; repeat (first | exact hq | apply List.Mem.tail))); (case e => decide +kernel); (case lv => exact ⟨by decide, by decide, _, rfl⟩); (case q => omega))
      | ((refine' leaf_out (lf := (.day 1 1)) (vs := [.str (Str.ofString "senton") _, .ref 274]) hret ?kF N9 ?hR ?hb ?hP ?hC ?hr ?e ?lv ?q); (case kF => k_asm); (case hR => with_reducible repeat (first | exact List.mem_cons_self | apply List.mem_cons_of_mem)); (case hb => with_reducible repeat (first | exact List.mem_cons_self | apply List.mem_cons_of_mem)); (case hP => repeat (first | exact List.Mem.head _ | apply List.Mem.tail)); (case hC => repeat (first | exact List.Mem.head _ | apply List.Mem.tail)); (case hr => (intro q hq; repeat (first | exact hq | apply List.Mem.tail))); (case e => decide +kernel); (case lv => exact ⟨by decide, by decide, _, rfl⟩); (case q => omega))
      | ((refine' leaf_out (lf := (.day 2 0)) (vs := [.str (Str.ofString "since") _, .ref 272]) hret ?kF N9 ?hR ?hb ?hP ?hC ?hr ?e ?lv ?q); (case kF => k_asm); (case hR => with_reducible repeat (first | exact List.mem_cons_self | apply List.mem_cons_of_mem)); (case hb => with_reducible repeat (first | exact List.mem_cons_self | apply List.mem_cons_of_mem)); (case hP => repeat (first | exact List.Mem.head _ | apply List.Mem.tail)); (case hC => repeat (first | exact List.Mem.head _ | apply List.Mem.tail)); (case hr => (intro q hq; repeat (first | exact hq | apply List.Mem.tail))); (case e => decide +kernel); (case lv => exact ⟨by decide, by decide, _, rfl⟩); (case q => omega))
      | ((refine' leaf_out (lf := (.day 2 1)) (vs := [.str (Str.ofString "since") _, .ref 274]) hret ?kF N9 ?hR ?hb ?hP ?hC ?hr ?e ?lv ?q); (case kF => k_asm); (case hR => with_reducible repeat (first | exact List.mem_cons_self | apply List.mem_cons_of_mem)); (case hb => with_reducible repeat (first | exact List.mem_cons_self | apply List.mem_cons_of_mem)); (case hP => repeat (first | exact List.Mem.head _ | apply List.Mem.tail)); (case hC => repeat (first | exact List.Mem.head _ | apply List.Mem.tail)); (case hr => (intro q hq; repeat (first | exact hq | apply List.Mem.tail))); (case e => decide +kernel); (case lv => exact ⟨by decide, by decide, _, rfl⟩); (case q => omega))
      | ((refine' leaf_out (lf := (.day 3 0)) (vs := [.str (Str.ofString "sentsince") _, .ref 272]) hret ?kF N9 ?hR ?hb ?hP ?hC ?hr ?e ?lv ?q); (case kF => k_asm); (case hR => with_reducible repeat (first | exact List.mem_cons_self | apply List.mem_cons_of_mem)); (case hb => with_reducible repeat (first | exact List.mem_cons_self | apply List.mem_cons_of_mem)); (case hP => repeat (first | exact List.Mem.head _ | apply List.Mem.tail)); (case hC => repeat (first | exact List.Mem.head _ | apply List.Mem.tail)); (case hr => (intro q hq; repeat (first | exact hq | apply List.Mem.tail))); (case e => decide +kernel); (case lv => exact ⟨by decide, by decide, _, rfl⟩); (case q => omega))
      | ((refine' leaf_out (lf := (.day 3 1)) (vs := [.str (Str.ofString "sentsince") _, .ref 274]) hret ?kF N9 ?hR ?hb ?hP ?hC ?hr ?e ?lv ?q); (case kF => k_asm); (case hR => with_reducible repeat (first | exact List.mem_cons_self | apply List.mem_cons_of_mem)); (case hb => with_reducible repeat (first | exact List.mem_cons_self | apply List.mem_cons_of_mem)); (case hP => repeat (first | exact List.Mem.head _ | apply List.Mem.tail)); (case hC => repeat (first | exact List.Mem.head _ | apply List.Mem.tail)); (case hr => (intro q hq; repeat (first | exact hq | apply List.Mem.tail))); (case e => decide +kernel); (case lv => exact ⟨by decide, by decide, _, rfl⟩); (case q => omega))
      | ((refine' leaf_out (lf := (.day 4 0)) (vs := [.str (Str.ofString "on") _, .ref 272]) hret ?kF N9 ?hR ?hb ?hP ?hC ?hr ?e ?lv ?q); (case kF => k_asm); (case hR => with_reducible repeat (first | exact List.mem_cons_self | apply List.mem_cons_of_mem)); (case hb => with_reducible repeat (first | exact List.mem_cons_self | apply List.mem_cons_of_mem)); (case hP => repeat (first | exact List.Mem.head _ | apply List.Mem.tail)); (case hC => repeat (first | exact List.Mem.head _ | apply List.Mem.tail)); (case hr => (intro q hq; repeat (first | exact hq | apply List.Mem.tail))); (case e => decide +kernel); (case lv => exact ⟨by decide, by decide, _, rfl⟩); (case q => omega))
      | ((refine' leaf_out (lf := (.day 4 1)) (vs := [.str (Str.ofString "on") _, .ref 274]) hret ?kF N9 ?hR ?hb ?hP ?hC ?hr ?e ?lv ?q); (case kF => k_asm); (case hR => with_reducible repeat (first | exact List.mem_cons_self | apply List.mem_cons_of_mem)); (case hb => with_reducible repeat (first | exact List.mem_cons_self | apply List.mem_cons_of_mem)); (case hP => repeat (first | exact List.Mem.head _ | apply List.Mem.tail)); (case hC => repeat (first | exact List.Mem.head _ | apply List.Mem.tail)); (case hr => (intro q hq; repeat (first | exact hq | apply List.Mem.tail))); (case e => decide +kernel); (case lv => exact ⟨by decide, by decide, _, rfl⟩); (case q => omega))
      | (exfalso; omega)
      | fail
  · subst e
    repeat' (first | (k_unfold; (try dsimp only)) | (first | walk1 | (dsimp only; walk1)) | fail "no step")
    all_goals (rename _ < 10 ^ 18 => hq8)
    all_goals (rename News _ _ _ _ => N9)
    all_goals first
      | ((refine' leaf_out (lf := (.num 0 (nOf hq8))) (vs := [.str (Str.ofString "larger") _, .int _ _]) hret ?kF N9 ?hR ?hb ?hP ?hC ?hr ?e ?lv ?q); (case kF => k_asm); (case hR => with_reducible repeat (first | exact List.mem_cons_self | apply List.mem_cons_of_mem)); (case hb => with_reducible repeat (first | exact List.mem_cons_self | apply List.mem_cons_of_mem)); (case hP => repeat (first | exact List.Mem.head _ | apply List.Mem.tail)); (case hC => repeat (first | exact List.Mem.head _ | apply List.Mem.tail)); (case hr => (intro q hq; repeat (first | exact hq | apply List.Mem.tail))); (case e => exact num_eq (k := 0) (n := nOf hq8) (x := Str.ofString "LARGER" ++ Str.ofString " ") (by decide +kernel)); (case lv => exact ⟨by decide, hq8, _, _, rfl⟩); (case q => omega))
      | ((refine' leaf_out (lf := (.num 1 (nOf hq8))) (vs := [.str (Str.ofString "smaller") _, .int _ _]) hret ?kF N9 ?hR ?hb ?hP ?hC ?hr ?e ?lv ?q); (case kF => k_asm); (case hR => with_reducible repeat (first | exact List.mem_cons_self | apply List.mem_cons_of_mem)); (case hb => with_reducible repeat (first | exact List.mem_cons_self | apply List.mem_cons_of_mem)); (case hP => repeat (first | exact List.Mem.head _ | apply List.Mem.tail)); (case hC => repeat (first | exact List.Mem.head _ | apply List.Mem.tail)); (case hr => (intro q hq; repeat (first | exact hq | apply List.Mem.tail))); (case e => exact num_eq (k := 1) (n := nOf hq8) (x := Str.ofString "SMALLER" ++ Str.ofString " ") (by decide +kernel)); (case lv => exact ⟨by decide, hq8, _, _, rfl⟩); (case q => omega))
      | ((refine' leaf_out (lf := (.num 2 (nOf hq8))) (vs := [.str (Str.ofString "modseq") _, .int _ _]) hret ?kF N9 ?hR ?hb ?hP ?hC ?hr ?e ?lv ?q); (case kF => k_asm); (case hR => with_reducible repeat (first | exact List.mem_cons_self | apply List.mem_cons_of_mem)); (case hb => with_reducible repeat (first | exact List.mem_cons_self | apply List.mem_cons_of_mem)); (case hP => repeat (first | exact List.Mem.head _ | apply List.Mem.tail)); (case hC => repeat (first | exact List.Mem.head _ | apply List.Mem.tail)); (case hr => (intro q hq; repeat (first | exact hq | apply List.Mem.tail))); (case e => exact num_eq (k := 2) (n := nOf hq8) (x := Str.ofString "MODSEQ" ++ Str.ofString " ") (by decide +kernel)); (case lv => exact ⟨by decide, hq8, _, _, rfl⟩); (case q => omega))
      | (exfalso; omega)
      | fail
  · subst e
    repeat' (first | (k_unfold; (try dsimp only)) | (first | walk1 | (dsimp only; walk1)) | fail "no step")
    all_goals (rename News _ _ _ _ => N9)
    all_goals first
      | ((refine' leaf_out (lf := (.header _)) (vs := [.str (Str.ofString "header") _, .str (Str.ofString "x-a") _, .bytes _ _]) hret ?kF N9 ?hR ?hb ?hP ?hC ?hr ?e ?lv ?q); (case kF => k_asm); (case hR => with_reducible repeat (first | exact List.mem_cons_self | apply List.mem_cons_of_mem)); (case hb => with_reducible repeat (first | exact List.mem_cons_self | apply List.mem_cons_of_mem)); (case hP => repeat (first | exact List.Mem.head _ | apply List.Mem.tail)); (case hC => repeat (first | exact List.Mem.head _ | apply List.Mem.tail)); (case hr => (intro q hq; repeat (first | exact hq | apply List.Mem.tail))); (case e => (refine header_eq ?_; omega)); (case lv => exact ⟨by omega, _, _, _, rfl⟩); (case q => omega))
      | (exfalso; omega)
      | fail
  · subst e
    repeat' (first | (k_unfold; (try dsimp only)) | (first | walk1 | (dsimp only; walk1)) | fail "no step")
    all_goals (rename News _ _ _ _ => N9)
    all_goals first
      | ((refine' leaf_out (lf := (.text 0 _)) (vs := [.str (Str.ofString "text") _, .bytes _ _]) hret ?kF N9 ?hR ?hb ?hP ?hC ?hr ?e ?lv ?q); (case kF => k_asm); (case hR => with_reducible repeat (first | exact List.mem_cons_self | apply List.mem_cons_of_mem)); (case hb => with_reducible repeat (first | exact List.mem_cons_self | apply List.mem_cons_of_mem)); (case hP => repeat (first | exact List.Mem.head _ | apply List.Mem.tail)); (case hC => repeat (first | exact List.Mem.head _ | apply List.Mem.tail)); (case hr => (intro q hq; repeat (first | exact hq | apply List.Mem.tail))); (case e => (refine text_eq ?_ ?_; omega; decide +kernel)); (case lv => exact ⟨by decide, by omega, _, _, rfl⟩); (case q => omega))
      | ((refine' leaf_out (lf := (.text 1 _)) (vs := [.str (Str.ofString "body") _, .bytes _ _]) hret ?kF N9 ?hR ?hb ?hP ?hC ?hr ?e ?lv ?q); (case kF => k_asm); (case hR => with_reducible repeat (first | exact List.mem_cons_self | apply List.mem_cons_of_mem)); (case hb => with_reducible repeat (first | exact List.mem_cons_self | apply List.mem_cons_of_mem)); (case hP => repeat (first | exact List.Mem.head _ | apply List.Mem.tail)); (case hC => repeat (first | exact List.Mem.head _ | apply List.Mem.tail)); (case hr => (intro q hq; repeat (first | exact hq | apply List.Mem.tail))); (case e => (refine text_eq ?_ ?_; omega; decide +kernel)); (case lv => exact ⟨by decide, by omega, _, _, rfl⟩); (case q => omega))
      | (exfalso; omega)
      | fail
end Mine
end
section
open PySem PySem.W PySem.Calls PyProof.Rows
namespace Mine
theorem reg83 : True := by
  w_top off
  k_with_none
  (k_with "execs cons" => (k_here; dsimp only))
  (k_with "execs nil" => (k_here; dsimp only))
  (k_with "subscriptTail Name Constant ref int" => (k_here; k_dflt (first
  | (refine' topTup_K ?hz_F ?hz_X ?hz_l ?hz_a ?hz_b ?hz_c ?hz_d ?_; (case hz_F => k_asm); (case hz_X => k_asm); (case hz_l => k_is); (case hz_a => decide); (case hz_b => decide); (case hz_c => rfl); (case hz_d => rfl))
  | (refine' item_tupleT (News.isTup (by k_asm) (by k_mem)) ?hz_a ?hz_b ?hz_c ?hz_d ?_; (case hz_a => decide); (case hz_b => decide); (case hz_c => rfl); (case hz_d => rfl); k_whole)
  | (refine' item_litK (News.isList (by k_asm) (by k_mem)) ?hz_a ?hz_b ?hz_d ?_; (case hz_a => decide); (case hz_b => decide); (case hz_d => rfl); k_whole))))
  (k_with "subscriptTail Name UnaryOp ref int" => (k_here; k_dflt (first
  | (refine' topTup_K ?hz_F ?hz_X ?hz_l ?hz_a ?hz_b ?hz_c ?hz_d ?_; (case hz_F => k_asm); (case hz_X => k_asm); (case hz_l => k_is); (case hz_a => decide); (case hz_b => decide); (case hz_c => rfl); (case hz_d => rfl))
  | (refine' item_tupleT (News.isTup (by k_asm) (by k_mem)) ?hz_a ?hz_b ?hz_c ?hz_d ?_; (case hz_a => decide); (case hz_b => decide); (case hz_c => rfl); (case hz_d => rfl); k_whole))))
  (k_with "call type:bytes cons nil" => (k_here; (with_reducible show wpAny _ _ (call (Value.type "bytes") [Value.bytes _ _]) _ _ _); k_dflt (refine bytes_of_bytes ?_)))
  (k_with "binaryOp Add bytes bytes" => (k_here; k_dflt (refine' KBy.add_bytes ?hz_sz ?_); (case hz_sz => ((try simp only [Array.size_append, List.size_toArray, List.length_cons, List.length_nil]); omega)); intro t9 k9; (try dsimp only)))
  trivial
/-- what a drawn tree leaves behind -/
noncomputable def TreePost (P C : Addr) (cells : List Value) (p1 p3 : Int) (e' : Nat) (rest : List (Addr × Obj)) (dm : Nat) (c : Int) (news' : List (Addr × Obj)) (r : Value) : Prop :=
  ∃ (T : Tree) (v : Value) (R : Addr) (t : Tok) (rest' : List (Addr × Obj)) (p1' : Int) (t1' : Tok) (p2' : Int) (t2' t3' : Tok) (e'' : Nat), r = .ref R ∧ depth T ≤ dm ∧ IsTree rest' T v ∧ (R, tup [v, .bytes (qryQ T) t, .bool (isAnd T)]) ∈ rest' ∧
       (∀ q ∈ rest, q ∈ rest') ∧ (∀ q ∈ rest', q.1 ≠ P) ∧ news' = (P, listOf #[.ref C, .int p1' t1', .int p2' t2', .int p3 t3'] e'') :: (C, listOf cells.toArray e') :: rest' ∧ 0 ≤ p1' ∧ p1' ≤ p1 + c ∧ 0 ≤ p2'
noncomputable def TreeOk (w : World) (need : Nat) (dp0 : Int) (dm : Nat) (c : Int) : Prop :=
  ∀ (P C : Addr) (cells : List Value) (ns : List Int) (p1 p2 p3 : Int) (t1 t2 t3 td : Tok) (e e' : Nat) (rest : List (Addr × Obj)),
   IntsAre cells ns → ns.length ≤ 63 → 0 ≤ p1 → p1 + c ≤ 900 → 0 ≤ p2 → 0 ≤ p3 → p3 ≤ 1008 → C ≠ P → (∀ q ∈ rest, q.1 ≠ P) →
   Ret PySem.Challenge.rw_nz0288_01.row.prog w (Mine.top.heap_1_39 w.params) Mine.top.view_1_40 LS 300 need ((P, listOf #[.ref C, .int p1 t1, .int p2 t2, .int p3 t3] e) :: (C, listOf cells.toArray e') :: rest) [.ref P, .int dp0 td] (TreePost P C cells p1 p3 e' rest dm c)
theorem TreeOk.use {w : World} {need : Nat} {dp0 : Int} {dm : Nat} {c : Int} (h : TreeOk w need dp0 dm c) {P C : Addr} {cells : List Value} {ns : List Int} {p1 p2 p3 : Int} {t1 t2 t3 td : Tok} {e e' : Nat} {rest : List (Addr × Obj)}
   (a1 : IntsAre cells ns) (a2 : ns.length ≤ 63) (a3 : 0 ≤ p1) (a4 : p1 + c ≤ 900) (a5 : 0 ≤ p2) (a6 : 0 ≤ p3) (a7 : p3 ≤ 1008) (b1 : C ≠ P) (b2 : ∀ q ∈ rest, q.1 ≠ P) :
   Ret PySem.Challenge.rw_nz0288_01.row.prog w (Mine.top.heap_1_39 w.params) Mine.top.view_1_40 LS 300 need ((P, listOf #[.ref C, .int p1 t1, .int p2 t2, .int p3 t3] e) :: (C, listOf cells.toArray e') :: rest) [.ref P, .int dp0 td] (TreePost P C cells p1 p3 e' rest dm c) := h P C cells ns p1 p2 p3 t1 t2 t3 td e e' rest a1 a2 a3 a4 a5 a6 a7 b1 b2
theorem anyHead {news : List (Addr × Obj)} {T : Tree} {v : Value} (h : IsTree news T v) : ∃ (a : Addr) (k : Str) (u : Tok) (rest : List Value), v = .ref a ∧ (a, tup (.str k u :: rest)) ∈ news ∧ (k == Str.ofString "flag") = isFlag T := by
  cases hf : isFlag T with
  | false => exact nonFlag hf h
  | true =>
    cases T with
    | leaf l =>
      cases l with
      | flag i =>
        obtain ⟨a, vs, rfl, hm, _, t, u, rfl⟩ := h
        exact ⟨a, _, t, _, rfl, hm, by decide +kernel⟩
      | _ => cases hf
    | _ => cases hf
theorem key_andT {T : Tree} (h : isAnd T = true) : keyQ T = #[40] ++ qryQ T ++ #[41] := by
  cases T with
  | and l r => rfl
  | _ => cases h
theorem key_nonT {T : Tree} (h : isAnd T = false) : keyQ T = qryQ T := by
  cases T with
  | and l r => cases h
  | _ => rfl
theorem un_eq {T : Tree} (h : isFlag T = true) : (#[85, 78] : Array UInt8) ++ qryQ T = qryQ (.not T) := by
  cases T with
  | leaf l =>
    cases l with
    | flag i =>
      show (#[85, 78] : Array UInt8) ++ octs (Str.ofString "" ++ flagTx i) = octs (Str.ofString "UN" ++ flagTx i)
      rcases i with _ | _ | _ | i <;> first | decide +kernel | (show (#[85, 78] : Array UInt8) ++ octs (Str.ofString "" ++ Str.ofString "KEYWORD $Junk") = octs (Str.ofString "UN" ++ Str.ofString "KEYWORD $Junk"); decide +kernel)
    | _ => cases h
  | _ => cases h
theorem not_eq {T : Tree} {B : Array UInt8} (hf : isFlag T = false) (hB : B = keyQ T) : (#[78, 79, 84, 32] : Array UInt8) ++ B = qryQ (.not T) := by
  rw [hB]
  exact (unQ_non hf).symm
theorem and_eq {T U : Tree} {B : Array UInt8} (hB : B = keyQ U) : qryQ T ++ (#[32] : Array UInt8) ++ B = qryQ (.and T U) := by
  rw [hB]
  rfl
theorem or_eq {T U : Tree} {B D : Array UInt8} (hB : B = keyQ T) (hD : D = keyQ U) : (#[79, 82, 32] : Array UInt8) ++ B ++ #[32] ++ D = qryQ (.or T U) := by
  rw [hB, hD]
  rfl
theorem tree_out {h₀ h : Heap} {L P C R b : Addr} {B : Array UInt8} {bb : Bool} {t t1 t2 t3 : Tok} {a1 a2 p1 p3 c : Int} {e' e'' tk dm : Nat} {cells vs : List Value} {rest restX led : List (Addr × Obj)} {T : Tree} {m : Str → Option Value} {s : Shared} {Q : Value → Shared → Prop}
    (hret : ∀ r news' h' tk', Fr h₀ L h' m → News h₀ L h' news' → TreePost P C cells p1 p3 e' rest dm c news' r → Q r { s with heap := h', toks := tk' })
    (F : Fr h₀ L h m) (N : News h₀ L h led) (hR : (R, tup [.ref b, .bytes B t, .bool bb]) ∈ led) (hb : (b, tup vs) ∈ led) (hP : (P, listOf #[.ref C, .int a1 t1, .int a2 t2, .int p3 t3] e'') ∈ led) (hC : (C, listOf cells.toArray e') ∈ led) (hX : ∀ q ∈ restX, q ∈ led)
    (hrX : ∀ q ∈ rest, q ∈ restX) (hnX : ∀ q ∈ restX, q.1 ≠ P) (hT : IsTree ((b, tup vs) :: restX) T (.ref b)) (hd : depth T ≤ dm) (e : B = qryQ T) (eb : bb = isAnd T) (hbP : b ≠ P) (q : 0 ≤ a1 ∧ a1 ≤ p1 + c ∧ 0 ≤ a2 ∧ @LT.lt Nat _ P R) : Q (.ref R) { s with heap := h, toks := tk } := by
  subst e
  subst eb
  refine hret _ _ _ _ F (fun p hp => ?_) ⟨T, .ref b, R, t, (R, tup [.ref b, .bytes (qryQ T) t, .bool (isAnd T)]) :: (b, tup vs) :: restX, a1, t1, a2, t2, t3, e'', rfl, hd, hT.mono fun p hp => .tail _ hp, .head _, fun p hp => .tail _ (.tail _ (hrX p hp)), fun p hp => ?_, rfl, q.1, q.2.1, q.2.2.1⟩
  · rcases List.mem_cons.mp hp with rfl | hp
    · exact N _ hP
    rcases List.mem_cons.mp hp with rfl | hp
    · exact N _ hC
    rcases List.mem_cons.mp hp with rfl | hp
    · exact N _ hR
    rcases List.mem_cons.mp hp with rfl | hp
    · exact N _ hb
    exact N _ (hX _ hp)
  · rcases List.mem_cons.mp hp with rfl | hp
    · exact Nat.ne_of_gt q.2.2.2
    rcases List.mem_cons.mp hp with rfl | hp
    · exact hbP
    exact hnX _ hp
theorem reg84 : True := by
  (k_with "k_mem" => first | assumption | (refine List.Mem.tail _ (List.Mem.tail _ ?_); assumption))
  (k_with "call ref" => (k_here; (with_reducible show wpAny _ _ (call (Value.ref 283) _) _ _ _);  k_dflt (refine' ret_use (draw _ _ _ _ _ _ _ _ _ _ _ _ _ _ _ _ ?hz_a1 ?hz_a2 ?hz_a3 ?hz_a4 ?hz_a5 ?hz_a6 ?hz_a7 ?hz_a8 ?hz_a9 ?hz_b1 ?hz_b2) ?hz_k1 ?hz_k2 ?hz_k3 ?hz_k4 ?hz_k5 ?hz_kK ?hz_kd ?hz_ku ?_; (case hz_k1 => k_asm); (case hz_k2 => k_asm); (case hz_k3 => k_asm); (case hz_k4 => first | k_asm | exact ntl (by k_asm) | exact ntl (ntl (by k_asm))); (case hz_k5 => k_asm); (case hz_kK => first | exact rfl | assumption); (case hz_a1 => assumption); (case hz_a2 => assumption); (case hz_a3 => omega); (case hz_a4 => omega); (case hz_a5 => omega); (case hz_a6 => omega); (case hz_a7 => omega); (case hz_a8 => omega); (case hz_a9 => omega); (case hz_b1 => assumption); (case hz_b2 => assumption); (case hz_kd => ktr_room); (case hz_ku => ktr_units)); intro r9 news9 h9 tk9 F9 N9 hp9; obtain ⟨d8, t8, p18, t18, p28, t28, t38, e8, e9, hd0, hd1, en, hp0, hp1, hp2⟩ := hp9; subst e9; subst en))
  (k_with "call ref" => (k_here; (with_reducible show wpAny _ _ (call (Value.ref 293) _) _ _ _);  k_dflt (refine' ret_use (law_leaf _ _ _ _ _ _ _ _ _ _ _ _ _ _ ?hz_a1 ?hz_a2 ?hz_a3 ?hz_a4 ?hz_a5 ?hz_a6 ?hz_a7 ?hz_b1 ?hz_b2) ?hz_k1 ?hz_k2 ?hz_k3 ?hz_k4 ?hz_k5 ?hz_kK ?hz_kd ?hz_ku ?_; (case hz_k1 => k_asm); (case hz_k2 => k_asm); (case hz_k3 => k_asm); (case hz_k4 => first | k_asm | exact ntl (by k_asm) | exact ntl (ntl (by k_asm))); (case hz_k5 => k_asm); (case hz_kK => first | exact rfl | assumption); (case hz_a1 => assumption); (case hz_a2 => assumption); (case hz_a3 => omega); (case hz_a4 => omega); (case hz_a5 => omega); (case hz_a6 => omega); (case hz_a7 => omega); (case hz_b1 => assumption); (case hz_b2 => assumption); (case hz_kd => ktr_room); (case hz_ku => ktr_units)); intro r9 news9 h9 tk9 F9 N9 hp9; unfold LeafPost at hp9; obtain ⟨lf8, vs8, b8, R8, tq8, p18, t18, p28, t28, t38, e8, e9, hl8, en, hp0, hp1, hp2, hn8, hm8⟩ := hp9; subst e9; subst en))
  (k_with "call ref" => (k_here; (with_reducible show wpAny _ _ (call (Value.ref 300) _) _ _ _);  k_dflt (refine' ret_use (TreeOk.use ?hz_ih ?hz_a1 ?hz_a2 ?hz_a3 ?hz_a4 ?hz_a5 ?hz_a6 ?hz_a7 ?hz_b1 ?hz_b2) ?hz_k1 ?hz_k2 ?hz_k3 ?hz_k4 ?hz_k5 ?hz_kK ?hz_kd ?hz_ku ?_; (case hz_k1 => k_asm); (case hz_k2 => k_asm); (case hz_k3 => k_asm); (case hz_k4 => first | k_asm | exact ntl (by k_asm) | exact ntl (ntl (by k_asm))); (case hz_k5 => k_asm); (case hz_kK => first | exact rfl | assumption); (case hz_ih => assumption); (case hz_a1 => assumption); (case hz_a2 => assumption); (case hz_a3 => omega); (case hz_a4 => omega); (case hz_a5 => omega); (case hz_a6 => omega); (case hz_a7 => omega); (case hz_b1 => assumption); (case hz_b2 => assumption); (case hz_kd => ktr_room); (case hz_ku => ktr_units)); intro r9 news9 h9 tk9 F9 N9 hp9; unfold TreePost at hp9; obtain ⟨T8, v8, R8, tq8, rest8, p18, t18, p28, t28, t38, e8, e9, hdp8, hT8, hm8, hr8, hn8, en, hp0, hp1, hp2⟩ := hp9; obtain ⟨a8, k8, u8, more8, ev8, hh8, hf8⟩ := anyHead hT8; (have hz8 := size_le hT8.fine (by omega)); subst ev8; subst e9; subst en))
  (k_with "binaryOp Add bytes bytes" => (k_here; k_dflt (refine' KBy.add_bytes ?hz_sz ?_); (case hz_sz => ((try simp only [Array.size_append, List.size_toArray, List.length_cons, List.length_nil]); omega)); intro t9 k9; (try dsimp only)))
  trivial
theorem bb_trans {k s : Str} {T : Tree} {c : Bool} (h : (k == s) = isFlag T) (h' : (k == s) = c) : isFlag T = c := h.symm.trans h'
theorem reg85 : True := by
  (k_with "subscriptTail Name Constant ref int" => (k_here; k_dflt (refine' item_tupleT (News.isTup (by k_asm) (by k_mem)) ?hz_a ?hz_b ?hz_c ?hz_d ?_; (case hz_a => decide); (case hz_b => decide); (case hz_c => first | rfl | exact seq0 _); (case hz_d => rfl); k_whole)))
  trivial
theorem out_not {h₀ h : Heap} {L P C R b : Addr} {D : Array UInt8} {t t1 t2 t3 u : Tok} {a1 a2 p1 p3 c : Int} {e' e'' tk dm : Nat} {cells : List Value} {v1 : Value} {rest r1 led : List (Addr × Obj)} {T1 : Tree} {m : Str → Option Value} {s : Shared} {Q : Value → Shared → Prop} 
    (hret : ∀ r news' h' tk', Fr h₀ L h' m → News h₀ L h' news' → TreePost P C cells p1 p3 e' rest (dm + 1) c news' r → Q r { s with heap := h', toks := tk' })
    (F : Fr h₀ L h m) (N : News h₀ L h led) (hR : (R, tup [.ref b, .bytes D t, .bool false]) ∈ led) (hb : (b, tup [.str (Str.ofString "not") u, v1]) ∈ led) (hP : (P, listOf #[.ref C, .int a1 t1, .int a2 t2, .int p3 t3] e'') ∈ led) (hC : (C, listOf cells.toArray e') ∈ led) (i1 : IsTree r1 T1 v1) (m1 : ∀ q ∈ rest, q ∈ r1) (n1 : ∀ q ∈ r1, q.1 ≠ P) (hX : ∀ q ∈ r1, q ∈ led) (d1 : depth T1 ≤ dm) (e : D = qryQ (.not T1)) (q : 0 ≤ a1 ∧ a1 ≤ p1 + c ∧ 0 ≤ a2 ∧ @LT.lt Nat _ P R ∧ @LT.lt Nat _ P b) : Q (.ref R) { s with heap := h, toks := tk } :=
  tree_out (T := .not T1) hret F N hR hb hP hC hX m1 n1 ⟨_, _, _, rfl, .head _, i1.mono fun _ h => .tail _ h⟩ (Nat.succ_le_succ d1) e rfl (Nat.ne_of_gt q.2.2.2.2) ⟨q.1, q.2.1, q.2.2.1, q.2.2.2.1⟩
theorem two_depth {T1 T2 : Tree} {dm : Nat} (d1 : depth T1 ≤ dm) (d2 : depth T2 ≤ dm) : max (depth T1) (depth T2) + 1 ≤ dm + 1 := Nat.succ_le_succ (Nat.max_le.mpr ⟨d1, d2⟩)
theorem out_and {h₀ h : Heap} {L P C R b : Addr} {B : Array UInt8} {t t1 t2 t3 u : Tok} {a1 a2 p1 p3 c : Int} {e' e'' tk dm : Nat} {cells : List Value} {v1 v2 : Value} {rest r1 r2 led : List (Addr × Obj)} {T1 T2 : Tree} {m : Str → Option Value} {s : Shared} {Q : Value → Shared → Prop} 
    (hret : ∀ r news' h' tk', Fr h₀ L h' m → News h₀ L h' news' → TreePost P C cells p1 p3 e' rest (dm + 1) c news' r → Q r { s with heap := h', toks := tk' })
    (F : Fr h₀ L h m) (N : News h₀ L h led) (hR : (R, tup [.ref b, .bytes (qryQ T1 ++ #[32] ++ B) t, .bool true]) ∈ led) (hb : (b, tup [.str (Str.ofString "and") u, v1, v2]) ∈ led) (hP : (P, listOf #[.ref C, .int a1 t1, .int a2 t2, .int p3 t3] e'') ∈ led) (hC : (C, listOf cells.toArray e') ∈ led) (i1 : IsTree r1 T1 v1) (i2 : IsTree r2 T2 v2) (m1 : ∀ q ∈ rest, q ∈ r1) (m2 : ∀ q ∈ r1, q ∈ r2) (n2 : ∀ q ∈ r2, q.1 ≠ P) (hX : ∀ q ∈ r2, q ∈ led) (d1 : depth T1 ≤ dm) (d2 : depth T2 ≤ dm) (hB : B = keyQ T2) (q : 0 ≤ a1 ∧ a1 ≤ p1 + c ∧ 0 ≤ a2 ∧ @LT.lt Nat _ P R ∧ @LT.lt Nat _ P b) : Q (.ref R) { s with heap := h, toks := tk } :=
  tree_out (T := .and T1 T2) hret F N hR hb hP hC hX (fun q h => m2 q (m1 q h)) n2 ⟨_, _, _, _, rfl, .head _, i1.mono fun _ h => .tail _ (m2 _ h), i2.mono fun _ h => .tail _ h⟩ (two_depth d1 d2) (and_eq hB) rfl (Nat.ne_of_gt q.2.2.2.2) ⟨q.1, q.2.1, q.2.2.1, q.2.2.2.1⟩
theorem out_or {h₀ h : Heap} {L P C R b : Addr} {B D : Array UInt8} {t t1 t2 t3 u : Tok} {a1 a2 p1 p3 c : Int} {e' e'' tk dm : Nat} {cells : List Value} {v1 v2 : Value} {rest r1 r2 led : List (Addr × Obj)} {T1 T2 : Tree} {m : Str → Option Value} {s : Shared} {Q : Value → Shared → Prop} 
    (hret : ∀ r news' h' tk', Fr h₀ L h' m → News h₀ L h' news' → TreePost P C cells p1 p3 e' rest (dm + 1) c news' r → Q r { s with heap := h', toks := tk' })
    (F : Fr h₀ L h m) (N : News h₀ L h led) (hR : (R, tup [.ref b, .bytes (#[79, 82, 32] ++ B ++ #[32] ++ D) t, .bool false]) ∈ led) (hb : (b, tup [.str (Str.ofString "or") u, v1, v2]) ∈ led) (hP : (P, listOf #[.ref C, .int a1 t1, .int a2 t2, .int p3 t3] e'') ∈ led) (hC : (C, listOf cells.toArray e') ∈ led) (i1 : IsTree r1 T1 v1) (i2 : IsTree r2 T2 v2) (m1 : ∀ q ∈ rest, q ∈ r1) (m2 : ∀ q ∈ r1, q ∈ r2) (n2 : ∀ q ∈ r2, q.1 ≠ P) (hX : ∀ q ∈ r2, q ∈ led) (d1 : depth T1 ≤ dm) (d2 : depth T2 ≤ dm) (hB : B = keyQ T1) (hD : D = keyQ T2) (q : 0 ≤ a1 ∧ a1 ≤ p1 + c ∧ 0 ≤ a2 ∧ @LT.lt Nat _ P R ∧ @LT.lt Nat _ P b) : Q (.ref R) { s with heap := h, toks := tk } :=
  tree_out (T := .or T1 T2) hret F N hR hb hP hC hX (fun q h => m2 q (m1 q h)) n2 ⟨_, _, _, _, rfl, .head _, i1.mono fun _ h => .tail _ (m2 _ h), i2.mono fun _ h => .tail _ h⟩ (two_depth d1 d2) (or_eq hB hD) rfl (Nat.ne_of_gt q.2.2.2.2) ⟨q.1, q.2.1, q.2.2.1, q.2.2.2.1⟩
set_option maxRecDepth 100000 in
set_option maxHeartbeats 8000000 in
theorem law_tree0 (w : World) : TreeOk w 12 0 0 3 := by
  unfold TreeOk
  intro P C cells ns p1 p2 p3 t1 t2 t3 td e e' rest hc hn h1 h1' h2 h3 h3' hPC hP
  k_fill
  unfold Ret
  intro mean mg mb dp un gd cn cs a ccd cl outer A₀ base h₀ L m s Q E B F X N T hk hd hu hret
  refine wpAny_call ?_
  k_dflt (refine' code_def (binds := [(Str.ofString "pen", .ref P), (Str.ofString "deep", .int 0 td)]) ?k1 ?k2 ?k3 ?k4 ?k5 ?kA ?kF ?kK ?k6 ?k7 ?k8 ?k9 ?kB ?_ ?c2 ?c3 ?c4 ?c5; (case kA => exact rfl); (case kF => exact rfl); (case kK => assumption); (case k1 => k_asm); (case k2 => k_asm); (case k3 => k_asm); (case k4 => k_asm); (case k5 => k_asm); (case k6 => k_is); (case k7 => k_is); (case k8 => ktr_room); (case k9 => first | exact BindsTo.of_eq rfl | exact binds_K (by k_in) rfl (by k_is) rfl rfl rfl); (case c5 => decide); (case kB => exact locs rfl); (case c2 => exact rfl); (case c3 => exact rfl); (case c4 => exact rfl); k_whole; intro g' L' h' FG' F' N' B' X' T'; (try dsimp only); (try k_fold))
  repeat' (first | (k_unfold; (try dsimp only)) | (first | walk1 | (dsimp only; walk1)) | fail "no step")
  all_goals (rename News _ _ _ _ => N9)
  all_goals ((refine' tree_out (T := .leaf _) (vs := _) (restX := rest) hret ?kF N9 ?hR ?hb ?hP ?hC ?hX ?hrX ?hnX ?hT ?hd ?e ?eb ?hbP ?q); (case kF => k_asm); (case hR => with_reducible repeat (first | exact List.mem_cons_self | apply List.mem_cons_of_mem)); (case hb => with_reducible repeat (first | exact List.mem_cons_self | apply List.mem_cons_of_mem)); (case hP => repeat (first | exact List.Mem.head _ | apply List.Mem.tail)); (case hC => repeat (first | exact List.Mem.head _ | apply List.Mem.tail)); (case hX => (intro q hq; repeat (first | exact hq | apply List.Mem.tail))); (case hrX => exact fun _ h => h); (case hnX => assumption); (case hT => exact ⟨_, _, rfl, .head _, by assumption⟩); (case hd => exact Nat.zero_le _); (case e => rfl); (case eb => rfl); (case hbP => assumption); (case q => omega))
set_option maxRecDepth 100000 in
set_option maxHeartbeats 8000000 in
theorem law_tree_of (w : World) (need dm : Nat) (dp0 c : Int) (hn12 : 12 ≤ need) (hneed : need ≤ 20) (h0 : 0 < dp0) (hc3 : 3 ≤ c) (hdm : dm + 1 ≤ 3) (IH : TreeOk w need (dp0 - 1) dm c) : TreeOk w (need + 1) dp0 (dm + 1) (1 + 2 * c) := by
  unfold TreeOk
  intro P C cells ns p1 p2 p3 t1 t2 t3 td e e' rest hc hn h1 h1' h2 h3 h3' hPC hP
  k_fill
  unfold Ret
  intro mean mg mb dp un gd cn cs a ccd cl outer A₀ base h₀ L m s Q E B F X N T hk hd hu hret
  refine wpAny_call ?_
  k_dflt (refine' code_def (binds := [(Str.ofString "pen", .ref P), (Str.ofString "deep", .int dp0 td)]) ?k1 ?k2 ?k3 ?k4 ?k5 ?kA ?kF ?kK ?k6 ?k7 ?k8 ?k9 ?kB ?_ ?c2 ?c3 ?c4 ?c5; (case kA => exact rfl); (case kF => exact rfl); (case kK => assumption); (case k1 => k_asm); (case k2 => k_asm); (case k3 => k_asm); (case k4 => k_asm); (case k5 => k_asm); (case k6 => k_is); (case k7 => k_is); (case k8 => ktr_room); (case k9 => first | exact BindsTo.of_eq rfl | exact binds_K (by k_in) rfl (by k_is) rfl rfl rfl); (case c5 => decide); (case kB => exact locs rfl); (case c2 => exact rfl); (case c3 => exact rfl); (case c4 => exact rfl); k_whole; intro g' L' h' FG' F' N' B' X' T'; (try dsimp only); (try k_fold))
  repeat' (first | (k_unfold; (try dsimp only)) | (first | walk1 | (dsimp only; walk1)) | fail "no step")
  all_goals (rename News _ _ _ _ => N9)
  all_goals first
    | ((refine' tree_out (T := .leaf _) (vs := _) (restX := rest) hret ?kF N9 ?hR ?hb ?hP ?hC ?hX ?hrX ?hnX ?hT ?hd ?e ?eb ?hbP ?q); (case kF => k_asm); (case hR => with_reducible repeat (first | exact List.mem_cons_self | apply List.mem_cons_of_mem)); (case hb => with_reducible repeat (first | exact List.mem_cons_self | apply List.mem_cons_of_mem)); (case hP => repeat (first | exact List.Mem.head _ | apply List.Mem.tail)); (case hC => repeat (first | exact List.Mem.head _ | apply List.Mem.tail)); (case hX => (intro q hq; repeat (first | exact hq | apply List.Mem.tail))); (case hrX => exact fun _ h => h); (case hnX => assumption); (case hT => exact ⟨_, _, rfl, .head _, by assumption⟩); (case hd => exact Nat.zero_le _); (case e => rfl); (case eb => rfl); (case hbP => assumption); (case q => omega))
    | ((refine' out_not hret ?kF N9 ?hR ?hb ?hP ?hC ?i1 ?m1 ?n1 ?hX ?d1 ?e ?q); (case kF => k_asm); (case hR => with_reducible repeat (first | exact List.mem_cons_self | apply List.mem_cons_of_mem)); (case hb => with_reducible repeat (first | exact List.mem_cons_self | apply List.mem_cons_of_mem)); (case hP => repeat (first | exact List.Mem.head _ | apply List.Mem.tail)); (case hC => repeat (first | exact List.Mem.head _ | apply List.Mem.tail)); (case i1 => assumption); (case m1 => assumption); (case n1 => assumption); (case d1 => assumption); (case hX => (intro q hq; repeat (first | exact hq | apply List.Mem.tail))); (case e => first | exact un_eq (bb_trans (by assumption) (by assumption)) | exact not_eq (bb_trans (by assumption) (by assumption)) (key_andT (by assumption)).symm | exact not_eq (bb_trans (by assumption) (by assumption)) (key_nonT (by assumption)).symm); (case q => omega))
    | ((refine' out_and hret ?kF N9 ?hR ?hb ?hP ?hC ?i1 ?i2 ?m1 ?m2 ?n2 ?hX ?d1 ?d2 ?hB ?q); (case kF => k_asm); (case hR => with_reducible repeat (first | exact List.mem_cons_self | apply List.mem_cons_of_mem)); (case hb => with_reducible repeat (first | exact List.mem_cons_self | apply List.mem_cons_of_mem)); (case hP => repeat (first | exact List.Mem.head _ | apply List.Mem.tail)); (case hC => repeat (first | exact List.Mem.head _ | apply List.Mem.tail)); (case i1 => assumption); (case i2 => assumption); (case m1 => assumption); (case m2 => assumption); (case n2 => assumption); (case d1 => assumption); (case d2 => assumption); (case hX => (intro q hq; repeat (first | exact hq | apply List.Mem.tail))); (case hB => first | exact (key_andT (by assumption)).symm | exact (key_nonT (by assumption)).symm); (case q => omega))
    | ((refine' out_or hret ?kF N9 ?hR ?hb ?hP ?hC ?i1 ?i2 ?m1 ?m2 ?n2 ?hX ?d1 ?d2 ?hB ?hD ?q); (case kF => k_asm); (case hR => with_reducible repeat (first | exact List.mem_cons_self | apply List.mem_cons_of_mem)); (case hb => with_reducible repeat (first | exact List.mem_cons_self | apply List.mem_cons_of_mem)); (case hP => repeat (first | exact List.Mem.head _ | apply List.Mem.tail)); (case hC => repeat (first | exact List.Mem.head _ | apply List.Mem.tail)); (case i1 => assumption); (case i2 => assumption); (case m1 => assumption); (case m2 => assumption); (case n2 => assumption); (case d1 => assumption); (case d2 => assumption); (case hX => (intro q hq; repeat (first | exact hq | apply List.Mem.tail))); (case hB => first | exact (key_andT (by assumption)).symm | exact (key_nonT (by assumption)).symm); (case hD => first | exact (key_andT (by assumption)).symm | exact (key_nonT (by assumption)).symm); (case q => omega))
    | (exfalso; omega)
    | fail
theorem law_tree (w : World) : TreeOk w 15 3 3 31 := by
  have h1 : TreeOk w 13 1 1 7 := law_tree_of w 12 0 1 3 (by decide) (by decide) (by decide) (by decide) (by decide) (law_tree0 w)
  have h2 : TreeOk w 14 2 2 15 := law_tree_of w 13 1 2 7 (by decide) (by decide) (by decide) (by decide) (by decide) h1
  exact law_tree_of w 14 2 3 15 (by decide) (by decide) (by decide) (by decide) (by decide) h2
end Mine
end
section
open PySem PySem.W PySem.Calls PyProof.Rows
namespace Mine
theorem reg86 : True := by
  w_top off
  k_with_none
  (k_with "execs cons" => (k_here; dsimp only))
  (k_with "execs nil" => (k_here; dsimp only))
  (k_with "subscriptTail Name Constant ref int" => (k_here; k_dflt (first
  | (refine' topTup_K ?hz_F ?hz_X ?hz_l ?hz_a ?hz_b ?hz_c ?hz_d ?_; (case hz_F => k_asm); (case hz_X => k_asm); (case hz_l => k_is); (case hz_a => decide); (case hz_b => decide); (case hz_c => rfl); (case hz_d => rfl))
  | (refine' item_tupleT (News.isTup (by k_asm) (by k_mem)) ?hz_a ?hz_b ?hz_c ?hz_d ?_; (case hz_a => decide); (case hz_b => decide); (case hz_c => rfl); (case hz_d => rfl); k_whole)
  | (refine' item_litK (News.isList (by k_asm) (by k_mem)) ?hz_a ?hz_b ?hz_d ?_; (case hz_a => decide); (case hz_b => decide); (case hz_d => rfl); k_whole))))
  (k_with "subscriptTail Name UnaryOp ref int" => (k_here; k_dflt (first
  | (refine' topTup_K ?hz_F ?hz_X ?hz_l ?hz_a ?hz_b ?hz_c ?hz_d ?_; (case hz_F => k_asm); (case hz_X => k_asm); (case hz_l => k_is); (case hz_a => decide); (case hz_b => decide); (case hz_c => rfl); (case hz_d => rfl))
  | (refine' item_tupleT (News.isTup (by k_asm) (by k_mem)) ?hz_a ?hz_b ?hz_c ?hz_d ?_; (case hz_a => decide); (case hz_b => decide); (case hz_c => rfl); (case hz_d => rfl); k_whole))))
  (k_with "LeaveD" => (k_dflt (refine' leaveD_ ?hz_k1 ?hz_k2 ?_; (case hz_k1 => k_asm); (case hz_k2 => k_asm); k_whole); intro kF kN; ground_anew kF; (have kX := kFor kF (by k_asm))))
  (k_with "wpK" => ((with_reducible show wpK _ _ (execs (_ :: _) _) _ _); refine wpK_execs_cons ?_; (try dsimp only)))
  (k_with "wpK" => ((with_reducible show wpK _ _ (execs [] _) _ _); refine wpK_execs_nil ?_; (try dsimp only)))
  (k_with "wpK" => ((with_reducible show wpK _ _ (exec (Stmt.Return (some _) _) _) _ _); refine wpK_Return ?_; (try dsimp only)))
  (k_with "wpK" => ((with_reducible show wpK _ _ (exec (Stmt.If _ _ _ _) _) _ _); refine wpK_If ?_))
  (k_with "wpK" => ((with_reducible show wpK _ _ (exec (Stmt.Expr _ _) _) _ _); refine wpK_Expr ?_))
  (k_with "wpK" => ((with_reducible show wpK _ _ (exec (Stmt.Assign [Expr.Name _ _] _ _) _) _ _); refine wpK_Assign_Name ?_))
  (k_with "wpK" => ((with_reducible show wpK _ _ (eval (Expr.Name _ _) _) _ _); refine wpK_any ?_))
  (k_with "wpK" => ((with_reducible show wpK _ _ (eval (Expr.Constant _ _ _) _) _ _); refine wpK_any ?_))
  (k_with "wpK" => ((with_reducible show wpK _ _ (eval (Expr.BinOp _ _ _ _) _) _ _); refine wpK_BinOp ?_))
  (k_with "wpK" => ((with_reducible show wpK _ _ (eval (Expr.Compare _ [_] [_] _) _) _ _); refine wpK_Compare1 ?_))
  (k_with "wpK" => ((with_reducible show wpK _ _ (binaryOp _ _ _) _ _); refine wpK_any ?_))
  (k_with "wpK" => ((with_reducible show wpK _ _ (compareOp _ _ _) _ _); refine wpK_any ?_))
  (k_with "wpK" => ((with_reducible show wpK _ _ (eval (Expr.Call (Expr.Name _ _) _ [] _) _) _ _); refine wpK_CallName ?_))
  (k_with "wpK" => ((with_reducible show wpK _ _ (eval (Expr.Call (Expr.Attribute _ _ _) _ [] _) _) _ _); refine wpK_CallMeth ?_))
  (k_with "wpK" => ((with_reducible show wpK _ _ (callWith _ (Value.type _) _ _ _) _ _); k_dflt (refine callWithK_any rfl ?_)))
  (k_with "wpK" => ((with_reducible show wpK _ _ (callWith _ (Value.builtin _) _ _ _) _ _); k_dflt (refine callWithK_any rfl ?_)))
  (k_with "wpK" => ((with_reducible show wpK _ _ (callWith _ (Value.ref _) _ _ _) _ _); k_dflt (refine' callWithK_def ?hz_k1 ?hz_k2 ?_; (case hz_k1 => k_asm); (case hz_k2 => k_is); k_whole)))
  (k_with "wpK" => ((with_reducible show wpK _ _ (call (Value.type "bytearray") [Value.bytes _ _]) _ _); k_dflt (refine' make_K ?hz_k1 ?hz_k2 ?hz_k3 ?_; (case hz_k1 => k_asm); (case hz_k2 => k_asm); (case hz_k3 => size_fits); k_whole); intro D9 h9 ne9 F9 N9; (try dsimp only at F9 N9 ⊢)))
  (k_with "wpK" => ((with_reducible show wpK _ _ (call (Value.builtin "bytearray.append") _) _ _); k_dflt (refine' appendB_K ?hz_k1 ?hz_k2 ?hz_k3 ?hz_k4 ?hz_k5 ?hz_k6 ?_; (case hz_k1 => k_asm); (case hz_k2 => k_asm); (case hz_k3 => k_upd); (case hz_k4 => omega); (case hz_k5 => omega); (case hz_k6 => first | assumption | (rw [sizeLine_eq]; (try simp only [Array.size_push]); omega)); k_whole); intro h9 F9 N9; (try dsimp only at F9 N9 ⊢)))
  (k_with "getMethod ref" => (k_here; k_dflt (refine' method_append ?hz_k1 ?hz_k2 ?_; (case hz_k1 => k_asm); (case hz_k2 => k_mem); k_whole)))
  (k_with "call type:bytes cons nil" => (k_here; k_dflt (refine' bytes_K ?hz_k1 ?hz_k2 ?hz_k3 ?_; (case hz_k1 => k_asm); (case hz_k2 => k_mem); (case hz_k3 => first | assumption | size_fits); k_whole); intro t9 k9; (try dsimp only)))
  (k_with "wpK" => ((with_reducible show wpK _ _ (call (Value.type "bytes") _) _ _); refine wpK_any ?_))
  (k_with "call type:bytes cons nil" => (k_here; (with_reducible show wpAny _ _ (call (Value.type "bytes") [Value.bytes _ _]) _ _ _); k_dflt (refine bytes_of_bytes ?_)))
  (k_with "binaryOp Add bytes bytes" => (k_here; k_dflt (refine' KBy.add_bytes ?hz_sz ?_); (case hz_sz => ((try simp only [Array.size_append, List.size_toArray, List.length_cons, List.length_nil]); omega)); intro t9 k9; (try dsimp only)))
  (k_with "wpK" => ((with_reducible show wpK _ _ (exec (Stmt.Assign [Expr.Tuple _ _ _] _ _) _) _ _); refine wpK_any ?_))
  (k_with "wpK" => ((with_reducible show wpK _ _ (eval (Expr.Subscript _ _ _) _) _ _); refine wpK_any ?_))
  (k_with "wpK" => ((with_reducible show wpK _ _ (eval (Expr.List _ _) _) _ _); refine wpK_any ?_))
  trivial
theorem news_two {h₀ h : Heap} {L P C : Addr} {oP oC : Obj} {led : List (Addr × Obj)} (N : News h₀ L h led) (hP : (P, oP) ∈ led) (hC : (C, oC) ∈ led) : News h₀ L h [(P, oP), (C, oC)] := by
  intro p hp
  rcases List.mem_cons.mp hp with rfl | hp
  · exact N _ hP
  rcases List.mem_cons.mp hp with rfl | hp
  · exact N _ hC
  · cases hp
theorem fm1' {a : Int} : a.fmod 1009 ≤ 1008 := by have := @fm1 a 1009 (by decide); omega
theorem codeK_top {prog : Program} {w : World} {A : Around} {s : Shared} {name : PySem.Str} {params : Arguments} {body : List Stmt} {scope : Scope} {dV kV pm cd doc : Value} {a : Addr} {o : Obj} {args : Args} {binds : List (PySem.Str × Value)} {R : Value → Shared → Prop}
    (hroom : A.depth < recursionLimit) (ho : s.heap.get? a = some o) (hdata : o.data = .func { docDef name params body scope pm cd doc with defaults := dV, kwdefaults := kV }) (hlim : s.heap.NoLimit) (hcd : s.heap.CodeRec cd name)
    (hbind : BindsTo s { docDef name params body scope pm cd doc with defaults := dV, kwdefaults := kV } args binds) (hloc : ∀ x ∈ binds, scope.names.lookup x.1 = some .local)
    (h : ∀ h₁, Fr s.heap s.heap.objs.size h₁ (fun x => binds.reverse.lookup x) →
      wpK (model prog w) (A.deeper (envOf name scope s.heap.objs.size a cd)) (execs body (envOf name scope s.heap.objs.size a cd)) (fun f s' => R (match f with | .ret v => v | _ => .none) s') { s with heap := h₁, toks := s.toks + binds.length })
    (hco : scope.isCoroutine = false := by rfl) (hgen : scope.isGenerator = false := by rfl) (hk : scope.kind = .function := by rfl) (hcell : ∀ x ∈ scope.names, x.2 ≠ .cell := by decide) :
    codeK (model prog w) A (.call (.ref a) args) (fun fl s' => match fl with | .ret v => R v s' | _ => False) s := by
  refine codeK_call_function hroom ho hdata hco hgen rfl hcd (hbind _ _ _ _ ?_)
  refine wpAny_newFunctionEnv hcell hloc (fun h₁ hns₁ hsb₁ => ⟨hlim.fresh _ hsb₁, codeK_func ?_⟩) hk
  have hk₁ : ∀ b o, s.heap.get? b = some o → h₁.get? b = some o := fun b o e => hsb₁.extBut b o (Nat.ne_of_lt (Heap.lt_size e)) (Heap.get?_push_of_some _ e)
  exact wpK_mono (h h₁ ⟨hns₁, hk₁, Nat.le_refl _⟩) fun fl s' hl => hl
theorem reg87 : True := by
  (k_with "k_mem" => first | assumption | (refine List.Mem.tail _ (List.Mem.tail _ ?_); assumption))
  (k_with "wpK" => ((with_reducible show wpK _ _ (call (Value.ref 252) _) _ _); k_dflt (refine' kret_use (show_query _ _ _ _ ?hz_hT ?hz_hd) ?hz_k1 ?hz_k2 ?hz_k3 ?hz_k4 ?hz_k5 ?hz_kK ?hz_kd ?hz_ku ?_; (case hz_k4 => k_asm); (case hz_hT => exact IsTree.mono (fun _ h => .tail _ (.tail _ h)) (by assumption)); (case hz_k1 => k_asm); (case hz_k2 => k_asm); (case hz_k3 => k_asm); (case hz_k5 => k_asm); (case hz_kK => first | exact rfl | assumption); (case hz_hd => assumption); (case hz_kd => ktr_room); (case hz_ku => ktr_units)); intro r9 news9 h9 tk9 F9 N9 hp9; obtain ⟨e8, t9, e9⟩ := hp9; replace e8 := e8.symm; subst e8; subst e9))
  trivial
set_option maxRecDepth 100000 in
set_option maxHeartbeats 8000000 in
theorem walk : WalkGiven := by
  show WalkC Mine.top.view_1_40 [Str.ofString "PostError", Str.ofString "literal_octets", Str.ofString "string_octets", Str.ofString "astring_octets"] (XL Mine.top.view_1_40 []) (fun w h => (Mine.top.heap_1_39 w.params).In h) PySem.Challenge.rw_nz0288_01.row.toRowW (DefRec.mk _ _ _ _ _) []
  k_fill
  intro w s₀ s₁ mg mb G Y fa o pm cd doc dV kV ho hd hcd hD hmg hg args vals as hpre hlay hrd hwl hlo
  have KX : (Mine.top.heap_1_39 w.params).In s₁.heap := Y
  refine Ground.open G ?_
  intro T B D TE TW
  try (refine guard_noD D (by decide +kernel) ?_; clear D)
  obtain ⟨_, _, M⟩ := bmod_of_top T
  have TA := at_of_top T
  try (obtain ⟨_, _, he, B0⟩ := based_of_top T rfl hmg ho hd; have he' : cd = _ := he; subst he'; clear he)
  clear hmg
  wrow_args hpre hlay hrd hwl hlo
  have K0 := below_caller (Top.heap T)
  refine wpK_call ?_
  have he := Dflts.none hD rfl
  subst he
  refine codeK_top (by decide) ho hd (Top.nolimit T) hcd (BindsTo.of_eq rfl) (locs rfl) fun h₁ F => ?_
  w_binds F
  have N0 := (News.nil : News _ _ _ []).at F
  clear hd TA
  repeat' ((fail_if_success (with_reducible show wpAny _ _ (call (Value.ref _) _) _ _ _)); (first | (k_unfold; (try dsimp only)) | (first | walk1 | (dsimp only; walk1)) | fail "no step"))
  (rename News _ _ _ _ => N9)
  k_dflt (refine' ret_use (TreeOk.use (law_tree _) ?a1 ?a2 ?a3 ?a4 ?a5 ?a6 ?a7 ?b1 ?b2) ?k1 ?k2 ?k3 (news_two N9 ?n1 ?n2) ?k5 ?kK ?kd ?ku ?_; (case n1 => repeat (first | exact List.Mem.head _ | apply List.Mem.tail)); (case n2 => repeat (first | exact List.Mem.head _ | apply List.Mem.tail)); (case k1 => k_asm); (case k2 => k_asm); (case k3 => k_asm); (case k5 => k_asm); (case kK => first | exact rfl | assumption); (case a1 => assumption); (case a2 => exact List.length_take_le _ _); (case a3 => decide); (case a4 => decide); (case a5 => decide); (case a6 => exact fm0 (by decide)); (case a7 => exact fm1'); (case b1 => exact Nat.ne_of_lt (by omega)); (case b2 => exact fun _ h => nomatch h); (case kd => ktr_room); (case ku => ktr_units))
  intro r9 news9 h9 tk9 F9 N9 hp9
  unfold TreePost at hp9
  obtain ⟨T8, v8, R8, tq8, rest8, p18, t18, p28, t28, t38, e8, e9, hdp8, hT8, hm8, hr8, hn8, en, hp0, hp1, hp2⟩ := hp9
  have hz8 := size_le hT8.fine hdp8
  subst e9
  subst en
  repeat' ((first | (k_unfold; (try dsimp only)) | (first | walk1 | (dsimp only; walk1)) | fail "no step"))
  rw [beq_self_eq_true]
  refine GoodW.toG ?_
  first | (k_steps; done) | walk1 | skip
  all_goals (try w_report)
end Mine
end
theorem PySem.Challenge.cw_nz0288_01_holds : PySem.Challenge.rw_nz0288_01.Holds :=
  Mine.top Mine.walk
