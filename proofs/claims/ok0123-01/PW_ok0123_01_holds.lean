import PyProof.Rows.All
import Wide.All
import OpenK.AllK
import Wide.FinOn
import PySem.Challenge.RW_ok0123_01
set_option Elab.async false
set_option maxRecDepth 100000
set_option maxHeartbeats 8000000

section
open PySem PySem.W PySem.Spec PySem.Calls PyProof.Rows
namespace Mine

/-- the built-ins that may lend a bytearray out while they stand on the stack -/
def lenders : List String := ["bytearray.__contains__", "bytearray.__mod__", "bytearray.__rmod__", "_struct.pack_into.held", "bytearray.find.held"] ++ Builtin.Bytes.decodersThatHold
def calmC : Code → Bool
  | .builtin id _ => !lenders.contains id
  | _ => true
theorem calm_not {id : String} {args : Args} (h : lenders.contains id = true) : ¬ calmC (.builtin id args) = true := by show ¬ (!lenders.contains id) = true; rw [h]; exact Bool.false_ne_true
def calmS (l : List (Code × Pos)) : Prop := ∀ x ∈ l, calmC x.1 = true
structure InD (Γ : PySem.Ctx) (A : Around) : Prop where
  inA : Γ.In A
  code : calmC Γ.code = true
  below : calmS Γ.below
structure BelowD (Γ : PySem.Ctx) (A : Around) : Prop where
  belowA : Γ.Below A
  below : calmS Γ.below
/-- as wpAny, on calm stacks alone, and without an exception -/
def wpD {α : Type} (M : Model) (A : Around) (t : Sem α) (Q : α → Shared → Prop) (s : Shared) : Prop :=
  ∀ Γ p, InD Γ A → Sem.wp M Γ t (fun a _ s' => Q a s') (fun _ _ _ => False) p s
def codeD (M : Model) (A : Around) (c : Code) (R : Result → Shared → Prop) (s : Shared) : Prop :=
  ∀ Γ p, Γ.code = c → BelowD Γ A → wpCode M Γ R p s

section
variable {α β : Type} {M : Model} {A : Around} {s : Shared}
theorem wpD_any {t : Sem α} {Q : α → Shared → Prop} (h : wpAny M A t Q (fun _ _ => False) s) : wpD M A t Q s := fun Γ p d => h Γ p d.inA
theorem wpD_pure {a : α} {Q : α → Shared → Prop} (h : Q a s) : wpD M A (pure a) Q s := fun _ _ _ => h
theorem wpD_mono {t : Sem α} {Q Q' : α → Shared → Prop} (h : wpD M A t Q s) (hQ : ∀ a s, Q a s → Q' a s) : wpD M A t Q' s :=
  fun Γ p d => Sem.wp_mono M Γ t (fun a _ s => hQ a s) (fun _ _ _ x => x) p s (h Γ p d)
theorem wpD_bind {m : Sem α} {f : α → Sem β} {Q : β → Shared → Prop} (h : wpD M A m (fun a s' => wpD M A (f a) Q s') s) : wpD M A (m >>= f) Q s := fun Γ p d => by
  rw [Sem.wp_bind']
  exact Sem.wp_mono M Γ m (fun a p' s' h' => h' Γ p' d) (fun _ _ _ h' => h') p s (h Γ p d)
/-- a leaf by wpAny, the rest on calm stacks -/
theorem wpD_leaf {m : Sem α} {f : α → Sem β} {Q : β → Shared → Prop} (h : wpAny M A m (fun a s' => wpD M A (f a) Q s') (fun _ _ => False) s) : wpD M A (m >>= f) Q s := wpD_bind (wpD_any h)
theorem wpD_onRaise {m : Sem α} {k : Value → Sem Unit} {Q : α → Shared → Prop} (h : wpD M A m Q s) : wpD M A (m.onRaise k) Q s := fun Γ p d => by
  rw [Sem.wp_onRaise]
  exact Sem.wp_mono M Γ m (fun _ _ _ h' => h') (fun _ _ _ h' => h'.elim) p s (h Γ p d)
theorem wpD_holding {vs : List Value} {m : Sem α} {Q : α → Shared → Prop} (h : wpD M A m Q s) : wpD M A (holding vs m) Q s := fun Γ p d => by
  rw [Sem.wp_holding]; exact h Γ p d
theorem wpD_operate {vs : List Value} {m : Sem Value} {Q : Value → Shared → Prop} (h : wpD M A m Q s) : wpD M A (operate vs m) Q s := fun Γ p d => by
  rw [Sem.wp_operate]; exact h Γ p d
theorem wpD_standAt {pos : Pos} {f : Unit → Sem β} {Q : β → Shared → Prop} (h : wpD M A (f ()) Q s) : wpD M A (standAt pos >>= f) Q s := wpD_leaf (wpAny_standAt h)
theorem wpD_of_eq {t t' : Sem α} {Q : α → Shared → Prop} (e : t = t') (h : wpD M A t' Q s) : wpD M A t Q s := e ▸ h

theorem calmS_cons {c : Code} {p : Pos} {l : List (Code × Pos)} (h : calmC c = true) (hl : calmS l) : calmS ((c, p) :: l) := fun x hx => by
  rcases List.mem_cons.mp hx with rfl | hx
  · exact h
  · exact hl x hx
theorem InD.enter {Γ : PySem.Ctx} (d : InD Γ A) (c : Code) (p : Pos) : BelowD (Γ.enter c none p) A :=
  ⟨by have := d.inA.enter c none p (by intro x; cases x); simpa [Around.mark] using this, calmS_cons d.code d.below⟩
theorem wpD_run {c : Code} {Q : Flow → Shared → Prop} (h : codeD M A c (fun r s' => match r with | .ok f => Q f s' | .error _ => False) s) : wpD M A (run c none) Q s := fun Γ p d => by
  rw [Sem.wp_run]
  exact wpCode_mono (fun r s' hr => by cases r <;> exact hr) (h _ p rfl (d.enter c p))
theorem wpD_runValue {c : Code} {Q : Value → Shared → Prop} (h : codeD M A c (fun r s' => match r with | .ok (.ret v) => Q v s' | _ => False) s) : wpD M A (runValue c) Q s := fun Γ p d => by
  rw [Sem.wp_runValue]
  refine wpCode_mono (fun r s' hr => ?_) (h _ p rfl (d.enter c p))
  cases r with
  | error e => exact hr
  | ok f => cases f <;> exact hr
theorem wpD_call {f : Value} {pos : List Value} {kw : List (Str × Value)} {Q : Value → Shared → Prop} (h : codeD M A (.call f ⟨pos, kw⟩) (fun r s' => match r with | .ok (.ret v) => Q v s' | _ => False) s) : wpD M A (call f pos kw) Q s := wpD_runValue h
theorem codeD_mono {c : Code} {R R' : Result → Shared → Prop} (h : codeD M A c R s) (hR : ∀ r s, R r s → R' r s) : codeD M A c R' s := fun Γ p hc d => wpCode_mono hR (h Γ p hc d)
theorem codeD_any {c : Code} {R : Result → Shared → Prop} (h : codeAny M A c R s) : codeD M A c R s := fun Γ p hc d => h Γ p hc d.belowA
theorem codeD_tree {c : Code} {R : Result → Shared → Prop} (hcalm : calmC c = true)
    (h : wpD M (A.under c) (M.den c) (fun fin s' => match fin with | .done f => R (.ok f) s' | .again c' => c'.quiet = true ∧ codeD M A c' R s') s) : codeD M A c R s := fun Γ p hc d => by
  rw [wpCode_iff_wp, hc]
  refine Sem.wp_mono M Γ _ (fun fin p' s' h' => ?_) (fun _ _ _ h' => h'.elim) p s (h Γ p ⟨hc ▸ d.belowA.in, hc ▸ hcalm, d.below⟩)
  cases fin with
  | done f => exact h'
  | again c' => exact ⟨h'.1, h'.2 (Γ.goto c') p' rfl ⟨d.belowA.goto c', d.below⟩⟩
theorem codeD_loop {c : Code} {R : Result → Shared → Prop} (hcalm : calmC c = true) (hq : c.quiet = true) (I : Nat → Shared → Prop)
    (turn : ∀ n s, I n s → wpD M (A.under c) (M.den c) (fun fin s' => match fin with | .done f => R (.ok f) s' | .again c' => c' = c ∧ ∃ m, m < n ∧ I m s') s)
    (n : Nat) (h : I n s) : codeD M A c R s := by
  induction n using Nat.strongRecOn generalizing s with
  | ind n ih =>
    refine codeD_tree hcalm (wpD_mono (turn n s h) fun fin s' hf => ?_)
    cases fin with
    | done f => exact hf
    | again c' => obtain ⟨rfl, m, hm, hI⟩ := hf; exact ⟨hq, ih m hm hI⟩
end

/-- nobody on a calm stack holds the object -/
theorem wpD_exported {M : Model} {A : Around} {s : Shared} {v : Value} {Q : Bool → Shared → Prop} (h : Q false s) : wpD M A (Builtin.Bytes.exported v) Q s := fun Γ p d => by
  have hS : calmS ((Γ.code, p) :: Γ.below) := calmS_cons d.code d.below
  unfold Builtin.Bytes.exported
  rw [Sem.wp_bind']
  show Q (List.any ((Γ.code, p) :: Γ.below) _) s
  have e : ∀ f : Code × Pos → Bool, (∀ x, calmC x.1 = true → f x = false) → List.any ((Γ.code, p) :: Γ.below) f = false := fun f hf =>
    List.any_eq_false.mpr fun x hx => by rw [hf x (hS x hx)]; exact Bool.false_ne_true
  rw [e]
  · exact h
  · intro x hc
    obtain ⟨c, q⟩ := x
    dsimp only at hc ⊢
    split
    · rename_i heq; cases heq; exact absurd hc (calm_not (by decide))
    · rename_i heq; cases heq; exact absurd hc (calm_not (by decide))
    · rename_i heq; cases heq; exact absurd hc (calm_not (by decide))
    · rename_i heq; cases heq; exact absurd hc (calm_not (by decide))
    · rename_i heq; cases heq; exact absurd hc (calm_not (by decide))
    · rename_i heq
      cases heq
      simp only [calmC, lenders, List.contains_eq_mem, List.mem_append, Bool.not_eq_true', decide_eq_false_iff_not, not_or] at hc
      rw [List.contains_eq_mem, decide_eq_false hc.2, Bool.and_false]
    · rfl

section
variable {M : Model} {A : Around} {s : Shared} {env : Env}
theorem wpD_execs_nil {Q : Flow → Shared → Prop} (h : Q .next s) : wpD M A (execs [] env) Q s := fun _ _ _ => h
theorem wpD_execs_cons {st : Stmt} {rest : List Stmt} {Q : Flow → Shared → Prop} (h : wpD M A (exec st env) (fun f s' => match f with | .next => wpD M A (execs rest env) Q s' | f => Q f s') s) : wpD M A (execs (st :: rest) env) Q s := by
  rw [execs_cons]
  refine wpD_bind (wpD_mono h fun f s' h' => ?_)
  cases f <;> first | exact h' | exact wpD_pure h'
/-- a statement by the walk, the rest on calm stacks -/
theorem wpD_execs_leaf {st : Stmt} {rest : List Stmt} {Q : Flow → Shared → Prop} (h : wpAny M A (exec st env) (fun f s' => match f with | .next => wpD M A (execs rest env) Q s' | f => Q f s') (fun _ _ => False) s) : wpD M A (execs (st :: rest) env) Q s :=
  wpD_execs_cons (wpD_any h)
theorem wpD_If {test : PySem.Expr} {body orelse : List Stmt} {pos : Pos} {Q : Flow → Shared → Prop}
    (h : wpAny M A (isTrue test env (eval test env)) (fun b s₂ => if b then wpD M A (execs body env) Q s₂ else wpD M A (execs orelse env) Q s₂) (fun _ _ => False) s) : wpD M A (exec (.If test body orelse pos) env) Q s := by
  rw [exec_If]
  refine wpD_standAt (wpD_leaf (wpAny_mono h (fun b s₂ h₂ => ?_) fun _ _ x => x))
  cases b <;> exact h₂
theorem wpD_Assign {x : Str} {pos' pos : Pos} {value : PySem.Expr} {Q : Flow → Shared → Prop} (h : wpD M A (eval value env) (fun v s₁ => wpAny M A (storeName env x v) (fun _ => Q .next) (fun _ _ => False) s₁) s)
    (hs : swapsWith value (some (.Name x pos')) pos.line env = pure false := by rfl) : wpD M A (exec (.Assign [.Name x pos'] value pos) env) Q s := by
  rw [exec_Assign_Name env x pos' value pos hs]
  exact wpD_standAt (wpD_bind (wpD_mono h fun v s₁ h₁ => wpD_standAt (wpD_leaf (wpAny_bindName (wpAny_mono h₁ (fun _ _ q => wpD_pure q) fun _ _ x => x)))))
theorem wpD_Expr {e : PySem.Expr} {pos : Pos} {Q : Flow → Shared → Prop} (h : wpD M A (eval e env) (fun v s' => (∀ a, v ≠ .ref a) ∧ Q .next s') s)
    (hi : interactive env = false := by rfl) (hs : swapsWith e none pos.line env = pure false := by rfl) : wpD M A (exec (.Expr e pos) env) Q s := by
  rw [exec_Expr env e pos hi hs]
  refine wpD_standAt (wpD_bind (wpD_mono h fun v s' h' => ?_))
  rw [dropValue_plain h'.1]
  exact wpD_pure h'.2
theorem wpD_While {test : PySem.Expr} {body orelse : List Stmt} {pos : Pos} {Q : Flow → Shared → Prop} (h : codeD M A (.whileLoop test body orelse env) (fun r s' => match r with | .ok f => Q f s' | .error _ => False) s) :
    wpD M A (exec (.While test body orelse pos) env) Q s := by
  rw [exec_While]
  refine wpD_standAt ?_
  unfold runOwn
  exact wpD_onRaise (wpD_run h)
theorem wpD_Return {e : PySem.Expr} {pos : Pos} {Q : Flow → Shared → Prop} (h : wpD M A (eval e env) (fun v => Q (.ret v)) s) : wpD M A (exec (.Return (some e) pos) env) Q s := by
  rw [exec_Return_some]
  exact wpD_standAt (wpD_bind (wpD_mono h fun v s' h' => wpD_pure h'))
theorem wpD_Compare1 {l r : PySem.Expr} {op : CmpOp} {pos : Pos} {Q : Value → Shared → Prop}
    (h : wpD M A (eval l env) (fun a s₁ => wpAny M A (eval r env) (fun b s₂ => wpAny M A (compareOp op a b) Q (fun _ _ => False) s₂) (fun _ _ => False) s₁) s)
    (hm : behindInMarks op r = false := by with_unfolding_all rfl) : wpD M A (eval (.Compare l [op] [r] pos) env) Q s := by
  rw [eval_Compare1, markedBehindIn_of_false hm]
  refine wpD_bind (wpD_mono h fun a s₁ h₁ => wpD_bind (wpD_holding (wpD_any (wpAny_mono h₁ (fun b s₂ h₂ => ?_) fun _ _ x => x))))
  exact wpD_standAt (wpD_operate (wpD_any h₂))
theorem wpD_Call_Name {id : Str} {q pos : Pos} {args : List PySem.Expr} {keywords : List Keyword} {Q : Value → Shared → Prop}
    (h : wpAny M A (eval (.Name id q) env) (fun f s₁ => wpD M A (callWith pos f [] (backTo pos (starEach args env)) (backToKw pos (keywordEach keywords env))) Q s₁) (fun _ _ => False) s) : wpD M A (eval (.Call (.Name id q) args keywords pos) env) Q s := by
  rw [arm_eval_Call_Name']
  exact wpD_leaf h
end

section
variable {prog : Program} {w : World} {A : Around} {R : Result → Shared → Prop} {s : Shared}
theorem codeD_while {test : PySem.Expr} {body orelse : List Stmt} {env : Env} (I : Nat → Shared → Prop)
    (turn : ∀ n s, I n s → wpAny (model prog w) A (isTrue test env (eval test env)) (fun b s₂ =>
        if b then wpD (model prog w) A (execs body env) (fun f s₃ => match f with
            | .next | .cont => ∃ m, m < n ∧ I m s₃
            | .brk => R (.ok .next) s₃
            | .ret v => R (.ok (.ret v)) s₃) s₂
        else wpD (model prog w) A (execs orelse env) (fun f s₃ => R (.ok f) s₃) s₂) (fun _ _ => False) s)
    (n : Nat) (h : I n s) : codeD (model prog w) A (.whileLoop test body orelse env) R s := by
  refine codeD_loop rfl rfl I (fun n s hI => ?_) n h
  show wpD _ A ((whileTurn test body orelse env).onRaise (fun x => do noteFrame x env; theTreesLotGoes x)) _ s
  refine wpD_onRaise ?_
  simp only [whileTurn]
  refine wpD_leaf (wpAny_mono (turn n s hI) (fun b s₂ h₂ => ?_) fun _ _ x => x)
  cases b with
  | false =>
    simp only [Bool.false_eq_true, if_false] at h₂ ⊢
    exact wpD_bind (wpD_mono h₂ fun f s₃ h₃ => wpD_pure h₃)
  | true =>
    simp only [if_true] at h₂ ⊢
    refine wpD_bind (wpD_mono h₂ fun f s₃ h₃ => ?_)
    cases f with
    | next => exact wpD_pure ⟨rfl, h₃⟩
    | cont => exact wpD_pure ⟨rfl, h₃⟩
    | brk => exact wpD_pure h₃
    | ret v => exact wpD_pure h₃
theorem codeD_func {body : List Stmt} {env : Env} (h : wpD (model prog w) (A.deeper env) (execs body env) (fun f s' => R (.ok (.ret (match f with | .ret v => v | _ => .none))) s') s) : codeD (model prog w) A (.func body env) R s := by
  refine codeD_tree rfl ?_
  show wpD _ (A.deeper env) (do point; match ← (execs body env).onRaise (leaving env) with | .ret v => ret v | _ => ret .none) _ s
  refine wpD_leaf (wpAny_point (wpD_bind (wpD_onRaise (wpD_mono h fun f s' h' => ?_))))
  cases f <;> exact wpD_pure h'
theorem codeD_builtin {id : String} {args : Args} {b : Builtin} (hcalm : lenders.contains id = false) (hb : entryFor table id = some b)
    (h : wpD (model prog w) (A.under (.builtin id args)) (b args) (fun fin s' => match fin with | .done f => R (.ok f) s' | .again c' => c'.quiet = true ∧ codeD (model prog w) A c' R s') s) : codeD (model prog w) A (.builtin id args) R s := by
  refine codeD_tree (by simp only [calmC, hcalm, Bool.not_false]) ?_
  show wpD _ _ (match entryFor table id with | some b => b args | none => unsupported ((withoutEnding? id "#data").getD id)) _ s
  rw [hb]; exact h
theorem codeD_call_builtin {id : String} {args : Args} {b : Builtin} (hcalm : lenders.contains id = false) (hq : plainId id = true) (hb : entryFor table id = some b)
    (h : wpAny (model prog w) A.in1 (checkBuiltinCall id args) (fun _ s₁ => wpD (model prog w) A.in1 (b args)
      (fun fin s' => match fin with | .done f => R (.ok f) s' | .again c' => c'.quiet = true ∧ codeD (model prog w) A c' R s') s₁) (fun _ _ => False) s) : codeD (model prog w) A (.call (.builtin id) args) R s := by
  have hc : calmC (.builtin id args) = true := by simp only [calmC, hcalm, Bool.not_false]
  refine codeD_tree rfl ?_
  show wpD _ A.in1 (do checkBuiltinCall id args; again (.builtin id args)) _ s
  refine wpD_leaf (wpAny_mono h (fun _ s₁ h₁ => wpD_pure (And.intro (plainId_quiet hq args) (codeD_tree hc ?_))) fun _ _ h' => h')
  rw [Around.under_plainId hq args]
  show wpD _ _ (match entryFor table id with | some b => b args | none => unsupported ((withoutEnding? id "#data").getD id)) _ s₁
  rw [hb]; exact h₁
end
end Mine
end

section
open PySem PySem.W PySem.Spec PySem.Calls PyProof.Rows
namespace Mine

theorem thread_endsD {prog : Program} {w : World} {t : Sem Fin} {s : Shared} {R : Result → Shared → Prop} (hreg : s.asleep)
    (h : wpD (model prog w) callerA t (fun fin s' => ∃ f, fin = .done f ∧ (R (.ok f) s' ∧ leftWithCleanup s'.gens = false)) s) :
    ∃ n r s' s'', runN (denote table) prog w n s ⟨t, .builtin "claim.caller" {}, default, []⟩ = .halted (outcomeOf r) s' ∧
      schedN (denote table) prog w n (.single s ⟨t, .builtin "claim.caller" {}, default, []⟩) = .halted (outcomeOf r) s' ∧ s'.forget = s''.forget ∧ R r s'' := by
  have hw : Sem.wp (model prog w) (⟨.builtin "claim.caller" {}, none, none, [], none⟩ : PySem.Ctx) t
      (Sem.finPost (model prog w) ⟨.builtin "claim.caller" {}, none, none, [], none⟩ (fun r s' => R r s' ∧ leftWithCleanup s'.gens = false)) (fun e _ s' => R (.error e) s' ∧ leftWithCleanup s'.gens = false) default s := by
    refine Sem.wp_mono _ _ t (fun fin p' s' h' => ?_) (fun _ _ _ h' => h'.elim) default s (h ⟨.builtin "claim.caller" {}, none, none, [], none⟩ default ⟨caller_in, by decide, fun x hx => nomatch hx⟩)
    obtain ⟨f, rfl, hf⟩ := h'
    exact hf
  obtain ⟨n, r, s₁, s₂, hs, hn, hfo, hR⟩ := wp_halts_full (M := model prog w) (R := R) hreg hw
  exact ⟨n, r, s₂, s₁, hn, hs, hfo, hR⟩

theorem callFromD {c : ClaimW} {tree : List Value → Sem Fin} {w : World} {s : Shared} {free : Addr → Prop} {gens : Prop} {kept : Heap → Prop} (hz : s.asleep) (hgens : s.gens = #[])
    (hspec : ∀ args, c.pre args = true → WData.layableAll args = true →
      ∀ ord : List DictEntry → List DictEntry, (∀ l, (ord l).Perm l) →
      ∃ vs s₁, layAllW c.records (classAt s.heap) w.params ord args s = some (vs, s₁) ∧
        wpD (model c.prog w) callerA (tree vs) (fun fin s' => ∃ f, fin = .done f ∧ (c.Ends s args vs s₁ (.ok f) s' ∧ s'.os = s.os ∧ AllBare s'.gens ∧ kept s'.heap)) s₁) :
    c.CallFrom (fun vs => ⟨tree vs, .builtin "claim.caller" {}, default, []⟩) w free gens kept s := by
  intro args hpre hlay ord hord
  obtain ⟨vs, s₁, hlaid, hcode⟩ := hspec args hpre hlay ord hord
  have hal := layAllW_rest _ _ _ hlaid
  obtain ⟨k, r, s', s'', hrun, hsched, hfo, hcase, hos, hkp⟩ := thread_endsD (prog := c.prog) (w := w) (t := tree vs) (s := s₁)
    (R := fun r s' => c.Ends s args vs s₁ r s' ∧ s'.os = s.os ∧ kept s'.heap)
    (Shared.asleep_of_life hal.2.2.2 hz)
    (wpD_mono hcode (by
      rintro fin s' ⟨f, e, h1, h2, h3, h4⟩
      exact ⟨f, e, ⟨h1, h2, h4⟩, leftWithCleanup_false_of_bare h3⟩))
  obtain ⟨eh, _, _, eo, _⟩ := Shared.forget_eq hfo
  have hcase := hcase.congr eh
  have hkp : kept s'.heap := by first | exact eh ▸ hkp | (rw [eh] at hkp; exact hkp) | (rw [← eh] at hkp; exact hkp)
  rw [← eo] at hos
  have hlife : s'.heap.life = s.heap.life := (runN_life _ _ _ hrun).trans hal.2.2.2
  refine ⟨vs, s₁, hlaid, k, _, s', hsched, ?_, (fun _ i x hx => by rw [hgens] at hx; simp at hx), hkp, by rw [hlife], Shared.rest_eq hos⟩
  rcases hcase with ⟨v, rfl, d1, d2, d3, d4, d5⟩ | ⟨e, ob, cls, rfl, d1, d2, d3, d4, d5⟩
  · exact .inl ⟨v, rfl, d1, d2, d3, fun b o y _ => d4 b o y, d5⟩
  · exact .inr ⟨e, ob, cls, rfl, d1, d2, d3, d4, fun b o y _ => d5 b o y⟩

theorem open_anyD {r : RowW} {run : Value → List Value → Sem Value} {tree : List Value → Sem Fin} {q : Program} {loose defs kps : List Str} {writes : Bool} {Xt : Shared → Bool} {XP : (Str → Option Value) → Heap → Prop} {α : Type} {Yf : Shared → α} {Ya : World → α} {YP : World → Heap → Prop} {N : Nat}
    (left : LeftO r.prog q loose Xt Yf Ya N) (hY : ∀ w s, Yf s = Ya w → YP w s.heap) (hYk : ∀ w h h', YP w h → (∀ b o, h.get? b = some o → h'.get? b = some o) → YP w h') (hX : ∀ s, Xt s = true → XP (s.heap.nsMap mainGlobals) s.heap) (hXk : ∀ mg h h', XP mg h → (∀ b o, h.get? b = some o → h'.get? b = some o) → XP mg h')
    (hRf : ∀ s, Xt s = true → RecFacts r.records s.heap) (hwr : (!writes || r.records.isEmpty) = true) (ok : (chainsOk q && opensWell r.prog && (frees r && r.within.isEmpty)) = true) (hb : r.prog.bare) (hw : r.promised)
    (ht : ∀ vs (w : World) (s : Shared) mg f (Q : Fin → Shared → Prop), s.heap.Ns mainGlobals mg → mg r.name = some f → wpD (model r.prog w) callerA (run f vs) (fun v s' => Q (.done (.ret v)) s') s → wpD (model r.prog w) callerA (tree vs) Q s)
    (pin : ∀ w s, s.heap.isNs mainGlobals = true → Ground q loose [] XP w s (s.heap.nsMap mainGlobals) (s.heap.nsMap builtinsNs) s.heap → ∀ n ∈ defs, isTheDefsW r.prog s.heap n)
    (call : ∀ (w : World) (s₀ s₁ : Shared) (mg mb : Str → Option Value), Ground q loose r.records XP w s₀ mg mb s₁.heap → YP w s₁.heap → ∀ (args : List WData) (vs : List Value) (as : List Addr),
      r.claim.pre args = true → WData.layableAll args = true → Laid r.records w s₀ s₁ args vs as → sysModules < s₀.heap.objs.size → ∃ f, mg r.name = some f ∧
        wpD (model r.prog w) callerA (run f vs) (fun v s' => GoodWG r.claim (classAt s₀.heap) (ExcName.means s₀.heap) args s₁ (.ok (.ret v)) s') s₁) : r.claim.HoldsOpenBy (fun vs => ⟨tree vs, .builtin "claim.caller" {}, default, []⟩) defs kps writes := by
  obtain ⟨ok, k5⟩ := Bool.and_eq_true_iff.mp ok
  obtain ⟨hch, o1⟩ := Bool.and_eq_true_iff.mp ok
  obtain ⟨k5, k6⟩ := Bool.and_eq_true_iff.mp k5
  obtain ⟨hsame, hu, ha, hap, hm⟩ := frees_parts k5
  refine ⟨⟨hb, o1, by show r.makers.map _ = []; rw [hm]; rfl⟩, hw.witness, fun w => ⟨(left.behind hX hch w).1, fun s' hs' => ?_⟩⟩
  obtain ⟨s₀, hf, hg0, s, hT, hz, hgens, hg, G00, y⟩ := (left.behind (XP := fun mg h => XP mg h ∧ RecFacts r.records h) (fun s hs => ⟨hX s hs, hRf s hs⟩) hch w).2 s' hs'
  have G0 : Ground q loose [] XP w s (s.heap.nsMap mainGlobals) (s.heap.nsMap builtinsNs) s.heap := ⟨G00.T, G00.B, G00.D, G00.TE, G00.TD, G00.W, G00.X.1, G00.cls, G00.has, G00.apart, G00.once, G00.K⟩
  have RF := G00.X.2
  have hT' := hT
  refine ⟨s₀, hf, hg0, s, hT, pin w s hg G0, RF.1, RF.2.1, ?_⟩
  have hgens : s.gens = #[] := Array.eq_empty_of_size_eq_zero (beq_iff_eq.mp hgens)
  have G : Ground q loose r.records XP w s _ _ s.heap := RF.ground G0
  refine callFromD (c := r.claim) hz hgens fun args hpre hlay ord hord => ?_
  obtain ⟨⟨vs, s₁⟩, hlaid⟩ := Option.isSome_iff_exists.mp (layAllW_isSome (P := w.params) (ord := ord) G.has args r.args s (pre_splitW hpre).1)
  have keeps := layAllW_keeps _ _ _ hlaid
  have hal := layAllW_rest _ _ _ hlaid
  obtain ⟨as, hrd, hin, hold⟩ := reads_layAllW hord _ _ _ hlaid hlay s₁.heap (fun _ _ e => e)
  have L : Laid r.records w s s₁ args vs as := ⟨⟨ord, hord, hlaid⟩, hrd, hin, hold, keeps, hal.1.trans hgens, hal.2.2.1⟩
  have G₁ := G.keeps hXk keeps
  obtain ⟨f, hf, h⟩ := call w s s₁ _ _ G₁ (hYk _ _ _ (hY w s y) keeps) args vs as hpre hlay L G.low
  have hi := ident_freeW hu ha hap
  have hwi : r.claim.within = [] := List.isEmpty_iff.mp k6
  exact ⟨vs, s₁, hlaid, ht vs w s₁ _ f _ G₁.T.g hf (wpD_mono h (fun v s' g => ⟨_, rfl, have z := g.laid (c := r.claim) hsame hwi hi L; ⟨z.1, z.2.1, z.2.2, fun q => ⟨namesKept_of hT' hg kps keeps g.2.1.old, noTable hwr q⟩⟩⟩))⟩

abbrev WalkD (q : Program) (loose : List Str) (XP : (Str → Option Value) → Heap → Prop) (YP : World → Heap → Prop) (r : RowW) (d : DefRec) (kwd : List (Str × Expr)) (run : Value → List Value → Sem Value) : Prop :=
  ∀ (w : World) (s₀ s₁ : Shared) (mg mb : Str → Option Value), Ground q loose r.records XP w s₀ mg mb s₁.heap → YP w s₁.heap → ∀ (a : Addr) (o : Obj) (pm cd doc dV kV : Value), s₁.heap.get? a = some o →
    o.data = .func { docDef d.name d.params d.body d.scope pm cd doc with defaults := dV, kwdefaults := kV } → s₁.heap.CodeRec cd d.name → Dflts mg s₁.heap d.params kwd dV kV → mg d.name = some (.ref a) → s₁.gens = #[] →
    ∀ (args : List WData) (vals : List Value) (as : List Addr), r.claim.pre args = true → WData.layableAll args = true → ReadsAllW r.records (classAt s₀.heap) s₁.heap vals args as → WellAll w.params s₁.heap vals args → (∀ a ∈ as, (a == sysModules) = false) →
      wpD (model r.prog w) callerA (run (.ref a) vals) (fun v s' => GoodWG r.claim (classAt s₀.heap) (ExcName.means s₀.heap) args s₁ (.ok (.ret v)) s') s₁

theorem PySem.W.holds_open {r : OpenRow} {q : Program} {loose : List Str} {Xt : Shared → Bool} {XP : (Str → Option Value) → Heap → Prop} {α : Type} {Yf : Shared → α} {Ya : World → α} {YP : World → Heap → Prop} {d : DefRec} {kwd : List (Str × Expr)} {N : Nat}
    (left : LeftO r.prog q loose Xt Yf Ya N) (hY : ∀ w s, Yf s = Ya w → YP w s.heap) (hYk : ∀ w h h', YP w h → (∀ b o, h.get? b = some o → h'.get? b = some o) → YP w h')
    (hX : ∀ s, Xt s = true → XP (s.heap.nsMap mainGlobals) s.heap) (hXk : ∀ mg h h', XP mg h → (∀ b o, h.get? b = some o → h'.get? b = some o) → XP mg h')
    (hdef : defOf q r.name = some (d, kwd)) (hp : r.prog.theDef r.name = some (d.params, d.body, d.scope)) (hk : kwWritten? d.params.kwonlyargs d.params.kw_defaults = some kwd) (hRf : ∀ s, Xt s = true → RecFacts r.records s.heap) (hwr : (!r.writes || r.records.isEmpty) = true)
    (k1 : r.wellSaid = true) (ok : (chainsOk q && opensWell r.prog && (frees r.toRowW && r.within.isEmpty)) = true) (hb : r.prog.bare) (hw : r.toRowW.promised)
    (call : WalkD q loose XP YP r.toRowW d kwd fun f vs => PySem.call f vs) : r.Holds := by
  refine ⟨k1, hw, open_anyD (r := r.toRowW) (run := fun f vs => PySem.call f vs) (tree := fun vs => do match ← nsGet mainNs r.name with
      | some f => do ret (← PySem.call f vs)
      | none => unsupported "claim.caller:no-such-global") left hY hYk hX hXk hRf hwr ok hb hw
    (fun vs w s mg f Q hg hf h => wpD_bind (wpD_any (wpAny_nsGet hg (by rw [hf]; exact wpD_bind (wpD_mono h (fun _ _ x => wpD_pure x))))))
    (fun w s hg G n hn => ?_) fun w s₀ s₁ mg mb G Y args vs as hpre hlay L low => ?_⟩
  · obtain rfl : n = r.name := by split at hn <;> simp_all
    exact pinned_of_view hg G hdef hp hk
  · obtain ⟨a, o, pm, cd, doc, dV, kV, h1, h2, h3, h4, h5⟩ := G.fn hdef
    exact ⟨.ref a, h1, call w s₀ s₁ mg mb G Y a o pm cd doc dV kV h2 h3 h4 h5 (defOf_name hdef ▸ h1) L.gens args vs as hpre hlay L.reads L.well (L.low low)⟩

open_top hd for PySem.Challenge.rw_ok0123_01
end Mine
end

section
open PySem PySem.W PySem.Spec PySem.Calls PyProof.Rows
namespace Mine

noncomputable abbrev KK (w : World) : Frag := hd.heap_39 w.params

theorem warm : PySem.Challenge.rw_ok0123_01.foot = 6 ∧ hd.heap_39 = hd.heap_39 := by
  k_fill
  exact ⟨rfl, rfl⟩

abbrev Led := List (Addr × Obj)

section
variable {prog : Program} {w : World} {A₀ A : Around} {s : Shared} {base h₀ : Heap} {outer : List Env} {L : Addr} {m : Str → Option Value} {env : Env} {ex rest : Led} {K : Frag}
  {p : Program} {loose : List Str} {mean : ExcName → Option Value} {mg mb : Str → Option Value} {E : Value → Shared → Prop}
  {name qual : Str} {params : Arguments} {body : List Stmt} {scope : Scope} {dV kV doc pm cdv ct oc : Value} {an od : Option Addr} {osl : Array (Option Value)} {f : Addr} {vals : List Value} {binds : List (Str × Value)}

theorem enter {Q : Value → Shared → Prop} (B : Below A₀ base outer h₀) (F : Fr h₀ L s.heap m) (X₀ : K.In h₀) (N : News h₀ L s.heap (ex ++ rest)) (T : Top p loose mean mg mb h₀)
    (hdis : ∀ q ∈ rest, ∀ r ∈ ex, q.1 ≠ r.1) (hA : A.frames = some (env :: outer)) (hf : env.frame = some L) (hke : env.scope.kind = .function)
    (ho : K.lookup f = some ⟨oc, od, .func (fnOf name qual params body scope dV kV doc pm an cdv ct), osl⟩) (hcd : codeIn K cdv qual = true) (hroom : A.depth < recursionLimit)
    (hbind : bindArgs (fnOf name qual params body scope dV kV doc pm an cdv ct) ⟨vals, []⟩ = pure binds) (hloc : ∀ y ∈ binds, scope.names.lookup y.1 = some .local)
    (h : ∀ g L' h₁, s.heap.objs.size = L' → Fr h₀ L g m → News h₀ L g rest → (∀ q ∈ ex ++ rest, q.1 < L') → Fr g L' h₁ (fun y => binds.reverse.lookup y) → News g L' h₁ ex → Below A base (env :: outer) g → K.In g → Top p loose mean mg mb g →
      (∀ b o, s.heap.get? b = some o → (∀ r ∈ ex, b ≠ r.1) → g.get? b = some o) →
      wpAny (model prog w) (A.deeper (envOf qual scope L' f cdv)) (execs body (envOf qual scope L' f cdv))
        (fun fl s' => Q (match fl with | .ret v => v | _ => .none) s') (fun _ _ => False)
        { s with heap := h₁, toks := s.toks + binds.length })
    (hco : scope.isCoroutine = false) (hgen : scope.isGenerator = false) (hk : scope.kind = .function)
    (hcell : ∀ x ∈ scope.names, x.2 ≠ .cell) : wpAny (model prog w) A (call (.ref f) vals) Q E s := by
  refine wpAny_call ?_
  have Nx : News h₀ L s.heap ex := fun q hq => N q (List.mem_append_left _ hq)
  obtain ⟨FG, BG, st, _⟩ := groundX (R := fun _ _ => True) B F Nx hA hf hke
  refine codeAny_call_def (fd := fnOf name qual params body scope dV kV doc pm an cdv ct) (body := body) (binds := binds) hroom ((X₀.keeps F.keep) _ _ ho) rfl (T.nolimit.keeps F.keep)
    (codeRec_of (X₀.keeps F.keep) hcd) rfl (.of_eq hbind) hcell hloc (fun h₁ hns hk₁ => ?_) hco hgen hk
  have kp : ∀ b o, s.heap.get? b = some o → (∀ r ∈ ex, b ≠ r.1) → (hideAll s.heap (ex.map (·.1))).get? b = some o := fun b o e n =>
    hideAll_get _ e fun hm => by
      obtain ⟨r, hr, e'⟩ := List.mem_map.mp hm
      exact n r hr e'.symm
  refine wpAny_mono (h (hideAll s.heap (ex.map (·.1))) s.heap.objs.size h₁ rfl FG (fun q hq => ⟨kp _ _ (N q (List.mem_append_right _ hq)).1 (hdis q hq), (N q (List.mem_append_right _ hq)).2⟩)
    (fun q hq => Heap.lt_size (N q hq).1) ⟨hns, fun b o e => hk₁ b o (of_hideAll _ e), Nat.le_of_eq (hideAll_size _ _)⟩
    (fun q hq => ⟨hk₁ _ _ (Nx q hq).1, Nat.ne_of_lt (Heap.lt_size (Nx q hq).1), hideAll_none _ (List.mem_map_of_mem hq)⟩) BG (X₀.keeps fun b o e => st b o e) (T.keeps fun b o e => st b o e) kp) (fun fl s' hl => hl) fun _ _ y => y.elim

/-- behind the callee: the caller's frame and ledger again -/
theorem back {g h' : Heap} {L' : Addr} {m' : Str → Option Value} {news' : Led} (FG : Fr h₀ L g m) (NG : News h₀ L g rest) (F' : Fr g L' h' m') (N' : News g L' h' news') :
    Fr h₀ L h' m ∧ News h₀ L h' (news' ++ rest) := by
  refine ⟨FG.after F'.keep, fun q hq => ?_⟩
  rcases List.mem_append.mp hq with hq | hq
  · refine ⟨(N' q hq).1, fun e => ?_, ?_⟩
    · obtain ⟨oL, _, _, hL, _⟩ := FG.ns
      have := (N' q hq).2.2
      rw [e, hL] at this; cases this
    · cases e : h₀.get? q.1 with
      | none => rfl
      | some o => have := (N' q hq).2.2; rw [FG.keep _ _ e] at this; cases this
  · exact ⟨F'.keep _ _ (NG q hq).1, (NG q hq).2⟩
end

end Mine
end

section
open PySem PySem.W PySem.Spec PySem.Calls PyProof.Rows
namespace Mine

def Halt (P : Prop) : Prop := P
theorem Halt.out {P : Prop} (h : P) : Halt P := h
theorem toHalt {P : Prop} (h : Halt P) : P := h

section
variable {prog : Program} {w : World} {A : Around} {E : Value → Shared → Prop} {s : Shared} {env : Env} {h₀ : Heap} {x : Str} {body : List Stmt} {Q : Flow → Shared → Prop}

theorem unr_mono {L : Addr} {s₁ : Shared} {I : Addr} {it : Obj} {r r' : (Str → Option Value) → Led → Prop} {f : Flow} {s₂ : Shared}
    (hr : ∀ m n, (∀ q ∈ n, q.1 ≠ I) → r m n → r' m n) (h : UnrPost h₀ L s₁ I it r Q f s₂) : UnrPost h₀ L s₁ I it r' Q f s₂ := by
  have e : UnrEnd h₀ L s₁ I it r s₂ → UnrEnd h₀ L s₁ I it r' s₂ := by
    rintro ⟨h', tk, m', news', e, F', N', off, j⟩
    exact ⟨h', tk, m', news', e, F', N', off, hr _ _ off j⟩
  cases f with
  | ret v => exact h
  | brk => exact h
  | next => exact e h
  | cont => exact e h

/-- a for over a range by ones, by an invariant over the frame's map and the ledger -/
theorem loop_range {r : Addr} {a₀ b₀ : Int} {t₀ u₀ v₀ : Tok} {n : Nat} {m₀ : Str → Option Value} {news : Led} (J : Nat → (Str → Option Value) → Led → Prop)
    (hh : A.handled = none) (hr : IsRange s.heap r a₀ b₀ 1 t₀ u₀ v₀) (hsmall : Builtin.Range.small a₀ b₀ 1 = true) (hn : Builtin.Range.rangeSize a₀ b₀ 1 = (n : Int)) (F : Fr h₀ env.locals s.heap m₀) (N : News h₀ env.locals s.heap news)
    (hj : J 0 m₀ news)
    (turn : ∀ i m₁ news₁ I t h tk, i < n → J i m₁ news₁ → (∀ q ∈ news₁, q.1 ≠ I) → (∀ q ∈ news, q.1 < I) → Fr h₀ env.locals h (fun y => if y = x then some (.int (a₀ + (i : Int)) t) else m₁ y) →
      News h₀ env.locals h ((I, itR (a₀ + ((i + 1 : Nat) : Int)) ((n : Int) - ((i + 1 : Nat) : Int))) :: news₁) →
      wpAny (model prog w) A (execs body env) (UnrPost h₀ env.locals { s with heap := h, toks := tk } I (itR (a₀ + ((i + 1 : Nat) : Int)) ((n : Int) - ((i + 1 : Nat) : Int))) (J (i + 1)) Q) E { s with heap := h, toks := tk })
    (done : ∀ m₁ news₁ h tk, J n m₁ news₁ → Fr h₀ env.locals h m₁ → News h₀ env.locals h news₁ → Q .next { s with heap := h, toks := tk }) :
    wpAny (model prog w) A (pyIter (.ref r)) (fun it s₂ => LoopAtV prog w A h₀ env x body Q E it s₂) E s := by
  refine iter_rangeUnr hh hr hsmall hn F N fun I hI => ?_
  have key : ∀ k i m₁ news₁, i + k = n → J i m₁ news₁ → (∀ q ∈ news₁, q.1 ≠ I) → RangeRest prog w A E h₀ env x body Q s I a₀ n k i m₁ news₁ := by
    intro k
    induction k with
    | zero =>
      intro i m₁ news₁ hi hJ _
      obtain rfl : i = n := by omega
      exact RangeRest.zero fun h tk F' N' => done m₁ news₁ h tk hJ F' N'
    | succ k ih =>
      intro i m₁ news₁ hi hJ off
      refine RangeRest.succ fun t h tk F' N' => ?_
      refine wpAny_mono (turn i m₁ news₁ I t h tk (by omega) hJ off hI F' N') (fun f s₂ hp => ?_) fun _ _ e => e
      exact unr_mono (fun m n' off' j => ih (i + 1) m n' (by omega) j off') hp
  exact key n 0 m₀ news (by omega) hj fun q hq => Nat.ne_of_lt (hI q hq)
end

section
variable {prog : Program} {w : World} {A₀ : Around} {s : Shared} {base h₀ : Heap} {outer : List Env} {L a : Addr} {m : Str → Option Value} {ex rest news : Led}
  {p : Program} {loose : List Str} {mean : ExcName → Option Value} {mg mb : Str → Option Value} {Q E : Value → Shared → Prop} {dp un : Nat} {gd : Option (List Code)} {cn : Str} {cs : Scope} {ccd : Value} {cl : List (Str × Addr)}

theorem ret_pure {g h' : Heap} {L' : Addr} {m' : Str → Option Value} {tk : Nat} {v v' : Value} (ret : ∀ h' tk', Fr h₀ L h' m → News h₀ L h' news → Q v { s with heap := h', toks := tk' })
    (FG : Fr h₀ L g m) (NG : News h₀ L g news) (F' : Fr g L' h' m') (e : v' = v) : Q v' { s with heap := h', toks := tk } := by
  subst e
  have b := back (rest := news) (news' := []) FG NG F' (fun _ h => nomatch h)
  exact ret _ _ b.1 b.2
end
end Mine
end

section
open PySem PySem.W PySem.Spec PySem.Calls PyProof.Rows
namespace Mine

section
variable {prog : Program} {w : World} {A : Around} {h₀ : Heap} {L : Addr} {m : Str → Option Value} {env : Env} {ct elt : Expr} {x : Str} {scope : Scope} {cl : List (Str × Addr)} {s : Shared} {S : Led → Prop} {P : Nat → Value → Prop} {Fin : List Value → Led → Prop} {news : Led}

theorem compEnd_mono {s₁ : Shared} {I C D : Addr} {oI oC oD : Obj} {r r' : Value → Led → Prop} {y : Value} {s₂ : Shared} (hr : ∀ n, r y n → r' y n)
    (h : LCg.CompEnd h₀ L m s₁ I oI C oC D oD S r y s₂) : LCg.CompEnd h₀ L m s₁ I oI C oC D oD S r' y s₂ := by
  obtain ⟨h', tk, nw, e, F, N, off, hS, k⟩ := h
  exact ⟨h', tk, nw, e, F, N, off, hS, hr _ k⟩

theorem comp_inv {n : Nat} (J : Nat → List Value → Led → Prop) (hj : J 0 [] news)
    (turn : ∀ i ys news₁ v I oI C oC D m₂ h tk (E' : Value → Shared → Prop), i < n → J i ys news₁ → P i v → LCg.NsObj oC m₂ → m₂ x = some v → Fr h₀ L h m → News h₀ L h ((I, oI) :: (C, oC) :: (D, LCg.lst ys) :: news₁) → LCg.Off3 I C D news₁ → ((@Ne Nat I C) ∧ (@Ne Nat I D) ∧ (@Ne Nat C D)) →
      wpAny (model prog w) A (eval elt (compEnvC scope cl C env)) (LCg.CompEnd h₀ L m { s with heap := h, toks := tk } I oI C oC D (LCg.lst ys) S (fun y news' => J (i + 1) (ys ++ [y]) news')) E' { s with heap := h, toks := tk })
    (fin : ∀ ys news', J n ys news' → Fin ys news') : LCg.CompRest prog w A h₀ L m env elt x scope cl s S P Fin n 0 [] news := by
  have key : ∀ k i ys news₁, i + k = n → J i ys news₁ → LCg.CompRest prog w A h₀ L m env elt x scope cl s S P Fin k i ys news₁ := by
    intro k
    induction k with
    | zero =>
      intro i ys news₁ hi hJ
      obtain rfl : i = n := by omega
      exact LCg.CompRest.zero (fin _ _ hJ)
    | succ k ih =>
      intro i ys news₁ hi hJ
      refine LCg.CompRest.succ fun v I oI C oC D m₂ h tk E' hv hC hx F N off ne => ?_
      refine wpAny_mono (turn i ys news₁ v I oI C oC D m₂ h tk E' (by omega) hJ hv hC hx F N off ne) (fun y s₂ hp => ?_) fun _ _ e => e
      exact compEnd_mono (fun n' j => ih (i + 1) _ n' (by omega) j) hp
  exact key n 0 [] news (by omega) hj

theorem comp_invT {n : Nat} (J : Nat → List Value → Led → Prop) (hj : J 0 [] news)
    (turn : ∀ i ys news₁ v I oI C oC D m₂ h tk (E' : Value → Shared → Prop), i < n → J i ys news₁ → P i v → LCg.NsObj oC m₂ → m₂ x = some v → Fr h₀ L h m → News h₀ L h ((I, oI) :: (C, oC) :: (D, LCg.lst ys) :: news₁) → LCg.Off3 I C D news₁ → ((@Ne Nat I C) ∧ (@Ne Nat I D) ∧ (@Ne Nat C D)) →
      wpAny (model prog w) A (isTrue ct (compEnvC scope cl C env) (eval ct (compEnvC scope cl C env))) (fun ok s' => if ok = true then
        wpAny (model prog w) A (eval elt (compEnvC scope cl C env)) (LCg.CompEnd h₀ L m { s with heap := h, toks := tk } I oI C oC D (LCg.lst ys) S (fun y news' => J (i + 1) (ys ++ [y]) news')) E' s'
        else LCg.CompEnd h₀ L m { s with heap := h, toks := tk } I oI C oC D (LCg.lst ys) S (fun _ news' => J (i + 1) ys news') Value.none s') E' { s with heap := h, toks := tk })
    (fin : ∀ ys news', J n ys news' → Fin ys news') : LCt.CompRestT prog w A h₀ L m env ct elt x scope cl s S P Fin n 0 [] news := by
  have key : ∀ k i ys news₁, i + k = n → J i ys news₁ → LCt.CompRestT prog w A h₀ L m env ct elt x scope cl s S P Fin k i ys news₁ := by
    intro k
    induction k with
    | zero =>
      intro i ys news₁ hi hJ
      obtain rfl : i = n := by omega
      exact LCt.CompRestT.zero (fin _ _ hJ)
    | succ k ih =>
      intro i ys news₁ hi hJ
      refine LCt.CompRestT.succ fun v I oI C oC D m₂ h tk E' hv hC hx F N off ne => ?_
      refine wpAny_mono (turn i ys news₁ v I oI C oC D m₂ h tk E' (by omega) hJ hv hC hx F N off ne) (fun ok s₂ hp => ?_) fun _ _ e => e
      cases ok with
      | true =>
        simp only [if_true] at hp ⊢
        exact wpAny_mono hp (fun y s₃ hp' => compEnd_mono (fun n' j => ih (i + 1) _ n' (by omega) j) hp') fun _ _ e => e
      | false =>
        simp only [Bool.false_eq_true, if_false] at hp ⊢
        exact compEnd_mono (fun n' j => ih (i + 1) _ n' (by omega) j) hp
  exact key n 0 [] news (by omega) hj
end

/-- rows of ints: lists made, each bearing its ints -/
def RowsAre (rows : Led) (nss : List (List Int)) : Prop := rows.length = nss.length ∧ ∀ (i : Nat) (r : Addr × Obj) (ns : List Int), rows[i]? = some r → nss[i]? = some ns → ∃ vs n, r.2 = listOf (List.toArray vs) n ∧ IntsAre vs ns
def refs (rows : Led) : List Value := rows.map fun r => .ref r.1

theorem refs_eq {rows rows' : Led} (h : rows.map (·.1) = rows'.map (·.1)) : refs rows = refs rows' := by
  have e : ∀ r : Led, refs r = (r.map (·.1)).map Value.ref := fun r => by simp [refs, List.map_map, Function.comp_def]
  rw [e, e, h]

theorem upd_set {a : Addr} {o o' : Obj} : ∀ {rows : Led} {k : Nat}, rows[k]? = some (a, o) → (rows.map (·.1)).Nodup → Upd a o o' rows (rows.set k (a, o'))
  | [], k, h, _ => by simp at h
  | q :: r, 0, h, hn => by
    simp only [List.getElem?_cons_zero, Option.some.injEq] at h
    subst h
    rw [List.set_cons_zero]
    refine Upd.head fun p hp e => ?_
    rw [List.map_cons, List.nodup_cons] at hn
    have e' : p.1 = a := e
    exact hn.1 (show a ∈ r.map (·.1) from e' ▸ List.mem_map_of_mem (f := (·.1)) hp)
  | q :: r, k + 1, h, hn => by
    rw [List.getElem?_cons_succ] at h
    rw [List.map_cons, List.nodup_cons] at hn
    rw [List.set_cons_succ]
    refine Upd.tail (fun e => hn.1 ?_) (upd_set h hn.2)
    have hm : (a, o) ∈ r := List.mem_of_getElem? h
    have e' : q.1 = a := e
    rw [e']
    exact List.mem_map_of_mem (f := (·.1)) hm

theorem set_fst {a : Addr} {o o' : Obj} {rows : Led} {k : Nat} (h : rows[k]? = some (a, o)) : (rows.set k (a, o')).map (·.1) = rows.map (·.1) := by
  rw [List.map_set]
  apply List.ext_getElem? 
  intro i
  rw [List.getElem?_set]
  split
  · rename_i e
    subst e
    split
    · simp [h]
    · rename_i hlt
      rw [List.length_map] at hlt
      rw [List.getElem?_eq_none (by rw [List.length_map]; exact Nat.le_of_not_lt hlt)]
  · rfl

def pushAt (nss : List (List Int)) (k : Nat) (v : Int) : List (List Int) := nss.set k (nss.getD k [] ++ [v])

theorem rows_push {rows : Led} {nss : List (List Int)} {k : Nat} {a : Addr} {vs : List Value} {ns : List Int} {n n' : Nat} {v : Int} {t : Tok} (h : RowsAre rows nss) (hk : rows[k]? = some (a, listOf vs.toArray n)) (hi : IntsAre vs ns) (hns : nss[k]? = some ns) :
    RowsAre (rows.set k (a, listOf (vs.toArray.push (.int v t)) n')) (pushAt nss k v) := by
  refine ⟨by simp [pushAt, h.1], fun i r ms hr hm => ?_⟩
  rw [pushAt, List.getElem?_set] at hm
  rw [List.getElem?_set] at hr
  split at hr
  · rename_i e
    subst e
    rw [if_pos rfl] at hm
    split at hr
    · simp only [Option.some.injEq] at hr
      split at hm
      · simp only [Option.some.injEq] at hm
        subst hr hm
        refine ⟨vs ++ [.int v t], n', by simp, ?_⟩
        have : nss.getD k [] = ns := by rw [List.getD_eq_getElem?_getD, hns]; rfl
        rw [this]
        exact IntsAre.append hi (.cons v t .nil)
      · cases hm
    · cases hr
  · rename_i e
    rw [if_neg e] at hm
    exact h.2 i r ms hr hm

section
variable {prog : Program} {w : World} {A : Around} {E : Value → Shared → Prop} {s : Shared}
theorem item_any {value slice : PySem.Expr} {l : Addr} {items : Array Value} {k : Int} {u : Tok} {x : Value} {Q : Value → Shared → Prop} (hl : s.heap.IsList l items)
    (h0 : 0 ≤ k) (hfit : k < 2 ^ 63) (hx : items[k.toNat]? = some x) (h : Q x s)
    (hs : subscripted slice false (.ref l) (.int k u) = operate [.ref l, .int k u] (getItem (.ref l) (.int k u))) :
    wpAny (model prog w) A (subscriptTail value slice (.ref l) (.int k u)) Q E s :=
  tail_any hl.typeIs slot_list_getitem.lookup (wpAny_getItem_list hl h0 hfit hx h) hs
end
end Mine
end

section
open PySem PySem.W PySem.Spec PySem.Calls PyProof.Rows
namespace Mine
theorem rsize (a b : Int) (n : Nat) (h : b - a = n) : Builtin.Range.rangeSize a b 1 = (n : Int) := by rw [rangeSize_nat, h]; rfl
theorem rsmall {a b : Int} (h1 : -1000 ≤ a) (h2 : a ≤ 1000) (h3 : -1000 ≤ b) (h4 : b ≤ 1000) : Builtin.Range.small a b 1 = true := by
  first | exact small_one (by omega) (by omega) (by omega) (by omega)
theorem off3_of {I C D : Addr} {l : Led} (h : ∀ q ∈ l, q.1 ≠ I ∧ q.1 ≠ C ∧ q.1 ≠ D) : LCg.Off3 I C D l := LCg.Off3.of h
theorem off1_mem {D : Addr} : ∀ {l : Led}, LCg.Off1 D l → ∀ q ∈ l, q.1 ≠ D
  | [], _, _, h => nomatch h
  | _ :: _, x, q, h => by
    rcases List.mem_cons.mp h with rfl | h
    · exact x.1
    · exact off1_mem x.2 q h
theorem news_ne {g h : Heap} {L L' : Addr} {h₀ : Heap} {rest new : Led} (NG : News h₀ L g rest) (N' : News g L' h new) : ∀ q ∈ rest, ∀ r ∈ new, q.1 ≠ r.1 := fun q hq r hr e => by
  have a := (NG q hq).1
  have b := (N' r hr).2.2
  rw [e, b] at a; cases a
/-- a new object is none of the ledger's -/
theorem nodup_snoc {rows : Led} {a : Addr} {o : Obj} (h : (rows.map (·.1)).Nodup) (ne : ∀ q ∈ rows, q.1 ≠ a) : ((rows ++ [(a, o)]).map (·.1)).Nodup := by
  rw [List.map_append, List.nodup_append]
  refine ⟨h, by simp, fun x hx y hy => ?_⟩
  obtain ⟨q, hq, rfl⟩ := List.mem_map.mp hx
  simp only [List.map_cons, List.map_nil, List.mem_singleton] at hy
  exact hy ▸ ne q hq
theorem rows_snoc {rows : Led} {nss : List (List Int)} {a : Addr} {vs : List Value} {ns : List Int} {n : Nat} (h : RowsAre rows nss) (hi : IntsAre vs ns) : RowsAre (rows ++ [(a, listOf vs.toArray n)]) (nss ++ [ns]) := by
  refine ⟨by simp [h.1], fun i r ms hr hm => ?_⟩
  by_cases hlt : i < rows.length
  · rw [List.getElem?_append_left hlt] at hr
    rw [List.getElem?_append_left (h.1 ▸ hlt)] at hm
    exact h.2 i r ms hr hm
  · rw [List.getElem?_append_right (by omega)] at hr
    rw [List.getElem?_append_right (by have := h.1; omega)] at hm
    have hi0 : i - rows.length = 0 := by
      cases e : i - rows.length with
      | zero => rfl
      | succ k => rw [e] at hr; simp at hr
    rw [hi0] at hr
    rw [← h.1, hi0] at hm
    simp only [List.getElem?_cons_zero, Option.some.injEq] at hr hm
    subst hr hm
    exact ⟨vs, n, rfl, hi⟩
theorem refs_snoc (rows : Led) (a : Addr) (o : Obj) : refs (rows ++ [(a, o)]) = refs rows ++ [.ref a] := by simp [refs]
theorem refs_length (rows : Led) : (refs rows).length = rows.length := by simp [refs]

theorem allLt_mem {d : Addr} : ∀ {l : Led}, AllLt d l → ∀ q ∈ l, q.1 < d
  | [], _, _, h => nomatch h
  | _ :: _, x, q, h => by
    rcases List.mem_cons.mp h with rfl | h
    · exact x.1
    · exact allLt_mem x.2 q h

section
variable {prog : Program} {w : World} {A : Around} {E : Value → Shared → Prop} {s : Shared} {h₀ : Heap} {L : Addr} {m : Str → Option Value}
theorem row_get {rows : Led} {nss : List (List Int)} {k : Nat} (h : RowsAre rows nss) (hk : k < nss.length) : ∃ a vs n, rows[k]? = some (a, listOf (List.toArray vs) n) ∧ IntsAre vs (nss.getD k []) := by
  have hk' : k < rows.length := h.1 ▸ hk
  obtain ⟨vs, n, e, hi⟩ := h.2 k rows[k] (nss.getD k []) (List.getElem?_eq_getElem hk') (by rw [List.getD_eq_getElem?_getD, List.getElem?_eq_getElem hk]; rfl)
  refine ⟨rows[k].1, vs, n, ?_, hi⟩
  rw [List.getElem?_eq_getElem hk', ← e]
theorem item_row {value slice : PySem.Expr} {H : Addr} {rows : Led} {nss : List (List Int)} {k : Int} {u : Tok} {Q : Value → Shared → Prop} (hl : s.heap.IsList H (refs rows).toArray) (hR : RowsAre rows nss)
    (h0 : 0 ≤ k) (h1 : k < nss.length) (hfit : k < 2 ^ 63) (h : ∀ a vs n, rows[k.toNat]? = some (a, listOf (List.toArray vs) n) → IntsAre vs (nss.getD k.toNat []) → Q (.ref a) s)
    (hs : subscripted slice false (.ref H) (.int k u) = operate [.ref H, .int k u] (getItem (.ref H) (.int k u))) :
    wpAny (model prog w) A (subscriptTail value slice (.ref H) (.int k u)) Q E s := by
  obtain ⟨a, vs, n, hr, hi⟩ := row_get (k := k.toNat) hR (by omega)
  refine item_any hl h0 hfit (x := .ref a) ?_ (h a vs n hr hi) hs
  simp only [List.getElem?_toArray, refs, List.getElem?_map, hr]
  rfl
theorem append_row {rows : Led} {pre : Led} {k : Nat} {a : Addr} {vs : List Value} {n : Nat} {x : Value} {Q : Value → Shared → Prop} (F : Fr h₀ L s.heap m) (N : News h₀ L s.heap (pre ++ rows))
    (hr : rows[k]? = some (a, listOf vs.toArray n)) (hn : (rows.map (·.1)).Nodup) (hp : ∀ q ∈ pre, q.1 ∉ rows.map (·.1)) (hsz : vs.length ≤ 1000)
    (h : ∀ h', Fr h₀ L h' m → News h₀ L h' (pre ++ rows.set k (a, listOf (vs.toArray.push x) (n + 1))) → Q .none { s with heap := h' }) : wpAny (model prog w) A (call (.builtin "list.append") [.ref a, x]) Q E s := by
  have ha : a ∈ rows.map (·.1) := List.mem_map_of_mem (f := (·.1)) (List.mem_of_getElem? hr)
  have up : ∀ pre : Led, (∀ q ∈ pre, q.1 ∉ rows.map (·.1)) → Upd a (listOf vs.toArray n) (listOf (vs.toArray.push x) (n + 1)) (pre ++ rows) (pre ++ rows.set k (a, listOf (vs.toArray.push x) (n + 1))) := by
    intro pre
    induction pre with
    | nil => intro _; exact upd_set hr hn
    | cons q r ih => intro hq; exact Upd.tail (fun (e : q.1 = a) => hq q List.mem_cons_self (e ▸ ha)) (ih fun q hq' => hq q (List.mem_cons_of_mem _ hq'))
  exact append_K F N (up pre hp) h (by rw [List.size_toArray, sizeLine_eq]; omega)
end
end Mine
end

section
open PySem PySem.W PySem.Calls PyProof.Rows
namespace Mine

theorem ba_plain : PlainAttrs "bytearray" :=
  ⟨⟨"bytearray.__getattribute__", by rw [typeLookup_type, builtinLookup_eq_fast]; kernel_rfl, by decide +kernel⟩, by rw [typeLookup_type, builtinLookup_eq_fast]; kernel_rfl⟩
theorem ba_slot_append : Slot "bytearray" "append" "bytearray.append" :=
  .of (owner := "bytearray") (n := "append") (by rw [typeLookup_type, builtinLookup_eq_fast]; kernel_rfl) (by decide +kernel) (by decide +kernel) (by decide +kernel)
    (by first | exact .inl (by decide +kernel) | exact .inr (by decide +kernel)) (by rw [isSubtype_type]; kernel_rfl)
theorem ba_type_append : typeOf (.builtin "bytearray.append") = pure (.type "method_descriptor") := by show builtinType _ = _; rw [builtinType_eq_fast]; kernel_rfl
theorem ba_entry_append : entryFor table "bytearray.append" = some Builtin.«bytearray.append» := entryFor_of_fast (by kernel_rfl)
theorem ba_slot_init : Slot "bytearray" "__init__" "bytearray.__init__" :=
  .of (owner := "bytearray") (n := "__init__") (by rw [typeLookup_type, builtinLookup_eq_fast]; kernel_rfl) (by decide +kernel) (by decide +kernel) (by decide +kernel)
    (by first | exact .inl (by decide +kernel) | exact .inr (by decide +kernel)) (by rw [isSubtype_type]; kernel_rfl)
theorem ba_entry_init : entryFor table "bytearray.__init__" = some Builtin.«bytearray.__init__» := entryFor_of_fast (by kernel_rfl)
theorem ba_mro : mroOf (.type "bytearray") = pure [.type "bytearray", .type "object"] := by rw [mroOf_type]; kernel_rfl
theorem ba_lookup_new : typeLookup (.type "bytearray") "__new__" = pure (some (.builtin "bytearray.__new__")) := by rw [typeLookup_type, builtinLookup_eq_fast]; kernel_rfl
theorem ba_called : TypeCalled "bytearray" "bytearray.__new__" "bytearray.__init__" :=
  ⟨by decide +kernel, by decide +kernel, ⟨_, _, ba_mro⟩, madeBy_type ba_mro ba_lookup_new (by decide +kernel), by decide +kernel, by rw [isSubtype_type]; kernel_rfl, ba_slot_init⟩
theorem ba_typeCall : checkTypeCall "bytearray" ⟨[], []⟩ = pure () := by kernel_rfl
theorem ba_newCall : checkBuiltinCall "bytearray.__new__" ⟨[.type "bytearray"], []⟩ = pure () := by kernel_rfl
theorem ba_entry_new : entryFor table "bytearray.__new__" = some Builtin.«list.__new__» := entryFor_alias (id' := "list.__new__") (by kernel_rfl) rfl (by decide +kernel) (by kernel_rfl)
theorem ba_sub : isSubtype (.type "bytearray") (.type "bytearray") = pure true := by rw [isSubtype_type]; kernel_rfl
set_option maxRecDepth 1000000 in
set_option maxHeartbeats 4000000 in
theorem ba_owner : ("bytearray.__new__".splitOn ".__new__").headD "" = "bytearray" := by simp +decide [String.splitOn, String.splitOnAux]
theorem ba_args_append (a b : Value) : argsOk "bytearray.append" ⟨[a, b], []⟩ := by
  unfold argsOk; kernel_rfl
theorem ba_args_init (a : Value) : argsOk "bytearray.__init__" ⟨[a], []⟩ := by
  unfold argsOk; kernel_rfl
theorem ba_lookup_release : typeLookup (.type "bytearray") "__release_buffer__" = pure (some (.builtin "bytearray.__release_buffer__")) := by rw [typeLookup_type, builtinLookup_eq_fast]; kernel_rfl
theorem ba_ends : "bytearray.__release_buffer__".endsWith ("." ++ "__release_buffer__") = true := by decide +kernel
theorem ba_drop : (Value.type ("bytearray.__release_buffer__".dropRight ("__release_buffer__".length + 1))) = Value.type "bytearray" := by kernel_rfl

section
variable {prog : Program} {w : World} {A : Around} {E : Value → Shared → Prop} {s : Shared}
theorem ba_ownRelease {M : Model} {v : Value} {Q : Bool → Shared → Prop} (hT : s.TypeIs v "bytearray") (h : Q false s) : wpAny M A (Builtin.Bytes.ownRelease v) Q E s := by
  unfold Builtin.Bytes.ownRelease Builtin.Bytes.slotIsOwn
  refine wpAny_bind (wpAny_bind (wpAny_specialOf hT ba_lookup_release ?_))
  dsimp only
  rw [if_neg (by rw [ba_ends]; exact Bool.false_ne_true), ba_drop]
  exact wpAny_isInstance hT ba_sub (wpAny_pure h)
theorem wpAny_payload {M : Model} {a : Addr} {o : Obj} {b : Array UInt8} {n : Nat} {Q : Array UInt8 → Shared → Prop} (ho : s.heap.get? a = some o) (hd : o.data = .bytearray b n) (h : Q b s) : wpAny M A (Builtin.Bytes.payload (.ref a)) Q E s := by
  unfold Builtin.Bytes.payload Builtin.Bytes.payload?
  refine wpAny_bind (wpAny_bind (wpAny_load ho ?_))
  rw [hd]
  exact wpAny_pure (wpAny_pure h)
theorem wpAny_exportsOf {M : Model} {a : Addr} {o : Obj} {b : Array UInt8} {n : Nat} {Q : Nat → Shared → Prop} (ho : s.heap.get? a = some o) (hd : o.data = .bytearray b n) (h : Q n s) : wpAny M A (Builtin.Bytes.exportsOf (.ref a)) Q E s := by
  unfold Builtin.Bytes.exportsOf
  refine wpAny_bind (wpAny_load ho ?_)
  rw [hd]
  exact wpAny_pure h
theorem wpD_free {M : Model} {a : Addr} {o : Obj} {b : Array UInt8} {Q : Bool → Shared → Prop} (ho : s.heap.get? a = some o) (hd : o.data = .bytearray b 0) (h : Q false s) :
    wpD M A (Builtin.Bytes.exported (.ref a) <||> (do return (← Builtin.Bytes.exportsOf (.ref a)) > 0 : Sem Bool)) Q s := by
  unfold orM
  refine wpD_bind (wpD_exported ?_)
  refine wpD_any ?_
  show wpAny M A (Builtin.Bytes.exportsOf (.ref a) >>= fun x => pure (decide (x > 0))) _ _ _
  exact wpAny_bind (wpAny_exportsOf ho hd (wpAny_pure h))
theorem wpAny_write {M : Model} {a : Addr} {o : Obj} {b : Array UInt8} {n : Nat} {f : Array UInt8 → Array UInt8} {Q : Unit → Shared → Prop} (ho : s.heap.get? a = some o) (hd : o.data = .bytearray b n) (hz : (f b).size ≤ sizeLine)
    (h : Q () { s with heap := s.heap.update a (Obj.mapBytearray f) }) : wpAny M A (Builtin.Bytes.write (.ref a) f) Q E s := by
  unfold Builtin.Bytes.write updateBytearray
  refine wpAny_bind (wpAny_load ho ?_)
  rw [hd]
  dsimp only
  refine wpAny_bind (wpAny_update ho ?_)
  obtain ⟨c, d, dt, sl⟩ := o
  simp only at hd
  subst hd
  refine wpAny_lookBehind (o := ⟨c, d, .bytearray (f b) n, sl⟩) (Heap.get?_update_self _ ho rfl) ?_ h
  show (if (f b).size > sizeLine then some "bytearray:memory" else none) = none
  rw [if_neg (by omega)]
theorem ba_code_new {Q₁ : Value → Shared → Prop} (h : Q₁ (.ref s.heap.objs.size) { s with heap := s.heap.push { cls := .type "bytearray", data := .bytearray #[] } }) :
    codeAny (model prog w) A (.call (.builtin "bytearray.__new__") ⟨[.type "bytearray"], []⟩) (wants Q₁ E) s := by
  refine codeAny_of_tree ?_
  show wpAny _ A.in1 (do checkBuiltinCall "bytearray.__new__" ⟨[.type "bytearray"], []⟩; again (.builtin "bytearray.__new__" ⟨[.type "bytearray"], []⟩)) _ _ s
  refine wpAny_bind (wpAny_of_eq ba_newCall (wpAny_pure ⟨plainId_quiet ba_called.plain _, codeAny_builtin_stack ba_entry_new rfl fun p st => ?_⟩))
  rw [Around.under_plainId ba_called.plain _]
  have hsub := ba_sub
  have hown := ba_owner
  obtain ⟨hp, g, d, tk, os⟩ := s
  simp only [hown]
  wp_walk
  exact h

theorem call_bytearray {Q : Value → Shared → Prop}
    (h : ∀ h', h' = (s.heap.push { cls := .type "bytearray", data := .bytearray #[] }).update s.heap.objs.size (Obj.mapBytearray fun _ => #[]) → Q (.ref s.heap.objs.size) { s with heap := h' }) :
    wpD (model prog w) A (call (.type "bytearray") []) Q s := by
  refine wpD_call (codeD_tree rfl ?_)
  show wpD _ _ (callAny (.type "bytearray") _) _ _
  refine wpD_pure ⟨Code.quiet_builtin _ (by decide +kernel), ?_⟩
  refine codeD_builtin (by decide) F.entry_type_call ?_
  rw [Around.under_plain (weight_type_call_type "bytearray" [] []) rfl]
  dsimp only
  unfold Builtin.«type.__call__»
  dsimp only
  rw [if_neg (by rw [ba_called.notType]; exact Bool.false_ne_true), if_neg (by rw [ba_called.canCreate]; exact Bool.false_ne_true)]
  rw [ba_typeCall, ba_mro, ba_called.made]
  simp only [pure_bind, List.isEmpty_cons, Bool.false_eq_true, if_false]
  refine wpD_bind (wpD_holding (wpD_any (wpAny_call (codeAny_mono (ba_code_new (E := fun _ _ => False) (Q₁ := fun obj s₁ => obj = .ref s.heap.objs.size ∧ s₁ = { s with heap := s.heap.push { cls := .type "bytearray", data := .bytearray #[] } }) ⟨rfl, rfl⟩) fun r s₁ hr => ?_))))
  cases r with
  | error e => exact hr
  | ok fl =>
    cases fl with
    | ret obj =>
      obtain ⟨rfl, rfl⟩ := hr
      have hS : (s.heap.push { cls := .type "bytearray", data := .bytearray #[] }).get? s.heap.objs.size = some { cls := .type "bytearray", data := .bytearray #[] } := Heap.get?_push_size _ rfl
      generalize s.heap.push { cls := .type "bytearray", data := .bytearray #[] } = H at hS h ⊢
      generalize s.heap.objs.size = S at hS h ⊢
      have hT : Shared.TypeIs { s with heap := H } (.ref S) "bytearray" := ⟨_, hS, rfl⟩
      dsimp only
      refine wpD_leaf (wpAny_isInstance hT ba_sub ?_)
      simp only [Bool.not_true, Bool.false_eq_true, if_false]
      refine wpD_bind (wpD_holding ?_)
      unfold callSpecial?
      refine wpD_leaf (wpAny_specialOf hT ba_slot_init.lookup ?_)
      dsimp only
      refine wpD_holding ?_
      rw [ba_slot_init.bind]
      simp only [pure_bind]
      refine wpD_bind (wpD_call (codeD_call_builtin (by decide) ba_slot_init.plain ba_entry_init (ba_slot_init.check _ _ _ _ _ _ _ _ hT (ba_args_init _) ?_)))
      dsimp only [List.append_nil, List.nil_append, List.cons_append]
      unfold Builtin.«bytearray.__init__»
      dsimp only
      refine wpD_leaf (ba_ownRelease hT ?_)
      simp only [Bool.false_eq_true, if_false]
      rw [show Builtin.Bytes.bindOptional "bytearray.__init__" "bytearray" ["source", "encoding", "errors"] [] [] = pure [none, none, none] from by kernel_rfl]
      simp only [pure_bind]
      rw [show ∀ a b c, Builtin.Bytes.checkCodecArg a b c none = pure () from fun _ _ _ => rfl]
      rw [show ∀ a b c, Builtin.Bytes.checkCodecArg a b c none = pure () from fun _ _ _ => rfl]
      simp only [pure_bind]
      refine wpD_bind (wpD_free hS rfl ?_)
      simp only [Bool.false_eq_true, if_false]
      refine wpD_leaf (wpAny_write hS rfl (Nat.zero_le _) ?_)
      simp only [Option.isSome_none, Bool.false_eq_true, if_false, pure_bind]
      exact wpD_pure (wpD_pure (wpD_pure (h _ rfl)))
    | _ => exact hr.elim

theorem ba_append {S : Addr} {o : Obj} {b : Array UInt8} {i : Int} {t : Tok} {Q : Value → Shared → Prop} (hS : s.heap.get? S = some o) (hc : o.cls = .type "bytearray") (hd : o.data = .bytearray b 0) (h0 : 0 ≤ i) (h1 : i < 256) (hz : b.size + 1 ≤ sizeLine)
    (h : Q .none { s with heap := s.heap.update S (Obj.mapBytearray fun x => x.push i.toNat.toUInt8) }) : wpD (model prog w) A (call (.builtin "bytearray.append") [.ref S, .int i t]) Q s := by
  have hT : s.TypeIs (.ref S) "bytearray" := ⟨_, hS, hc⟩
  refine wpD_call (codeD_call_builtin (by decide) ba_slot_append.plain ba_entry_append (ba_slot_append.check _ _ _ _ _ _ _ _ hT (ba_args_append _ _) ?_))
  unfold Builtin.«bytearray.append»
  refine wpD_leaf (show wpAny _ _ (selfAndOne "bytearray.append" ⟨[.ref S, .int i t], []⟩) _ _ _ from wpAny_bind (wpAny_pure (wpAny_pure ?_)))
  dsimp only
  unfold Builtin.Bytes.byteValue
  rw [show asIndex (.int i t) = pure i from rfl]
  simp only [pure_bind]
  rw [if_neg (by simp; omega)]
  simp only [pure_bind]
  unfold Builtin.Bytes.checkResize
  refine wpD_bind (wpD_bind (wpD_free hS hd ?_))
  simp only [Bool.false_eq_true, if_false]
  refine wpD_pure (wpD_leaf (wpAny_write hS hd (by simpa using hz) ?_))
  exact wpD_pure h
end
end Mine
end

section
open PySem PySem.W PySem.Calls PyProof.Rows
namespace Mine
theorem ba_no_bytes : typeLookup (.type "bytearray") "__bytes__" = pure none := by rw [typeLookup_type, builtinLookup_eq_fast]; kernel_rfl
theorem ba_no_index : typeLookup (.type "bytearray") "__index__" = pure none := by rw [typeLookup_type, builtinLookup_eq_fast]; kernel_rfl
theorem ba_buffer : typeLookup (.type "bytearray") "__buffer__" = pure (some (.builtin "bytearray.__buffer__")) := by rw [typeLookup_type, builtinLookup_eq_fast]; kernel_rfl
theorem ba_ends2 : "bytearray.__buffer__".endsWith ("." ++ "__buffer__") = true := by decide +kernel
theorem ba_drop2 : (Value.type ("bytearray.__buffer__".dropRight ("__buffer__".length + 1))) = Value.type "bytearray" := by kernel_rfl
section
variable {prog : Program} {w : World} {A : Around} {E : Value → Shared → Prop} {s : Shared}
theorem ba_buffer_is {M : Model} {id : String} {S : Addr} {o : Obj} {b : Array UInt8} {n : Nat} {full : Bool} {Q : Option (Array UInt8) → Shared → Prop} (hS : s.heap.get? S = some o) (hc : o.cls = .type "bytearray") (hd : o.data = .bytearray b n) (h : Q (some b) s) :
    wpAny M A (Builtin.Bytes.buffer? id (.ref S) full) Q E s := by
  have hT : s.TypeIs (.ref S) "bytearray" := ⟨_, hS, hc⟩
  unfold Builtin.Bytes.buffer?
  refine wpAny_bind (wpAny_specialOf hT ba_buffer ?_)
  dsimp only
  unfold Builtin.Bytes.slotIsOwn
  refine wpAny_bind (wpAny_bind (wpAny_specialOf hT ba_buffer ?_))
  dsimp only
  rw [if_neg (by rw [ba_ends2]; exact Bool.false_ne_true), ba_drop2]
  refine wpAny_isInstance hT ba_sub ?_
  simp only [Bool.not_true, Bool.false_eq_true, if_false]
  refine wpAny_bind (wpAny_specialOf hT ba_buffer ?_)
  refine wpAny_bind (ba_ownRelease hT ?_)
  simp only [Bool.false_eq_true, if_false]
  exact wpAny_bind (wpAny_payload hS hd (wpAny_pure h))
theorem ba_bytes_new {S : Addr} {o : Obj} {b : Array UInt8} {n : Nat} {Q : Value → Shared → Prop} (hS : s.heap.get? S = some o) (hc : o.cls = .type "bytearray") (hd : o.data = .bytearray b n) (hz : b.size ≤ sizeLine)
    (hQ : Q (.bytes b s.toks) { s with toks := s.toks + 1 }) : codeAny (model prog w) A (.call (.builtin "bytes.__new__") ⟨[.type "bytes", .ref S], []⟩) (wants Q E) s := by
  refine codeAny_of_tree ?_
  show wpAny _ A.in1 (do checkBuiltinCall "bytes.__new__" ⟨[.type "bytes", .ref S], []⟩; again (.builtin "bytes.__new__" ⟨[.type "bytes", .ref S], []⟩)) _ _ s
  refine wpAny_bind (wpAny_of_eq (F.bm_newCall _) (wpAny_pure ⟨plainId_quiet F.bm_plain _, codeAny_builtin F.bm_entry ?_⟩))
  rw [Around.under_plainId F.bm_plain _]
  have hT : s.TypeIs (.ref S) "bytearray" := ⟨_, hS, hc⟩
  unfold Builtin.«bytes.__new__»
  refine wpAny_bind (wpAny_of_eq (a := true) rfl ?_)
  refine bm_if_false rfl ?_
  refine wpAny_bind (wpAny_of_eq F.bm_sub ?_)
  refine bm_if_false rfl ?_
  refine wpAny_bind (wpAny_of_eq (F.bm_bind _) ?_)
  refine wpAny_bind (wpAny_of_eq (a := ()) rfl ?_)
  refine wpAny_bind (wpAny_of_eq (a := ()) rfl ?_)
  refine bm_if_false rfl ?_
  refine wpAny_bind (wpAny_specialOf hT ba_no_bytes ?_)
  refine wpAny_bind (wpAny_bind ?_)
  show wpAny _ _ (load S >>= _) _ _ _
  refine wpAny_bind (wpAny_load hS ?_)
  rw [hd]
  refine wpAny_pure (wpAny_pure ?_)
  refine bm_if_false rfl ?_
  refine wpAny_bind (wpAny_specialOf hT ba_no_index ?_)
  refine bm_if_true rfl ?_
  first
    | show wpAny _ _ (Builtin.Bytes.buffer? "bytes.__new__" (.ref S) true >>= _) _ _ _
    | (refine wpAny_bind ?_; show wpAny _ _ (Builtin.Bytes.buffer? "bytes.__new__" (.ref S) true >>= _) _ _ _)
  refine wpAny_bind (ba_buffer_is hS hc hd ?_)
  refine wpAny_bind (wpAny_rule ?_)
  refine wpAny_bind (wpAny_mkBytes ?_ hz)
  first
    | exact wpAny_pure hQ
    | exact wpAny_pure (wpAny_pure hQ)
    | exact wpAny_bind (wpAny_pure (wpAny_pure hQ))
theorem call_bytes_ba {S : Addr} {o : Obj} {b : Array UInt8} {n : Nat} {Q : Value → Shared → Prop} (hS : s.heap.get? S = some o) (hc : o.cls = .type "bytearray") (hd : o.data = .bytearray b n) (hz : b.size ≤ sizeLine)
    (hQ : ∀ t k, Q (.bytes b t) { s with toks := k }) : wpAny (model prog w) A (call (.type "bytes") [.ref S]) Q E s := by
  refine callType_codes (Q₁ := fun obj s₁ => s₁.TypeIs obj "bytes" ∧ Q obj s₁) F.bm_called (F.bm_typeCall _) F.entry_object_init
    (ba_bytes_new hS hc hd hz ⟨PySem.W.typeIs_bytes _ _ _, hQ _ _⟩) fun obj s₁ h₁ => ?_
  exact ⟨h₁.1, F.args_object_init_2 obj _, object_init_meets F.bm_called.init.lookup F.bm_called.made (by decide) prog w A.in1 _ s₁ ⟨h₁.1, rfl, h₁.2⟩⟩
end
end Mine
end

section
open PySem PySem.W PySem.Calls PyProof.Rows
namespace Mine
section
variable {prog : Program} {w : World} {A : Around} {s : Shared} {env : Env}
theorem codeD_call_def {R : Result → Shared → Prop} {a : Addr} {o : Obj} {fd : FuncData} {body : List Stmt} {args : Args} {binds : List (Str × Value)}
    (hroom : A.depth < recursionLimit) (ho : s.heap.get? a = some o) (hdata : o.data = .func fd) (hlim : s.heap.NoLimit) (hcd : s.heap.CodeRec fd.code fd.qualname)
    (hbody : fd.body = .stmts body) (hbind : bindArgs fd args = pure binds)
    (hcell : ∀ x ∈ fd.scope.names, x.2 ≠ .cell) (hloc : ∀ x ∈ binds, fd.scope.names.lookup x.1 = some .local)
    (h : ∀ h₀, h₀.Ns s.heap.objs.size (fun x => binds.reverse.lookup x) → (∀ b o, s.heap.get? b = some o → h₀.get? b = some o) →
      wpD (model prog w) (A.deeper (callEnv fd s.heap.objs.size a)) (execs body (callEnv fd s.heap.objs.size a)) (fun f s' => R (.ok (.ret (match f with | .ret v => v | _ => .none))) s')
        { s with heap := h₀, toks := s.toks + binds.length })
    (hco : fd.scope.isCoroutine = false := by rfl) (hgen : fd.scope.isGenerator = false := by rfl) (hk : fd.scope.kind = .function := by rfl) :
    codeD (model prog w) A (.call (.ref a) args) R s := by
  refine codeD_tree rfl (wpD_any ?_)
  show wpAny _ A.in1 (callAny (.ref a) args) _ _ s
  simp only [callAny]
  refine wpAny_bind (wpAny_load ho ?_)
  obtain ⟨c, oc, vs, tq, hc, hoc, hdc, hq⟩ := hcd
  simp only [hdata, callFunction, hco, hgen, hbody, hc]
  refine wpAny_bind (m := field (.ref c) 1) (wpAny_field hoc hdc hq (wpAny_bind (wpAny_pure ?_)))
  refine wpAny_bind (wpAny_of_eq hbind ?_)
  refine wpAny_bind (wpAny_newFunctionEnv hcell hloc (fun h₀ hns₀ hsb₀ => ?_) hk)
  refine wpAny_bind (wpAny_enterFrame (hlim.fresh _ hsb₀) hroom (wpAny_pure (And.intro rfl (codeD_func ?_))))
  have := h h₀ hns₀ fun b o e => hsb₀.extBut b o (Nat.ne_of_lt (Heap.lt_size e)) (Heap.get?_push_of_some _ e)
  unfold callEnv at this
  rw [hc] at this
  exact this
theorem wpD_keep {α : Type} {vs : List Value} {m : Sem α} {Q : α → Shared → Prop} (h : wpD (model prog w) A m Q s) : wpD (model prog w) A (m.keep vs) Q s := fun Γ p d => by rw [Sem.wp_keep]; exact h Γ p d

theorem wpD_tail {t : Sem Value} {Q : Value → Shared → Prop} (ht : wpD (model prog w) A t Q s) : wpD (model prog w) A (t >>= fun r => holding [r] point >>= fun _ => pure r) Q s :=
  wpD_bind (wpD_mono ht fun r s₂ hr => wpD_leaf (wpAny_holding (wpAny_point (wpD_pure hr))))

theorem wpD_callWith_function {pos : Pos} {a : Addr} {o : Obj} {fd : FuncData} {first : List Value} {args : List (Bool × Sem Value)} {Q : Value → Shared → Prop} (hplain : args.any (·.1) = false)
    (h : wpAny (model prog w) A (evalArgs (.ref a) true args []) (fun x s₁ => (s₁.heap.get? a = some o ∧ o.data = .func fd) ∧ wpD (model prog w) A (call (.ref a) (first ++ x.pos) x.kw) Q s₁) (fun _ _ => False) s) :
    wpD (model prog w) A (callWith pos (.ref a) first args []) Q s := by
  unfold callWith
  refine wpD_bind (wpD_holding (wpD_any (wpAny_mono h (fun x s₁ h₁ => wpD_standAt ?_) fun _ _ x => x)))
  simp only [hplain, List.any_nil, Bool.or_false]
  unfold keeperOf
  refine wpD_leaf (wpAny_bind (wpAny_load h₁.1.1 ?_))
  rw [h₁.1.2]
  refine wpAny_pure ?_
  dsimp only
  split
  · exact wpD_tail h₁.2
  · unfold callMarked; exact wpD_tail (wpD_keep h₁.2)
theorem wpD_callWith_builtin {pos : Pos} {id : String} {first : List Value} {args : List (Bool × Sem Value)} {Q : Value → Shared → Prop} (hplain : args.any (·.1) = false)
    (h : wpAny (model prog w) A (evalArgs (.builtin id) true args []) (fun a s₁ => wpD (model prog w) A (call (.builtin id) (first ++ a.pos) a.kw) Q s₁) (fun _ _ => False) s) :
    wpD (model prog w) A (callWith pos (.builtin id) first args []) Q s := by
  unfold callWith
  refine wpD_bind (wpD_holding (wpD_any (wpAny_mono h (fun x s₁ h₁ => wpD_standAt ?_) fun _ _ x => x)))
  simp only [hplain, List.any_nil, Bool.or_false]
  exact wpD_leaf (wpAny_pure (wpD_tail h₁))
theorem wpD_callWith_type0 {pos : Pos} {T : String} {Q : Value → Shared → Prop} (h : wpD (model prog w) A (call (.type T) []) Q s) : wpD (model prog w) A (callWith pos (.type T) [] [] []) Q s := by
  unfold callWith
  refine wpD_bind (wpD_holding (wpD_any ?_))
  unfold evalArgs
  show wpAny _ _ (spliced [] >>= fun vs => pure (vs, none) >>= _) _ _ _
  refine wpAny_bind (spliced_nil (wpAny_bind (wpAny_pure ?_)))
  refine wpAny_holding ?_
  refine wpAny_bind (wpAny_pure (wpAny_bind (wpAny_pure (wpAny_pure ?_))))
  refine wpD_standAt ?_
  exact wpD_leaf (wpAny_pure (wpD_tail h))

/-- name.append(e), name a bytearray's -/
theorem wpD_append {x : Str} {xp apos pos : Pos} {e : PySem.Expr} {Q : Value → Shared → Prop}
    (hline : (apos.endLine == pos.line) = true) (htrees : backTo pos (starEach [e] env) = [(false, eval e env)])
    (hbase : attributeBase (.Name x xp) "append" env (eval (.Name x xp) env) = eval (.Name x xp) env)
    (h : wpAny (model prog w) A (eval (.Name x xp) env) (fun ov s₁ => Halt (∃ S ob b, ov = .ref S ∧ s₁.heap.get? S = some ob ∧ ob.cls = .type "bytearray" ∧ ob.dict = none ∧ ob.data = .bytearray b 0 ∧
      wpAny (model prog w) A (eval e env) (fun v s₂ => Halt (∃ i t ob₂ b₂, v = .int i t ∧ s₂.heap.get? S = some ob₂ ∧ ob₂.cls = .type "bytearray" ∧ ob₂.data = .bytearray b₂ 0 ∧ 0 ≤ i ∧ i < 256 ∧ b₂.size + 1 ≤ sizeLine ∧
        Q .none { s₂ with heap := s₂.heap.update S (Obj.mapBytearray fun y => y.push i.toNat.toUInt8) })) (fun _ _ => False) s₁)) (fun _ _ => False) s) :
    wpD (model prog w) A (eval (.Call (.Attribute (.Name x xp) "append" apos) [e] [] pos) env) Q s := by
  rw [arm_eval_Call, hbase]
  refine wpD_leaf (wpAny_mono h (fun ov s₁ h₁ => ?_) fun _ _ x => x)
  obtain ⟨S, ob, b, rfl, hS, hc, hdi, hd, hc2⟩ := h₁
  refine wpD_standAt ?_
  have hT : s₁.TypeIs (.ref S) "bytearray" := ⟨_, hS, hc⟩
  have hform : methodCallForm ([e].length + ([] : List Keyword).length) (backTo pos (starEach [e] env)) (backToKw pos (keywordEach [] env)) = true := by rw [htrees]; rfl
  have hpos : methodCallPos true (.Name x xp) env apos pos = pure pos := by unfold methodCallPos; simp [hline]
  unfold methodCall
  rw [hform]
  refine wpD_leaf (wpAny_holding (getMethod_builtin hT ba_plain ba_slot_append ba_type_append (fun a ha => by cases ha; exact ⟨ob, hS, hdi⟩) ?_))
  rw [hpos]
  dsimp only
  simp only [pure_bind]
  refine wpD_callWith_builtin (by rw [htrees]; rfl) ?_
  rw [htrees]
  refine evalArgs_plain (spliced_cons (wpAny_mono hc2 (fun v s₂ h₂ => spliced_nil ?_) fun _ _ x => x))
  obtain ⟨i, t, ob₂, b₂, rfl, hS2, hcl, hd2, h0, h1, hz, hq⟩ := h₂
  exact ba_append hS2 hcl hd2 h0 h1 hz hq
end
end Mine
end

section
open PySem PySem.W PySem.Calls PyProof.Rows
namespace Mine
section
variable {prog : Program} {w : World} {A₀ A : Around} {s : Shared} {base h₀ : Heap} {outer : List Env} {L : Addr} {m : Str → Option Value} {env : Env} {ex rest : Led} {K : Frag}
  {p : Program} {loose : List Str} {mean : ExcName → Option Value} {mg mb : Str → Option Value}
  {name qual : Str} {params : Arguments} {body : List Stmt} {scope : Scope} {dV kV doc pm cdv ct oc : Value} {an od : Option Addr} {osl : Array (Option Value)} {f : Addr} {vals : List Value} {binds : List (Str × Value)}

theorem enterD {Q : Value → Shared → Prop} (B : Below A₀ base outer h₀) (F : Fr h₀ L s.heap m) (X₀ : K.In h₀) (N : News h₀ L s.heap rest) (T : Top p loose mean mg mb h₀)
    (hA : A.frames = some (env :: outer)) (hf : env.frame = some L) (hke : env.scope.kind = .function)
    (ho : K.lookup f = some ⟨oc, od, .func (fnOf name qual params body scope dV kV doc pm an cdv ct), osl⟩) (hcd : codeIn K cdv qual = true) (hroom : A.depth < recursionLimit)
    (hbind : bindArgs (fnOf name qual params body scope dV kV doc pm an cdv ct) ⟨vals, []⟩ = pure binds) (hloc : ∀ y ∈ binds, scope.names.lookup y.1 = some .local)
    (h : ∀ g L' h₁, s.heap.objs.size = L' → Fr h₀ L g m → News h₀ L g rest → (∀ q ∈ rest, q.1 < L') → Fr g L' h₁ (fun y => binds.reverse.lookup y) → Below A base (env :: outer) g → K.In g → Top p loose mean mg mb g →
      (∀ b o, s.heap.get? b = some o → g.get? b = some o) →
      wpD (model prog w) (A.deeper (envOf qual scope L' f cdv)) (execs body (envOf qual scope L' f cdv))
        (fun fl s' => Q (match fl with | .ret v => v | _ => .none) s') { s with heap := h₁, toks := s.toks + binds.length })
    (hco : scope.isCoroutine = false) (hgen : scope.isGenerator = false) (hk : scope.kind = .function)
    (hcell : ∀ x ∈ scope.names, x.2 ≠ .cell) : wpD (model prog w) A (call (.ref f) vals) Q s := by
  refine wpD_call ?_
  obtain ⟨FG, BG, st, _⟩ := groundX (news := []) (R := fun _ _ => True) B F (fun _ h => nomatch h) hA hf hke
  refine codeD_call_def (fd := fnOf name qual params body scope dV kV doc pm an cdv ct) (body := body) (binds := binds) hroom ((X₀.keeps F.keep) _ _ ho) rfl (T.nolimit.keeps F.keep)
    (codeRec_of (X₀.keeps F.keep) hcd) rfl hbind hcell hloc (fun h₁ hns hk₁ => ?_) hco hgen hk
  exact h s.heap s.heap.objs.size h₁ rfl FG N (fun q hq => Heap.lt_size (N q hq).1) ⟨hns, hk₁, Nat.le_refl _⟩ BG (X₀.keeps fun b o e => st b o e) (T.keeps fun b o e => st b o e) (fun _ _ e => e)
end

abbrev baObj (b : Array UInt8) : Obj := { cls := .type "bytearray", data := .bytearray b 0 }
abbrev tupObj (vs : List Value) : Obj := { cls := .type "tuple", data := .seq vs.toArray }
section
variable {h₀ h : Heap} {L : Addr} {m : Str → Option Value} {news : Led}
theorem new_ba (F : Fr h₀ L h m) (N : News h₀ L h news) {h' : Heap} (e : h' = (h.push (baObj #[])).update h.objs.size (Obj.mapBytearray fun _ => #[])) :
    Fr h₀ L h' m ∧ News h₀ L h' ((h.objs.size, baObj #[]) :: news) ∧ (∀ q ∈ news, q.1 < h.objs.size) ∧ L < h.objs.size := by
  have F1 := F.push (baObj #[])
  have N1 := News.push F N (baObj #[])
  have lt : ∀ q ∈ news, q.1 < h.objs.size := fun q hq => Heap.lt_size (N q hq).1
  have := news_upd (pre := []) (post := news) (d := h.objs.size) (o := baObj #[]) (o' := baObj #[]) (f := Obj.mapBytearray fun _ => #[]) F1 N1 (fun _ h => nomatch h) (fun q hq => Nat.ne_of_lt (lt q hq)) rfl rfl
  subst e
  exact ⟨this.1, this.2, lt, F.ns.lt⟩
theorem push_ba {S : Addr} {b : Array UInt8} {c : UInt8} {rest : Led} (F : Fr h₀ L h m) (N : News h₀ L h ((S, baObj b) :: rest)) (hr : ∀ q ∈ rest, q.1 ≠ S) :
    Fr h₀ L (h.update S (Obj.mapBytearray fun y => y.push c)) m ∧ News h₀ L (h.update S (Obj.mapBytearray fun y => y.push c)) ((S, baObj (b.push c)) :: rest) :=
  news_upd (pre := []) F N (fun _ h => nomatch h) hr rfl rfl
end
section
variable {prog : Program} {w : World} {M : Model} {A : Around} {E : Value → Shared → Prop} {s : Shared} {h₀ : Heap} {L : Addr} {m : Str → Option Value} {led rest : Led}
theorem append_to {P : Addr} {its : Array Value} {n : Nat} {x : Value} {Q : Value → Shared → Prop} (F : Fr h₀ L s.heap m) (N : News h₀ L s.heap led) (hm : (P, listOf its n) ∈ led) (hr : ∀ q ∈ rest, q ∈ led ∧ q.1 ≠ P) (hsz : its.size ≤ 1000)
    (h : ∀ h', Fr h₀ L h' m → News h₀ L h' ((P, listOf (its.push x) (n + 1)) :: rest) → Q .none { s with heap := h' }) : wpAny (model prog w) A (call (.builtin "list.append") [.ref P, x]) Q E s := by
  have N2 : News h₀ L s.heap ((P, listOf its n) :: rest) := fun q hq => by
    rcases List.mem_cons.mp hq with rfl | hq
    · exact N _ hm
    · exact N _ (hr q hq).1
  exact append_K F N2 (Upd.head fun q hq => (hr q hq).2) h (by rw [sizeLine_eq]; omega)
theorem newTuple_M {vs : List Value} {Q : Value → Shared → Prop} (F : Fr h₀ L s.heap m) (N : News h₀ L s.heap led) (hsz : vs.length ≤ 1000)
    (h : ∀ D h', Fr h₀ L h' m → News h₀ L h' ((D, tupObj vs) :: led) → (∀ q ∈ led, q.1 < D) → Q (.ref D) { s with heap := h' }) : wpAny M A (newTuple vs) Q E s :=
  newTuple_N F N (fun h' F' N' => h _ h' F' N' fun q hq => Heap.lt_size (N q hq).1) (by rw [sizeLine_eq]; omega)
end
end Mine
end

section
open PySem PySem.W PySem.Calls PyProof.Rows
namespace Mine
abbrev Piece := Int × Array UInt8
def scan : List UInt8 → List Piece → Int → Array UInt8 → List Piece
  | [], ps, n, o => ps ++ [(n, o)]
  | x :: r, ps, n, o => if x ≠ 255 then scan r ps n (o.push x) else match r with
    | [] => ps ++ [(n, o)]
    | y :: r' => if y = 0 then scan r' ps n (o.push 255) else if y = 255 then scan (y :: r') ps n o else if 208 ≤ y.toNat ∧ y.toNat ≤ 215 then scan r' (ps ++ [(n, o)]) ((y.toNat : Int) - 208) #[] else scan r' ps n o
termination_by l => l.length

theorem scan_nil (ps : List Piece) (n : Int) (o : Array UInt8) : scan [] ps n o = ps ++ [(n, o)] := by rw [scan.eq_def]
theorem scan_cons (x : UInt8) (r : List UInt8) (ps : List Piece) (n : Int) (o : Array UInt8) : scan (x :: r) ps n o = if x ≠ 255 then scan r ps n (o.push x) else match r with
    | [] => ps ++ [(n, o)]
    | y :: r' => if y = 0 then scan r' ps n (o.push 255) else if y = 255 then scan (y :: r') ps n o else if 208 ≤ y.toNat ∧ y.toNat ≤ 215 then scan r' (ps ++ [(n, o)]) ((y.toNat : Int) - 208) #[] else scan r' ps n o := by
  rw [scan.eq_def]

def TupIs (r : Addr × Obj) (q : Piece) : Prop := ∃ t u, r.2 = tupObj [.int q.1 t, .bytes q.2 u]
def TupsAre (tups : Led) (ps : List Piece) : Prop := tups.length = ps.length ∧ ∀ (i : Nat) r q, tups[i]? = some r → ps[i]? = some q → TupIs r q
theorem tups_snoc {tups : Led} {ps : List Piece} {r : Addr × Obj} {q : Piece} (h : TupsAre tups ps) (hr : TupIs r q) : TupsAre (tups ++ [r]) (ps ++ [q]) := by
  refine ⟨by simp [h.1], fun i x y hx hy => ?_⟩
  by_cases hlt : i < tups.length
  · rw [List.getElem?_append_left hlt] at hx
    rw [List.getElem?_append_left (h.1 ▸ hlt)] at hy
    exact h.2 i x y hx hy
  · rw [List.getElem?_append_right (by omega)] at hx
    rw [List.getElem?_append_right (by have := h.1; omega)] at hy
    have hi0 : i - tups.length = 0 := by
      cases e : i - tups.length with
      | zero => rfl
      | succ k => rw [e] at hx; simp at hx
    rw [hi0] at hx
    rw [← h.1, hi0] at hy
    simp only [List.getElem?_cons_zero, Option.some.injEq] at hx hy
    subst hx hy
    exact hr

/-- the while's state -/
structure FJ (b : List UInt8) (P O : Addr) (tups : Led) (ps : List Piece) (num : Int) (o : Array UInt8) (at' : Nat) : Prop where
  ok : TupsAre tups ps
  nd : (P :: tups.map (·.1)).Nodup
  offO : ∀ q ∈ tups, q.1 ≠ O
  PO : P ≠ O
  le : at' ≤ b.length
  sz : o.size ≤ at'
  many : ps.length ≤ at'
  run : scan (b.drop at') ps num o = scan b [] (-1) #[]

theorem getD_drop {b : List UInt8} {i : Nat} (h : i + 1 < b.length) : b.getD ((i : Int) + 1).toNat 0 = (b.drop (i + 1)).headD 255 := by
  rw [show ((i : Int) + 1).toNat = i + 1 by omega, List.drop_eq_getElem_cons h, List.getD_eq_getElem?_getD, List.getElem?_eq_getElem h]
  rfl
theorem drop_end {b : List UInt8} {i : Nat} (h : b.length ≤ i + 1) : (b.drop (i + 1)).headD 255 = 255 := by
  rw [List.drop_eq_nil_of_le h]
  rfl

theorem drop_here {b : List UInt8} {i : Nat} (h : i < b.length) : b.drop i = b.getD i 0 :: b.drop (i + 1) := by
  rw [List.drop_eq_getElem_cons h, List.getD_eq_getElem?_getD, List.getElem?_eq_getElem h]
  rfl
theorem scan_other {b : List UInt8} {i : Nat} {ps : List Piece} {n : Int} {o : Array UInt8} (h : i < b.length) (hx : b.getD i 0 ≠ 255) : scan (b.drop i) ps n o = scan (b.drop (i + 1)) ps n (o.push (b.getD i 0)) := by
  rw [drop_here h, scan_cons, if_pos hx]
theorem scan_ff {b : List UInt8} {i : Nat} {ps : List Piece} {n : Int} {o : Array UInt8} (h : i < b.length) (hx : b.getD i 0 = 255) (hy : (b.drop (i + 1)).headD 255 = 255) : scan (b.drop i) ps n o = scan (b.drop (i + 1)) ps n o := by
  rw [drop_here h, scan_cons, if_neg (by rw [hx]; decide)]
  cases e : b.drop (i + 1) with
  | nil => simp only; rw [scan_nil]
  | cons y r =>
    rw [e] at hy
    simp only [List.headD_cons] at hy
    subst hy
    simp only
    rw [if_neg (by decide), if_pos trivial]
theorem next_of {b : List UInt8} {i : Nat} {y : UInt8} (hy : (b.drop (i + 1)).headD 255 = y) (hne : y ≠ 255) : i + 1 < b.length ∧ b.drop (i + 1) = y :: b.drop (i + 2) := by
  by_cases h : i + 1 < b.length
  · refine ⟨h, ?_⟩
    rw [List.drop_eq_getElem_cons h] at hy ⊢
    simp only [List.headD_cons] at hy
    rw [hy]
  · rw [List.drop_eq_nil_of_le (by omega)] at hy
    exact absurd hy.symm hne
theorem scan_zero {b : List UInt8} {i : Nat} {ps : List Piece} {n : Int} {o : Array UInt8} (h : i < b.length) (hx : b.getD i 0 = 255) (hy : (b.drop (i + 1)).headD 255 = 0) : scan (b.drop i) ps n o = scan (b.drop (i + 2)) ps n (o.push 255) := by
  rw [drop_here h, scan_cons, if_neg (by rw [hx]; decide), (next_of hy (by decide)).2]
  simp only
  rw [if_pos trivial]
theorem scan_mark {b : List UInt8} {i : Nat} {ps : List Piece} {n : Int} {o : Array UInt8} {y : UInt8} (h : i < b.length) (hx : b.getD i 0 = 255) (hy : (b.drop (i + 1)).headD 255 = y) (h0 : y ≠ 0) (h1 : y ≠ 255) (h2 : ¬ (208 ≤ y.toNat ∧ y.toNat ≤ 215)) :
    scan (b.drop i) ps n o = scan (b.drop (i + 2)) ps n o := by
  rw [drop_here h, scan_cons, if_neg (by rw [hx]; decide), (next_of hy h1).2]
  simp only
  rw [if_neg h0, if_neg h1, if_neg h2]
theorem scan_rst {b : List UInt8} {i : Nat} {ps : List Piece} {n : Int} {o : Array UInt8} {y : UInt8} (h : i < b.length) (hx : b.getD i 0 = 255) (hy : (b.drop (i + 1)).headD 255 = y) (h0 : y ≠ 0) (h1 : y ≠ 255) (h2 : 208 ≤ y.toNat ∧ y.toNat ≤ 215) :
    scan (b.drop i) ps n o = scan (b.drop (i + 2)) (ps ++ [(n, o)]) ((y.toNat : Int) - 208) #[] := by
  rw [drop_here h, scan_cons, if_neg (by rw [hx]; decide), (next_of hy h1).2]
  simp only
  rw [if_neg h0, if_neg h1, if_pos h2]
theorem scan_end {b : List UInt8} {i : Nat} {ps : List Piece} {n : Int} {o : Array UInt8} (h : b.length ≤ i) : scan (b.drop i) ps n o = ps ++ [(n, o)] := by
  rw [List.drop_eq_nil_of_le h, scan_nil]
theorem u8_eq {y : UInt8} {k : Nat} (hk : k < 256) (h : ((y.toNat : Nat) : Int) = k) : y = k.toUInt8 := by
  apply UInt8.toNat_inj.mp
  have e : y.toNat = k := by omega
  rw [e]
  simp [Nat.toUInt8, Nat.mod_eq_of_lt hk]
theorem u8_ne {y : UInt8} {k : Nat} (hk : k < 256) (h : ((y.toNat : Nat) : Int) ≠ k) : y ≠ k.toUInt8 := fun e => h (by
  rw [e]
  simp [Nat.toUInt8, Nat.mod_eq_of_lt hk])

theorem news_swap {h₀ h : Heap} {L : Addr} {a b : Addr × Obj} {r : Led} (N : News h₀ L h (a :: b :: r)) : News h₀ L h (b :: a :: r) := fun q hq => N q (by
  simp only [List.mem_cons] at hq ⊢
  rcases hq with h | h | h
  · exact .inr (.inl h)
  · exact .inl h
  · exact .inr (.inr h))
theorem u8_self (y : UInt8) : ((y.toNat : Nat) : Int).toNat.toUInt8 = y := by
  rw [Int.toNat_natCast]
  simp [Nat.toUInt8]
theorem FJ.pushes {b : List UInt8} {P O : Addr} {tups : Led} {ps : List Piece} {num : Int} {o : Array UInt8} {i j : Nat} {c : UInt8} (J : FJ b P O tups ps num o i) (hij : i < j) (hj : j ≤ b.length) (hr : scan (b.drop i) ps num o = scan (b.drop j) ps num (o.push c)) :
    FJ b P O tups ps num (o.push c) j :=
  ⟨J.ok, J.nd, J.offO, J.PO, hj, by have := J.sz; rw [Array.size_push]; omega, by have := J.many; omega, hr ▸ J.run⟩
theorem FJ.skips {b : List UInt8} {P O : Addr} {tups : Led} {ps : List Piece} {num : Int} {o : Array UInt8} {i j : Nat} (J : FJ b P O tups ps num o i) (hij : i < j) (hj : j ≤ b.length) (hr : scan (b.drop i) ps num o = scan (b.drop j) ps num o) :
    FJ b P O tups ps num o j :=
  ⟨J.ok, J.nd, J.offO, J.PO, hj, by have := J.sz; omega, by have := J.many; omega, hr ▸ J.run⟩
theorem FJ.cut {b : List UInt8} {P O O' D : Addr} {tups : Led} {ps : List Piece} {num num' : Int} {o : Array UInt8} {i j : Nat} {t u : Tok} (J : FJ b P O tups ps num o i) (hij : i < j) (hj : j ≤ b.length)
    (hD : ∀ q ∈ tups, q.1 ≠ D) (hPD : P ≠ D) (hPO : P ≠ O') (hO : ∀ q ∈ tups ++ [(D, tupObj [.int num t, .bytes o u])], q.1 ≠ O') (hr : scan (b.drop i) ps num o = scan (b.drop j) (ps ++ [(num, o)]) num' #[]) :
    FJ b P O' (tups ++ [(D, tupObj [.int num t, .bytes o u])]) (ps ++ [(num, o)]) num' #[] j := by
  refine ⟨tups_snoc J.ok ⟨t, u, rfl⟩, ?_, hO, hPO, hj, Nat.zero_le _, by have := J.many; rw [List.length_append, List.length_singleton]; omega, hr ▸ J.run⟩
  have hn := J.nd
  rw [List.nodup_cons] at hn ⊢
  refine ⟨fun hm => ?_, nodup_snoc hn.2 hD⟩
  rw [List.map_append, List.mem_append] at hm
  rcases hm with hm | hm
  · exact hn.1 hm
  · simp only [List.map_cons, List.map_nil, List.mem_singleton] at hm
    exact hPD hm
end Mine
end

section
open PySem PySem.W PySem.Calls PyProof.Rows PySem.SeqAt
namespace Mine
section
variable {prog : Program} {w : World} {A₀ A : Around} {s : Shared} {base h₀ : Heap} {outer : List Env} {L : Addr} {m : Str → Option Value} {env : Env} {ex rest : Led} {K : Frag}
  {p : Program} {loose : List Str} {mean : ExcName → Option Value} {mg mb : Str → Option Value} {E : Value → Shared → Prop}
  {name qual : Str} {params : Arguments} {body : List Stmt} {scope : Scope} {dV kV doc pm cdv ct oc : Value} {an od : Option Addr} {osl : Array (Option Value)} {f : Addr} {vals : List Value} {binds : List (Str × Value)}

/-- as enter, for a def whose names stand in cells too -/
theorem enterC {Q : Value → Shared → Prop} (B : Below A₀ base outer h₀) (F : Fr h₀ L s.heap m) (X₀ : K.In h₀) (N : News h₀ L s.heap (ex ++ rest)) (T : Top p loose mean mg mb h₀)
    (hdis : ∀ q ∈ rest, ∀ r ∈ ex, q.1 ≠ r.1) (hA : A.frames = some (env :: outer)) (hf : env.frame = some L) (hke : env.scope.kind = .function)
    (ho : K.lookup f = some ⟨oc, od, .func (fnOf name qual params body scope dV kV doc pm an cdv ct), osl⟩) (hcd : codeIn K cdv qual = true) (hroom : A.depth < recursionLimit)
    (hbind : bindArgs (fnOf name qual params body scope dV kV doc pm an cdv ct) ⟨vals, []⟩ = pure binds)
    (hkind : (binds.all fun y => scope.names.lookup y.1 == some .local || scope.names.lookup y.1 == some .cell) = true)
    (hnd : ((cellsFrom 0 scope.names []).map (·.1)).Nodup)
    (h : ∀ g L' h₁ tk cells, s.heap.objs.size = L' → Fr h₀ L g m → News h₀ L g rest → (∀ q ∈ ex ++ rest, q.1 < L') → Fr g L' h₁ (bindL (envOfC qual scope L' f cdv).kindOf binds fun _ => none) → News g L' h₁ (cells ++ ex) →
      CellsAre (bindC (envOfC qual scope L' f cdv).kindOf binds fun _ => none) (cellsFrom (L' + 1) scope.names []) cells → Below A base (env :: outer) g → K.In g → Top p loose mean mg mb g →
      (∀ b o, s.heap.get? b = some o → (∀ r ∈ ex, b ≠ r.1) → g.get? b = some o) →
      wpAny (model prog w) (A.deeper (envOfC qual scope L' f cdv)) (execs body (envOfC qual scope L' f cdv))
        (fun fl s' => Q (match fl with | .ret v => v | _ => .none) s') (fun _ _ => False)
        { s with heap := h₁, toks := tk })
    (hco : scope.isCoroutine = false) (hgen : scope.isGenerator = false) (hk : scope.kind = .function) : wpAny (model prog w) A (call (.ref f) vals) Q E s := by
  refine wpAny_call ?_
  have Nx : News h₀ L s.heap ex := fun q hq => N q (List.mem_append_left _ hq)
  obtain ⟨FG, BG, st, _⟩ := groundX (R := fun _ _ => True) B F Nx hA hf hke
  have kp : ∀ b o, s.heap.get? b = some o → (∀ r ∈ ex, b ≠ r.1) → (hideAll s.heap (ex.map (·.1))).get? b = some o := fun b o e n =>
    hideAll_get _ e fun hm => by
      obtain ⟨r, hr, e'⟩ := List.mem_map.mp hm
      exact n r hr e'.symm
  refine codeAny_call_function hroom ((X₀.keeps F.keep) _ _ ho) rfl hco hgen rfl (codeRec_of (X₀.keeps F.keep) hcd) (BindsTo.of_eq (fd := fnOf name qual params body scope dV kV doc pm an cdv ct) hbind _ _ _ _ ?_)
  refine wpAny_newFunctionEnv_cells hk (kindsX hkind _) fun env' he s' x => ?_
  subst he
  refine ⟨(T.nolimit.keeps F.keep).keeps x.toInCall.keep, codeAny_func ?_⟩
  obtain ⟨h₁, tk, rfl, _⟩ := x.done
  have hk₁ := x.toInCall.keep
  obtain ⟨cells, NC, Y⟩ := Cl.news (h₀ := s.heap) (Nat.le_refl _) fun n c hm => ⟨x.cell n c (lookup_of_mem_nodup (cellsFrom_names scope.names 0 (s.heap.objs.size + 1) [] [] rfl ▸ hnd) hm), x.above n c hm⟩
  refine wpAny_mono (h (hideAll s.heap (ex.map (·.1))) s.heap.objs.size h₁ tk cells rfl FG (fun q hq => ⟨kp _ _ (N q (List.mem_append_right _ hq)).1 (hdis q hq), (N q (List.mem_append_right _ hq)).2⟩)
    (fun q hq => Heap.lt_size (N q hq).1) ⟨x.toInCall.ns, fun b o e => hk₁ b o (of_hideAll _ e), Nat.le_of_eq (hideAll_size _ _)⟩ (fun p hp => ?_) Y BG (X₀.keeps fun b o e => st b o e) (T.keeps fun b o e => st b o e) kp) (fun fl s' hl => hl) fun _ _ y => y.elim
  rcases List.mem_append.mp hp with hp | hp
  · refine ⟨(NC p hp).1, (NC p hp).2.1, ?_⟩
    cases q : (hideAll s.heap (ex.map (·.1))).get? p.1 with
    | none => rfl
    | some o => have := of_hideAll _ q; rw [(NC p hp).2.2] at this; cases this
  · exact ⟨hk₁ _ _ (Nx p hp).1, Nat.ne_of_lt (Heap.lt_size (Nx p hp).1), hideAll_none _ (List.mem_map_of_mem hp)⟩
end

section
variable {prog : Program} {w : World} {A : Around} {E : Value → Shared → Prop} {s : Shared} {h₀ : Heap} {L : Addr} {m : Str → Option Value}
theorem intsAt : ∀ {vs : List Value} {ns : List Int}, IntsAre vs ns → ∀ (j : Nat) (h : j < vs.length), ∃ t, vs[j] = .int (ns.getD j 0) t
  | _, _, .nil, j, h => by simp at h
  | _, _, .cons x t r, 0, _ => ⟨t, rfl⟩
  | _, _, .cons x t r, j + 1, h => by
    obtain ⟨u, e⟩ := intsAt r j (by simpa using h)
    exact ⟨u, by simpa using e⟩
theorem eqAt_ints {vs us : List Value} {ns : List Int} (hv : IntsAre vs ns) (hu : IntsAre us ns) (j : Nat) (h1 : j < vs.toArray.size) (h2 : j < us.toArray.size) : EqAt A s vs.toArray[j] us.toArray[j] true := by
  obtain ⟨t, e⟩ := intsAt hv j (by simpa using h1)
  obtain ⟨u, e'⟩ := intsAt hu j (by simpa using h2)
  simp only [List.getElem_toArray, e, e']
  have := EqAt.int_int (A := A) (s := s) (ns.getD j 0) t (ns.getD j 0) u
  rwa [beq_self_eq_true] at this
theorem eqAt_int (n : Int) (t u : Tok) : EqAt A s (.int n t) (.int n u) true := by
  have q := EqAt.int_int (A := A) (s := s) n t n u
  rwa [beq_self_eq_true] at q
theorem allTrue {n : Nat} : ((List.range n).all fun _ => true) = true := by simp
/-- two lists of rows of the same ints are equal -/
theorem eq_rows {rows rows' : Led} {nss : List (List Int)} {a b : Addr} {na nb : Nat} {news : Led} {Q : Value → Shared → Prop} (N : News h₀ L s.heap news) (hr : ∀ q ∈ rows, q ∈ news) (hr' : ∀ q ∈ rows', q ∈ news)
    (ma : (a, listOf (refs rows).toArray na) ∈ news) (mb : (b, listOf (refs rows').toArray nb) ∈ news) (R : RowsAre rows nss) (R' : RowsAre rows' nss) (dis : ∀ q ∈ rows, ∀ r ∈ rows', q.1 ≠ r.1) (hu : A.units + 8 < cLine)
    (h : Q (.bool true) s) : wpAny (model prog w) A (compareOp .Eq (.ref a) (.ref b)) Q E s := by
  have hl : rows.length = rows'.length := R.1.trans R'.1.symm
  refine eq_listAt (e := fun _ => true) (PySem.IsL.isList (n := na) (N _ ma).1) (PySem.IsL.isList (n := nb) (N _ mb).1) (by simp [refs, hl]) (by omega) (fun j h1 h2 => ?_) (by rw [allTrue]; exact h)
  have j1 : j < rows.length := by simpa [refs] using h1
  have j2 : j < rows'.length := by simpa [refs] using h2
  have j3 : j < nss.length := R.1 ▸ j1
  obtain ⟨vs, n, e1, i1⟩ := R.2 j rows[j] nss[j] (List.getElem?_eq_getElem j1) (List.getElem?_eq_getElem j3)
  obtain ⟨us, n', e2, i2⟩ := R'.2 j rows'[j] nss[j] (List.getElem?_eq_getElem j2) (List.getElem?_eq_getElem j3)
  simp only [refs, List.getElem_toArray, List.getElem_map]
  have m1 := List.getElem_mem j1
  have m2 := List.getElem_mem j2
  refine EqAt.of_refs (dis _ m1 _ m2) ?_
  have hl1 : s.heap.IsList rows[j].1 vs.toArray := ⟨_, (N _ (hr _ m1)).1, by rw [e1], n, by rw [e1]⟩
  have hl2 : s.heap.IsList rows'[j].1 us.toArray := ⟨_, (N _ (hr' _ m2)).1, by rw [e2], n', by rw [e2]⟩
  have := RcAt.lists (A := A.in1) (e := fun _ => true) hl1 hl2 (by rw [List.size_toArray, List.size_toArray, IntsAre.length i1, IntsAre.length i2]) (by show A.units + 1 < cLine; omega) (fun j h1 h2 => eqAt_ints i1 i2 j h1 h2)
  rwa [allTrue] at this
/-- two lists of the same tuples (int, bytes) are equal -/
theorem eq_tups {tups tups' : Led} {ps : List Piece} {a b : Addr} {na nb : Nat} {news : Led} {Q : Value → Shared → Prop} (N : News h₀ L s.heap news) (hr : ∀ q ∈ tups, q ∈ news) (hr' : ∀ q ∈ tups', q ∈ news)
    (ma : (a, listOf (refs tups).toArray na) ∈ news) (mb : (b, listOf (refs tups').toArray nb) ∈ news) (R : TupsAre tups ps) (R' : TupsAre tups' ps) (dis : ∀ q ∈ tups, ∀ r ∈ tups', q.1 ≠ r.1) (hu : A.units + 8 < cLine)
    (h : Q (.bool true) s) : wpAny (model prog w) A (compareOp .Eq (.ref a) (.ref b)) Q E s := by
  have hl : tups.length = tups'.length := R.1.trans R'.1.symm
  refine eq_listAt (e := fun _ => true) (PySem.IsL.isList (n := na) (N _ ma).1) (PySem.IsL.isList (n := nb) (N _ mb).1) (by simp [refs, hl]) (by omega) (fun j h1 h2 => ?_) (by rw [allTrue]; exact h)
  have j1 : j < tups.length := by simpa [refs] using h1
  have j2 : j < tups'.length := by simpa [refs] using h2
  have j3 : j < ps.length := R.1 ▸ j1
  obtain ⟨t, u, e1⟩ := R.2 j tups[j] ps[j] (List.getElem?_eq_getElem j1) (List.getElem?_eq_getElem j3)
  obtain ⟨t', u', e2⟩ := R'.2 j tups'[j] ps[j] (List.getElem?_eq_getElem j2) (List.getElem?_eq_getElem j3)
  simp only [refs, List.getElem_toArray, List.getElem_map]
  have m1 := List.getElem_mem j1
  have m2 := List.getElem_mem j2
  refine EqAt.of_refs (dis _ m1 _ m2) ?_
  have hl1 : s.heap.IsTuple tups[j].1 #[.int ps[j].1 t, .bytes ps[j].2 u] := ⟨_, (N _ (hr _ m1)).1, by rw [e1], 0, by rw [e1]⟩
  have hl2 : s.heap.IsTuple tups'[j].1 #[.int ps[j].1 t', .bytes ps[j].2 u'] := ⟨_, (N _ (hr' _ m2)).1, by rw [e2], 0, by rw [e2]⟩
  have := RcAt.tuples (A := A.in1) (e := fun _ => true) hl1 hl2 (by show A.units + 1 < cLine; omega) (fun j h1 h2 => by
    match j, h1 with
    | 0, _ => exact eqAt_int _ _ _
    | 1, _ => exact fun prog w E Q hq => eqBool_bytes (by rw [decide_eq_true rfl]; exact hq))
  rw [allTrue] at this
  exact this
end
end Mine
end

section
open PySem PySem.W PySem.Calls PyProof.Rows PySem.SeqAt
namespace Mine
abbrev twoE (x y : Str) (iter : Expr) (px py p1 p2 : Pos) (scope : Scope) (pos : Pos) : Expr := .ListComp (.Name y p1) [⟨.Name x px, iter, [], 0⟩, ⟨.Name y py, .Name x p2, [], 0⟩] scope pos

theorem turn1 (x y : Str) (iter : Expr) (px py p1 p2 : Pos) (scope : Scope) (pos : Pos) (it acc : Value) (env : Env) :
    compTurn (twoE x y iter px py p1 p2 scope pos) 1 it acc env = (standAt (Expr.Name x p2).pos >>= fun _ => pyNext it >>= fun r => match r with
      | none => pure (.done .next)
      | some v => letOwnedTupleGo (.Name y py) it v >>= fun _ => assign (.Name y py) env v >>= fun _ =>
        (eval (.Name y p1) env >>= fun z => call (.builtin "list.append") [acc, z] >>= fun _ => pure ()) >>= fun _ =>
          again (.compLoop (twoE x y iter px py p1 p2 scope pos) 1 it acc env)) := by rfl
theorem turn0 (x y : Str) (iter : Expr) (px py p1 p2 : Pos) (scope : Scope) (pos : Pos) (it acc : Value) (env : Env) :
    compTurn (twoE x y iter px py p1 p2 scope pos) 0 it acc env = (standAt iter.pos >>= fun _ => pyNext it >>= fun r => match r with
      | none => pure (.done .next)
      | some v => letOwnedTupleGo (.Name x px) it v >>= fun _ => assign (.Name x px) env v >>= fun _ =>
        eval (.Name x p2) env >>= fun z => standAt (Expr.Name x p2).pos >>= fun _ => foldedSetIterable (.Name x p2) env z >>= fun z => holding [z] (pyIter z) >>= fun j =>
          runOwn (.compStart (twoE x y iter px py p1 p2 scope pos) 1 j acc env) env >>= fun _ =>
          again (.compLoop (twoE x y iter px py p1 p2 scope pos) 0 it acc env)) := by rfl

section
variable {prog : Program} {w : World} {A : Around} {E : Value → Shared → Prop} {R : Result → Shared → Prop} {s : Shared}

theorem start1 {x y : Str} {iter : Expr} {px py p1 p2 : Pos} {scope : Scope} {pos : Pos} {it acc : Value} {env : Env}
    (h0 : codeAny (model prog w) A (.compLoop (twoE x y iter px py p1 p2 scope pos) 1 it acc env) R s)
    (h : wpAny (model prog w) A (pyIter it) (fun it' s' => codeAny (model prog w) A (.compLoop (twoE x y iter px py p1 p2 scope pos) 1 it' acc env) R s')
      (notedBy (model prog w) A env fun x s' => R (.error x) s') s) :
    codeAny (model prog w) A (.compStart (twoE x y iter px py p1 p2 scope pos) 1 it acc env) R s := by
  refine codeAny_of_tree ?_
  show wpAny _ _ ((compStart (twoE x y iter px py p1 p2 scope pos) 1 it acc env).onRaise (fun x => do noteFrame x env; standAt theWindowsPlace)) _ _ s
  refine wpAny_notedAt ?_
  unfold compStart
  show wpAny _ _ (ask >>= _) _ _ s
  refine wpAny_bind (wpAny_askSetting (wpAny_ite ?_))
  split
  · first
      | exact wpAny_bind (wpAny_pure (wpAny_pure (And.intro rfl h0)))
      | exact wpAny_pure (And.intro rfl h0)
  · first
      | exact wpAny_bind (wpAny_rule (wpAny_bind (wpAny_standAt (wpAny_bind (wpAny_mono h (fun it' s' h' => wpAny_pure (And.intro rfl h')) fun _ _ x => x)))))
      | (refine wpAny_bind (wpAny_rule ?_); show wpAny _ _ (standAt _ >>= _) _ _ s; exact wpAny_bind (wpAny_standAt (wpAny_bind (wpAny_mono h (fun it' s' h' => wpAny_pure (And.intro rfl h')) fun _ _ x => x))))

theorem inner {x y : Str} {iter : Expr} {px py p1 p2 : Pos} {scope : Scope} {pos : Pos} {env : Env} {J a D : Addr} {vs ys : List Value} {m : Str → Option Value} (hh : A.handled = none) (hy : env.kindOf y = some .local) (hk : env.scope.kind = .function) (hdbg : (y == ("__debug__" : Str)) = false)
    (JC : J ≠ env.locals) (JD : J ≠ D) (DC : D ≠ env.locals) (aJ : a ≠ J) (aC : a ≠ env.locals) (aD : a ≠ D)
    (hit : s.heap.IsListIter J a 0) (hl : s.heap.IsList a vs.toArray) (hD : s.heap.get? D = some (LCg.lst ys)) (hn : s.heap.Ns env.locals m) (hsz : ys.length + vs.length ≤ 1000)
    (hR : ∀ h' tk m', h'.Ns env.locals m' → h'.get? D = some (LCg.lst (ys ++ vs)) → (∀ b o, b ≠ env.locals → b ≠ J → b ≠ D → s.heap.get? b = some o → h'.get? b = some o) → R (.ok .next) { s with heap := h', toks := tk }) :
    codeAny (model prog w) A (.compLoop (twoE x y iter px py p1 p2 scope pos) 1 (.ref J) (.ref D) env) R s := by
  have hp : (env.scope.kind == .class || (env.scope.kind == .module && env.locals != env.globals)) = false := by rw [hk]; rfl
  refine codeAny_loop rfl (fun k s' => ∃ h' tk m' i, s' = { s with heap := h', toks := tk } ∧ i ≤ vs.length ∧ k = vs.length + 1 - i ∧ h'.IsListIter J a i ∧ h'.IsList a vs.toArray ∧ h'.get? D = some (LCg.lst (ys ++ vs.take i)) ∧ h'.Ns env.locals m' ∧
    (∀ b o, b ≠ env.locals → b ≠ J → b ≠ D → s.heap.get? b = some o → h'.get? b = some o)) (fun k s' hI => ?_) (vs.length + 1) ⟨s.heap, s.toks, m, 0, rfl, Nat.zero_le _, rfl, hit, hl, by rw [List.take_zero, List.append_nil]; exact hD, hn, fun _ _ _ _ _ e => e⟩
  obtain ⟨h', tk, m', i, rfl, hi, rfl, hit', hl', hD', hn', old⟩ := hI
  show wpAny _ _ ((compTurn (twoE x y iter px py p1 p2 scope pos) 1 (.ref J) (.ref D) env).onRaise (fun x => do noteFrame x env; theTreesLotGoes x)) _ _ _
  refine wpAny_noted ?_
  rw [turn1]
  refine wpAny_bind (wpAny_standAt (wpAny_bind ?_))
  cases hv : vs.toArray[i]? with
  | none =>
    have hle : vs.length ≤ i := by simpa using hv
    refine wpAny_pyNext_list_end hh hit' hl' hv fun h₁ he₁ => wpAny_pure ?_
    refine hR h₁ tk m' (hn'.extBut he₁ (Ne.symm JC)) ?_ fun b o hbC hbJ hbD e => he₁ b o hbJ (old b o hbC hbJ hbD e)
    rw [List.take_of_length_le hle] at hD'
    exact he₁ D _ (Ne.symm JD) hD'
  | some v =>
    have hlt : i < vs.length := by simpa using (Array.getElem?_eq_some_iff.mp hv).1
    have hve : vs[i]? = some v := by simpa using hv
    refine wpAny_pyNext_list_item hit' hl' hv fun h₁ hit₁ hs₁ => ?_
    refine wpAny_bind (wpAny_of_eq rfl ?_)
    refine wpAny_bind (wpAny_assign_Name (wpAny_storeName_local hy (hn'.sameBut hs₁ (Ne.symm JC)) (fun h₂ hn₂ hs₂ => ?_) hp))
    refine wpAny_bind (wpAny_bind (wpAny_Name (wpAny_loadName_local hk hy hn₂ (if_pos rfl) ?_) hdbg))
    have hD₂ : h₂.get? D = some (LCg.lst (ys ++ vs.take i)) := hs₂.extBut _ _ DC (hs₁.extBut _ _ (Ne.symm JD) hD')
    refine wpAny_bind (append_at (hsz := by show (List.toArray _).size ≤ sizeLine; rw [List.size_toArray, List.length_append, List.length_take, sizeLine_eq]; omega) hD₂ fun h₃ hs₃ hD₃ => wpAny_pure (wpAny_pure ⟨rfl, ?_⟩))
    refine ⟨vs.length + 1 - (i + 1), by omega, h₃, _, _, i + 1, rfl, hlt, rfl, ?_, ?_, ?_, hn₂.sameBut hs₃ (Ne.symm DC), fun b o hbC hbJ hbD e => hs₃.extBut b o hbD (hs₂.extBut b o hbC (hs₁.extBut b o hbJ (old b o hbC hbJ hbD e)))⟩
    · exact (hit₁.extBut hs₂.extBut JC).extBut hs₃.extBut JD
    · exact ((hl'.extBut hs₁.extBut aJ).extBut hs₂.extBut aC).extBut hs₃.extBut aD
    · rw [hD₃, List.take_succ, hve, Option.toList_some, ← List.append_assoc]
      exact congrArg some (LCg.lst_snoc (ys ++ vs.take i) v)

theorem outer2 {x y : Str} {iter : Expr} {px py p1 p2 : Pos} {scope : Scope} {pos : Pos} {env : Env} {I H D : Addr} {rows : Led} {nss : List (List Int)} {m : Str → Option Value} {nH : Nat} (hh : A.handled = none) (hx : env.kindOf x = some .local) (hy : env.kindOf y = some .local) (hk : env.scope.kind = .function)
    (hdx : (x == ("__debug__" : Str)) = false) (hdy : (y == ("__debug__" : Str)) = false) (hhs : ∀ z, foldedSetIterable (.Name x p2) env z = pure z)
    (IC : I ≠ env.locals) (ID : I ≠ D) (DC : D ≠ env.locals) (HI : H ≠ I) (HC : H ≠ env.locals) (HD : H ≠ D) (off : ∀ q ∈ rows, q.1 ≠ I ∧ q.1 ≠ env.locals ∧ q.1 ≠ D)
    (hit : s.heap.IsListIter I H 0) (hH : s.heap.get? H = some (listOf (refs rows).toArray nH)) (hrows : ∀ q ∈ rows, s.heap.get? q.1 = some q.2) (hR' : RowsAre rows nss) (hD : s.heap.get? D = some (LCg.lst [])) (hn : s.heap.Ns env.locals m) (hsz : nss.flatten.length ≤ 1000)
    (hR : ∀ h' tk m' ys, h'.Ns env.locals m' → h'.get? D = some (LCg.lst ys) → IntsAre ys nss.flatten → (∀ b o, b ≠ env.locals → b ≠ I → b ≠ D → s.heap.get? b = some o → h'.get? b = some o) → R (.ok .next) { s with heap := h', toks := tk }) :
    codeAny (model prog w) A (.compLoop (twoE x y iter px py p1 p2 scope pos) 0 (.ref I) (.ref D) env) R s := by
  have hp : (env.scope.kind == .class || (env.scope.kind == .module && env.locals != env.globals)) = false := by rw [hk]; rfl
  have hIs : I < s.heap.objs.size := by obtain ⟨o, e, _⟩ := hit; exact Heap.lt_size e
  have hDs : D < s.heap.objs.size := Heap.lt_size hD
  have hCs : env.locals < s.heap.objs.size := hn.lt
  refine codeAny_loop rfl (fun k s' => ∃ h' tk m' i ys, s' = { s with heap := h', toks := tk } ∧ i ≤ rows.length ∧ k = rows.length + 1 - i ∧ h'.IsListIter I H i ∧ h'.get? D = some (LCg.lst ys) ∧ IntsAre ys (nss.take i).flatten ∧ h'.Ns env.locals m' ∧
    (∀ b o, b ≠ env.locals → b ≠ I → b ≠ D → s.heap.get? b = some o → h'.get? b = some o)) (fun k s' hI => ?_) (rows.length + 1) ⟨s.heap, s.toks, m, 0, [], rfl, Nat.zero_le _, rfl, hit, hD, .nil, hn, fun _ _ _ _ _ e => e⟩
  obtain ⟨h', tk, m', i, ys, rfl, hi, rfl, hit', hD', hys, hn', old⟩ := hI
  have hl' : h'.IsList H (refs rows).toArray := PySem.IsL.isList (n := nH) (old _ _ HC HI HD hH)
  show wpAny _ _ ((compTurn (twoE x y iter px py p1 p2 scope pos) 0 (.ref I) (.ref D) env).onRaise (fun x => do noteFrame x env; theTreesLotGoes x)) _ _ _
  refine wpAny_noted ?_
  rw [turn0]
  refine wpAny_bind (wpAny_standAt (wpAny_bind ?_))
  have hlen : rows.length = nss.length := hR'.1
  cases hv : (refs rows).toArray[i]? with
  | none =>
    have hle : rows.length ≤ i := by simpa [refs] using hv
    refine wpAny_pyNext_list_end hh hit' hl' hv fun h₁ he₁ => wpAny_pure ?_
    refine hR h₁ tk m' ys (hn'.extBut he₁ (Ne.symm IC)) (he₁ D _ (Ne.symm ID) hD') ?_ fun b o hbC hbI hbD e => he₁ b o hbI (old b o hbC hbI hbD e)
    rwa [List.take_of_length_le (by omega)] at hys
  | some v =>
    have hlt : i < rows.length := by simpa [refs] using (Array.getElem?_eq_some_iff.mp hv).1
    have hltn : i < nss.length := hlen ▸ hlt
    obtain ⟨vs, n, e1, hia⟩ := hR'.2 i rows[i] nss[i] (List.getElem?_eq_getElem hlt) (List.getElem?_eq_getElem hltn)
    have hmem : rows[i] ∈ rows := List.getElem_mem hlt
    obtain ⟨o1, o2, o3⟩ := off _ hmem
    have hve : v = .ref rows[i].1 := by
      have : (refs rows).toArray[i]? = some (.ref rows[i].1) := by simp [refs, List.getElem?_eq_getElem hlt]
      rw [this] at hv
      exact (Option.some.inj hv).symm
    subst hve
    refine wpAny_pyNext_list_item hit' hl' hv fun h₁ hit₁ hs₁ => ?_
    refine wpAny_bind (wpAny_of_eq rfl ?_)
    refine wpAny_bind (wpAny_assign_Name (wpAny_storeName_local hx (hn'.sameBut hs₁ (Ne.symm IC)) (fun h₂ hn₂ hs₂ => ?_) hp))
    refine wpAny_bind (wpAny_Name (wpAny_loadName_local hk hx hn₂ (if_pos rfl) ?_) hdx)
    refine wpAny_bind (wpAny_standAt (wpAny_bind (wpAny_of_eq (hhs _) (wpAny_bind (wpAny_holding ?_)))))
    have up : ∀ b o, b ≠ env.locals → b ≠ I → h'.get? b = some o → h₂.get? b = some o := fun b o bC bI e => hs₂.extBut b o bC (hs₁.extBut b o bI e)
    have hrow : h₂.get? rows[i].1 = some (listOf vs.toArray n) := by rw [← e1]; exact up _ _ o2 o1 (old _ _ o2 o1 o3 (hrows _ hmem))
    have hD₂ : h₂.get? D = some (LCg.lst ys) := up _ _ DC (Ne.symm ID) hD'
    have hit₂ : h₂.IsListIter I H (i + 1) := hit₁.extBut hs₂.extBut IC
    have hlr : h₂.IsList rows[i].1 vs.toArray := PySem.IsL.isList (n := n) hrow
    refine wpAny_pyIter_list hlr ?_
    have big : ∀ b o, h₂.get? b = some o → b ≠ h₂.objs.size := fun b o e => Nat.ne_of_lt (Heap.lt_size e)
    have pu : ∀ b o, h₂.get? b = some o → (h₂.push { cls := .type "list_iterator", data := .fields #[.ref rows[i].1, .int 0 0] }).get? b = some o := fun b o e => Heap.get?_push_of_some _ e
    have hnC : h₂.objs.size ≠ env.locals := fun e => absurd hn₂.lt (by rw [← e]; exact Nat.lt_irrefl _)
    have hnD : h₂.objs.size ≠ D := Ne.symm (big _ _ hD₂)
    have hyl : ys.length + vs.length ≤ 1000 := by
      have e3 := IntsAre.length hys
      have e4 := IntsAre.length hia
      have e5 : ((nss.take i).flatten ++ nss[i]).length ≤ nss.flatten.length := by
        have : (nss.take i).flatten ++ nss[i] = (nss.take (i + 1)).flatten := by rw [List.take_succ_eq_append_getElem hltn, List.flatten_append]; simp
        rw [this]
        conv => rhs; rw [← List.take_append_drop (i + 1) nss, List.flatten_append]
        rw [List.length_append]; omega
      rw [List.length_append] at e5
      omega
    have fin : ∀ s₄ : Shared, s₄ = { s with heap := h₂.push { cls := .type "list_iterator", data := .fields #[.ref rows[i].1, .int 0 0] }, toks := tk + 1 } →
        codeAny (model prog w) ((A.under (.compLoop (twoE x y iter px py p1 p2 scope pos) 0 (.ref I) (.ref D) env)).mark none) (.compLoop (twoE x y iter px py p1 p2 scope pos) 1 (.ref h₂.objs.size) (.ref D) env)
          (fun r s' => match r with
            | .ok f => wpAny (model prog w) (A.under (.compLoop (twoE x y iter px py p1 p2 scope pos) 0 (.ref I) (.ref D) env)) (again (.compLoop (twoE x y iter px py p1 p2 scope pos) 0 (.ref I) (.ref D) env)) (fun fin s' => match fin with | .done f => R (.ok f) s' | .again c' => c' = .compLoop (twoE x y iter px py p1 p2 scope pos) 0 (.ref I) (.ref D) env ∧ ∃ m, m < rows.length + 1 - i ∧ ∃ h' tk m' i ys, s' = { s with heap := h', toks := tk } ∧ i ≤ rows.length ∧ m = rows.length + 1 - i ∧ h'.IsListIter I H i ∧ h'.get? D = some (LCg.lst ys) ∧ IntsAre ys (nss.take i).flatten ∧ h'.Ns env.locals m' ∧
                (∀ b o, b ≠ env.locals → b ≠ I → b ≠ D → s.heap.get? b = some o → h'.get? b = some o)) (notedBy (model prog w) (A.under (.compLoop (twoE x y iter px py p1 p2 scope pos) 0 (.ref I) (.ref D) env)) env fun e s' => R (.error e) s') s'
            | .error e => False) s₄ := by
      rintro s₄ rfl
      refine inner hh hy hk hdy hnC hnD DC (big _ _ hrow) o2 o3 ⟨_, Heap.get?_push_size _ rfl, rfl, rfl⟩ (hlr.push _) (pu _ _ hD₂) (hn₂.push _) hyl fun h₅ tk₅ m₅ hn₅ hD₅ old₅ => wpAny_pure ⟨rfl, ?_⟩
      refine ⟨rows.length + 1 - (i + 1), by omega, h₅, tk₅, m₅, i + 1, ys ++ vs, rfl, hlt, rfl, ?_, hD₅, ?_, hn₅, fun b o bC bI bD e => ?_⟩
      · obtain ⟨oI, eI, rI⟩ := hit₂
        exact ⟨oI, old₅ _ _ IC (big _ _ eI) ID (pu _ _ eI), rI⟩
      · rw [List.take_succ_eq_append_getElem hltn, List.flatten_append, List.flatten_singleton]
        exact IntsAre.append hys hia
      · have e₂ := up b o bC bI (old b o bC bI bD e)
        exact old₅ b o bC (big _ _ e₂) bD (pu _ _ e₂)
    refine wpAny_bind (wpAny_runOwn (codeAny_mono (start1 (fin _ rfl) (wpAny_pyIter_listiter (l := rows[i].1) (i := 0) ⟨_, Heap.get?_push_size _ rfl, rfl, rfl⟩ (fin _ rfl))) fun r s' hr => ?_))
    cases r with
    | error e => exact hr.elim
    | ok f => exact hr

theorem flat_comp {h₀ : Heap} {L : Addr} {m : Str → Option Value} {env : Env} {x y : Str} {iter : Expr} {px py p1 p2 : Pos} {scope : Scope} {cl : List (Str × Addr)} {pos : Pos} {Q : Value → Shared → Prop}
    (hclos : closureFor scope env = pure cl) (hcell : ∀ y ∈ scope.names, y.2 ≠ .cell) (hkind : scope.kind = .function)
    (hnames : ∀ y ∈ scope.names, y.2 = .local → scope.names.lookup y.1 = some .local) (hx : scope.names.lookup x = some .local) (hy : scope.names.lookup y = some .local) (hdx : (x == ("__debug__" : Str)) = false) (hdy : (y == ("__debug__" : Str)) = false)
    (h : wpAny (model prog w) A (eval iter env) (fun v s₁ => Halt (∃ H rows nss nH led, v = .ref H ∧ A.handled = none ∧ Fr h₀ L s₁.heap m ∧ News h₀ L s₁.heap led ∧ (H, listOf (refs rows).toArray nH) ∈ led ∧ (∀ q ∈ rows, q ∈ led) ∧ RowsAre rows nss ∧ nss.flatten.length ≤ 1000 ∧
      ∀ D ys h' tk, Fr h₀ L h' m → News h₀ L h' ((D, LCg.lst ys) :: led) → (∀ q ∈ led, q.1 ≠ D) → IntsAre ys nss.flatten → Q (.ref D) { s₁ with heap := h', toks := tk })) E s)
    (hs : ∀ x, foldedSetIterable iter env x = pure x := by intro _; rfl) :
    wpAny (model prog w) A (eval (twoE x y iter px py p1 p2 scope pos) env) Q E s := by
  rw [eval_ListComp]
  refine wpAny_comprehension_free (use := none) rfl hs hclos hkind hnames (wpAny_mono h (fun xv s₁ h₁ => ?_) fun _ _ e => e)
  obtain ⟨H, rows, nss, nH, led, rfl, hh, F, N, hH, hrows, hR, hsz, hQ⟩ := h₁
  have hlH : s₁.heap.IsList H (refs rows).toArray := PySem.IsL.isList (n := nH) (N _ hH).1
  refine wpAny_pyIter_list hlH ?_
  refine wpAny_newObj_type (wpAny_newFunctionEnv hcell (by intro y hy; simp at hy) (fun h₁ hns₁ hsb₁ => ?_) hkind)
  dsimp only at hns₁ hsb₁ ⊢
  have hHI : H < s₁.heap.objs.size := Heap.lt_size (N _ hH).1
  generalize hG1 : s₁.heap.push { cls := .type "list_iterator", data := .fields #[.ref H, .int 0 0] } = G1 at hns₁ hsb₁ ⊢
  have zG1 : G1.objs.size = s₁.heap.objs.size + 1 := by rw [← hG1, Heap.size_push]
  generalize hG2 : G1.push { cls := .type "list", dict := none, data := .seq ([] : List Value).toArray } = G2 at hns₁ hsb₁ ⊢
  have zG2 : G2.objs.size = s₁.heap.objs.size + 2 := by rw [← hG2, Heap.size_push, zG1]
  have up1 : ∀ b o, s₁.heap.get? b = some o → G1.get? b = some o := fun b o e => hG1 ▸ Heap.get?_push_of_some _ e
  have up2 : ∀ b o, G1.get? b = some o → G2.get? b = some o := fun b o e => hG2 ▸ Heap.get?_push_of_some _ e
  have ltC : ∀ b, b < s₁.heap.objs.size + 2 → b ≠ G2.objs.size := fun b hb => by rw [zG2]; exact Nat.ne_of_lt hb
  have up3 : ∀ b o, b < s₁.heap.objs.size + 2 → G2.get? b = some o → h₁.get? b = some o := fun b o hb e => hsb₁.extBut b o (ltC b hb) (Heap.get?_push_of_some _ e)
  have hIo : G1.get? s₁.heap.objs.size = some { cls := .type "list_iterator", data := .fields #[.ref H, .int 0 0] } := hG1 ▸ Heap.get?_push_size _ rfl
  have hDo : G2.get? G1.objs.size = some (LCg.lst []) := hG2 ▸ Heap.get?_push_size _ rfl
  have old : ∀ b o, s₁.heap.get? b = some o → h₁.get? b = some o := fun b o e => up3 b o (Nat.lt_succ_of_lt (Nat.lt_succ_of_lt (Heap.lt_size e))) (up2 _ _ (up1 _ _ e))
  have lt : ∀ b o, s₁.heap.get? b = some o → b ≠ s₁.heap.objs.size ∧ b ≠ G2.objs.size ∧ b ≠ G1.objs.size := fun b o e => by
    have := Heap.lt_size e
    exact ⟨Nat.ne_of_lt this, by rw [zG2]; exact Nat.ne_of_lt (Nat.lt_of_lt_of_le this (Nat.le_add_right _ _)), by rw [zG1]; exact Nat.ne_of_lt (Nat.lt_of_lt_of_le this (Nat.le_add_right _ _))⟩
  have hit : h₁.IsListIter s₁.heap.objs.size H 0 := ⟨_, up3 _ _ (by omega) (up2 _ _ hIo), rfl, rfl⟩
  have IC : s₁.heap.objs.size ≠ G2.objs.size := by rw [zG2]; omega
  have ID : s₁.heap.objs.size ≠ G1.objs.size := by rw [zG1]; omega
  have DC : G1.objs.size ≠ G2.objs.size := by rw [zG1, zG2]; omega
  have hL : L < s₁.heap.objs.size := F.ns.lt
  have none₀ : ∀ b, s₁.heap.objs.size ≤ b → h₀.get? b = none := fun b hb => Heap.get?_none_of_le (Nat.le_trans (Nat.le_trans F.above (Nat.le_of_lt hL)) hb)
  have loop : ∀ s₃ : Shared, s₃ = { s₁ with heap := h₁, toks := s₁.toks + ([] : List (Str × Value)).length } →
      codeAny (model prog w) A (.compLoop (twoE x y iter px py p1 p2 scope pos) 0 (.ref s₁.heap.objs.size) (.ref G1.objs.size) (compEnvC scope cl G2.objs.size env))
        (compPost (model prog w) A E none Q (.ref G1.objs.size) G2.objs.size) s₃ := by
    rintro s₃ rfl
    refine outer2 (rows := rows) (nss := nss) (H := H) (nH := nH) hh (lookup_relabel_local hx) (lookup_relabel_local hy) hkind hdx hdy (fun _ => rfl) IC ID DC (Nat.ne_of_lt hHI) (lt _ _ (N _ hH).1).2.1 (lt _ _ (N _ hH).1).2.2 (fun q hq => lt _ _ (N _ (hrows q hq)).1) hit
      (old _ _ (N _ hH).1) (fun q hq => old _ _ (N _ (hrows q hq)).1) hR (up3 _ _ (by rw [zG1]; omega) hDo) hns₁ hsz fun h' tk m' ys hn' hD' hys kp => ?_
    refine ⟨m', hn', fun h'' hs'' => ?_⟩
    have all : ∀ b o, s₁.heap.get? b = some o → h''.get? b = some o := fun b o e => by
      obtain ⟨l1, l2, l3⟩ := lt b o e
      exact hs''.extBut _ _ l2 (kp b o l2 l1 l3 (old b o e))
    refine hQ G1.objs.size ys h'' tk (F.keeps all) (fun q hq => ?_) (fun q hq => (lt _ _ (N q hq).1).2.2) hys
    rcases List.mem_cons.mp hq with rfl | hq
    · exact ⟨hs''.extBut _ _ DC hD', fun e => by have e' : G1.objs.size = L := e; rw [zG1] at e'; exact absurd hL (by rw [← e']; exact Nat.not_lt.mpr (Nat.le_succ _)), none₀ _ (by rw [zG1]; omega)⟩
    · exact ⟨all _ _ (N q hq).1, (N q hq).2⟩
  refine codeAny_compStart_list (loop _ rfl) (wpAny_pyIter_listiter hit (loop _ rfl))
end
end Mine
end

section
open PySem PySem.W PySem.Calls PyProof.Rows PySem.SeqAt
namespace Mine
section
variable {prog : Program} {w : World} {A : Around} {E : Value → Shared → Prop} {R : Result → Shared → Prop} {s : Shared} {h₀ : Heap} {L : Addr} {m : Str → Option Value} {env : Env}

theorem newEnv_cell {scope : Scope} {x : Str} {cl : List (Str × Addr)} {Q : Env → Shared → Prop} (hcf : ∀ n, cellsFrom n scope.names cl = (x, n) :: cl) (hpush : ∀ h : Heap, pushCells h scope.names = h.push { cls := .type "cell", data := .cell none })
    (h : Q { scope, locals := s.heap.objs.size, globals := env.globals, cells := (x, s.heap.objs.size + 1) :: cl, qual := env.qual, func := none, code := env.code, frame := env.frame, builtins := env.builtins }
      { s with heap := (s.heap.push { cls := .type "dict", data := .dict #[] }).push { cls := .type "cell", data := .cell none } }) :
    wpAny (model prog w) A (newFunctionEnv scope env.globals cl [] env.qual none .none (some env)) Q E s := by
  simp only [newFunctionEnv, Option.isSome_some, if_true]
  refine wpAny_bind (wpAny_alloc ?_)
  refine wpAny_bind (wpAny_layCells _ (fun name kind cells => by cases hkc : kind == NameKind.cell <;> simp [hkc]) _ _ _ _ ?_)
  rw [hcf, hpush]
  simp only [List.forIn_nil]
  refine wpAny_bind (wpAny_pure (wpAny_pure ?_))
  rw [show ({ s with heap := s.heap.push { cls := .type "dict", data := .dict #[] } } : Shared).heap.objs.size = s.heap.objs.size + 1 from Heap.size_push ..]
  exact h

abbrev EndC (h₀ : Heap) (L : Addr) (m : Str → Option Value) (s₁ : Shared) (I : Addr) (oI : Obj) (C : Addr) (oC : Obj) (D : Addr) (oD : Obj) (X : Addr) (rest : Value → Led → Prop) : Value → Shared → Prop :=
  LCg.CompEnd h₀ L m s₁ I oI C oC D oD (fun _ => True) fun y nw => ∃ oX nw', nw = (X, oX) :: nw' ∧ (∃ v0, oX.data = .cell v0) ∧ (∀ p ∈ nw', p.1 ≠ X) ∧ rest y nw'

theorem loopC {ct elt iter : Expr} {x : Str} {px : Pos} {scope : Scope} {cl : List (Str × Addr)} {pos : Pos} {I C D X : Addr} {n : Nat} {news : Led} {oX0 : Obj} {m0 : Str → Option Value} {v00 : Option Value} (J : Nat → List Value → Led → Prop) (hh : A.handled = none) (hkind : scope.kind = .function)
    (hx : (compEnvC scope cl 0 env).kindOf x = some .cell) (hn1 : n ≤ 1000) (hst : IsRangeIter s.heap I ((0 : Int) + (0 : Nat) * 1) ((n : Int) - (0 : Nat)) 1) (F : Fr h₀ L s.heap m) (N : News h₀ L s.heap ((D, LCg.lst []) :: (X, oX0) :: news)) (hX0 : oX0.data = .cell v00) (hns : s.heap.Ns C m0)
    (off : LCg.Off3 I C D ((X, oX0) :: news)) (offX : ∀ p ∈ news, p.1 ≠ X) (hIL : L ≠ I) (hI₀ : h₀.get? I = none) (hCL : C ≠ L) (hC₀ : h₀.get? C = none) (IC : @Ne Nat I C) (ID : @Ne Nat I D) (CD : @Ne Nat C D) (hJ : J 0 [] news)
    (turn : ∀ i ys news₁ v oI oC oX h tk (E' : Value → Shared → Prop), i < n → J i ys news₁ → (∃ t, v = .int (i : Int) t) → oX.data = .cell (some v) → Fr h₀ L h m → News h₀ L h ((I, oI) :: (C, oC) :: (D, LCg.lst ys) :: (X, oX) :: news₁) → LCg.Off3 I C D ((X, oX) :: news₁) →
        (∀ p ∈ news₁, p.1 ≠ X) →
        wpAny (model prog w) A (isTrue ct (compEnvC scope ((x, X) :: cl) C env) (eval ct (compEnvC scope ((x, X) :: cl) C env))) (fun ok s' => if ok = true then
          wpAny (model prog w) A (eval elt (compEnvC scope ((x, X) :: cl) C env)) (EndC h₀ L m { s with heap := h, toks := tk } I oI C oC D (LCg.lst ys) X (fun y nw => J (i + 1) (ys ++ [y]) nw)) E' s'
          else EndC h₀ L m { s with heap := h, toks := tk } I oI C oC D (LCg.lst ys) X (fun _ nw => J (i + 1) ys nw) Value.none s') E' { s with heap := h, toks := tk })
    (fin : ∀ ys h tk news' oX m', J n ys news' → Fr h₀ L h m → h.Ns C m' → News h₀ L h ((D, LCg.lst ys) :: (X, oX) :: news') → LCg.Off3 I C D ((X, oX) :: news') → R (.ok .next) { s with heap := h, toks := tk }) :
    codeAny (model prog w) A (.compLoop (.ListComp elt [⟨.Name x px, iter, [ct], 0⟩] scope pos) 0 (.ref I) (.ref D) (compEnvC scope ((x, X) :: cl) C env)) R s := by
  have W := LCg.range_walks (prog := prog) (w := w) (A := A) (I := I) hh 0 n
  refine codeAny_compLoop_tests (fun k s' => ∃ h' tk i ys oX m' news' v0, s' = { s with heap := h', toks := tk } ∧ i ≤ n ∧ k = n + 1 - i ∧ ys.length ≤ i ∧ IsRangeIter h' I ((0 : Int) + (i : Nat) * 1) ((n : Int) - (i : Nat)) 1 ∧ Fr h₀ L h' m ∧ h'.Ns C m' ∧
      News h₀ L h' ((D, LCg.lst ys) :: (X, oX) :: news') ∧ oX.data = .cell v0 ∧ LCg.Off3 I C D ((X, oX) :: news') ∧ (∀ p ∈ news', p.1 ≠ X) ∧ J i ys news') ?_ (n + 1)
    ⟨s.heap, s.toks, 0, [], oX0, m0, news, v00, rfl, Nat.zero_le _, rfl, Nat.le_refl _, hst, F, hns, N, hX0, off, offX, hJ⟩
  rintro k s' ⟨h', tk, i, ys, oX, m', news', v0, rfl, hi, rfl, hyl, hst', F', hn', N', hd', off', offX', J'⟩
  by_cases hlt : i < n
  · refine W.item i _ _ _ hlt hst' fun v h₂ tk₂ hPv hst₂ hk₂ => ?_
    obtain ⟨tv, hPv⟩ := hPv
    rw [Int.zero_add] at hPv
    have off3 := off'.mem
    have xi := off3 _ List.mem_cons_self
    have N₂ : News h₀ L h₂ ((D, LCg.lst ys) :: (X, oX) :: news') := LCg.news_but N' hk₂ fun p hp => by
      rcases List.mem_cons.mp hp with rfl | hp
      · exact Ne.symm ID
      · exact (off3 p hp).1
    have F₂ : Fr h₀ L h₂ m := LCg.fr_but F' hk₂ hIL hI₀
    have hn₂ : h₂.Ns C m' := hn'.at' fun o e => hk₂ _ o (by simpa using Ne.symm IC) e
    have zX := (N₂ (X, oX) (List.mem_cons_of_mem _ List.mem_cons_self))
    refine wpAny_assign_Name (wpAny_storeName_cell (c := X) (v₀ := v0) hkind hx (by simp [compEnvC, List.lookup]) ⟨oX, zX.1, hd'⟩ fun h₃ hv₃ hs₃ => ?_)
    obtain ⟨oX', hX', hdX'⟩ := hv₃
    refine wpAny_tests_one ?_
    have XI : X ≠ I := xi.1
    have XC : X ≠ C := xi.2.1
    have XD : X ≠ D := xi.2.2
    have hst₃ : IsRangeIter h₃ I ((0 : Int) + ((i + 1 : Nat) : Int) * 1) ((n : Int) - ((i + 1 : Nat) : Int)) 1 := by
      have q : h₂.get? I = some _ := hst₂
      exact hs₃.extBut I _ (Ne.symm XI) q
    obtain ⟨oI, heI⟩ : ∃ o, h₃.get? I = some o := ⟨_, hst₃⟩
    have hn₃ : h₃.Ns C m' := hn₂.sameBut hs₃ (Ne.symm XC)
    obtain ⟨oC, heC, hoC⟩ := LCg.ns_obj hn₃
    have F₃ : Fr h₀ L h₃ m := F₂.change hs₃ zX.2.1 zX.2.2
    have N₃ : News h₀ L h₃ ((I, oI) :: (C, oC) :: (D, LCg.lst ys) :: (X, oX') :: news') := fun p hp => by
      rcases List.mem_cons.mp hp with rfl | hp
      · exact ⟨heI, Ne.symm hIL, hI₀⟩
      rcases List.mem_cons.mp hp with rfl | hp
      · exact ⟨heC, hCL, hC₀⟩
      rcases List.mem_cons.mp hp with rfl | hp
      · have z := N₂ (D, LCg.lst ys) List.mem_cons_self
        exact ⟨hs₃.extBut _ _ (Ne.symm XD) z.1, z.2⟩
      rcases List.mem_cons.mp hp with rfl | hp
      · exact ⟨hX', zX.2⟩
      · have z := N₂ p (List.mem_cons_of_mem _ (List.mem_cons_of_mem _ hp))
        exact ⟨hs₃.extBut _ _ (offX' p hp) z.1, z.2⟩
    have off₃ : LCg.Off3 I C D ((X, oX') :: news') := LCg.Off3.of fun p hp => by
      rcases List.mem_cons.mp hp with rfl | hp
      · exact xi
      · exact off3 p (List.mem_cons_of_mem _ hp)
    refine wpAny_mono (turn i ys news' v oI oC oX' h₃ _ _ hlt J' ⟨tv, hPv⟩ hdX' F₃ N₃ off₃ offX') (fun ok s₄ h₄ => ?_) fun _ _ e => e
    have step : ∀ {y : Value} {ys' : List Value} {s₅ : Shared}, ys'.length ≤ i + 1 → EndC h₀ L m { s with heap := h₃, toks := tk₂ } I oI C oC D (LCg.lst ys) X (fun _ nw => J (i + 1) ys' nw) y s₅ →
        ∃ h₄ tk₄ oX₄ news₄ v4, s₅ = { s with heap := h₄, toks := tk₄ } ∧ IsRangeIter h₄ I ((0 : Int) + ((i + 1 : Nat) : Int) * 1) ((n : Int) - ((i + 1 : Nat) : Int)) 1 ∧ Fr h₀ L h₄ m ∧ h₄.Ns C m' ∧ News h₀ L h₄ ((D, LCg.lst ys) :: (X, oX₄) :: news₄) ∧ oX₄.data = .cell v4 ∧ LCg.Off3 I C D ((X, oX₄) :: news₄) ∧ (∀ p ∈ news₄, p.1 ≠ X) ∧ J (i + 1) ys' news₄ := by
      rintro y ys' s₅ hy ⟨h₄, tk₄, nw, rfl, F₄, N₄, off₄, _, oX₄, news₄, rfl, ⟨v4, hv4⟩, offX₄, J₄⟩
      have zI := (N₄ (I, oI) List.mem_cons_self).1
      have zC := (N₄ (C, oC) (List.mem_cons_of_mem _ List.mem_cons_self)).1
      refine ⟨h₄, tk₄, oX₄, news₄, v4, rfl, ?_, F₄, hoC.ns zC, fun p hp => ?_, hv4, off₄, offX₄, J₄⟩
      · have q : h₃.get? I = some _ := hst₃
        rw [heI] at q
        show h₄.get? I = some _
        rw [zI]; exact q
      · exact N₄ p (List.mem_cons_of_mem _ (List.mem_cons_of_mem _ hp))
    cases ok with
    | true =>
      simp only [if_true] at h₄ ⊢
      refine wpAny_mono h₄ (fun y s₅ h₅ => ?_) fun _ _ e => e
      obtain ⟨h₅', tk₅, oX₅, news₅, v5, rfl, st₅, F₅, n₅, N₅, d₅, off₅, offX₅, J₅⟩ := step (y := y) (ys' := ys ++ [y]) (by rw [List.length_append, List.length_singleton]; omega) h₅
      have zD := N₅ (D, LCg.lst ys) List.mem_cons_self
      refine append_at (hsz := by show ys.toArray.size ≤ sizeLine; rw [List.size_toArray, sizeLine_eq]; omega) zD.1 fun h₆ hs₆ hD₆ => ?_
      have off5 := off₅.mem
      refine ⟨n + 1 - (i + 1), by omega, h₆, tk₅, i + 1, ys ++ [y], oX₅, m', news₅, v5, rfl, hlt, rfl, by rw [List.length_append, List.length_singleton]; exact Nat.succ_le_succ hyl, ?_, F₅.change hs₆ zD.2.1 zD.2.2, n₅.sameBut hs₆ CD, fun p hp => ?_, d₅, off₅, offX₅, J₅⟩
      · have q : h₅'.get? I = some _ := st₅
        exact hs₆.extBut I _ ID q
      · rcases List.mem_cons.mp hp with rfl | hp
        · exact ⟨hD₆.trans (congrArg some (LCg.lst_snoc ys y)), zD.2⟩
        · have z := N₅ p (List.mem_cons_of_mem _ hp)
          exact ⟨hs₆.extBut _ _ (off5 p hp).2.2 z.1, z.2⟩
    | false =>
      simp only [Bool.false_eq_true, if_false] at h₄ ⊢
      obtain ⟨h₅', tk₅, oX₅, news₅, v5, rfl, st₅, F₅, n₅, N₅, d₅, off₅, offX₅, J₅⟩ := step (y := Value.none) (ys' := ys) (by omega) h₄
      exact ⟨n + 1 - (i + 1), by omega, h₅', tk₅, i + 1, ys, oX₅, m', news₅, v5, rfl, hlt, rfl, Nat.le_succ_of_le hyl, st₅, F₅, n₅, N₅, d₅, off₅, offX₅, J₅⟩
  · obtain rfl : i = n := Nat.le_antisymm hi (Nat.not_lt.mp hlt)
    refine W.done _ _ _ hst' fun h₂ tk₂ hk₂ => ?_
    have off3 := off'.mem
    exact fin ys h₂ tk₂ news' oX m' J' (LCg.fr_but F' hk₂ hIL hI₀) (hn'.at' fun o e => hk₂ _ o (by simpa using Ne.symm IC) e) (LCg.news_but N' hk₂ fun p hp => by
      rcases List.mem_cons.mp hp with rfl | hp
      · exact Ne.symm ID
      · exact (off3 p hp).1) off'

theorem comp_cell {ct elt iter : Expr} {x : Str} {px : Pos} {scope : Scope} {cl : List (Str × Addr)} {pos : Pos} {Q : Value → Shared → Prop}
    (hclos : closureFor scope env = pure cl) (hkind : scope.kind = .function) (hnames : ∀ y ∈ scope.names, y.2 = .local → scope.names.lookup y.1 = some .local)
    (hx : (compEnvC scope cl 0 env).kindOf x = some .cell) (hcf : ∀ n, cellsFrom n scope.names cl = (x, n) :: cl) (hpush : ∀ h : Heap, pushCells h scope.names = h.push { cls := .type "cell", data := .cell none })
    (h : wpAny (model prog w) A (eval iter env) (fun xv s₁ => Halt (∃ (r : Addr) (b : Int) (t u v' : Tok) (n : Nat) (news : Led) (J : Nat → List Value → Led → Prop), xv = .ref r ∧ A.handled = none ∧ Fr h₀ L s₁.heap m ∧ News h₀ L s₁.heap news ∧ IsRange s₁.heap r 0 b 1 t u v' ∧ b = (n : Int) ∧ n ≤ 1000 ∧ J 0 [] news ∧
      (∀ i ys news₁ v I oI C oC D X oX h tk (E' : Value → Shared → Prop), i < n → J i ys news₁ → (∃ t, v = .int (i : Int) t) → oX.data = .cell (some v) → Fr h₀ L h m → News h₀ L h ((I, oI) :: (C, oC) :: (D, LCg.lst ys) :: (X, oX) :: news₁) → LCg.Off3 I C D ((X, oX) :: news₁) →
        ((@Ne Nat I C) ∧ (@Ne Nat I D) ∧ (@Ne Nat C D)) → (∀ p ∈ news₁, p.1 ≠ X) →
        wpAny (model prog w) A (isTrue ct (compEnvC scope ((x, X) :: cl) C env) (eval ct (compEnvC scope ((x, X) :: cl) C env))) (fun ok s' => if ok = true then
          wpAny (model prog w) A (eval elt (compEnvC scope ((x, X) :: cl) C env)) (EndC h₀ L m { s₁ with heap := h, toks := tk } I oI C oC D (LCg.lst ys) X (fun y nw => J (i + 1) (ys ++ [y]) nw)) E' s'
          else EndC h₀ L m { s₁ with heap := h, toks := tk } I oI C oC D (LCg.lst ys) X (fun _ nw => J (i + 1) ys nw) Value.none s') E' { s₁ with heap := h, toks := tk }) ∧
      (∀ D ys h tk news', J n ys news' → Fr h₀ L h m → News h₀ L h ((D, LCg.lst ys) :: news') → LCg.Off1 D news' → Q (.ref D) { s₁ with heap := h, toks := tk }))) E s)
    (hs : ∀ x, foldedSetIterable iter env x = pure x := by intro _; rfl) :
    wpAny (model prog w) A (eval (.ListComp elt [⟨.Name x px, iter, [ct], 0⟩] scope pos) env) Q E s := by
  rw [eval_ListComp]
  refine wpAny_comprehension_free (use := none) rfl hs hclos hkind hnames (wpAny_mono h (fun xv s₁ h₁ => ?_) fun _ _ e => e)
  obtain ⟨r, b, t, u, v', n, news, J, rfl, hh, F, N, hr, rfl, hn1, hJ, turn, fin⟩ := h₁
  refine wpAny_pyIter_range hr (rsmall (by omega) (by omega) (by omega) (by omega)) ?_
  rw [show Builtin.Range.rangeSize 0 (n : Int) 1 = (n : Int) from rsize _ _ _ (by omega)]
  refine wpAny_newObj_type (newEnv_cell hcf hpush ?_)
  dsimp only
  have zI : s₁.heap.get? s₁.heap.objs.size = none := Heap.get?_none_of_le (Nat.le_refl _)
  have hL : L < s₁.heap.objs.size := F.ns.lt
  have none₀ : ∀ b, s₁.heap.objs.size ≤ b → h₀.get? b = none := fun b hb => Heap.get?_none_of_le (Nat.le_trans (Nat.le_trans F.above (Nat.le_of_lt hL)) hb)
  generalize hG1 : s₁.heap.push { cls := .type "range_iterator", data := .fields #[rawInt 0, rawInt (n : Int), rawInt 1] } = G1
  have zG1 : G1.objs.size = s₁.heap.objs.size + 1 := by rw [← hG1, Heap.size_push]
  generalize hG2 : G1.push { cls := .type "list", data := .seq ([] : List Value).toArray } = G2
  have zG2 : G2.objs.size = s₁.heap.objs.size + 2 := by rw [← hG2, Heap.size_push, zG1]
  generalize hG3 : G2.push { cls := .type "dict", data := .dict #[] } = G3
  have zG3 : G3.objs.size = s₁.heap.objs.size + 3 := by rw [← hG3, Heap.size_push, zG2]
  generalize hG4 : G3.push { cls := .type "cell", data := .cell none } = G4
  have u1 : ∀ b o, s₁.heap.get? b = some o → G1.get? b = some o := fun b o e => hG1 ▸ Heap.get?_push_of_some _ e
  have u2 : ∀ b o, G1.get? b = some o → G2.get? b = some o := fun b o e => hG2 ▸ Heap.get?_push_of_some _ e
  have u3 : ∀ b o, G2.get? b = some o → G3.get? b = some o := fun b o e => hG3 ▸ Heap.get?_push_of_some _ e
  have u4 : ∀ b o, G3.get? b = some o → G4.get? b = some o := fun b o e => hG4 ▸ Heap.get?_push_of_some _ e
  have up : ∀ b o, s₁.heap.get? b = some o → G4.get? b = some o := fun b o e => u4 _ _ (u3 _ _ (u2 _ _ (u1 _ _ e)))
  have eI : G4.get? s₁.heap.objs.size = some { cls := .type "range_iterator", data := .fields #[rawInt 0, rawInt (n : Int), rawInt 1] } := u4 _ _ (u3 _ _ (u2 _ _ (hG1 ▸ Heap.get?_push_size _ rfl)))
  have eD : G4.get? G1.objs.size = some (LCg.lst []) := u4 _ _ (u3 _ _ (hG2 ▸ Heap.get?_push_size _ rfl))
  have nC : G4.Ns G2.objs.size (fun _ => none) := ((hG3 ▸ Heap.Ns.new G2 (.type "dict") : G3.Ns G2.objs.size (fun _ => none))).keeps u4
  have eX : G4.get? (G2.objs.size + 1) = some { cls := .type "cell", data := .cell none } := by
    rw [show G2.objs.size + 1 = G3.objs.size by rw [zG2, zG3]]
    exact hG4 ▸ Heap.get?_push_size _ rfl
  have lt : ∀ p ∈ news, p.1 < s₁.heap.objs.size := fun p hp => Heap.lt_size (N p hp).1
  have ne3 : ∀ b : Nat, b < s₁.heap.objs.size → b ≠ s₁.heap.objs.size ∧ b ≠ G2.objs.size ∧ b ≠ G1.objs.size ∧ b ≠ G2.objs.size + 1 := fun b hb => by rw [zG1, zG2]; omega
  have loop : ∀ s₃ : Shared, s₃ = { s₁ with heap := G4 } →
      codeAny (model prog w) A (.compLoop (.ListComp elt [⟨.Name x px, iter, [ct], 0⟩] scope pos) 0 (.ref s₁.heap.objs.size) (.ref G1.objs.size) (compEnvC scope ((x, G2.objs.size + 1) :: cl) G2.objs.size env))
        (compPost (model prog w) A E none Q (.ref G1.objs.size) G2.objs.size) s₃ := by
    rintro s₃ rfl
    refine loopC (s := { s₁ with heap := G4 }) (X := G2.objs.size + 1) (oX0 := { cls := .type "cell", data := .cell none }) (m := m) (news := news) J hh hkind hx hn1 ?_ (F.keeps up) ?_ rfl nC ?_ (fun p hp => (ne3 _ (lt p hp)).2.2.2) (Nat.ne_of_lt hL) (none₀ _ (Nat.le_refl _))
      (Ne.symm (ne3 _ hL).2.1) (none₀ _ (by rw [zG2]; omega)) (by show s₁.heap.objs.size ≠ _; rw [zG2]; omega) (by show s₁.heap.objs.size ≠ _; rw [zG1]; omega) (by show G2.objs.size ≠ _; rw [zG1, zG2]; omega) hJ ?_ ?_
    · show G4.get? _ = some _
      rw [eI]
      simp [rawInt]
    · intro p hp
      rcases List.mem_cons.mp hp with rfl | hp
      · exact ⟨eD, Ne.symm (ne3 _ hL).2.2.1, none₀ _ (by rw [zG1]; omega)⟩
      rcases List.mem_cons.mp hp with rfl | hp
      · exact ⟨eX, Ne.symm (ne3 _ hL).2.2.2, none₀ _ (by rw [zG2]; omega)⟩
      · exact ⟨up _ _ (N p hp).1, (N p hp).2⟩
    · refine LCg.Off3.of fun p hp => ?_
      rcases List.mem_cons.mp hp with rfl | hp
      · refine ⟨?_, ?_, ?_⟩
        · show G2.objs.size + 1 ≠ s₁.heap.objs.size
          rw [zG2]; omega
        · show G2.objs.size + 1 ≠ G2.objs.size
          omega
        · show G2.objs.size + 1 ≠ G1.objs.size
          rw [zG1, zG2]; omega
      · exact ⟨(ne3 _ (lt p hp)).1, (ne3 _ (lt p hp)).2.1, (ne3 _ (lt p hp)).2.2.1⟩
    · intro i ys news₁ v oI oC oX h tk E' hi hJ' hv hX F' N' off' offX'
      exact turn i ys news₁ v _ oI _ oC _ _ oX h tk E' hi hJ' hv hX F' N' off' ⟨by show s₁.heap.objs.size ≠ _; rw [zG2]; omega, by show s₁.heap.objs.size ≠ _; rw [zG1]; omega, by show G2.objs.size ≠ _; rw [zG1, zG2]; omega⟩ offX'
    · intro ys h tk news' oX m' J' F' hn' N' off'
      refine ⟨m', hn', fun h'' hs'' => fin _ ys h'' tk news' J' (F'.change hs'' (Ne.symm (ne3 _ hL).2.1) (none₀ _ (by rw [zG2]; omega))) (fun p hp => ?_) ?_⟩
      · have z : h.get? p.1 = some p.2 ∧ p.1 ≠ L ∧ h₀.get? p.1 = none := by
          rcases List.mem_cons.mp hp with rfl | hp
          · exact N' _ List.mem_cons_self
          · exact N' _ (List.mem_cons_of_mem _ (List.mem_cons_of_mem _ hp))
        refine ⟨hs''.extBut _ _ ?_ z.1, z.2⟩
        rcases List.mem_cons.mp hp with rfl | hp
        · show G1.objs.size ≠ G2.objs.size
          rw [zG1, zG2]; omega
        · exact (off'.mem p (List.mem_cons_of_mem _ hp)).2.1
      · exact off'.one.2
  refine codeAny_compStart_list (loop _ rfl) ?_
  have W := LCg.range_walks (prog := prog) (w := w) (A := A) (I := s₁.heap.objs.size) hh 0 n
  refine W.self 0 _ _ _ ?_ (loop _ rfl)
  show G4.get? _ = some _
  rw [eI]
  simp [rawInt]
end
end Mine
end

section
open PySem PySem.W PySem.Calls PyProof.Rows PySem.SeqAt
namespace Mine
section
variable {prog : Program} {w : World} {A : Around} {E : Value → Shared → Prop} {s : Shared} {h₀ : Heap} {L : Addr} {m : Str → Option Value} {led rows : Led} {nss : List (List Int)}
theorem kf_ints_of' {vs : List Value} {ns : List Int} (h : IntsAre vs ns) : kf_ints vs = true := by
  induction h with
  | nil => rfl
  | cons x t r ih => rw [kf_ints]; exact ih
theorem row_notin {a : Addr} {vs : List Value} {ns : List Int} {n : Nat} {p : Int} {t : Tok} {Q : Value → Shared → Prop} (N : News h₀ L s.heap led) (hm : (a, listOf vs.toArray n) ∈ led) (hia : IntsAre vs ns) (h : Q (.bool (!ns.any fun x => x == p)) s) :
    wpAny (model prog w) A (compareOp .NotIn (.int p t) (.ref a)) Q E s :=
  kf_notin N hm (kf_ints_of' hia) (by show (!vs.any (isInt p)) = _; rw [PyProof.Rows.any_isInt p hia]) h
theorem row_has {a : Addr} {vs : List Value} {ns : List Int} {n : Nat} {p : Int} {t : Tok} {Q : Value → Shared → Prop} (N : News h₀ L s.heap led) (hm : (a, listOf vs.toArray n) ∈ led) (hia : IntsAre vs ns) (hin : (ns.any fun x => x == p) = true) (h : Q (.bool false) s) :
    wpAny (model prog w) A (compareOp .NotIn (.int p t) (.ref a)) Q E s :=
  row_notin N hm hia (by rw [hin]; exact h)
theorem row_in {a : Addr} {vs : List Value} {ns : List Int} {n : Nat} {p : Int} {t : Tok} {Q : Value → Shared → Prop} (N : News h₀ L s.heap led) (hm : (a, listOf vs.toArray n) ∈ led) (hia : IntsAre vs ns) (h : Q (.bool (ns.any fun x => x == p)) s) :
    wpAny (model prog w) A (compareOp .In (.int p t) (.ref a)) Q E s :=
  kf_in N hm (kf_ints_of' hia) (by show vs.any (isInt p) = _; rw [PyProof.Rows.any_isInt p hia]) h
theorem tup_notin {D : Addr} {p q o : Int} {t u z : Tok} {Q : Value → Shared → Prop} (N : News h₀ L s.heap led) (hm : (D, tupObj [.int p t, .int q u]) ∈ led) (ho : o = p ∨ o = q) (h : Q (.bool false) s) :
    wpAny (model prog w) A (compareOp .NotIn (.int o z) (.ref D)) Q E s := by
  refine SeqRoads2.notIn_tuple (items := #[.int p t, .int q u]) (n := 0) (isInt o) (fun y hy => ?_) (N _ hm).1 ?_
  · simp only [List.mem_toArray, List.mem_cons, List.not_mem_nil, or_false] at hy
    rcases hy with rfl | rfl
    · exact MeetsSeq.EqGives.int p o t z
    · exact MeetsSeq.EqGives.int q o u z
  · have e : (#[Value.int p t, Value.int q u] : Array Value).any (isInt o) = true := by
      simp only [List.any_toArray, List.any_cons, List.any_nil, Bool.or_false, isInt]
      rcases ho with rfl | rfl <;> simp
    rw [e]; exact h
theorem ne_nil {a b : Addr} {xs : List Value} {Q : Value → Shared → Prop} (ha : s.heap.IsList a xs.toArray) (hb : s.heap.IsList b (([] : List Value).toArray)) (hu : A.units + 64 < cLine) (h : Q (.bool (!xs.isEmpty)) s) : wpAny (model prog w) A (compareOp .NotEq (.ref a) (.ref b)) Q E s := by
  cases xs with
  | nil => exact ke_ne_ints ha hb .nil .nil hu (by simpa using h)
  | cons x r => exact RcNeAt.lists_lengths ha hb (by simp) (by omega) prog w E Q h
theorem rows_at {k : Nat} (R : RowsAre rows nss) (hk : k < nss.length) : ∃ a vs n, rows[k]? = some (a, listOf (List.toArray vs) n) ∧ (a, listOf (List.toArray vs) n) ∈ rows ∧ IntsAre vs (nss.getD k []) := by
  obtain ⟨a, vs, n, h1, h2⟩ := row_get R hk
  exact ⟨a, vs, n, h1, List.mem_of_getElem? h1, h2⟩
theorem perm_sorted {a b : List Int} (p : a.Perm b) (ha : a.Pairwise (· ≤ ·)) (hb : b.Pairwise (· ≤ ·)) : a = b := by
  induction a generalizing b with
  | nil => exact (p.symm.eq_nil).symm ▸ rfl
  | cons x r ih =>
    cases b with
    | nil => exact absurd p.length_eq (by simp)
    | cons y t =>
      have hx : x ∈ y :: t := p.mem_iff.mp List.mem_cons_self
      have hy : y ∈ x :: r := p.mem_iff.mpr List.mem_cons_self
      have h1 : x ≤ y := by
        rcases List.mem_cons.mp hy with h | h
        · exact Int.le_of_eq h.symm
        · exact (List.pairwise_cons.mp ha).1 y h
      have h2 : y ≤ x := by
        rcases List.mem_cons.mp hx with h | h
        · exact Int.le_of_eq h.symm
        · exact (List.pairwise_cons.mp hb).1 x h
      obtain rfl : x = y := Int.le_antisymm h1 h2
      rw [ih (List.Perm.cons_inv p) (List.pairwise_cons.mp ha).2 (List.pairwise_cons.mp hb).2]
end
end Mine
end

section
open PySem PySem.W PySem.Calls PyProof.Rows
namespace Mine
structure DJ (i : Nat) (d o : Array UInt8) (num : Int) (ps : List Piece) : Prop where
  run : ∀ l, scan (d.toList ++ l) [] (-1) #[] = scan l ps num o
  sz : d.size ≤ 4 * i
  osz : o.size ≤ i
  many : ps.length ≤ i
theorem DJ.init : DJ 0 #[] #[] (-1) [] := ⟨fun _ => rfl, Nat.le_refl _, Nat.le_refl _, Nat.le_refl _⟩
abbrev fillN (k : Int) : Array UInt8 := ((List.replicate k.toNat [(255 : UInt8)]).flatten).toArray
theorem fill_list (k : Int) : (fillN k).toList = List.replicate k.toNat 255 := by
  show (List.replicate k.toNat [(255 : UInt8)]).flatten = _
  induction k.toNat with
  | zero => rfl
  | succ n ih => rw [List.replicate_succ, List.flatten_cons, ih, List.replicate_succ]; rfl
theorem fill_size (k : Int) : (fillN k).size = k.toNat := by
  rw [← Array.length_toList, fill_list, List.length_replicate]
theorem scan_fill (k : Nat) (y : UInt8) (l : List UInt8) (ps : List Piece) (n : Int) (o : Array UInt8) (hy : y ≠ 255) : scan (List.replicate k 255 ++ 255 :: y :: l) ps n o = scan (255 :: y :: l) ps n o := by
  induction k with
  | zero => rfl
  | succ k ih =>
    rw [List.replicate_succ, List.cons_append, scan_cons, if_neg (by decide)]
    cases k with
    | zero =>
      show (if (255 : UInt8) = 0 then _ else if (255 : UInt8) = 255 then _ else _) = _
      rw [if_neg (by decide), if_pos rfl]
    | succ k =>
      rw [List.replicate_succ, List.cons_append] at ih ⊢
      show (if (255 : UInt8) = 0 then _ else if (255 : UInt8) = 255 then _ else _) = _
      rw [if_neg (by decide), if_pos rfl]
      exact ih
section
variable {i : Nat} {d o : Array UInt8} {num : Int} {ps : List Piece}
theorem DJ.push {y : UInt8} (J : DJ i d o num ps) (hy : y ≠ 255) : DJ (i + 1) (d ++ #[y]) (o ++ #[y]) num ps := by
  refine ⟨fun l => ?_, ?_, ?_, Nat.le_succ_of_le J.many⟩
  · rw [Array.toList_append, List.append_assoc, J.run]
    show scan (y :: l) ps num o = _
    rw [scan_cons, if_pos hy]
    rfl
  · have := J.sz
    rw [Array.size_append]
    show d.size + 1 ≤ _
    omega
  · have := J.osz
    rw [Array.size_append]
    exact Nat.succ_le_succ this
theorem DJ.zero {k : Int} (J : DJ i d o num ps) (h0 : 0 ≤ k) (hk : k < 3) : DJ (i + 1) (d ++ fillN k ++ #[255, 0]) (o ++ #[255]) num ps := by
  refine ⟨fun l => ?_, ?_, ?_, Nat.le_succ_of_le J.many⟩
  · rw [Array.toList_append, Array.toList_append, fill_list, List.append_assoc, List.append_assoc, J.run]
    show scan (List.replicate k.toNat 255 ++ 255 :: 0 :: l) ps num o = _
    rw [scan_fill _ _ _ _ _ _ (by decide), scan_cons, if_neg (by decide)]
    rfl
  · have := J.sz
    rw [Array.size_append, Array.size_append, fill_size]
    show d.size + k.toNat + 2 ≤ _
    omega
  · have := J.osz
    rw [Array.size_append]
    exact Nat.succ_le_succ this
theorem DJ.mark {k : Int} {y : UInt8} (J : DJ i d o num ps) (h0 : 0 ≤ k) (hk : k < 3) (hy0 : y ≠ 0) (hy1 : y ≠ 255) (hy2 : ¬ (208 ≤ y.toNat ∧ y.toNat ≤ 215)) : DJ (i + 1) (d ++ fillN k ++ #[255] ++ #[y]) o num ps := by
  refine ⟨fun l => ?_, ?_, Nat.le_succ_of_le J.osz, Nat.le_succ_of_le J.many⟩
  · rw [Array.toList_append, Array.toList_append, Array.toList_append, fill_list, List.append_assoc, List.append_assoc, List.append_assoc, J.run]
    show scan (List.replicate k.toNat 255 ++ 255 :: y :: l) ps num o = _
    rw [scan_fill _ _ _ _ _ _ hy1, scan_cons, if_neg (by decide)]
    show (if y = 0 then _ else if y = 255 then _ else if 208 ≤ y.toNat ∧ y.toNat ≤ 215 then _ else _) = _
    rw [if_neg hy0, if_neg hy1, if_neg hy2]
  · have := J.sz
    rw [Array.size_append, Array.size_append, Array.size_append, fill_size]
    show d.size + k.toNat + 1 + 1 ≤ _
    omega
theorem DJ.rst {k r : Int} (J : DJ i d o num ps) (h0 : 0 ≤ k) (hk : k < 3) (hr0 : 0 ≤ r) (hr1 : r < 8) : DJ (i + 1) (d ++ fillN k ++ byteArr [255, 208 + r]) #[] r (ps ++ [(num, o)]) := by
  have hb : byteArr [255, 208 + r] = #[255, (208 + r).toNat.toUInt8] := rfl
  have hy : ((208 + r).toNat.toUInt8).toNat = (208 + r).toNat := by
    simp [Nat.toUInt8, UInt8.toNat_ofNat']
    omega
  refine ⟨fun l => ?_, ?_, Nat.zero_le _, ?_⟩
  · rw [hb, Array.toList_append, Array.toList_append, fill_list, List.append_assoc, List.append_assoc, J.run]
    show scan (List.replicate k.toNat 255 ++ 255 :: (208 + r).toNat.toUInt8 :: l) ps num o = _
    generalize hg : (208 + r).toNat.toUInt8 = y at hy
    have hy1 : y ≠ 255 := fun e => by
      rw [e] at hy
      have : (255 : UInt8).toNat = 255 := rfl
      omega
    have hy0 : y ≠ 0 := fun e => by
      rw [e] at hy
      have : (0 : UInt8).toNat = 0 := rfl
      omega
    rw [scan_fill _ _ _ _ _ _ hy1, scan_cons, if_neg (by decide)]
    show (if y = 0 then _ else if y = 255 then _ else if 208 ≤ y.toNat ∧ y.toNat ≤ 215 then _ else _) = _
    rw [if_neg hy0, if_neg hy1, if_pos (by omega), show ((y.toNat : Nat) : Int) - 208 = r by omega]
  · have := J.sz
    rw [hb, Array.size_append, Array.size_append, fill_size]
    show d.size + k.toNat + 2 ≤ _
    omega
  · have := J.many
    rw [List.length_append]
    exact Nat.succ_le_succ this
theorem DJ.fin (J : DJ i d o num ps) : scan d.toList [] (-1) #[] = ps ++ [(num, o)] := by
  have := J.run []
  rwa [List.append_nil, scan_nil] at this
theorem DJ.fin255 (J : DJ i d o num ps) : scan (d ++ #[255]).toList [] (-1) #[] = ps ++ [(num, o)] := by
  rw [Array.toList_append, J.run]
  show scan [255] ps num o = _
  rw [scan_cons, if_neg (by decide)]
end
end Mine
end

section
open PySem PySem.W PySem.Spec PySem.Calls PyProof.Rows
namespace Mine
theorem warm_T3 : PySem.Challenge.rw_ok0123_01.foot = 6 ∧ hd.heap_39 = hd.heap_39 := by
  k_fill
  exact ⟨rfl, rfl⟩
section
variable {prog : Program} {w : World} {A₀ : Around} {s : Shared} {base h₀ : Heap} {outer : List Env} {L a : Addr} {m : Str → Option Value} {ex rest news : Led}
  {p : Program} {loose : List Str} {mean : ExcName → Option Value} {mg mb : Str → Option Value} {Q E : Value → Shared → Prop} {dp un : Nat} {gd : Option (List Code)} {cn : Str} {cs : Scope} {ccd : Value} {cl : List (Str × Addr)}
local macro_rules | `(tactic| walk_at $s:str) => `(tactic| k_extra $s)
local macro_rules | `(tactic| walk_at "pyIter ref") => `(tactic| refine toHalt ?_)

section
theorem words_1 : True := by
  k_with_none
  (k_with "my_enter" =>
    (
      (case k6 => k_is)
      (case k7 => k_is)
      (case k8 => ktr_room)
      (case k9 => rfl)
      (case kB => exact locs rfl)
      (case c2 => exact rfl)
      (case c3 => exact rfl)
      (case c4 => exact rfl)
      (case c5 => decide)))
  (k_with "my_fin" =>
    (
      (try dsimp only)
      (try k_unfold)
      (try dsimp only)))
  (k_with "my_read" =>
    ((try dsimp only); first
      | exact rfl
      | (with_reducible assumption)
      | exact if_pos rfl
      | (refine Eq.trans (if_neg (by decide)) ?_; walk_at "my_read")
      | fail "my_read"))
  (k_with "eval Name" =>
    (k_here; k_dflt (refine' nameX_L ?zqF ?zqv ?_ ?zqa ?zqb; (case zqF => k_asm); (case zqa => rfl); (case zqb => rfl); (case zqv => walk_at "my_read"); k_whole)))
  (k_with "my_room" =>
    (have hcL9 := cLine_is; first | ktr_room | ktr_units | (dsimp only [ktrTop, Around.deeper] at *; simp only [recursionLimit] at *; omega)))
  (k_with "call ref" =>
    refine toHalt ?_)
  (k_with "exec Assign cons ListComp" =>
    refine toHalt ?_)
  (k_with "eval ListComp" =>
    refine toHalt ?_)
  (k_with "CompSrc" =>
    refine toHalt ?_)
  (k_with "CompSrcT" =>
    refine toHalt ?_)
  (k_with "CompEnd" =>
    refine toHalt ?_)
  (k_with "UnrEnd" =>
    refine toHalt ?_)
  (k_with "om" =>
    first | ((repeat (with_reducible rename (_ ∧ _) => zz; clear zz)); omega) | omega)
  trivial
theorem c_is_restart (B : Below A₀ base outer h₀) (F : Fr h₀ L s.heap m) (X : Frag.In (hd.heap_39 w.params) h₀) (N : News h₀ L s.heap news) (T : Top p loose mean mg mb h₀) (hk : cs.kind = .function)
    (hdp : dp + 10 < recursionLimit) (hun : un + 100 < cLine) (code : Int) (tk : Tok)
    (ret : ∀ h' tk', Fr h₀ L h' m → News h₀ L h' news → Q (.bool (decide (208 ≤ code ∧ code ≤ 215))) { s with heap := h', toks := tk' }) :
    wpAny (model prog w) (ktrTop dp un gd cn cs L a ccd cl outer) (call (.ref 21) [.int code tk]) Q E s := by
  have dis : ∀ q ∈ news, ∀ r ∈ ([] : Led), q.1 ≠ r.1 := fun _ _ r hr => nomatch hr
  k_dflt (refine' enter (ex := []) (rest := news) (binds := [(Str.ofString "code", .int code tk)]) B F X N T dis rfl rfl hk ?k6 ?k7 ?k8 ?k9 ?kB ?_ ?c2 ?c3 ?c4 ?c5; walk_at "my_enter")
  intro g' L' h' hL FG' NG' l1 F' N' B' X' T' kp'
  (try dsimp only)
  (try k_fold)
  k_steps
  all_goals walk_at "my_fin"
  all_goals exact ret_pure ret FG' NG' (by assumption) (by congr 1; rw [decide_eq_decide]; constructor <;> intro <;> walk_at "om")

def folAt (ns : List Int) (at' v : Int) (i : Nat) : Int := if at' + (1 + (i : Int)) < ns.length ∧ ns.getD (at' + (1 + (i : Int))).toNat 0 = Int.fmod (v + (1 + (i : Int))) 8 then 1 else 0
def folN (ns : List Int) (at' v : Int) : Nat → Int
  | 0 => 0
  | k + 1 => folN ns at' v k + folAt ns at' v k
theorem fol_yes {ns : List Int} {at' v e c : Int} {i : Nat} (hc : c = folN ns at' v i) (h1 : at' + (1 + (i : Int)) < ns.length) (h2 : ns.getD (at' + (1 + (i : Int))).toNat 0 = Int.fmod e 8) (he : e = v + (1 + (i : Int))) : c + 1 = folN ns at' v (i + 1) := by
  subst hc he
  show _ = folN ns at' v i + folAt ns at' v i
  rw [folAt, if_pos ⟨h1, h2⟩]
theorem fol_no {ns : List Int} {at' v e c : Int} {i : Nat} (hc : c = folN ns at' v i) (h2 : ns.getD (at' + (1 + (i : Int))).toNat 0 ≠ Int.fmod e 8) (he : e = v + (1 + (i : Int))) : c = folN ns at' v (i + 1) := by
  subst hc he
  show _ = folN ns at' v i + folAt ns at' v i
  rw [folAt, if_neg (fun h => h2 h.2), Int.add_zero]
theorem fol_out {ns : List Int} {at' v c : Int} {i : Nat} (hc : c = folN ns at' v i) (h1 : ¬ at' + (1 + (i : Int)) < ns.length) : c = folN ns at' v (i + 1) := by
  subst hc
  show _ = folN ns at' v i + folAt ns at' v i
  rw [folAt, if_neg (fun h => h1 h.1), Int.add_zero]

theorem c_followers (B : Below A₀ base outer h₀) (F : Fr h₀ L s.heap m) (X : Frag.In (hd.heap_39 w.params) h₀) (N : News h₀ L s.heap news) (T : Top p loose mean mg mb h₀) (hk : cs.kind = .function)
    (hdp : dp + 10 < recursionLimit) (hun : un + 100 < cLine) {l : Addr} {vs : List Value} {ns : List Int} (hl : s.heap.IsList l vs.toArray) (hi : IntsAre vs ns) (hn : ns.length ≤ 100)
    (at' index : Int) (ta tb : Tok) (ha : 0 ≤ at') (ha2 : at' < 100) (hx : 0 ≤ index) (hx2 : index < 100)
    (ret : ∀ h' tk' t, Fr h₀ L h' m → News h₀ L h' news → Q (.int (folN ns at' (index - 1) 3) t) { s with heap := h', toks := tk' }) :
    wpAny (model prog w) (ktrTop dp un gd cn cs L a ccd cl outer) (call (.ref 35) [.ref l, .int at' ta, .int index tb]) Q E s := by
  have dis : ∀ q ∈ news, ∀ r ∈ ([] : Led), q.1 ≠ r.1 := fun _ _ r hr => nomatch hr
  k_dflt (refine' enter (ex := []) (rest := news) (binds := [(Str.ofString "numbers", .ref l), (Str.ofString "at", .int at' ta), (Str.ofString "index", .int index tb)]) B F X N T dis rfl rfl hk ?k6 ?k7 ?k8 ?k9 ?kB ?_ ?c2 ?c3 ?c4 ?c5; walk_at "my_enter")
  intro g' L' h' hL FG' NG' l1 F' N' B' X' T' kp'
  have hl' : g'.IsList l vs.toArray := by
    obtain ⟨o, ho, r⟩ := hl
    exact ⟨o, kp' _ _ ho (fun r hr => nomatch hr), r⟩
  (try dsimp only)
  (try k_fold)
  k_steps
  refine Halt.out ?_
  refine loop_range (n := 3) (fun i m₁ news₁ => news₁ = [] ∧ m₁ (Str.ofString "numbers") = some (.ref l) ∧ m₁ (Str.ofString "at") = some (.int at' ta) ∧ m₁ (Str.ofString "index") = some (.int index tb) ∧ ∃ c t, m₁ (Str.ofString "many") = some (.int c t) ∧ c = folN ns at' (index - 1) i)
    rfl (by assumption) (by decide) (by decide) (by assumption) (by assumption) ⟨rfl, by walk_at "my_read", by walk_at "my_read", by walk_at "my_read", _, _, by walk_at "my_read", rfl⟩ ?_ ?_
  · rintro i m₁ news₁ I t h tk' hi ⟨rfl, hm1, hm2, hm3, c, t1, hm4, hc⟩ off hI F1 N1
    (try k_fold)
    k_steps
    all_goals refine Halt.out (UnrEnd.intro (by k_asm) (by k_asm) [] (fun _ h => h) (fun _ h => nomatch h) ⟨rfl, by walk_at "my_read", by walk_at "my_read", by walk_at "my_read", _, _, by walk_at "my_read", ?_⟩)
    · exact fol_yes hc (by assumption) (by assumption) (by walk_at "om")
    · exact fol_no hc (by assumption) (by walk_at "om")
    · exact fol_out hc (by assumption)
  · rintro m₁ news₁ h tk' ⟨rfl, hm1, hm2, hm3, c, t1, hm4, hc⟩ F1 N1
    k_steps
    walk_at "my_fin"
    exact ret_pure (fun h' tk' => ret h' tk' _) FG' NG' (by assumption) (by rw [hc])

def isJumpN (ns : List Int) (at' index skipped count : Int) : Bool :=
  decide (index + skipped < count) && (decide (folN ns at' (index + skipped - 1) 3 > folN ns at' (index - 2) 3) || (decide (folN ns at' (index + skipped - 1) 3 = folN ns at' (index - 2) 3) && decide (skipped ≤ 4)))

theorem c_is_jump (B : Below A₀ base outer h₀) (F : Fr h₀ L s.heap m) (X : Frag.In (hd.heap_39 w.params) h₀) (N : News h₀ L s.heap news) (T : Top p loose mean mg mb h₀) (hk : cs.kind = .function)
    (hdp : dp + 12 < recursionLimit) (hun : un + 110 < cLine) {l : Addr} {vs : List Value} {ns : List Int} (hl : s.heap.IsList l vs.toArray) (hi : IntsAre vs ns) (hn : ns.length ≤ 100)
    (at' index skipped count : Int) (ta tb tc td : Tok) (ha : 0 ≤ at') (ha2 : at' < 100) (hx : 0 ≤ index) (hx2 : index < 50) (hx3 : 0 ≤ skipped) (hx4 : skipped < 50)
    (ret : ∀ h' tk', Fr h₀ L h' m → News h₀ L h' news → Q (.bool (isJumpN ns at' index skipped count)) { s with heap := h', toks := tk' }) :
    wpAny (model prog w) (ktrTop dp un gd cn cs L a ccd cl outer) (call (.ref 42) [.ref l, .int at' ta, .int index tb, .int skipped tc, .int count td]) Q E s := by
  have dis : ∀ q ∈ news, ∀ r ∈ ([] : Led), q.1 ≠ r.1 := fun _ _ r hr => nomatch hr
  k_dflt (refine' enter (ex := []) (rest := news) (binds := [(Str.ofString "numbers", .ref l), (Str.ofString "at", .int at' ta), (Str.ofString "index", .int index tb), (Str.ofString "skipped", .int skipped tc), (Str.ofString "count", .int count td)]) B F X N T dis rfl rfl hk ?k6 ?k7 ?k8 ?k9 ?kB ?_ ?c2 ?c3 ?c4 ?c5; walk_at "my_enter")
  intro g' L' h' hL FG' NG' l1 F' N' B' X' T' kp'
  have hl' : g'.IsList l vs.toArray := by
    obtain ⟨o, ho, r⟩ := hl
    exact ⟨o, kp' _ _ ho (fun r hr => nomatch hr), r⟩
  (try dsimp only)
  (try k_fold)
  k_steps
  · walk_at "my_fin"
    exact ret_pure ret FG' NG' (by assumption) (by rw [isJumpN, decide_eq_false (by walk_at "om")]; rfl)
  · refine Halt.out ?_
    refine c_followers (news := []) B' (by assumption) X' (by assumption) T' rfl (by walk_at "my_room") (by walk_at "my_room") (by is_list) hi hn _ _ _ _ (by walk_at "om") (by walk_at "om") (by walk_at "om") (by walk_at "om") ?_
    intro h1 tb' t1' F1 N1
    k_steps
    refine Halt.out ?_
    refine loop_range (n := 3) (fun i m₁ news₁ => news₁ = [] ∧ m₁ (Str.ofString "numbers") = some (.ref l) ∧ m₁ (Str.ofString "at") = some (.int at' ta) ∧ m₁ (Str.ofString "index") = some (.int index tb) ∧ m₁ (Str.ofString "skipped") = some (.int skipped tc) ∧
        (∃ t, m₁ (Str.ofString "if_jump") = some (.int (folN ns at' (index + skipped - 1) 3) t)) ∧ ∃ c t, m₁ (Str.ofString "if_false") = some (.int c t) ∧ c = folN ns at' (index - 2) i)
      rfl (by assumption) (by decide) (by decide) (by assumption) (by assumption) ⟨rfl, by walk_at "my_read", by walk_at "my_read", by walk_at "my_read", by walk_at "my_read", ⟨_, by walk_at "my_read"⟩, _, _, by walk_at "my_read", rfl⟩ ?_ ?_
    · rintro i m₁ news₁ I t h tk' hi ⟨rfl, hm1, hm2, hm3, hm5, ⟨t6, hm6⟩, c, t1, hm4, hc⟩ off hI F1 N1
      (try k_fold)
      k_steps
      all_goals refine Halt.out (UnrEnd.intro (by k_asm) (by k_asm) [] (fun _ h => h) (fun _ h => nomatch h) ⟨rfl, by walk_at "my_read", by walk_at "my_read", by walk_at "my_read", by walk_at "my_read", ⟨_, by walk_at "my_read"⟩, _, _, by walk_at "my_read", ?_⟩)
      · exact fol_yes hc (by assumption) (by assumption) (by walk_at "om")
      · exact fol_no hc (by assumption) (by walk_at "om")
      · exact fol_out hc (by assumption)
    · rintro m₁ news₁ h tk' ⟨rfl, hm1, hm2, hm3, hm5, ⟨t6, hm6⟩, c, t1, hm4, hc⟩ F1 N1
      k_steps
      all_goals walk_at "my_fin"
      all_goals refine ret_pure ret FG' NG' (by assumption) ?_
      all_goals (subst hc; congr 1; rw [isJumpN]; generalize folN ns at' (index + skipped - 1) 3 = A1 at *; generalize folN ns at' (index - 2) 3 = A2 at *; rw [decide_eq_true (by walk_at "om" : index + skipped < count)]; first | (simp_all; done) | (rw [beq_eq_false_iff_ne.mpr (by assumption : A1 ≠ A2), decide_eq_false (by walk_at "om" : ¬ A1 > A2), decide_eq_false (by assumption : A1 ≠ A2)]; rfl))
end

section
theorem words_2 : True := by
  k_with_none
  (k_with "my_enter" =>
    (
      (case k6 => k_is)
      (case k7 => k_is)
      (case k8 => ktr_room)
      (case k9 => rfl)
      (case kB => exact locs rfl)
      (case c2 => exact rfl)
      (case c3 => exact rfl)
      (case c4 => exact rfl)
      (case c5 => decide)))
  (k_with "my_fin" =>
    (
      (try dsimp only)
      (try k_unfold)
      (try dsimp only)))
  (k_with "my_read" =>
    ((try dsimp only); first
      | exact rfl
      | (with_reducible assumption)
      | exact if_pos rfl
      | (refine Eq.trans (if_neg (by decide)) ?_; walk_at "my_read")
      | fail "my_read"))
  (k_with "eval Name" =>
    (k_here; k_dflt (refine' nameX_L ?zqF ?zqv ?_ ?zqa ?zqb; (case zqF => k_asm); (case zqa => rfl); (case zqb => rfl); (case zqv => walk_at "my_read"); k_whole)))
  (k_with "my_room" =>
    (have hcL9 := cLine_is; first | ktr_room | ktr_units | (dsimp only [ktrTop, Around.deeper] at *; simp only [recursionLimit] at *; omega)))
  (k_with "call ref" =>
    refine toHalt ?_)
  (k_with "exec Assign cons ListComp" =>
    refine toHalt ?_)
  (k_with "eval ListComp" =>
    refine toHalt ?_)
  (k_with "CompSrc" =>
    refine toHalt ?_)
  (k_with "CompSrcT" =>
    refine toHalt ?_)
  (k_with "CompEnd" =>
    refine toHalt ?_)
  (k_with "UnrEnd" =>
    refine toHalt ?_)
  (k_with "om" =>
    first | ((repeat (with_reducible rename (_ ∧ _) => zz; clear zz)); omega) | omega)
  trivial
def turnN (ns : List Int) (count : Int) (st : List (List Int) × Int) (i : Nat) : List (List Int) × Int :=
  let sk := if i = 0 then 0 else Int.fmod (ns.getD i 0 - st.2) 8
  if i = 0 ∨ (st.2 + 1 + sk < count ∧ (sk = 0 ∨ isJumpN ns i (st.2 + 1) sk count = true)) then (pushAt st.1 (st.2 + 1 + sk).toNat i, st.2 + 1 + sk)
  else if Int.fmod (ns.getD i 0 + 1 - st.2) 8 = 0 then (pushAt st.1 st.2.toNat i, st.2) else st
def homesUpto (ns : List Int) (count : Nat) (i : Nat) : List (List Int) × Int := (List.range i).foldl (turnN ns count) (List.replicate count [], -1)
def homesN (ns : List Int) (count : Nat) : List (List Int) := (homesUpto ns count ns.length).1
theorem homesUpto_succ (ns : List Int) (count i : Nat) : homesUpto ns count (i + 1) = turnN ns count (homesUpto ns count i) i := by
  simp [homesUpto, List.range_succ]

/-- the loop's state at turn i -/
structure HJ (as : List Addr) (ns : List Int) (count i : Nat) (lastV : Int) (rows : Led) : Prop where
  fst : rows.map (·.1) = as
  ok : RowsAre rows (homesUpto ns count i).1
  last : lastV = (homesUpto ns count i).2
  lo : -1 ≤ lastV
  lo' : 0 < i → 0 ≤ lastV
  hi : lastV < count
  z : i = 0 → lastV = -1
  len : (homesUpto ns count i).1.length = count
  each : ∀ (k : Nat) (r : List Int), (homesUpto ns count i).1[k]? = some r → r.length ≤ i
theorem push_len {nss : List (List Int)} {i k : Nat} {v : Int} (each : ∀ (k : Nat) (r : List Int), nss[k]? = some r → r.length ≤ i) : ∀ (k' : Nat) (r : List Int), (pushAt nss k v)[k']? = some r → r.length ≤ i + 1 := by
  intro k' r h
  rw [pushAt, List.getElem?_set] at h
  split at h
  · split at h
    · rename_i hlt
      simp only [Option.some.injEq] at h
      subst h
      rw [List.length_append, List.getD_eq_getElem?_getD]
      have := each k nss[k] (List.getElem?_eq_getElem hlt)
      rw [List.getElem?_eq_getElem hlt]
      simpa using this
    · cases h
  · exact Nat.le_succ_of_le (each _ _ h)
theorem row_len {nss : List (List Int)} {i k : Nat} {vs : List Value} (each : ∀ (k : Nat) (r : List Int), nss[k]? = some r → r.length ≤ i) (hi : i ≤ 1000) (h : IntsAre vs (nss.getD k [])) : vs.length ≤ 1000 := by
  have hl := h.length
  rw [List.getD_eq_getElem?_getD] at hl
  cases e : nss[k]? with
  | none => rw [e] at hl; simp at hl; simp [hl]
  | some r =>
    have := each k r e
    rw [e] at hl
    simp only [Option.getD_some] at hl
    walk_at "om"
theorem HJ.put {as : List Addr} {ns : List Int} {count i : Nat} {lastV : Int} {rows : Led} {a : Addr} {vs : List Value} {n n' : Nat} {t : Tok} (J : HJ as ns count i lastV rows) {k : Int} {v : Int} (hv : v = i)
    (hk0 : 0 ≤ k) (hk1 : k < count) (hrow : rows[k.toNat]? = some (a, listOf vs.toArray n)) (hia : IntsAre vs ((homesUpto ns count i).1.getD k.toNat []))
    (e : turnN ns count (homesUpto ns count i) i = (pushAt (homesUpto ns count i).1 k.toNat i, k)) : HJ as ns count (i + 1) k (rows.set k.toNat (a, listOf (vs.toArray.push (.int v t)) n')) := by
  subst hv
  have e' : homesUpto ns count (i + 1) = (pushAt (homesUpto ns count i).1 k.toNat i, k) := (homesUpto_succ ..).trans e
  refine ⟨(set_fst hrow).trans J.fst, ?_, ?_, by walk_at "om", fun _ => hk0, hk1, by walk_at "om", ?_, ?_⟩
  · rw [e']
    refine rows_push J.ok hrow hia ?_
    have hlt : k.toNat < (homesUpto ns count i).1.length := by rw [J.len]; walk_at "om"
    rw [List.getElem?_eq_getElem hlt, List.getD_eq_getElem?_getD, List.getElem?_eq_getElem hlt]
    rfl
  · rw [e']
  · rw [e']; simp [pushAt, J.len]
  · rw [e']; exact push_len J.each
theorem HJ.accept {as : List Addr} {ns : List Int} {count i : Nat} {lastV : Int} {rows : Led} {a : Addr} {vs : List Value} {n n' : Nat} {t : Tok} (J : HJ as ns count i lastV rows) {sk : Int} (h0 : 1 ≤ count)
    (hrow : rows[(lastV + 1 + sk).toNat]? = some (a, listOf vs.toArray n)) (hia : IntsAre vs ((homesUpto ns count i).1.getD (lastV + 1 + sk).toNat []))
    (hsk : sk = if i = 0 then 0 else Int.fmod (ns.getD i 0 - lastV) 8) (hc : i = 0 ∨ (lastV + 1 + sk < count ∧ (sk = 0 ∨ isJumpN ns i (lastV + 1) sk count = true))) :
    HJ as ns count (i + 1) (lastV + 1 + sk) (rows.set (lastV + 1 + sk).toNat (a, listOf (vs.toArray.push (.int (i : Int) t)) n')) := by
  have lo : 0 ≤ sk := by
    rw [hsk]; split
    · exact Int.le_refl _
    · exact fmod_lo _ (by decide)
  have hlo := J.lo
  refine J.put rfl (by walk_at "om") ?_ hrow hia ?_
  · rcases hc with h | h
    · have := J.z h
      rw [if_pos h] at hsk
      walk_at "om"
    · exact h.1
  · have e : (homesUpto ns count i).2 = lastV := J.last.symm
    simp only [turnN, e]
    rw [← hsk, if_pos hc]
theorem HJ.also {as : List Addr} {ns : List Int} {count i : Nat} {lastV : Int} {rows : Led} {a : Addr} {vs : List Value} {n n' : Nat} {t : Tok} (J : HJ as ns count i lastV rows) (hi : i ≠ 0)
    (hrow : rows[lastV.toNat]? = some (a, listOf vs.toArray n)) (hia : IntsAre vs ((homesUpto ns count i).1.getD lastV.toNat []))
    (hc : ¬ (lastV + 1 + Int.fmod (ns.getD i 0 - lastV) 8 < count ∧ (Int.fmod (ns.getD i 0 - lastV) 8 = 0 ∨ isJumpN ns i (lastV + 1) (Int.fmod (ns.getD i 0 - lastV) 8) count = true))) (hz : Int.fmod (ns.getD i 0 + 1 - lastV) 8 = 0) :
    HJ as ns count (i + 1) lastV (rows.set lastV.toNat (a, listOf (vs.toArray.push (.int (i : Int) t)) n')) := by
  have hlo := J.lo' (by walk_at "om")
  refine J.put rfl hlo J.hi hrow hia ?_
  have e : (homesUpto ns count i).2 = lastV := J.last.symm
  simp only [turnN, e]
  rw [if_neg (by intro h; rcases h with h | h; exact hi h; rw [if_neg hi] at h; exact hc h), if_pos hz]
theorem HJ.skip {as : List Addr} {ns : List Int} {count i : Nat} {lastV : Int} {rows : Led} (J : HJ as ns count i lastV rows) (hi : i ≠ 0)
    (hc : ¬ (lastV + 1 + Int.fmod (ns.getD i 0 - lastV) 8 < count ∧ (Int.fmod (ns.getD i 0 - lastV) 8 = 0 ∨ isJumpN ns i (lastV + 1) (Int.fmod (ns.getD i 0 - lastV) 8) count = true))) (hz : Int.fmod (ns.getD i 0 + 1 - lastV) 8 ≠ 0) :
    HJ as ns count (i + 1) lastV rows := by
  have e' : homesUpto ns count (i + 1) = homesUpto ns count i := by
    rw [homesUpto_succ]
    have e : (homesUpto ns count i).2 = lastV := J.last.symm
    simp only [turnN, e]
    rw [if_neg (by intro h; rcases h with h | h; exact hi h; rw [if_neg hi] at h; exact hc h), if_neg hz]
  exact ⟨J.fst, e' ▸ J.ok, e' ▸ J.last, J.lo, fun _ => J.lo' (by walk_at "om"), J.hi, by walk_at "om", e' ▸ J.len, fun k r h => Nat.le_succ_of_le (J.each k r (e' ▸ h))⟩
theorem HJ.init {rows : Led} {ns : List Int} {count : Nat} (hR : RowsAre rows (List.replicate count [])) : HJ (rows.map (·.1)) ns count 0 (-1) rows :=
  ⟨rfl, hR, rfl, Int.le_refl _, fun h => absurd h (Nat.lt_irrefl 0), by walk_at "om", fun _ => rfl, by simp [homesUpto], fun k r h => by
    simp only [homesUpto, List.range_zero, List.foldl_nil, List.getElem?_replicate] at h
    split at h
    · simp only [Option.some.injEq] at h; subst h; simp
    · cases h⟩

theorem meth_row {M : Model} {A : Around} {E' : Value → Shared → Prop} {rows pre : Led} {k : Nat} {a : Addr} {vs : List Value} {n : Nat} {pl : Sem Bool} {R : Value × List Value → Shared → Prop} (N : News h₀ L s.heap (pre ++ rows))
    (hr : rows[k]? = some (a, listOf vs.toArray n)) (h : R (.builtin "list.append", [.ref a]) s) : wpAny M A (getMethod (.ref a) "append" pl) R E' s :=
  Calls.getMethod_list_append (N.get (List.mem_append_right _ (List.mem_of_getElem? hr))) rfl rfl h
theorem words_3 : True := by
  (k_with "getMethod ref" =>
    (k_dflt (refine' meth_row (pre := [_, _]) ?zqka ?zqkb ?_; (case zqka => k_asm); (case zqkb => assumption))))
  trivial
theorem off_set {H I : Addr} {HO : Obj} {rows : Led} {k : Nat} {a : Addr} {o o' : Obj} (off : ∀ q ∈ (H, HO) :: rows, q.1 ≠ I) (hr : rows[k]? = some (a, o)) : ∀ q ∈ (H, HO) :: rows.set k (a, o'), q.1 ≠ I := by
  intro q hq
  rcases List.mem_cons.mp hq with rfl | hq
  · exact off (H, HO) List.mem_cons_self
  · rcases List.mem_or_eq_of_mem_set hq with hq | rfl
    · exact off q (List.mem_cons_of_mem _ hq)
    · exact off (a, o) (List.mem_cons_of_mem _ (List.mem_of_getElem? hr))
theorem words_4 : True := by
  (k_with "my_len" =>
    exact row_len (by assumption) (by walk_at "om") (by assumption))
  (k_with "call ref" =>
    (k_dflt (refine' c_is_jump ?zqkB ?zqkF ?zqkX ?zqkN ?zqkT rfl ?zqkd ?zqku ?zqkl ?zqki ?zqkn _ _ _ _ _ _ _ _ ?zqka ?zqkb ?zqkc ?zqke ?zqkf ?zqkg ?_; (case zqkB => k_asm); (case zqkF => k_asm); (case zqkX => k_asm); (case zqkN => k_asm); (case zqkT => k_asm); (case zqkd => walk_at "my_room"); (case zqku => walk_at "my_room"); (case zqkl => is_list); (case zqki => assumption); (case zqkn => walk_at "om"); (case zqka => walk_at "om"); (case zqkb => walk_at "om"); (case zqkc => walk_at "om"); (case zqke => walk_at "om"); (case zqkf => walk_at "om"); (case zqkg => walk_at "om")); intro hq' tkq' Fq' Nq'))
  (k_with "subscriptTail" =>
    ((with_reducible show wpAny _ _ (subscriptTail (PySem.Expr.Name (PySem.Str.ofString "homes") _) _ _ _) _ _ _); k_dflt (refine' item_row ?zqka ?zqkb ?zqkc ?zqkd ?zqke ?_ ?zqkg; (case zqka => is_list); (case zqkb => assumption); (case zqkc => walk_at "om"); (case zqkd => walk_at "om"); (case zqke => walk_at "om"); (case zqkg => with_unfolding_all rfl)); intro _ _ _ _ _))
  (k_with "call builtin:list.append" =>
    (k_dflt (refine' append_row (pre := [_, _]) ?zqka ?zqkb ?zqkc ?zqkd ?zqke ?zqkf ?_; (case zqka => k_asm); (case zqkb => k_asm); (case zqkc => assumption); (case zqkd => assumption); (case zqke => assumption); (case zqkf => walk_at "my_len")); intro hq' Fq' Nq'))
  trivial
abbrev HomesI (l : Addr) (tb : Tok) (H : Addr) (ns : List Int) (rows₀ : Led) (count : Nat) (i : Nat) (m₁ : Str → Option Value) (news₁ : Led) : Prop := ∃ rows lastV t, news₁ = (H, LCg.lst (refs rows)) :: rows ∧ m₁ (Str.ofString "numbers") = some (.ref l) ∧ m₁ (Str.ofString "count") = some (.int count tb) ∧ m₁ (Str.ofString "homes") = some (.ref H) ∧ m₁ (Str.ofString "last") = some (.int lastV t) ∧ HJ (rows₀.map (·.1)) ns count i lastV rows
theorem c_homes_of (B : Below A₀ base outer h₀) (F : Fr h₀ L s.heap m) (X : Frag.In (hd.heap_39 w.params) h₀) (N : News h₀ L s.heap news) (T : Top p loose mean mg mb h₀) (hk : cs.kind = .function)
    (hdp : dp + 14 < recursionLimit) (hun : un + 120 < cLine) {l : Addr} {vs : List Value} {ns : List Int} (hl : s.heap.IsList l vs.toArray) (hi : IntsAre vs ns) (hn : ns.length ≤ 40)
    (count : Nat) (tb : Tok) (hc1 : 1 ≤ count) (hc2 : count ≤ 20)
    (ret : ∀ h' tk' H rows n, Fr h₀ L h' m → News h₀ L h' (((H, listOf (refs rows).toArray n) :: rows) ++ news) → (∀ q ∈ news, ∀ r ∈ (H, listOf (refs rows).toArray n) :: rows, q.1 ≠ r.1) → (H :: rows.map (·.1)).Nodup → RowsAre rows (homesN ns count) → Q (.ref H) { s with heap := h', toks := tk' }) :
    wpAny (model prog w) (ktrTop dp un gd cn cs L a ccd cl outer) (call (.ref 47) [.ref l, .int count tb]) Q E s := by
  have dis : ∀ q ∈ news, ∀ r ∈ ([] : Led), q.1 ≠ r.1 := fun _ _ r hr => nomatch hr
  k_dflt (refine' enter (ex := []) (rest := news) (binds := [(Str.ofString "numbers", .ref l), (Str.ofString "count", .int count tb)]) B F X N T dis rfl rfl hk ?k6 ?k7 ?k8 ?k9 ?kB ?_ ?c2 ?c3 ?c4 ?c5; walk_at "my_enter")
  intro g' L' h' hL FG' NG' l1 F' N' B' X' T' kp'
  have hl' : g'.IsList l vs.toArray := by
    obtain ⟨o, ho, r⟩ := hl
    exact ⟨o, kp' _ _ ho (fun r hr => nomatch hr), r⟩
  (try dsimp only)
  (try k_fold)
  k_steps
  refine Halt.out ?_
  k_dflt (refine LCg.Assign_ListComp_U (F₀ := by k_asm) (by rfl) (by with_unfolding_all rfl) (by with_unfolding_all rfl) (by decide) (by rfl) (by decide) (by rfl) (by rfl) (by rfl) ?_)
  k_steps
  refine Halt.out ?_
  refine LCg.CompSrc.range (n := count) rfl (by k_asm) (by k_asm) (by assumption) (rsmall (by walk_at "om") (by walk_at "om") (by walk_at "om") (by walk_at "om")) (rsize _ _ _ (by walk_at "om")) (by rw [sizeLine_eq]; walk_at "om") ?_
  intro g1
  refine comp_inv (fun i ys rows => ys = refs rows ∧ (rows.map (·.1)).Nodup ∧ RowsAre rows (List.replicate i [])) ⟨rfl, .nil, rfl, fun i r ms hr => by simp at hr⟩ ?_ ?_
  · rintro i ys rows v I oI C oC D m₂ h tk' E' hi ⟨rfl, hnd, hR⟩ hv hC hx F1 N1 off ne
    k_steps
    refine Halt.out ?_
    with_reducible rename (_ ∧ _ ∧ _ ∧ AllLt _ _) => hlt
    refine LCg.CompEnd.intro (by k_asm) (by k_asm) (rows ++ [(_, listOf ([] : List Value).toArray 0)]) ?_ ?_ trivial ⟨(refs_snoc _ _ _).symm, nodup_snoc hnd (fun q hq => Nat.ne_of_lt (allLt_mem hlt.2.2.2 q hq)), ?_⟩
    · intro q hq
      simp only [List.mem_cons, List.mem_append, List.not_mem_nil, or_false] at hq ⊢
      rcases hq with h | h | h | h | h
      · exact .inr (.inl h)
      · exact .inr (.inr (.inl h))
      · exact .inr (.inr (.inr (.inl h)))
      · exact .inr (.inr (.inr (.inr h)))
      · exact .inl h
    · refine off3_of fun q hq => ?_
      rcases List.mem_append.mp hq with hq | hq
      · exact LCg.Off3.mem off q hq
      · rw [List.mem_singleton.mp hq]
        exact ⟨Nat.ne_of_gt hlt.1, Nat.ne_of_gt hlt.2.1, Nat.ne_of_gt hlt.2.2.1⟩
    · rw [List.replicate_succ']
      exact rows_snoc hR .nil
  · rintro ys rows₀ ⟨rfl, hnd, hR⟩
    intro H h tk' F1 N1 off
    have offH := off1_mem off
    k_steps
    refine Halt.out ?_
    refine loop_range (n := ns.length) (HomesI l tb H ns rows₀ count)
      rfl (by assumption) (rsmall (by walk_at "om") (by walk_at "om") (by walk_at "om") (by walk_at "om")) (rsize _ _ _ (by walk_at "om")) (by assumption) (by assumption) ⟨rows₀, _, _, rfl, by walk_at "my_read", by walk_at "my_read", by walk_at "my_read", by walk_at "my_read", HJ.init hR⟩ ?_ ?_
    · rintro i m₁ news₁ I t h tk' hi9 ⟨rows, lastV, tL, rfl, hm1, hm2, hm3, hm4, hJ⟩ off9 hI F1 N1
      simp only [Int.zero_add] at F1 N1 ⊢
      have hR9 := hJ.ok
      have hlo := hJ.lo
      have hhi := hJ.hi
      have hz := hJ.z
      have hlo' := hJ.lo'
      have hlen := hJ.len
      have heach := hJ.each
      have hnd9 : (rows.map (·.1)).Nodup := by rw [hJ.fst]; exact hnd
      have hHr : ∀ q ∈ rows, q.1 ≠ H := fun q hq e => by
        have hm : q.1 ∈ rows₀.map (·.1) := by rw [← hJ.fst]; exact List.mem_map_of_mem (f := (·.1)) hq
        obtain ⟨r, hr, e'⟩ := List.mem_map.mp hm
        exact offH r hr (e'.trans e)
      have hpre : ∀ q ∈ [(I, itR ((i + 1 : Nat) : Int) ((ns.length : Int) - ((i + 1 : Nat) : Int))), (H, LCg.lst (refs rows))], q.1 ∉ rows.map (·.1) := by
        intro q hq hm
        obtain ⟨r, hr, e'⟩ := List.mem_map.mp hm
        simp only [List.mem_cons, List.not_mem_nil, or_false] at hq
        rcases hq with rfl | rfl
        · exact off9 r (List.mem_cons_of_mem _ hr) e'
        · exact hHr r hr e'
      have fm0 := fmod_lo (ns.getD (i : Int).toNat 0 - lastV) (n := 8) (by decide)
      have fm1 := fmod_hi (ns.getD (i : Int).toNat 0 - lastV) (n := 8) (by decide)
      (try k_fold)
      k_steps
      all_goals first
        | (refine Halt.out (UnrEnd.intro (by k_asm) (by k_asm) ((H, LCg.lst (refs rows)) :: rows.set _ (_, _)) (fun _ h => h) (off_set off9 (by assumption)) ⟨rows.set _ (_, _), _, _, (by rw [refs_eq (set_fst (by assumption))]), by walk_at "my_read", by walk_at "my_read", by walk_at "my_read", by walk_at "my_read",
            HJ.accept hJ hc1 (by assumption) (by assumption) ?_ ?_⟩) <;> first | exact (if_pos (by walk_at "om")).symm | exact (if_neg (by walk_at "om")).symm | exact .inl (by walk_at "om") | exact .inr ⟨by assumption, .inl (by assumption)⟩ | exact .inr ⟨by assumption, .inr (by assumption)⟩)
        | (refine Halt.out (UnrEnd.intro (by k_asm) (by k_asm) ((H, LCg.lst (refs rows)) :: rows.set _ (_, _)) (fun _ h => h) (off_set off9 (by assumption)) ⟨rows.set _ (_, _), _, _, (by rw [refs_eq (set_fst (by assumption))]), by walk_at "my_read", by walk_at "my_read", by walk_at "my_read", by walk_at "my_read",
            HJ.also hJ (by walk_at "om") (by assumption) (by assumption) ?_ (by assumption)⟩); (intro hq; first | exact absurd hq.1 (by assumption) | (rcases hq.2 with hq2 | hq2 <;> first | exact absurd hq2 (by assumption) | (simp_all; done))))
        | (refine Halt.out (UnrEnd.intro (by k_asm) (by k_asm) ((H, LCg.lst (refs rows)) :: rows) (fun _ h => h) off9 ⟨rows, _, _, rfl, by walk_at "my_read", by walk_at "my_read", by walk_at "my_read", by walk_at "my_read",
            HJ.skip hJ (by walk_at "om") ?_ (by assumption)⟩); (intro hq; first | exact absurd hq.1 (by assumption) | (rcases hq.2 with hq2 | hq2 <;> first | exact absurd hq2 (by assumption) | (simp_all; done))))
    · rintro m₁ news₁ h tk' ⟨rows, lastV, tL, rfl, hm1, hm2, hm3, hm4, hJ⟩ F1 N1
      k_steps
      walk_at "my_fin"
      have hHr : ∀ q ∈ rows, q.1 ≠ H := fun q hq e => by
        have hm : q.1 ∈ rows₀.map (·.1) := by rw [← hJ.fst]; exact List.mem_map_of_mem (f := (·.1)) hq
        obtain ⟨r, hr, e'⟩ := List.mem_map.mp hm
        exact offH r hr (e'.trans e)
      have b := back FG' NG' F1 N1
      refine ret _ _ H rows _ b.1 b.2 (news_ne NG' N1) ?_ hJ.ok
      rw [List.nodup_cons]
      refine ⟨fun hm => ?_, by rw [hJ.fst]; exact hnd⟩
      obtain ⟨r, hr, e'⟩ := List.mem_map.mp hm
      exact hHr r hr e'
end

section
theorem words_5 : True := by
  k_with_none
  (k_with "my_enter" =>
    (
      (case k6 => k_is)
      (case k7 => k_is)
      (case k8 => ktr_room)
      (case k9 => rfl)
      (case kB => exact locs rfl)
      (case c2 => exact rfl)
      (case c3 => exact rfl)
      (case c4 => exact rfl)
      (case c5 => decide)))
  (k_with "my_fin" =>
    (
      (try dsimp only)
      (try k_unfold)
      (try dsimp only)))
  (k_with "my_read" =>
    ((try dsimp only); first
      | exact rfl
      | (with_reducible assumption)
      | exact if_pos rfl
      | (refine Eq.trans (if_neg (by decide)) ?_; walk_at "my_read")
      | fail "my_read"))
  (k_with "eval Name" =>
    (k_here; k_dflt (refine' nameX_L ?zqF ?zqv ?_ ?zqa ?zqb; (case zqF => k_asm); (case zqa => rfl); (case zqb => rfl); (case zqv => walk_at "my_read"); k_whole)))
  (k_with "my_room" =>
    (have hcL9 := cLine_is; first | ktr_room | ktr_units | (dsimp only [ktrTop, Around.deeper] at *; simp only [recursionLimit] at *; omega)))
  (k_with "call ref" =>
    refine toHalt ?_)
  (k_with "exec Assign cons ListComp" =>
    refine toHalt ?_)
  (k_with "eval ListComp" =>
    refine toHalt ?_)
  (k_with "CompSrc" =>
    refine toHalt ?_)
  (k_with "CompSrcT" =>
    refine toHalt ?_)
  (k_with "CompEnd" =>
    refine toHalt ?_)
  (k_with "UnrEnd" =>
    refine toHalt ?_)
  (k_with "om" =>
    first | ((repeat (with_reducible rename (_ ∧ _) => zz; clear zz)); omega) | omega)
  trivial
def SrcOk (o : Obj) : Prop := ∃ x y ta tb n, o = listOf (List.toArray [Value.int x ta, Value.int y tb]) n ∧ 0 ≤ x ∧ 0 ≤ y ∧ y < 2147483647

theorem ret_upd {src : Addr} {gg : Obj → Led} {pre post : Led} {g h' : Heap} {L' : Addr} {m' : Str → Option Value} {o' : Obj} (hg : ∀ o', gg o' = pre ++ (src, o') :: post) (FG : Fr h₀ L g m) (NG : News h₀ L g (pre ++ post)) (F' : Fr g L' h' m') (N' : News g L' h' [(src, o')]) :
    Fr h₀ L h' m ∧ News h₀ L h' (gg o') := by
  have b := back FG NG F' N'
  refine ⟨b.1, fun q hq => b.2 q ?_⟩
  rw [hg] at hq
  simp only [List.mem_append, List.mem_cons, List.not_mem_nil, or_false] at hq ⊢
  rcases hq with h | h | h
  · exact .inr (.inl h)
  · exact .inl h
  · exact .inr (.inr h)

theorem c_take {src : Addr} {o : Obj} {led : Led} {gg : Obj → Led} (B : Below A₀ base outer h₀) (F : Fr h₀ L s.heap m) (X : Frag.In (hd.heap_39 w.params) h₀) (N : News h₀ L s.heap led) (T : Top p loose mean mg mb h₀) (hk : cs.kind = .function)
    (hdp : dp + 10 < recursionLimit) (hun : un + 100 < cLine) (U : UpdF src o led gg) (hS : SrcOk o) (top : Int) (tc : Tok) (ht0 : 1 ≤ top) (ht1 : top ≤ 1000)
    (ret : ∀ h' tk' r t o', 0 ≤ r → r < top → SrcOk o' → Fr h₀ L h' m → News h₀ L h' (gg o') → Q (.int r t) { s with heap := h', toks := tk' }) :
    wpAny (model prog w) (ktrTop dp un gd cn cs L a ccd cl outer) (call (.ref 61) [.ref src, .int top tc]) Q E s := by
  obtain ⟨pre, post, rfl, hg, hpre, hpost⟩ := U.split
  obtain ⟨x, y, ta, tb, n, rfl, hx, hy0, hy1⟩ := hS
  have N2 : News h₀ L s.heap ([(src, listOf (List.toArray [Value.int x ta, Value.int y tb]) n)] ++ (pre ++ post)) := fun q hq => N q (by
    simp only [List.mem_append, List.mem_cons, List.not_mem_nil, or_false] at hq ⊢
    rcases hq with h | h | h
    · exact .inr (.inl h)
    · exact .inl h
    · exact .inr (.inr h))
  have dis : ∀ q ∈ pre ++ post, ∀ r ∈ [(src, listOf (List.toArray [Value.int x ta, Value.int y tb]) n)], q.1 ≠ r.1 := by
    intro q hq r hr
    rw [List.mem_singleton.mp hr]
    rcases List.mem_append.mp hq with h | h
    · exact hpre q h
    · exact hpost q h
  k_dflt (refine' enter (ex := [(src, listOf (List.toArray [Value.int x ta, Value.int y tb]) n)]) (rest := pre ++ post) (binds := [(Str.ofString "source", .ref src), (Str.ofString "top", .int top tc)]) B F X N2 T dis rfl rfl hk ?k6 ?k7 ?k8 ?k9 ?kB ?_ ?c2 ?c3 ?c4 ?c5; walk_at "my_enter")
  intro g' L' h' hL FG' NG' l1 F' N' B' X' T' kp'
  (try dsimp only)
  (try k_fold)
  k_steps
  · walk_at "my_fin"
    (with_reducible rename (News _ _ _ [(src, _)]) => N9)
    have bb := ret_upd hg FG' NG' (by k_asm) N9
    exact ret _ _ _ _ _ (fmod_lo _ (by walk_at "om")) (fmod_hi _ (by walk_at "om")) ⟨_, _, _, _, _, rfl, Int.fdiv_nonneg hx (by walk_at "om"), hy0, hy1⟩ bb.1 bb.2
  · simp only [show ∀ z : Int, [x, z].getD (Int.toNat 1) 0 = z from fun _ => rfl]
    k_steps
    walk_at "my_fin"
    (with_reducible rename (News _ _ _ [(src, _)]) => N9)
    have bb := ret_upd hg FG' NG' (by k_asm) N9
    exact ret _ _ _ _ _ (fmod_lo _ (by walk_at "om")) (fmod_hi _ (by walk_at "om")) ⟨_, _, _, _, _, rfl, hx, fmod_lo _ (by decide), fmod_hi _ (by decide)⟩ bb.1 bb.2
end

section
theorem words_6 : True := by
  k_with_none
  (k_with "my_enter" =>
    (
      (case k6 => k_is)
      (case k7 => k_is)
      (case k8 => ktr_room)
      (case k9 => rfl)
      (case kB => exact locs rfl)
      (case c2 => exact rfl)
      (case c3 => exact rfl)
      (case c4 => exact rfl)
      (case c5 => decide)))
  (k_with "my_fin" =>
    (
      (try dsimp only)
      (try k_unfold)
      (try dsimp only)))
  (k_with "my_read" =>
    ((try dsimp only); first
      | exact rfl
      | (with_reducible assumption)
      | exact if_pos rfl
      | (refine Eq.trans (if_neg (by decide)) ?_; walk_at "my_read")
      | fail "my_read"))
  (k_with "eval Name" =>
    (k_here; k_dflt (refine' nameX_L ?zqF ?zqv ?_ ?zqa ?zqb; (case zqF => k_asm); (case zqa => rfl); (case zqb => rfl); (case zqv => walk_at "my_read"); k_whole)))
  (k_with "my_room" =>
    (have hcL9 := cLine_is; first | ktr_room | ktr_units | (dsimp only [ktrTop, Around.deeper] at *; simp only [recursionLimit] at *; omega)))
  (k_with "call ref" =>
    refine toHalt ?_)
  (k_with "exec Assign cons ListComp" =>
    refine toHalt ?_)
  (k_with "eval ListComp" =>
    refine toHalt ?_)
  (k_with "CompSrc" =>
    refine toHalt ?_)
  (k_with "CompSrcT" =>
    refine toHalt ?_)
  (k_with "CompEnd" =>
    refine toHalt ?_)
  (k_with "UnrEnd" =>
    refine toHalt ?_)
  (k_with "om" =>
    first | ((repeat (with_reducible rename (_ ∧ _) => zz; clear zz)); omega) | omega)
  trivial
theorem c_pool (B : Below A₀ base outer h₀) (F : Fr h₀ L s.heap m) (X : Frag.In (hd.heap_39 w.params) h₀) (N : News h₀ L s.heap news) (T : Top p loose mean mg mb h₀) (hk : cs.kind = .function)
    (hdp : dp + 10 < recursionLimit) (hun : un + 100 < cLine) {l : Addr} {vs : List Value} {ns : List Int} (hl : s.heap.IsList l vs.toArray) (hi : IntsAre vs ns) (hn : ns.length ≤ 63)
    (ret : ∀ h' tk' S o', SrcOk o' → Fr h₀ L h' m → News h₀ L h' ((S, o') :: news) → (∀ q ∈ news, q.1 ≠ S) → Q (.ref S) { s with heap := h', toks := tk' }) :
    wpAny (model prog w) (ktrTop dp un gd cn cs L a ccd cl outer) (call (.ref 54) [.ref l]) Q E s := by
  have dis : ∀ q ∈ news, ∀ r ∈ ([] : Led), q.1 ≠ r.1 := fun _ _ r hr => nomatch hr
  k_dflt (refine' enter (ex := []) (rest := news) (binds := [(Str.ofString "script", .ref l)]) B F X N T dis rfl rfl hk ?k6 ?k7 ?k8 ?k9 ?kB ?_ ?c2 ?c3 ?c4 ?c5; walk_at "my_enter")
  intro g' L' h' hL FG' NG' l1 F' N' B' X' T' kp'
  have hl' : g'.IsList l vs.toArray := by
    obtain ⟨o, ho, r⟩ := hl
    exact ⟨o, kp' _ _ ho (fun r hr => nomatch hr), r⟩
  (try dsimp only)
  (try k_fold)
  k_steps
  all_goals refine Halt.out ?_
  all_goals refine loop_range (n := min 20 ns.length) (fun i m₁ news₁ => news₁ = [] ∧ m₁ (Str.ofString "script") = some (.ref l) ∧ (∃ bg t, m₁ (Str.ofString "big") = some (.int bg t) ∧ 0 ≤ bg) ∧ ∃ mx t, m₁ (Str.ofString "mixed") = some (.int mx t) ∧ 0 ≤ mx ∧ mx < 2147483647) rfl (by assumption) (rsmall (by walk_at "om") (by walk_at "om") (by split <;> walk_at "om") (by split <;> walk_at "om")) (rsize _ _ _ (by split <;> walk_at "om")) (by assumption) (by assumption) ⟨rfl, by walk_at "my_read", ⟨_, _, by walk_at "my_read", by first | walk_at "om" | decide⟩, _, _, by walk_at "my_read", ?_, ?_⟩ ?_ ?_
  all_goals first
    | (have fl := fmod_lo (ns.getD (Int.toNat 0) 0) (n := 2147483629) (by decide); have fh := fmod_hi (ns.getD (Int.toNat 0) 0) (n := 2147483629) (by decide); walk_at "om")
    | (have fl := fmod_lo (0 - ns.getD (Int.toNat 0) 0) (n := 2147483629) (by decide); have fh := fmod_hi (0 - ns.getD (Int.toNat 0) 0) (n := 2147483629) (by decide); walk_at "om")
    | decide
    | skip
  all_goals first
    | (rintro i m₁ news₁ I t h tk' hi9 ⟨rfl, hm1, ⟨bg, t1, hm2, hb⟩, mx, t2, hm3, hx0, hx1⟩ off9 hI F1 N1
       have hk9 : (i : Int) < ns.length := by walk_at "om"
       simp only [Int.zero_add] at F1 N1 ⊢
       (try k_fold)
       k_steps
       refine Halt.out (UnrEnd.intro (by k_asm) (by k_asm) [] (fun _ h => h) (fun _ h => nomatch h) ⟨rfl, by walk_at "my_read", ⟨_, _, by walk_at "my_read", hb⟩, _, _, by walk_at "my_read", fmod_lo _ (by decide), fmod_hi _ (by decide)⟩))
    | (rintro m₁ news₁ h tk' ⟨rfl, hm1, ⟨bg, t1, hm2, hb⟩, mx, t2, hm3, hx0, hx1⟩ F1 N1
       k_steps
       all_goals (
         (with_reducible rename (News _ _ _ [(_, _)]) => N9)
         have bb := back FG' NG' (by k_asm) N9
         exact ret _ _ _ _ ⟨_, _, _, _, _, rfl, by first | exact hb | decide, hx0, hx1⟩ bb.1 bb.2 (fun q hq => news_ne NG' N9 q hq _ List.mem_cons_self)))
end

section
theorem words_7 : True := by
  k_with_none
  (k_with "my_enter" =>
    (
      (case k6 => k_is)
      (case k7 => k_is)
      (case k8 => ktr_room)
      (case k9 => rfl)
      (case kB => exact locs rfl)
      (case c2 => exact rfl)
      (case c3 => exact rfl)
      (case c4 => exact rfl)
      (case c5 => decide)))
  (k_with "my_fin" =>
    (
      (try dsimp only)
      (try k_unfold)
      (try dsimp only)))
  (k_with "my_read" =>
    ((try dsimp only); first
      | exact rfl
      | (with_reducible assumption)
      | exact if_pos rfl
      | (refine Eq.trans (if_neg (by decide)) ?_; walk_at "my_read")
      | fail "my_read"))
  (k_with "eval Name" =>
    (k_here; k_dflt (refine' nameX_L ?zqF ?zqv ?_ ?zqa ?zqb; (case zqF => k_asm); (case zqa => rfl); (case zqb => rfl); (case zqv => walk_at "my_read"); k_whole)))
  (k_with "my_room" =>
    (have hcL9 := cLine_is; first | ktr_room | ktr_units | (dsimp only [ktrTop, Around.deeper] at *; simp only [recursionLimit] at *; omega)))
  (k_with "call ref" =>
    refine toHalt ?_)
  (k_with "exec Assign cons ListComp" =>
    refine toHalt ?_)
  (k_with "eval ListComp" =>
    refine toHalt ?_)
  (k_with "CompSrc" =>
    refine toHalt ?_)
  (k_with "CompSrcT" =>
    refine toHalt ?_)
  (k_with "CompEnd" =>
    refine toHalt ?_)
  (k_with "UnrEnd" =>
    refine toHalt ?_)
  (k_with "om" =>
    first | ((repeat (with_reducible rename (_ ∧ _) => zz; clear zz)); omega) | omega)
  (k_with "call ref" =>
    (k_dflt (refine' c_is_restart ?zqkB ?zqkF ?zqkX ?zqkN ?zqkT rfl ?zqkd ?zqku _ _ ?_; (case zqkB => k_asm); (case zqkF => k_asm); (case zqkX => k_asm); (case zqkN => k_asm); (case zqkT => k_asm); (case zqkd => walk_at "my_room"); (case zqku => walk_at "my_room")); intro hq' tkq' Fq' Nq'))
  trivial
theorem ba_size {S : Addr} {b : Array UInt8} (h : b.size ≤ 1000) : b.size ≤ sizeLine := by rw [sizeLine_eq]; walk_at "om"
theorem words_8 : True := by
  (k_with "call type:bytes" =>
    (k_dflt (refine' call_bytes_ba ?zqka ?zqkb ?zqkc ?zqkd ?_; (case zqka => exact News.get (by k_asm) (by k_mem)); (case zqkb => exact rfl); (case zqkc => exact rfl); (case zqkd => rw [sizeLine_eq]; walk_at "om")); intro tq9 tkq9))
  (k_with "newTuple" =>
    (k_dflt (refine' newTuple_M ?zqka ?zqkb ?zqkc ?_; (case zqka => k_asm); (case zqkb => k_asm); (case zqkc => decide)); intro Dq9 hq9 Fq9 Nq9 ltq9))
  (k_with "call builtin:list.append" =>
    refine toHalt ?_)
  trivial
theorem append_cut {prog : Program} {w : World} {A : Around} {E : Value → Shared → Prop} {s : Shared} {h₀ : Heap} {L D P : Addr} {m : Str → Option Value} {its : Array Value} {n : Nat} {oD : Obj} {R : Led} {Q : Value → Shared → Prop} (F : Fr h₀ L s.heap m)
    (N : News h₀ L s.heap ((D, oD) :: (P, listOf its n) :: R)) (hD : P < D) (hR : ∀ q ∈ R, q.1 ≠ P) (hsz : its.size ≤ 1000)
    (h : ∀ h', Fr h₀ L h' m → News h₀ L h' ((P, listOf (its.push (.ref D)) (n + 1)) :: (D, oD) :: R) → Q .none { s with heap := h' }) : wpAny (model prog w) A (call (.builtin "list.append") [.ref P, .ref D]) Q E s := by
  refine append_to (P := P) (rest := (D, oD) :: R) F N (.tail _ (.head _)) (fun q hq => ?_) hsz h
  rcases List.mem_cons.mp hq with rfl | hq
  · exact ⟨.head _, Nat.ne_of_gt hD⟩
  · exact ⟨.tail _ (.tail _ hq), hR q hq⟩
theorem refs_push (tups : Led) (D : Addr) (o : Obj) : (refs tups).toArray.push (.ref D) = (refs (tups ++ [(D, o)])).toArray := by
  rw [refs_snoc, List.push_toArray]

theorem cut_all {h₀ h : Heap} {L : Addr} {b : List UInt8} {P O O' D : Addr} {tups : Led} {ps : List Piece} {num num' : Int} {o : Array UInt8} {i j n : Nat} {t u : Tok}
    (N8 : News h₀ L h ((O', baObj #[]) :: (P, listOf ((refs tups).toArray.push (.ref D)) (n + 1)) :: (D, tupObj [.int num t, .bytes o u]) :: (O, baObj o) :: tups)) (J : FJ b P O tups ps num o i) (hij : i < j) (hj : j ≤ b.length)
    (l9 : P < D ∧ O < D ∧ AllLt D tups) (lt2 : ∀ q ∈ (P, listOf ((refs tups).toArray.push (.ref D)) (n + 1)) :: (D, tupObj [.int num t, .bytes o u]) :: (O, baObj o) :: tups, q.1 < O') (hr : scan (b.drop i) ps num o = scan (b.drop j) (ps ++ [(num, o)]) num' #[]) :
    ∃ tups' n', News h₀ L h ((P, listOf (refs tups').toArray n') :: (O', baObj #[]) :: tups') ∧ FJ b P O' tups' (ps ++ [(num, o)]) num' #[] j := by
  refine ⟨tups ++ [(D, tupObj [.int num t, .bytes o u])], n + 1, fun q hq => ?_, J.cut hij hj (fun q hq => Nat.ne_of_lt (allLt_mem l9.2.2 q hq)) (Nat.ne_of_lt l9.1) (Nat.ne_of_lt (lt2 _ (.head _))) (fun q hq => ?_) hr⟩
  · rw [← refs_push tups D (tupObj [.int num t, .bytes o u])] at hq
    refine N8 q ?_
    simp only [List.mem_cons, List.mem_append, List.not_mem_nil, or_false] at hq ⊢
    rcases hq with h | h | h | h
    · exact .inr (.inl h)
    · exact .inl h
    · exact .inr (.inr (.inr (.inr h)))
    · exact .inr (.inr (.inl h))
  · refine Nat.ne_of_lt (lt2 q ?_)
    simp only [List.mem_cons, List.mem_append, List.not_mem_nil, or_false] at hq ⊢
    rcases hq with h | h
    · exact .inr (.inr (.inr h))
    · exact .inr (.inl h)

theorem end_all {h₀ h : Heap} {L : Addr} {b : List UInt8} {P O D : Addr} {tups : Led} {ps : List Piece} {num : Int} {o : Array UInt8} {i n : Nat} {t u : Tok}
    (N8 : News h₀ L h ((P, listOf ((refs tups).toArray.push (.ref D)) (n + 1)) :: (D, tupObj [.int num t, .bytes o u]) :: (O, baObj o) :: tups)) (J : FJ b P O tups ps num o i) (hj : b.length ≤ i) :
    ∃ tups' n', News h₀ L h ((P, listOf (refs tups').toArray n') :: tups') ∧ TupsAre tups' (scan b [] (-1) #[]) := by
  refine ⟨tups ++ [(D, tupObj [.int num t, .bytes o u])], n + 1, fun q hq => ?_, ?_⟩
  · rw [← refs_push tups D (tupObj [.int num t, .bytes o u])] at hq
    refine N8 q ?_
    simp only [List.mem_cons, List.mem_append, List.not_mem_nil, or_false] at hq ⊢
    rcases hq with h | h | h
    · exact .inl h
    · exact .inr (.inr (.inr h))
    · exact .inr (.inl h)
  · have hs := J.run
    rw [scan_end hj] at hs
    exact hs ▸ tups_snoc J.ok ⟨_, _, rfl⟩

abbrev FoundI (s : Shared) (b : List UInt8) (tb : Tok) (g' : Heap) (L' : Addr) (n : Nat) (s1 : Shared) : Prop := ∃ h tk m₁ P O tups ps num o at' t1 t2 nP, s1 = { s with heap := h, toks := tk } ∧ Fr g' L' h m₁ ∧ News g' L' h ((P, listOf (refs tups).toArray nP) :: (O, baObj o) :: tups) ∧
    m₁ (Str.ofString "data") = some (.bytes b.toArray tb) ∧ m₁ (Str.ofString "pieces") = some (.ref P) ∧ m₁ (Str.ofString "number") = some (.int num t1) ∧ m₁ (Str.ofString "octets") = some (.ref O) ∧ m₁ (Str.ofString "at") = some (.int ((at' : Nat) : Int) t2) ∧
    FJ b P O tups ps num o at' ∧ n = b.length - at'
theorem c_found (B : Below A₀ base outer h₀) (F : Fr h₀ L s.heap m) (X : Frag.In (hd.heap_39 w.params) h₀) (N : News h₀ L s.heap news) (T : Top p loose mean mg mb h₀) (hk : cs.kind = .function)
    (hdp : dp + 14 < recursionLimit) (hun : un + 120 < cLine) (b : List UInt8) (tb : Tok) (hb : b.length ≤ 500) {Q : Value → Shared → Prop}
    (ret : ∀ h' tk' P tups n, Fr h₀ L h' m → News h₀ L h' (((P, listOf (refs tups).toArray n) :: tups) ++ news) → (∀ q ∈ news, ∀ r ∈ (P, listOf (refs tups).toArray n) :: tups, q.1 ≠ r.1) → TupsAre tups (scan b [] (-1) #[]) → Q (.ref P) { s with heap := h', toks := tk' }) :
    wpD (model prog w) (ktrTop dp un gd cn cs L a ccd cl outer) (call (.ref 28) [.bytes b.toArray tb]) Q s := by
  k_dflt (refine' enterD (rest := news) (binds := [(Str.ofString "data", .bytes b.toArray tb)]) B F X N T rfl rfl hk ?k6 ?k7 ?k8 ?k9 ?kB ?_ ?c2 ?c3 ?c4 ?c5; walk_at "my_enter")
  intro g' L' h' hL FG' NG' l1 F' B' X' T' kp'
  have N' : News g' L' h' [] := fun _ h => nomatch h
  (try dsimp only)
  refine wpD_execs_leaf ?_
  k_steps
  (with_reducible rename (News _ _ _ [(_, _)]) => N1)
  (with_reducible rename (Fr _ _ _ _) => F1)
  refine wpD_execs_leaf ?_
  k_steps
  refine wpD_execs_cons (wpD_Assign (wpD_Call_Name ?_))
  k_steps
  refine wpD_callWith_type0 (call_bytearray ?_)
  intro h2 e2
  obtain ⟨F2, N2, lt2, ltL2⟩ := new_ba (by k_asm) (by k_asm) e2
  clear e2
  k_steps
  refine wpD_execs_leaf ?_
  k_steps
  refine wpD_execs_cons (wpD_While ?_)
  refine codeD_while (FoundI s b tb g' L') ?turn b.length ?init
  case init =>
    (with_reducible rename (Fr _ _ _ _) => F3)
    (with_reducible rename (News _ _ _ [(_, baObj #[]), (_, _)]) => N3)
    refine ⟨_, _, _, _, _, [], [], -1, #[], 0, _, _, 0, rfl, F3, ?_, by walk_at "my_read", by walk_at "my_read", by walk_at "my_read", by walk_at "my_read", by walk_at "my_read", ?_, rfl⟩
    · intro q hq
      simp only [List.mem_cons, List.not_mem_nil, or_false] at hq
      rcases hq with rfl | rfl
      · exact N3 _ (.tail _ (.head _))
      · exact N3 _ (.head _)
    · exact ⟨⟨rfl, fun i r q h => by simp at h⟩, by simp, fun _ h => (nomatch h), Nat.ne_of_lt (lt2 _ (.head _)), Nat.zero_le _, Nat.le_refl _, Nat.le_refl _, by rw [List.drop_zero]⟩
  case turn =>
    rintro n s1 ⟨h, tk, m₁, P, O, tups, ps, num, o, at', t1, t2, nP, rfl, F1, N1, hm1, hm2, hm3, hm4, hm5, J, rfl⟩
    have hsz := J.sz
    have hoffP : ∀ q ∈ (P, listOf (refs tups).toArray nP) :: tups, q.1 ≠ O := fun q hq => by
      rcases List.mem_cons.mp hq with rfl | hq
      · exact J.PO
      · exact J.offO q hq
    have hle := J.le
    k_steps
    · dsimp only
      refine wpD_execs_cons ?_
      refine wpD_Assign ?_
      refine wpD_any (wpAny_mono (Q := fun v s' => Halt (∃ (bh : UInt8) (t : Tok) (k : Nat), v = .int bh.toNat t ∧ s' = { s with heap := h, toks := k } ∧ bh = (b.drop (at' + 1)).headD 255)) ?_ ?_ fun _ _ x => x)
      · k_steps
        · refine Halt.out ⟨_, _, _, rfl, rfl, ?_⟩
          simp only [List.size_toArray] at *
          exact getD_drop (by walk_at "om")
        · refine Halt.out ⟨255, _, _, rfl, rfl, ?_⟩
          simp only [List.size_toArray] at *
          exact (drop_end (by walk_at "om")).symm
      · rintro v s1 ⟨bh, tbh, k9, rfl, rfl, hbh⟩
        have hbh' := hbh.symm
        have blo : (0 : Int) ≤ bh.toNat := Int.natCast_nonneg _
        have bhi : ((bh.toNat : Nat) : Int) < 256 := by have := bh.toNat_lt; walk_at "om"
        k_steps
        have hlt9 : at' < b.length := by simp only [List.size_toArray] at *; walk_at "om"
        refine wpD_execs_cons (wpD_If ?_)
        k_steps
        · have hx9 : ((b.getD (at' : Int).toNat 0).toNat : Int) ≠ 255 := by assumption
          have hx : b.getD at' 0 ≠ 255 := fun e => hx9 (by rw [Int.toNat_natCast, e]; rfl)
          (try dsimp only)
          refine wpD_execs_cons ?_
          refine wpD_Expr ?_
          refine wpD_append rfl rfl rfl ?_
          k_steps
          refine Halt.out ⟨O, baObj o, o, rfl, News.get (by k_asm) (by k_mem), rfl, rfl, rfl, ?_⟩
          k_steps
          have vlo : (0 : Int) ≤ (b.getD (at' : Int).toNat 0).toNat := Int.natCast_nonneg _
          have vhi : (((b.getD (at' : Int).toNat 0).toNat : Nat) : Int) < 256 := by have := (b.getD (at' : Int).toNat 0).toNat_lt; walk_at "om"
          refine Halt.out ⟨_, _, baObj o, o, rfl, News.get (by k_asm) (by k_mem), rfl, rfl, vlo, vhi, by rw [sizeLine_eq]; walk_at "om", ⟨(fun a e => nomatch e), ?_⟩⟩
          (try dsimp only)
          (with_reducible rename (Fr _ _ _ _) => F5)
          (with_reducible rename (News _ _ _ _) => N5)
          obtain ⟨F6, N6⟩ := push_ba (c := (((b.getD (at' : Int).toNat 0).toNat : Nat) : Int).toNat.toUInt8) F5 (news_swap N5) hoffP
          generalize Heap.update _ O _ = hU at F6 N6 ⊢
          refine wpD_execs_leaf ?_
          k_steps
          repeat (refine wpD_execs_nil ?_)
          (try dsimp only)
          (with_reducible rename (Fr _ _ _ _) => F7)
          (with_reducible rename (News _ _ _ _) => N7)
          refine ⟨b.length - (at' + 1), by walk_at "om", _, _, _, P, O, tups, ps, num, o.push (b.getD at' 0), at' + 1, _, _, nP, rfl, F7, ?_, by walk_at "my_read", by walk_at "my_read", by walk_at "my_read", by walk_at "my_read", by walk_at "my_read", ?_, rfl⟩
          · rw [u8_self, Int.toNat_natCast] at N7
            exact news_swap N7
          · exact J.pushes (Nat.lt_succ_self _) hlt9 (scan_other hlt9 hx)
        · have hx9 : ((b.getD (at' : Int).toNat 0).toNat : Int) = 255 := by assumption
          have hx : b.getD at' 0 = 255 := by rw [Int.toNat_natCast] at hx9; exact u8_eq (k := 255) (by decide) hx9
          refine wpD_execs_cons ?_
          refine wpD_If ?_
          k_steps
          · have hy9 : ((bh.toNat : Nat) : Int) = 0 := by assumption
            have hy : bh = 0 := u8_eq (k := 0) (by decide) hy9
            subst hy
            (try dsimp only)
            refine wpD_execs_cons ?_
            refine wpD_Expr ?_
            refine wpD_append rfl rfl rfl ?_
            k_steps
            refine Halt.out ⟨O, baObj o, o, rfl, News.get (by k_asm) (by k_mem), rfl, rfl, rfl, ?_⟩
            k_steps
            refine Halt.out ⟨_, _, baObj o, o, rfl, News.get (by k_asm) (by k_mem), rfl, rfl, by decide, by decide, by rw [sizeLine_eq]; walk_at "om", ⟨(fun a e => nomatch e), ?_⟩⟩
            (try dsimp only)
            (with_reducible rename (Fr _ _ _ _) => F5)
            (with_reducible rename (News _ _ _ _) => N5)
            obtain ⟨F6, N6⟩ := push_ba (c := (255 : Int).toNat.toUInt8) F5 (news_swap N5) hoffP
            generalize Heap.update _ O _ = hU at F6 N6 ⊢
            refine wpD_execs_leaf ?_
            k_steps
            repeat (refine wpD_execs_nil ?_)
            (try dsimp only)
            (with_reducible rename (Fr _ _ _ _) => F7)
            (with_reducible rename (News _ _ _ _) => N7)
            have hnx := next_of hbh' (by decide)
            refine ⟨b.length - (at' + 2), by walk_at "om", _, _, _, P, O, tups, ps, num, o.push 255, at' + 2, _, _, nP, rfl, F7, news_swap N7, by walk_at "my_read", by walk_at "my_read", by walk_at "my_read", by walk_at "my_read", by walk_at "my_read",
              J.pushes (by walk_at "om") (by walk_at "om") (scan_zero hlt9 hx hbh'), rfl⟩
          · have hy9 : ((bh.toNat : Nat) : Int) ≠ 0 := by assumption
            have hy : bh ≠ 0 := u8_ne (k := 0) (by decide) hy9
            refine wpD_execs_cons ?_
            refine wpD_If ?_
            k_steps
            · have hz9 : ((bh.toNat : Nat) : Int) = 255 := by assumption
              have hz : bh = 255 := u8_eq (k := 255) (by decide) hz9
              subst hz
              (try dsimp only)
              refine wpD_execs_leaf ?_
              k_steps
              repeat (refine wpD_execs_nil ?_)
              (try dsimp only)
              (with_reducible rename (Fr _ _ _ _) => F7)
              (with_reducible rename (News _ _ _ _) => N7)
              refine ⟨b.length - (at' + 1), by walk_at "om", _, _, _, P, O, tups, ps, num, o, at' + 1, _, _, nP, rfl, F7, N7, by walk_at "my_read", by walk_at "my_read", by walk_at "my_read", by walk_at "my_read", by walk_at "my_read",
                J.skips (by walk_at "om") (by walk_at "om") (scan_ff hlt9 hx hbh'), rfl⟩
            · have hz9 : ((bh.toNat : Nat) : Int) ≠ 255 := by assumption
              have hz : bh ≠ 255 := u8_ne (k := 255) (by decide) hz9
              have hnx := next_of hbh' hz
              refine wpD_execs_cons ?_
              refine wpD_If ?_
              k_steps
              · have hr9 : (208 : Int) ≤ ((bh.toNat : Nat) : Int) ∧ ((bh.toNat : Nat) : Int) ≤ 215 := by first | assumption | (constructor <;> assumption)
                (try dsimp only)
                refine wpD_execs_leaf ?_
                k_steps
                refine Halt.out ?_
                (with_reducible rename (Fr _ _ _ _) => F5)
                (with_reducible rename (News _ _ _ _) => N5)
                (with_reducible rename (P < _ ∧ _) => l9)
                refine append_cut F5 N5 l9.1 ?_ (by have := J.ok.1; have := J.many; simp only [refs, List.size_toArray, List.length_map] at *; walk_at "om") ?_
                · intro q hq
                  rcases List.mem_cons.mp hq with rfl | hq
                  · exact fun e => J.PO e.symm
                  · exact fun e => (List.nodup_cons.mp J.nd).1 (e ▸ List.mem_map_of_mem hq)
                intro h6 F6 N6
                (try dsimp only)
                refine wpD_execs_leaf ?_
                k_steps
                refine wpD_execs_cons ?_
                refine wpD_Assign ?_
                refine wpD_Call_Name ?_
                k_steps
                refine wpD_callWith_type0 (call_bytearray ?_)
                intro h2 e2
                (with_reducible rename (Fr _ _ _ _) => F7)
                (with_reducible rename (News _ _ _ _) => N7)
                obtain ⟨F2, N2, lt2, ltL2⟩ := new_ba F7 N7 e2
                clear e2
                k_steps
                repeat (refine wpD_execs_nil ?_)
                (try dsimp only)
                refine wpD_execs_leaf ?_
                k_steps
                repeat (refine wpD_execs_nil ?_)
                (try dsimp only)
                (with_reducible rename (Fr _ _ _ _) => F8)
                (with_reducible rename (News _ _ _ _) => N8)
                obtain ⟨tups2, n2, N9, J2⟩ := cut_all N8 J (by walk_at "om") (by walk_at "om") l9 lt2 (scan_rst hlt9 hx hbh' hy hz (by walk_at "om"))
                refine ⟨b.length - (at' + 2), by walk_at "om", _, _, _, P, _, tups2, _, (bh.toNat : Int) - 208, #[], at' + 2, _, _, n2, rfl, F8, N9, by walk_at "my_read", by walk_at "my_read", by walk_at "my_read", by walk_at "my_read", by walk_at "my_read", J2, rfl⟩
              · have hr9 : ¬ ((208 : Int) ≤ ((bh.toNat : Nat) : Int) ∧ ((bh.toNat : Nat) : Int) ≤ 215) := by first | assumption | walk_at "om"
                (try dsimp only)
                refine wpD_execs_nil ?_
                (try dsimp only)
                repeat (refine wpD_execs_nil ?_)
                (try dsimp only)
                refine wpD_execs_leaf ?_
                k_steps
                repeat (refine wpD_execs_nil ?_)
                (try dsimp only)
                (with_reducible rename (Fr _ _ _ _) => F7)
                (with_reducible rename (News _ _ _ _) => N7)
                refine ⟨b.length - (at' + 2), by walk_at "om", _, _, _, P, O, tups, ps, num, o, at' + 2, _, _, nP, rfl, F7, N7, by walk_at "my_read", by walk_at "my_read", by walk_at "my_read", by walk_at "my_read", by walk_at "my_read",
                  J.skips (by walk_at "om") (by walk_at "om") (scan_mark hlt9 hx hbh' hy hz (by walk_at "om")), rfl⟩
    · dsimp only
      refine wpD_execs_nil ?_
      (try dsimp only)
      refine wpD_execs_leaf ?_
      k_steps
      refine Halt.out ?_
      (with_reducible rename (Fr _ _ _ _) => F5)
      (with_reducible rename (News _ _ _ _) => N5)
      (with_reducible rename (P < _ ∧ _) => l9)
      refine append_cut F5 N5 l9.1 ?_ (by have := J.ok.1; have := J.many; simp only [refs, List.size_toArray, List.length_map] at *; walk_at "om") ?_
      · intro q hq
        rcases List.mem_cons.mp hq with rfl | hq
        · exact fun e => J.PO e.symm
        · exact fun e => (List.nodup_cons.mp J.nd).1 (e ▸ List.mem_map_of_mem hq)
      intro h6 F6 N6
      (try dsimp only)
      refine wpD_execs_leaf ?_
      k_steps
      (try dsimp only)
      obtain ⟨tups2, n2, N7, hT⟩ := end_all N6 J (by simp only [List.size_toArray] at *; walk_at "om")
      have bk := back (rest := news) FG' NG' F6 N7
      exact ret _ _ P _ n2 bk.1 bk.2 (fun q hq r hr => news_ne NG' N7 q hq r hr) hT
end

section
def placed (home : Nat → Option Nat) (count i : Nat) : List (List Int) := (List.range count).map fun k => ((List.range i).filter fun p => decide (home p = some k)).map Int.ofNat
theorem placed_zero (home : Nat → Option Nat) (count : Nat) : placed home count 0 = List.replicate count [] := by
  unfold placed
  apply List.ext_getElem <;> simp
theorem placed_len (home : Nat → Option Nat) (count i : Nat) : (placed home count i).length = count := by simp [placed]
theorem placed_get (home : Nat → Option Nat) {count k : Nat} (i : Nat) (hk : k < count) : (placed home count i).getD k [] = ((List.range i).filter fun p => decide (home p = some k)).map Int.ofNat := by
  simp [placed, List.getD_eq_getElem?_getD, hk]
theorem placed_none {home : Nat → Option Nat} {i : Nat} (count : Nat) (h : home i = none) : placed home count (i + 1) = placed home count i := by
  unfold placed
  refine List.map_congr_left fun k _ => ?_
  rw [List.range_succ, List.filter_append]
  simp [h]
theorem placed_some {home : Nat → Option Nat} {i k0 count : Nat} (h : home i = some k0) (hk : k0 < count) : pushAt (placed home count i) k0 (i : Int) = placed home count (i + 1) := by
  unfold pushAt
  rw [placed_get home i hk]
  apply List.ext_getElem
  · simp [placed]
  · intro k h1 h2
    have hkc : k < count := by simpa [placed] using h2
    rw [List.getElem_set]
    simp only [placed, List.getElem_map, List.getElem_range]
    by_cases e : k0 = k
    · subst e
      rw [if_pos rfl, List.range_succ, List.filter_append, List.map_append]
      simp [h]
    · rw [if_neg e, List.range_succ, List.filter_append, List.map_append]
      have : ¬ (home i = some k) := fun q => e (by rw [h] at q; exact Option.some.inj q)
      simp [this]
/-- where a turn puts its place -/
inductive Turn (ns : List Int) (count : Nat) (home : Nat → Option Nat) (last : Nat → Int) (i : Nat) : Prop
  | on (k : Nat) (hk : k < count) (h : home i = some k) (hl : last (i + 1) = k) (hs : last i + 1 + (if i = 0 then 0 else Int.fmod (ns.getD i 0 - last i) 8) = k)
      (hc : i = 0 ∨ (if i = 0 then 0 else Int.fmod (ns.getD i 0 - last i) 8) = 0 ∨ isJumpN ns i (last i + 1) (if i = 0 then 0 else Int.fmod (ns.getD i 0 - last i) 8) count = true)
  | also (k : Nat) (hk : k < count) (h : home i = some k) (hi : i ≠ 0) (hl0 : last i = k) (hl : last (i + 1) = last i) (hz : Int.fmod (ns.getD i 0 + 1 - last i) 8 = 0)
      (hc : ¬ (last i + 1 + Int.fmod (ns.getD i 0 - last i) 8 < count ∧ (Int.fmod (ns.getD i 0 - last i) 8 = 0 ∨ isJumpN ns i (last i + 1) (Int.fmod (ns.getD i 0 - last i) 8) count = true)))
  | off (h : home i = none) (hi : i ≠ 0) (hl : last (i + 1) = last i) (hz : Int.fmod (ns.getD i 0 + 1 - last i) 8 ≠ 0)
      (hc : ¬ (last i + 1 + Int.fmod (ns.getD i 0 - last i) 8 < count ∧ (Int.fmod (ns.getD i 0 - last i) 8 = 0 ∨ isJumpN ns i (last i + 1) (Int.fmod (ns.getD i 0 - last i) 8) count = true)))
theorem run {ns : List Int} {count : Nat} {home : Nat → Option Nat} {last : Nat → Int} (h0 : last 0 = -1) (n : Nat) (h : ∀ i < n, Turn ns count home last i) : homesUpto ns count n = (placed home count n, last n) := by
  induction n with
  | zero => rw [placed_zero, h0]; rfl
  | succ n ih =>
    rw [homesUpto_succ, ih fun i hi => h i (Nat.lt_succ_of_lt hi)]
    unfold turnN
    dsimp only
    cases h n (Nat.lt_succ_self n) with
    | on k hk hh hl hs hc =>
      rw [if_pos, hs, hl, Int.toNat_natCast, placed_some hh hk]
      rcases hc with hc | hc
      · exact .inl hc
      · refine .inr ⟨?_, hc⟩
        rw [hs]; exact Int.ofNat_lt.mpr hk
    | also k hk hh hi hl0 hl hz hc =>
      rw [if_neg hi, if_neg (fun q => q.elim hi hc), if_pos hz, hl, hl0, Int.toNat_natCast, placed_some hh hk]
    | off hh hi hl hz hc =>
      rw [if_neg hi, if_neg (fun q => q.elim hi hc), if_neg hz, hl, placed_none count hh]
theorem flatten_pushAt {rows : List (List Int)} {k : Nat} {v : Int} (hk : k < rows.length) : (pushAt rows k v).flatten.Perm (rows.flatten ++ [v]) := by
  induction rows generalizing k with
  | nil => exact absurd hk (Nat.not_lt_zero _)
  | cons r t ih =>
    cases k with
    | zero =>
      show ((r ++ [v]) ++ t.flatten).Perm ((r ++ t.flatten) ++ [v])
      rw [List.append_assoc, List.append_assoc]
      exact List.Perm.append_left r List.perm_append_comm
    | succ k =>
      show (r ++ (pushAt t k v).flatten).Perm ((r ++ t.flatten) ++ [v])
      rw [List.append_assoc]
      exact List.Perm.append_left r (ih (Nat.lt_of_succ_lt_succ hk))
theorem flatten_placed {home : Nat → Option Nat} {count : Nat} (n : Nat) (h : ∀ i < n, ∀ k, home i = some k → k < count) : (placed home count n).flatten.Perm (((List.range n).filter fun p => (home p).isSome).map Int.ofNat) := by
  induction n with
  | zero => rw [placed_zero]; simp
  | succ n ih =>
    have ih := ih fun i hi => h i (Nat.lt_succ_of_lt hi)
    rw [List.range_succ, List.filter_append, List.map_append]
    cases e : home n with
    | none =>
      rw [placed_none count e]
      simpa [e] using ih
    | some k =>
      have hk := h n (Nat.lt_succ_self n) k e
      rw [← placed_some e hk]
      refine (flatten_pushAt (by rw [placed_len]; exact hk)).trans ?_
      have e2 : List.map Int.ofNat (List.filter (fun p => (home p).isSome) [n]) = [(n : Int)] := by simp [e]
      rw [e2]
      exact List.Perm.append_right _ ih
end

section
theorem words_9 : True := by
  k_with_none
  (k_with "my_enter" =>
    (
      (case k6 => k_is)
      (case k7 => k_is)
      (case k8 => ktr_room)
      (case k9 => rfl)
      (case kB => exact locs rfl)
      (case c2 => exact rfl)
      (case c3 => exact rfl)
      (case c4 => exact rfl)
      (case c5 => decide)))
  (k_with "my_fin" =>
    (
      (try dsimp only)
      (try k_unfold)
      (try dsimp only)))
  (k_with "my_read" =>
    ((try dsimp only); first
      | exact rfl
      | (with_reducible assumption)
      | exact if_pos rfl
      | (refine Eq.trans (if_neg (by decide)) ?_; walk_at "my_read")
      | fail "my_read"))
  (k_with "eval Name" =>
    (k_here; k_dflt (refine' nameX_L ?zqF ?zqv ?_ ?zqa ?zqb; (case zqF => k_asm); (case zqa => rfl); (case zqb => rfl); (case zqv => walk_at "my_read"); k_whole)))
  (k_with "my_room" =>
    (have hcL9 := cLine_is; first | ktr_room | ktr_units | (dsimp only [ktrTop, Around.deeper] at *; simp only [recursionLimit] at *; omega)))
  (k_with "call ref" =>
    refine toHalt ?_)
  (k_with "exec Assign cons ListComp" =>
    refine toHalt ?_)
  (k_with "eval ListComp" =>
    refine toHalt ?_)
  (k_with "CompSrc" =>
    refine toHalt ?_)
  (k_with "CompSrcT" =>
    refine toHalt ?_)
  (k_with "CompEnd" =>
    refine toHalt ?_)
  (k_with "UnrEnd" =>
    refine toHalt ?_)
  (k_with "om" =>
    first | ((repeat (with_reducible rename (_ ∧ _) => zz; clear zz)); omega) | omega)
  trivial
theorem mid_news {src : Addr} {o : Obj} {pre post : Led} {h : Heap} (N : News h₀ L h (pre ++ (src, o) :: post)) : News h₀ L h ([(src, o)] ++ (pre ++ post)) := fun q hq => N q (by
    simp only [List.mem_append, List.mem_cons, List.not_mem_nil, or_false] at hq ⊢
    rcases hq with h | h | h
    · exact .inr (.inl h)
    · exact .inl h
    · exact .inr (.inr h))
theorem mid_dis {src : Addr} {o : Obj} {pre post : Led} (hpre : ∀ q ∈ pre, q.1 ≠ src) (hpost : ∀ q ∈ post, q.1 ≠ src) : ∀ q ∈ pre ++ post, ∀ r ∈ [(src, o)], q.1 ≠ r.1 := by
  intro q hq r hr
  rw [List.mem_singleton.mp hr]
  rcases List.mem_append.mp hq with h | h
  · exact hpre q h
  · exact hpost q h
theorem loop_to {A : Around} {env : Env} {x : Str} {body : List Stmt} {Q : Flow → Shared → Prop} {r : Addr} {b₀ : Int} {t₀ u₀ v₀ : Tok} {m₀ : Str → Option Value} {news : Led} (J : Nat → (Str → Option Value) → Led → Prop)
    (hh : A.handled = none) (hr : IsRange s.heap r 0 b₀ 1 t₀ u₀ v₀) (h0 : 0 ≤ b₀) (h1 : b₀ ≤ 1000) (F : Fr h₀ env.locals s.heap m₀) (N : News h₀ env.locals s.heap news)
    (hj : J 0 m₀ news)
    (turn : ∀ i m₁ news₁ I t h tk, i < b₀.toNat → J i m₁ news₁ → (∀ q ∈ news₁, q.1 ≠ I) → (∀ q ∈ news, q.1 < I) → Fr h₀ env.locals h (fun y => if y = x then some (.int (0 + (i : Int)) t) else m₁ y) →
      News h₀ env.locals h ((I, itR (0 + ((i + 1 : Nat) : Int)) ((b₀.toNat : Int) - ((i + 1 : Nat) : Int))) :: news₁) →
      wpAny (model prog w) A (execs body env) (UnrPost h₀ env.locals { s with heap := h, toks := tk } I (itR (0 + ((i + 1 : Nat) : Int)) ((b₀.toNat : Int) - ((i + 1 : Nat) : Int))) (J (i + 1)) Q) E { s with heap := h, toks := tk })
    (done : ∀ m₁ news₁ h tk, J b₀.toNat m₁ news₁ → Fr h₀ env.locals h m₁ → News h₀ env.locals h news₁ → Q .next { s with heap := h, toks := tk }) :
    wpAny (model prog w) A (pyIter (.ref r)) (fun it s₂ => LoopAtV prog w A h₀ env x body Q E it s₂) E s :=
  loop_range J hh hr (rsmall (by omega) (by omega) (by omega) (by omega)) (rsize _ _ _ (by omega)) F N hj turn done
theorem srcT_to {A : Around} {env : Env} {ct elt : Expr} {x : Str} {scope : Scope} {cl : List (Str × Addr)} {Fin : Shared → List Value → List (Addr × Obj) → Prop} {r : Addr} {b : Int} {t u v : Tok} {news : List (Addr × Obj)} {s₁ : Shared}
    (hh : A.handled = none) (F : Fr h₀ L s₁.heap m) (N : News h₀ L s₁.heap news) (hr : IsRange s₁.heap r 0 b 1 t u v) (h0 : 0 ≤ b) (h1 : b ≤ 1000)
    (h : ∀ g (n : Nat), (n : Int) = b → LCt.CompRestT prog w A h₀ L m env ct elt x scope cl { s₁ with heap := g } (fun _ => True) (fun i v => ∃ t, v = .int (0 + (i : Int)) t) (Fin { s₁ with heap := g }) n 0 [] news) :
    LCt.CompSrcT prog w A h₀ L m env ct elt x scope cl Fin (.ref r) s₁ :=
  LCt.CompSrcT.range (n := b.toNat) hh F N hr (rsmall (by omega) (by omega) (by omega) (by omega)) (rsize _ _ _ (by omega)) (by rw [sizeLine_eq]; omega) fun g => h g _ (by omega)
theorem src_to {A : Around} {env : Env} {elt : Expr} {x : Str} {scope : Scope} {cl : List (Str × Addr)} {Fin : Shared → List Value → List (Addr × Obj) → Prop} {r : Addr} {b : Int} {t u v : Tok} {news : List (Addr × Obj)} {s₁ : Shared}
    (hh : A.handled = none) (F : Fr h₀ L s₁.heap m) (N : News h₀ L s₁.heap news) (hr : IsRange s₁.heap r 0 b 1 t u v) (h0 : 0 ≤ b) (h1 : b ≤ 1000)
    (h : ∀ g (n : Nat), (n : Int) = b → LCg.CompRest prog w A h₀ L m env elt x scope cl { s₁ with heap := g } (fun _ => True) (fun i v => ∃ t, v = .int (0 + (i : Int)) t) (Fin { s₁ with heap := g }) n 0 [] news) :
    LCg.CompSrc prog w A h₀ L m env elt x scope cl Fin (.ref r) s₁ :=
  LCg.CompSrc.range (n := b.toNat) hh F N hr (rsmall (by omega) (by omega) (by omega) (by omega)) (rsize _ _ _ (by omega)) (by rw [sizeLine_eq]; omega) fun g => h g _ (by omega)
theorem kf_ints_of {vs : List Value} {ns : List Int} (h : IntsAre vs ns) : kf_ints vs = true := by
  induction h with
  | nil => rfl
  | cons x t r ih => rw [kf_ints]; exact ih
theorem prod_lt {a b : Int} (ha : 0 ≤ a) (ha1 : a < 3) (hb : 0 ≤ b) (hb1 : b < 2) : 0 ≤ a * b ∧ a * b ≤ 2 := by
  have h : b = 0 ∨ b = 1 := by omega
  rcases h with rfl | rfl
  · simp
  · rw [Int.mul_one]; omega
theorem end_lo {c z : Int} : 0 ≤ if c - z > 1 then c - z else 1 := by split <;> omega
theorem end_hi {a b : Int} {count : Nat} (hc : count ≤ 20) (ha : 0 ≤ a) (ha1 : a < 3) (hb : 0 ≤ b) (hb1 : b < 2) : (if (count : Int) - a * b > 1 then (count : Int) - a * b else 1) ≤ 1000 := by
  have := prod_lt ha ha1 hb hb1
  split <;> omega
theorem end_bounds {a b : Int} {n count : Nat} (e : (n : Int) = if (count : Int) - a * b > 1 then (count : Int) - a * b else 1) (hc : 1 ≤ count) (ha : 0 ≤ a) (ha1 : a < 3) (hb : 0 ≤ b) (hb1 : b < 2) : 1 ≤ n ∧ n ≤ count := by
  have := prod_lt ha ha1 hb hb1
  split at e <;> omega
def keptN (gs : List Int) (n : Nat) : List Int := ((List.range n).map Int.ofNat).filter fun k => !gs.any (· == k)
theorem keptN_succ (gs : List Int) (n : Nat) : keptN gs (n + 1) = keptN gs n ++ (if (!gs.any (· == (n : Int))) = true then [(n : Int)] else []) := by
  unfold keptN
  rw [List.range_succ, List.map_append, List.filter_append, List.map_singleton, List.filter_cons, List.filter_nil]
  rfl
theorem keptN_le (gs : List Int) (n : Nat) : (keptN gs n).length ≤ n := by
  unfold keptN
  refine Nat.le_trans (List.length_filter_le _ _) ?_
  simp
theorem keptN_pos (gs : List Int) (n : Nat) (hn : 1 ≤ n) (hg : ∀ g ∈ gs, 1 ≤ g) : (keptN gs n)[0]? = some 0 := by
  induction n with
  | zero => omega
  | succ n ih =>
    rw [keptN_succ]
    by_cases h : n = 0
    · subst h
      rw [show keptN gs 0 = [] from rfl, if_pos]
      · rfl
      · simp only [Bool.not_eq_true', List.any_eq_false, beq_iff_eq]
        intro x hx e
        have := hg x hx
        rw [e] at this
        omega
    · have := ih (by omega)
      rw [List.getElem?_append_left]
      · exact this
      · cases e : keptN gs n with
        | nil => rw [e] at this; simp at this
        | cons => simp
theorem ints_get {vs : List Value} {ns : List Int} (h : IntsAre vs ns) {i : Nat} {v : Value} (e : vs.toArray[i]? = some v) : i < ns.length ∧ ∃ t, v = .int (ns.getD i 0) t := by
  rw [List.getElem?_toArray] at e
  obtain ⟨hi, e⟩ := List.getElem?_eq_some_iff.mp e
  obtain ⟨t, e'⟩ := intsAt h i hi
  exact ⟨IntsAre.length h ▸ hi, t, e.symm.trans e'⟩
theorem ints_drop {vs : List Value} {ns : List Int} (h : IntsAre vs ns) (k : Nat) : IntsAre (vs.drop k) (ns.drop k) := by
  induction h generalizing k with
  | nil => rw [List.drop_nil, List.drop_nil]; exact .nil
  | cons x t r ih =>
    cases k with
    | zero => exact .cons x t r
    | succ k => exact ih k
theorem pick_one {vs : List Value} (h : 1 ≤ vs.length) : kms_pick vs (some 1) none = vs.drop 1 := by
  show List.take (vs.length - min (1 : Int).toNat vs.length) (List.drop (min (1 : Int).toNat vs.length) vs) = _
  rw [show min (1 : Int).toNat vs.length = 1 by rw [show (1 : Int).toNat = 1 from rfl]; omega, List.take_of_length_le (by rw [List.length_drop]; exact Nat.le_refl _)]
def numsN (ks : List Int) : List Int := (ks.drop 1).map fun k => Int.fmod (k - 1) 8
theorem numsN_snoc {ks : List Int} {i : Nat} (h : i < (ks.drop 1).length) : ((ks.drop 1).take (i + 1)).map (fun k => Int.fmod (k - 1) 8) = ((ks.drop 1).take i).map (fun k => Int.fmod (k - 1) 8) ++ [Int.fmod ((ks.drop 1).getD i 0 - 1) 8] := by
  rw [List.take_succ_eq_append_getElem h, List.map_append, List.map_singleton, List.getD_eq_getElem?_getD, List.getElem?_eq_getElem h]
  rfl
theorem slice1 {A : Around} {news : Led} {value slice : PySem.Expr} {l : Addr} {vs : List Value} {vl vu : Value} {Q : Value → Shared → Prop} (F : Fr h₀ L s.heap m) (N : News h₀ L s.heap news) (hl : s.heap.IsList l vs.toArray) (pl : IsPart vl (some 1)) (pu : IsPart vu none) (h1 : 1 ≤ vs.length) (hz : vs.length ≤ 1000)
    (h : ∀ D h', Fr h₀ L h' m → News h₀ L h' ((D, listOf (vs.drop 1).toArray 0) :: news) → (∀ p ∈ news, p.1 < D) → Q (.ref D) { s with heap := h' })
    (hs : subscripted slice false (.ref l) (.ref s.heap.objs.size) = operate [.ref s.heap.objs.size, .ref l] (getItem (.ref l) (.ref s.heap.objs.size))) (ht : ∀ r, letTemporaryGo value (.ref l) r = pure ()) :
    wpAny (model prog w) A (subscriptTail value slice (.ref l) (.ref s.heap.objs.size)) Q E { s with heap := s.heap.push { cls := .type "slice", data := .fields #[vl, vu, .none] } } :=
  kms_slice_lit F N hl pl pu (pick_one h1) h hs ht (by rw [sizeLine_eq, List.size_toArray]; omega)
theorem kf_at_of {k : Int} {vs : List Value} {ns : List Int} (h : IntsAre vs ns) (ha : (ns.any fun x => x == k) = true) : kf_at k vs = some (ns.findIdx (· == k)) := by
  induction h with
  | nil => simp at ha
  | cons x t r ih =>
    rw [kf_at, List.findIdx_cons]
    cases e : (x == k) with
    | true => rw [show isInt k (.int x t) = true from e]; rfl
    | false =>
      rw [show isInt k (.int x t) = false from e]
      rw [List.any_cons, e, Bool.false_or] at ha
      rw [ih ha]
      rfl
def dueN (ks : List Int) (n : Nat) : List (List Int) := (List.range n).map fun (k : Nat) => if (ks.any fun x => x == (k : Int)) = true then [((ks.findIdx (· == (k : Int)) : Nat) : Int)] else []
theorem dueN_succ (ks : List Int) (n : Nat) : dueN ks (n + 1) = dueN ks n ++ [if (ks.any fun x => x == (n : Int)) = true then [((ks.findIdx (· == (n : Int)) : Nat) : Int)] else []] := by
  unfold dueN
  rw [List.range_succ, List.map_append, List.map_singleton]
theorem compEnd_row {base rows : Led} {x : Addr × Obj} {I C D : Addr} {oI oC oD : Obj} {rest : Value → Led → Prop} {y : Value} {s₁ : Shared} {h' : Heap} {tk : Nat} (F : Fr h₀ L h' m) (N : News h₀ L h' (x :: (I, oI) :: (C, oC) :: (D, oD) :: (base ++ rows)))
    (off : LCg.Off3 I C D (base ++ rows)) (l : I < x.1 ∧ C < x.1 ∧ D < x.1) (r : rest y (base ++ (rows ++ [x]))) : LCg.CompEnd h₀ L m s₁ I oI C oC D oD (fun _ => True) rest y { s₁ with heap := h', toks := tk } := by
  refine LCg.CompEnd.intro F N (base ++ (rows ++ [x])) ?_ ?_ trivial r
  · intro q hq
    simp only [List.mem_cons, List.mem_append, List.not_mem_nil, or_false] at hq ⊢
    rcases hq with h | h | h | h | h | h
    · exact .inr (.inl h)
    · exact .inr (.inr (.inl h))
    · exact .inr (.inr (.inr (.inl h)))
    · exact .inr (.inr (.inr (.inr (.inl h))))
    · exact .inr (.inr (.inr (.inr (.inr h))))
    · exact .inl h
  · refine off3_of fun q hq => ?_
    rw [← List.append_assoc] at hq
    rcases List.mem_append.mp hq with hq | hq
    · exact LCg.Off3.mem off q hq
    · rw [List.mem_singleton.mp hq]
      exact ⟨Nat.ne_of_gt l.1, Nat.ne_of_gt l.2.1, Nat.ne_of_gt l.2.2⟩
theorem ints_take {vs : List Value} {ns : List Int} (h : IntsAre vs ns) (k : Nat) : IntsAre (vs.take k) (ns.take k) := by
  induction h generalizing k with
  | nil => rw [List.take_nil, List.take_nil]; exact .nil
  | cons x t r ih =>
    cases k with
    | zero => exact .nil
    | succ k => exact .cons x t (ih k)
theorem slice_to {A : Around} {news : Led} {value slice : PySem.Expr} {l : Addr} {vs : List Value} {ns : List Int} {vl vu : Value} {k : Int} {Q : Value → Shared → Prop} (F : Fr h₀ L s.heap m) (N : News h₀ L s.heap news) (hl : s.heap.IsList l vs.toArray) (hia : IntsAre vs ns) (pl : IsPart vl none) (pu : IsPart vu (some k)) (h0 : 0 ≤ k) (hz : ns.length ≤ 1000)
    (h : ∀ D us h', Fr h₀ L h' m → News h₀ L h' ((D, listOf (List.toArray us) 0) :: news) → (∀ p ∈ news, p.1 < D) → IntsAre us (ns.take k.toNat) → Q (.ref D) { s with heap := h' })
    (hs : subscripted slice false (.ref l) (.ref s.heap.objs.size) = operate [.ref s.heap.objs.size, .ref l] (getItem (.ref l) (.ref s.heap.objs.size))) (ht : ∀ r, letTemporaryGo value (.ref l) r = pure ()) :
    wpAny (model prog w) A (subscriptTail value slice (.ref l) (.ref s.heap.objs.size)) Q E { s with heap := s.heap.push { cls := .type "slice", data := .fields #[vl, vu, .none] } } := by
  refine kms_slice_lit F N hl pl pu rfl (fun D h' F' N' l1 => h D _ h' F' N' l1 ?_) hs ht (by rw [sizeLine_eq, List.size_toArray, IntsAre.length hia]; omega)
  show IntsAre (List.take ((if k < 0 then vs.length - (-k).toNat else min k.toNat vs.length) - 0) (List.drop 0 vs)) _
  rw [if_neg (by omega), Nat.sub_zero, List.drop_zero, ← List.take_eq_take_min]
  exact ints_take hia _
theorem slice_from {A : Around} {news : Led} {value slice : PySem.Expr} {l : Addr} {vs : List Value} {ns : List Int} {vl vu : Value} {k : Int} {Q : Value → Shared → Prop} (F : Fr h₀ L s.heap m) (N : News h₀ L s.heap news) (hl : s.heap.IsList l vs.toArray) (hia : IntsAre vs ns) (pl : IsPart vl (some k)) (pu : IsPart vu none) (h0 : 0 ≤ k) (hz : ns.length ≤ 1000)
    (h : ∀ D us h', Fr h₀ L h' m → News h₀ L h' ((D, listOf (List.toArray us) 0) :: news) → (∀ p ∈ news, p.1 < D) → IntsAre us (ns.drop k.toNat) → Q (.ref D) { s with heap := h' })
    (hs : subscripted slice false (.ref l) (.ref s.heap.objs.size) = operate [.ref s.heap.objs.size, .ref l] (getItem (.ref l) (.ref s.heap.objs.size))) (ht : ∀ r, letTemporaryGo value (.ref l) r = pure ()) :
    wpAny (model prog w) A (subscriptTail value slice (.ref l) (.ref s.heap.objs.size)) Q E { s with heap := s.heap.push { cls := .type "slice", data := .fields #[vl, vu, .none] } } := by
  refine kms_slice_lit F N hl pl pu rfl (fun D h' F' N' l1 => h D _ h' F' N' l1 ?_) hs ht (by rw [sizeLine_eq, List.size_toArray, IntsAre.length hia]; omega)
  show IntsAre (List.take (vs.length - (if k < 0 then vs.length - (-k).toNat else min k.toNat vs.length)) (List.drop (if k < 0 then vs.length - (-k).toNat else min k.toNat vs.length) vs)) _
  rw [if_neg (by omega), List.take_of_length_le (by rw [List.length_drop]; exact Nat.le_refl _)]
  by_cases hc : k.toNat ≤ vs.length
  · rw [Nat.min_eq_left hc]; exact ints_drop hia _
  · rw [Nat.min_eq_right (by omega), List.drop_of_length_le (Nat.le_refl _), List.drop_of_length_le (by rw [← IntsAre.length hia]; omega)]
    exact .nil
theorem led_list {h : Heap} {led : Led} {a : Addr} {its : Array Value} {n : Nat} (N : News h₀ L h led) (hm : (a, listOf its n) ∈ led) : h.IsList a its := PySem.IsL.isList (n := n) (N _ hm).1
end

section
def seqF (count : Nat) : List Int := [-1] ++ (List.range (count - 1)).map fun (k : Nat) => Int.fmod (1 + (k : Int) - 1) 8
def numsF (count : Nat) (r st : Int) : List Int := (seqF count).take (r + 1).toNat ++ [st] ++ (seqF count).drop (r + 1).toNat
def dueF (count : Nat) (r : Int) (hs : List (List Int)) : List Int := ((List.range (count + 1)).map Int.ofNat).filter fun p => decide (p ≠ r + 1) || hs.any fun row => row.any fun x => x == p
structure FalseOk (count : Nat) (r : Int) (hs : List (List Int)) : Prop where
  len : hs.length = count
  own : ∀ i : Nat, i < count → ((hs.getD i []).any fun x => x == (if (i : Int) ≤ r then (i : Int) else (i : Int) + 1)) = true
  only : ∀ i : Nat, i < count → ∀ x ∈ hs.getD i [], x = (if (i : Int) ≤ r then (i : Int) else (i : Int) + 1) ∨ x = r + 1
  perm : hs.flatten.Perm (dueF count r hs)

theorem seqF_len {count : Nat} (hc : 1 ≤ count) : (seqF count).length = count := by
  simp [seqF]; omega
theorem seqF_get {count j : Nat} (h1 : 1 ≤ j) (h2 : j < count) : (seqF count).getD j 0 = Int.fmod ((j : Int) - 1) 8 := by
  obtain ⟨i, rfl⟩ : ∃ i, j = i + 1 := ⟨j - 1, by omega⟩
  have hi : i < count - 1 := by omega
  simp only [seqF, List.singleton_append, List.getD_cons_succ]
  rw [List.getD_eq_getElem?_getD, List.getElem?_map, List.getElem?_range hi]
  show Int.fmod (1 + (i : Int) - 1) 8 = _
  congr 1
  omega
theorem numsF_len {count rn : Nat} {st : Int} (hc : 1 ≤ count) (hr : rn < count) : (numsF count rn st).length = count + 1 := by
  have e : ((rn : Int) + 1).toNat = rn + 1 := by omega
  unfold numsF
  rw [e]
  simp only [List.length_append, List.length_take, List.length_drop, seqF_len hc, List.length_singleton]
  omega
theorem numsF_low {count rn j : Nat} {st : Int} (hc : 1 ≤ count) (hr : rn < count) (hj : j ≤ rn) : (numsF count rn st).getD j 0 = (seqF count).getD j 0 := by
  have e : ((rn : Int) + 1).toNat = rn + 1 := by omega
  unfold numsF
  rw [e, List.getD_eq_getElem?_getD, List.getD_eq_getElem?_getD, List.append_assoc, List.getElem?_append_left (by rw [List.length_take, seqF_len hc]; omega), List.getElem?_take, if_pos (by omega)]
theorem numsF_mid {count rn : Nat} {st : Int} (hc : 1 ≤ count) (hr : rn < count) : (numsF count rn st).getD (rn + 1) 0 = st := by
  have e : ((rn : Int) + 1).toNat = rn + 1 := by omega
  have hl : ((seqF count).take (rn + 1)).length = rn + 1 := by rw [List.length_take, seqF_len hc]; omega
  unfold numsF
  rw [e, List.getD_eq_getElem?_getD, List.append_assoc, List.getElem?_append_right (by omega), hl, Nat.sub_self]
  rfl
theorem numsF_high {count rn j : Nat} {st : Int} (hc : 1 ≤ count) (hr : rn < count) (hj : rn + 2 ≤ j) : (numsF count rn st).getD j 0 = (seqF count).getD (j - 1) 0 := by
  have e : ((rn : Int) + 1).toNat = rn + 1 := by omega
  have hl : ((seqF count).take (rn + 1) ++ [st]).length = rn + 2 := by rw [List.length_append, List.length_take, seqF_len hc, List.length_singleton]; omega
  unfold numsF
  rw [e, List.getD_eq_getElem?_getD, List.getD_eq_getElem?_getD, List.getElem?_append_right (by omega), hl, List.getElem?_drop, show rn + 1 + (j - (rn + 2)) = j - 1 by omega]
theorem fm8 (a : Int) : Int.fmod a 8 = a % 8 := Int.fmod_eq_emod_of_nonneg a (by decide)
theorem ns_low {count rn j : Nat} {st : Int} (hr : rn < count) (h1 : 1 ≤ j) (hj : j ≤ rn) : (numsF count rn st).getD j 0 = ((j : Int) - 1) % 8 := by
  rw [numsF_low (by omega) hr hj, seqF_get h1 (by omega), fm8]
theorem ns_high {count rn j : Nat} {st : Int} (hr : rn < count) (hj : rn + 2 ≤ j) (hc : j ≤ count) : (numsF count rn st).getD j 0 = ((j : Int) - 2) % 8 := by
  rw [numsF_high (by omega) hr hj, seqF_get (by omega) (by omega), fm8]
  congr 1
  omega
def mm (count a : Nat) : Int := (if a + 1 ≤ count then 1 else 0) + (if a + 2 ≤ count then 1 else 0) + (if a + 3 ≤ count then 1 else 0)
theorem folAt_high {count rn a i : Nat} {st v : Int} (hr : rn < count) (ha : rn + 1 ≤ a) : folAt (numsF count rn st) a v i = if a + (1 + i) ≤ count ∧ ((a : Int) - 2 - v) % 8 = 0 then 1 else 0 := by
  have hlen := numsF_len (st := st) (rn := rn) (count := count) (by omega) hr
  unfold folAt
  rw [hlen]
  by_cases h : a + (1 + i) ≤ count
  · have hg := ns_high (st := st) hr (j := a + (1 + i)) (by omega) h
    have e : ((a : Int) + (1 + (i : Int))).toNat = a + (1 + i) := by omega
    rw [e, hg, fm8]
    by_cases hz : ((a : Int) - 2 - v) % 8 = 0
    · rw [if_pos ⟨by omega, by omega⟩, if_pos ⟨h, hz⟩]
    · rw [if_neg (fun q => hz (by have := q.2; omega)), if_neg (fun q => hz q.2)]
  · rw [if_neg (fun q => h (by have := q.1; omega)), if_neg (fun q => h q.1)]
theorem fol_high {count rn a : Nat} {st v : Int} (hr : rn < count) (ha : rn + 1 ≤ a) : folN (numsF count rn st) a v 3 = if ((a : Int) - 2 - v) % 8 = 0 then mm count a else 0 := by
  show 0 + folAt (numsF count rn st) a v 0 + folAt (numsF count rn st) a v 1 + folAt (numsF count rn st) a v 2 = _
  rw [folAt_high hr ha, folAt_high hr ha, folAt_high hr ha]
  unfold mm
  by_cases hz : ((a : Int) - 2 - v) % 8 = 0
  · simp only [hz, and_true, if_true]
    show (0 : Int) + (if a + 1 ≤ count then 1 else 0) + (if a + 2 ≤ count then 1 else 0) + (if a + 3 ≤ count then 1 else 0) = (if a + 1 ≤ count then 1 else 0) + (if a + 2 ≤ count then 1 else 0) + (if a + 3 ≤ count then 1 else 0)
    rw [Int.zero_add]
  · simp only [hz, and_false, if_false]
    rfl
def homeF (count rn : Nat) (st : Int) (p : Nat) : Option Nat :=
  if p ≤ rn then some p else if p = rn + 1 then (if (st - rn) % 8 = 0 ∧ rn + 1 < count then some (rn + 1) else if (st - rn) % 8 = 7 then some rn else none) else some (p - 1)
def lastF (count rn : Nat) (st : Int) (i : Nat) : Int :=
  if i ≤ rn + 1 then (i : Int) - 1 else if i = rn + 2 then (if (st - rn) % 8 = 0 ∧ rn + 1 < count then (rn : Int) + 1 else rn) else (i : Int) - 2
theorem jump_no {count rn : Nat} {st s : Int} (hr : rn < count) (hs0 : 0 < s) (hs : s < 8) : ¬ ((rn : Int) + 1 + s < count ∧ isJumpN (numsF count rn st) ((rn + 1 : Nat) : Int) ((rn : Int) + 1) s count = true) := by
  rintro ⟨h1, h2⟩
  unfold isJumpN at h2
  rw [fol_high hr (Nat.le_refl _), fol_high hr (Nat.le_refl _)] at h2
  simp only [Bool.and_eq_true, Bool.or_eq_true, decide_eq_true_eq] at h2
  have hf : (((rn + 1 : Nat) : Int) - 2 - ((rn : Int) + 1 - 2)) % 8 = 0 := by omega
  rw [if_pos hf] at h2
  have hm : 1 ≤ mm count (rn + 1) := by unfold mm; split <;> omega
  by_cases h7 : s = 7
  · subst h7
    rw [if_pos (by omega)] at h2
    omega
  · rw [if_neg (by omega)] at h2
    omega
theorem jump_no2 {count rn : Nat} {st : Int} (hr : rn < count) : isJumpN (numsF count rn st) ((rn + 2 : Nat) : Int) ((rn : Int) + 1 + 1) 7 count = false := by
  rw [Bool.eq_false_iff]
  intro h2
  unfold isJumpN at h2
  rw [fol_high hr (by omega), fol_high hr (by omega)] at h2
  simp only [Bool.and_eq_true, Bool.or_eq_true, decide_eq_true_eq] at h2
  rw [if_pos (by omega), if_pos (by omega)] at h2
  omega
theorem turns_F {count rn : Nat} {st : Int} (hr : rn < count) (i : Nat) (hi : i < count + 1) : Turn (numsF count rn st) count (homeF count rn st) (lastF count rn st) i := by
  by_cases h1 : i ≤ rn
  · have hh : homeF count rn st i = some i := if_pos h1
    have hl : lastF count rn st i = (i : Int) - 1 := if_pos (by omega)
    have hl' : lastF count rn st (i + 1) = (i : Int) := by unfold lastF; rw [if_pos (by omega)]; omega
    by_cases h0 : i = 0
    · exact .on i (by omega) hh hl' (by rw [hl, if_pos h0]; omega) (.inl h0)
    · have hz : Int.fmod ((numsF count rn st).getD i 0 - lastF count rn st i) 8 = 0 := by rw [ns_low hr (by omega) h1, hl, fm8]; omega
      exact .on i (by omega) hh hl' (by rw [if_neg h0, hz, hl]; omega) (.inr (.inl (by rw [if_neg h0, hz])))
  by_cases h2 : i = rn + 1
  · subst h2
    have hns := numsF_mid (st := st) (rn := rn) (count := count) (by omega) hr
    have hl : lastF count rn st (rn + 1) = (rn : Int) := by unfold lastF; rw [if_pos (by omega)]; omega
    have hl' : lastF count rn st (rn + 1 + 1) = if (st - rn) % 8 = 0 ∧ rn + 1 < count then (rn : Int) + 1 else rn := by unfold lastF; rw [if_neg (by omega), if_pos rfl]
    have hh : homeF count rn st (rn + 1) = if (st - rn) % 8 = 0 ∧ rn + 1 < count then some (rn + 1) else if (st - rn) % 8 = 7 then some rn else none := by unfold homeF; rw [if_neg (by omega), if_pos rfl]
    have hsk : Int.fmod ((numsF count rn st).getD (rn + 1) 0 - lastF count rn st (rn + 1)) 8 = (st - rn) % 8 := by rw [hns, hl, fm8]
    have hz : Int.fmod ((numsF count rn st).getD (rn + 1) 0 + 1 - lastF count rn st (rn + 1)) 8 = (st + 1 - rn) % 8 := by rw [hns, hl, fm8]
    by_cases hA : (st - rn) % 8 = 0 ∧ rn + 1 < count
    · rw [if_pos hA] at hl' hh
      exact .on (rn + 1) hA.2 hh (by rw [hl']; omega) (by rw [if_neg (Nat.succ_ne_zero rn), hsk, hA.1, hl]; omega) (.inr (.inl (by rw [if_neg (Nat.succ_ne_zero rn), hsk, hA.1])))
    · rw [if_neg hA] at hl' hh
      have hc : ¬ (lastF count rn st (rn + 1) + 1 + Int.fmod ((numsF count rn st).getD (rn + 1) 0 - lastF count rn st (rn + 1)) 8 < count ∧ (Int.fmod ((numsF count rn st).getD (rn + 1) 0 - lastF count rn st (rn + 1)) 8 = 0 ∨
          isJumpN (numsF count rn st) ((rn + 1 : Nat) : Int) (lastF count rn st (rn + 1) + 1) (Int.fmod ((numsF count rn st).getD (rn + 1) 0 - lastF count rn st (rn + 1)) 8) count = true)) := by
        rw [hsk, hl]
        rintro ⟨q1, q2⟩
        by_cases hs : (st - rn) % 8 = 0
        · exact hA ⟨hs, by omega⟩
        · exact jump_no hr (by omega) (by omega) ⟨q1, q2.resolve_left hs⟩
      by_cases h7 : (st - rn) % 8 = 7
      · rw [if_pos h7] at hh
        exact .also rn hr hh (Nat.succ_ne_zero rn) hl (by rw [hl', hl]) (by rw [hz]; omega) hc
      · rw [if_neg h7] at hh
        exact .off hh (Nat.succ_ne_zero rn) (by rw [hl', hl]) (by rw [hz]; omega) hc
  have hh : homeF count rn st i = some (i - 1) := by unfold homeF; rw [if_neg h1, if_neg h2]
  have hns : (numsF count rn st).getD i 0 = ((i : Int) - 2) % 8 := ns_high hr (by omega) (by omega)
  have hi0 : i ≠ 0 := by omega
  have hl' : lastF count rn st (i + 1) = ((i - 1 : Nat) : Int) := by unfold lastF; rw [if_neg (by omega), if_neg (by omega)]; omega
  by_cases h3 : i = rn + 2
  · subst h3
    have hl : lastF count rn st (rn + 2) = if (st - rn) % 8 = 0 ∧ rn + 1 < count then (rn : Int) + 1 else rn := by unfold lastF; rw [if_neg (by omega), if_pos rfl]
    by_cases hA : (st - rn) % 8 = 0 ∧ rn + 1 < count
    · rw [if_pos hA] at hl
      have hsk : Int.fmod ((numsF count rn st).getD (rn + 2) 0 - lastF count rn st (rn + 2)) 8 = 7 := by rw [hns, hl, fm8]; omega
      refine .also (rn + 1) hA.2 hh hi0 (by rw [hl]; omega) (by rw [hl', hl]; omega) (by rw [hns, hl, fm8]; omega) ?_
      rw [hsk, hl]
      rintro ⟨_, q | q⟩
      · exact absurd q (by decide)
      · rw [jump_no2 hr] at q; cases q
    · rw [if_neg hA] at hl
      have hsk : Int.fmod ((numsF count rn st).getD (rn + 2) 0 - lastF count rn st (rn + 2)) 8 = 0 := by rw [hns, hl, fm8]; omega
      exact .on (rn + 1) (by omega) hh hl' (by rw [if_neg hi0, hsk, hl]; omega) (.inr (.inl (by rw [if_neg hi0, hsk])))
  · have hl : lastF count rn st i = (i : Int) - 2 := by unfold lastF; rw [if_neg (by omega), if_neg h3]
    have hsk : Int.fmod ((numsF count rn st).getD i 0 - lastF count rn st i) 8 = 0 := by rw [hns, hl, fm8]; omega
    exact .on (i - 1) (by omega) hh hl' (by rw [if_neg hi0, hsk, hl]; omega) (.inr (.inl (by rw [if_neg hi0, hsk])))
theorem homes_F {count rn : Nat} {st : Int} (hr : rn < count) : homesN (numsF count rn st) count = placed (homeF count rn st) count (count + 1) := by
  unfold homesN
  rw [numsF_len (by omega) hr, run (last := lastF count rn st) (home := homeF count rn st) (by unfold lastF; rw [if_pos (by omega)]; rfl) (count + 1) fun i hi => turns_F hr i hi]
theorem homeF_lt {count rn : Nat} {st : Int} (hr : rn < count) (i : Nat) (hi : i < count + 1) (k : Nat) (h : homeF count rn st i = some k) : k < count := by
  unfold homeF at h
  split at h
  · cases h; omega
  · split at h
    · split at h
      · rename_i q; cases h; exact q.2
      · split at h
        · cases h; exact hr
        · cases h
    · cases h; omega
theorem mem_placed {home : Nat → Option Nat} {count k : Nat} (n : Nat) (hk : k < count) (x : Int) : x ∈ (placed home count n).getD k [] ↔ ∃ p : Nat, p < n ∧ home p = some k ∧ x = p := by
  rw [placed_get home n hk]
  simp only [List.mem_map, List.mem_filter, List.mem_range, decide_eq_true_eq]
  constructor
  · rintro ⟨p, ⟨h1, h2⟩, h3⟩; exact ⟨p, h1, h2, h3.symm⟩
  · rintro ⟨p, h1, h2, h3⟩; exact ⟨p, ⟨h1, h2⟩, h3.symm⟩
theorem false_lawN {count rn : Nat} {st : Int} (hr : rn < count) : FalseOk count rn (homesN (numsF count rn st) count) := by
  rw [homes_F hr]
  refine ⟨placed_len .., fun i hi => ?_, fun i hi x hx => ?_, ?_⟩
  · rw [List.any_eq_true]
    refine ⟨_, (mem_placed (count + 1) hi _).mpr ⟨if i ≤ rn then i else i + 1, ?_, ?_, rfl⟩, ?_⟩
    · split <;> omega
    · unfold homeF
      by_cases h : i ≤ rn
      · rw [if_pos h, if_pos h]
      · rw [if_neg h, if_neg (by omega), if_neg (by omega), Nat.add_sub_cancel]
    · rw [beq_iff_eq]
      by_cases h : i ≤ rn
      · rw [if_pos h, if_pos (by omega)]
      · rw [if_neg h, if_neg (by omega)]; omega
  · obtain ⟨p, hp, hh, rfl⟩ := (mem_placed (count + 1) hi x).mp hx
    unfold homeF at hh
    split at hh
    · cases hh
      rw [if_pos (by omega)]
      exact .inl rfl
    · split at hh
      · exact .inr (by omega)
      · cases hh
        rw [if_neg (by omega)]
        exact .inl (by omega)
  · refine (flatten_placed (count + 1) (fun i hi k h => homeF_lt hr i hi k h)).trans (List.Perm.of_eq ?_)
    unfold dueF
    rw [List.filter_map]
    congr 1
    refine List.filter_congr fun p hp => ?_
    have hp' : p < count + 1 := List.mem_range.mp hp
    show (homeF count rn st p).isSome = (decide ((p : Int) ≠ (rn : Int) + 1) || (placed (homeF count rn st) count (count + 1)).any fun row => row.any fun x => x == (p : Int))
    cases e : homeF count rn st p with
    | some k =>
      have hk := homeF_lt hr p hp' k e
      have : ((placed (homeF count rn st) count (count + 1)).any fun row => row.any fun x => x == (p : Int)) = true := by
        rw [List.any_eq_true]
        have hkl : k < (placed (homeF count rn st) count (count + 1)).length := by rw [placed_len]; exact hk
        refine ⟨(placed (homeF count rn st) count (count + 1)).getD k [], ?_, ?_⟩
        · rw [List.getD_eq_getElem?_getD, List.getElem?_eq_getElem hkl]; exact List.getElem_mem hkl
        · rw [List.any_eq_true]
          exact ⟨p, (mem_placed (count + 1) hk _).mpr ⟨p, hp', e, rfl⟩, by rw [beq_iff_eq]⟩
      rw [this, Bool.or_true]; rfl
    | none =>
      have hpr : p = rn + 1 := by
        unfold homeF at e
        split at e
        · cases e
        · split at e
          · assumption
          · cases e
      have : ((placed (homeF count rn st) count (count + 1)).any fun row => row.any fun x => x == (p : Int)) = false := by
        rw [List.any_eq_false]
        intro row hrow
        obtain ⟨k, hk, rfl⟩ := List.getElem_of_mem hrow
        have hkc : k < count := by rwa [placed_len] at hk
        rw [List.any_eq_true]
        rintro ⟨x, hx, hxe⟩
        rw [beq_iff_eq] at hxe
        have hx2 : x ∈ (placed (homeF count rn st) count (count + 1)).getD k [] := by rw [List.getD_eq_getElem?_getD, List.getElem?_eq_getElem hk]; exact hx
        obtain ⟨p', _, hp2, hp3⟩ := (mem_placed (count + 1) hkc x).mp hx2
        have : p' = p := by omega
        rw [this, e] at hp2; cases hp2
      rw [this, Bool.or_false, decide_eq_false (by omega)]; rfl
theorem false_law {count : Nat} {r st : Int} (_hc1 : 1 ≤ count) (_hc2 : count ≤ 20) (hr0 : 0 ≤ r) (hr1 : r < count) (_hs0 : 0 ≤ st) (_hs1 : st < 8) : FalseOk count r (homesN (numsF count r st) count) := by
  obtain ⟨rn, rfl⟩ := Int.eq_ofNat_of_zero_le hr0
  exact false_lawN (by omega)
end

section
theorem kept_mem {gs : List Int} {n : Nat} {x : Int} (h : x ∈ keptN gs n) : 0 ≤ x ∧ x < n := by
  unfold keptN at h
  obtain ⟨p, hp, rfl⟩ := List.mem_map.mp (List.mem_filter.mp h).1
  have := List.mem_range.mp hp
  exact ⟨Int.natCast_nonneg _, Int.ofNat_lt.mpr this⟩
theorem kept_sorted (gs : List Int) (n : Nat) : (keptN gs n).Pairwise (· < ·) := by
  unfold keptN
  refine List.Pairwise.filter _ ?_
  rw [List.pairwise_map]
  exact List.Pairwise.imp (fun h => Int.ofNat_lt.mpr h) List.pairwise_lt_range
theorem kept_few (gs : List Int) (n : Nat) : n ≤ (keptN gs n).length + gs.countP (fun g => decide (g < (n : Int))) := by
  induction n with
  | zero => omega
  | succ n ih =>
    have key : gs.countP (fun g => decide (g < (n : Int))) + (if (gs.any (· == (n : Int))) = true then 1 else 0) ≤ gs.countP (fun g => decide (g < ((n + 1 : Nat) : Int))) := by
      clear ih
      induction gs with
      | nil => simp
      | cons g r ih =>
        rw [List.countP_cons, List.countP_cons, List.any_cons]
        by_cases e : g = (n : Int)
        · subst e
          simp only [beq_self_eq_true, Bool.true_or, if_true]
          rw [decide_eq_false (by omega), decide_eq_true (by omega)]
          have : r.countP (fun g => decide (g < (n : Int))) ≤ r.countP (fun g => decide (g < ((n + 1 : Nat) : Int))) := by
            refine Nat.le_trans (Nat.le_add_right _ _) ih
          simp only [if_true, Bool.false_eq_true, if_false]
          omega
        · rw [beq_eq_false_iff_ne.mpr e, Bool.false_or]
          by_cases e2 : g < (n : Int)
          · rw [decide_eq_true e2, decide_eq_true (by omega)]
            simp only [if_true]
            omega
          · rw [decide_eq_false e2, decide_eq_false (by omega)]
            simp only [Bool.false_eq_true, if_false]
            omega
    rw [keptN_succ, List.length_append]
    cases h : gs.any (· == (n : Int)) with
    | true =>
      rw [h, if_pos rfl] at key
      rw [if_neg (by decide)]
      simp only [List.length_nil]
      omega
    | false =>
      rw [h, if_neg (by decide)] at key
      rw [if_pos (by decide)]
      simp only [List.length_singleton]
      omega
structure KOk (ks : List Int) (n : Nat) : Prop where
  pos : 1 ≤ ks.length
  first : ks.getD 0 0 = 0
  lt : ∀ j < ks.length, ks.getD j 0 < n
  mono : ∀ a b : Nat, a < b → b < ks.length → ks.getD a 0 + ((b : Int) - a) ≤ ks.getD b 0
  few : n ≤ ks.length + 4
theorem getD_at {l : List Int} {j : Nat} (h : j < l.length) : l.getD j 0 = l[j] := by
  rw [List.getD_eq_getElem?_getD, List.getElem?_eq_getElem h]; rfl
theorem kept_ok {gs : List Int} {n : Nat} (hg : ∀ g ∈ gs, 1 ≤ g) (hl : gs.length ≤ 4) (hn : 1 ≤ n) : KOk (keptN gs n) n := by
  have hp := keptN_pos gs n hn hg
  have hs := kept_sorted gs n
  have h1 : 1 ≤ (keptN gs n).length := by
    cases e : keptN gs n with
    | nil => rw [e] at hp; simp at hp
    | cons => simp
  refine ⟨h1, ?_, fun j hj => ?_, fun a b hab hb => ?_, ?_⟩
  · rw [List.getD_eq_getElem?_getD, hp]; rfl
  · rw [getD_at hj]; exact (kept_mem (List.getElem_mem hj)).2
  · induction b with
    | zero => omega
    | succ b ih =>
      have hstep : (keptN gs n).getD b 0 < (keptN gs n).getD (b + 1) 0 := by
        rw [getD_at hb, getD_at (by omega)]
        exact List.pairwise_iff_getElem.mp hs b (b + 1) (by omega) hb (by omega)
      by_cases e : a = b
      · subst e; omega
      · have := ih (by omega) (by omega)
        omega
  · have := kept_few gs n
    have h2 : gs.countP (fun g => decide (g < (n : Int))) ≤ gs.length := List.countP_le_length
    omega
def numsL (ks : List Int) : List Int := [-1] ++ (ks.drop 1).map fun k => Int.fmod (k - 1) 8
theorem numsL_len {ks : List Int} (h : 1 ≤ ks.length) : (numsL ks).length = ks.length := by
  simp [numsL]; omega
theorem numsL_get {ks : List Int} {j : Nat} (h1 : 1 ≤ j) (h2 : j < ks.length) : (numsL ks).getD j 0 = (ks.getD j 0 - 1) % 8 := by
  obtain ⟨i, rfl⟩ : ∃ i, j = i + 1 := ⟨j - 1, by omega⟩
  simp only [numsL, List.singleton_append, List.getD_cons_succ]
  rw [List.getD_eq_getElem?_getD, List.getElem?_map, List.getElem?_drop, Nat.add_comm 1 i, List.getElem?_eq_getElem h2, getD_at h2]
  show Int.fmod (ks[i + 1] - 1) 8 = _
  rw [fm8]
theorem KOk.ge {ks : List Int} {n : Nat} (K : KOk ks n) {a : Nat} (ha : a < ks.length) : (a : Int) ≤ ks.getD a 0 := by
  cases a with
  | zero => rw [K.first]; exact Int.le_refl _
  | succ a =>
    have := K.mono 0 (a + 1) (by omega) ha
    rw [K.first] at this
    omega
theorem KOk.le {ks : List Int} {n : Nat} (K : KOk ks n) {a : Nat} (ha : a < ks.length) : ks.getD a 0 ≤ a + 4 := by
  have h1 := K.lt (ks.length - 1) (by have := K.pos; omega)
  have h3 := K.few
  by_cases e : a = ks.length - 1
  · rw [e]; omega
  · have h2 := K.mono a (ks.length - 1) (by omega) (by omega)
    omega
theorem folLat_no {ks : List Int} {n i t : Nat} (K : KOk ks n) (hi : 1 ≤ i) (hil : i < ks.length) (hg : ks.getD (i - 1) 0 + 1 < ks.getD i 0) (v : Int) (hv : v = ks.getD (i - 1) 0 - 1) : folAt (numsL ks) i v t = 0 := by
  unfold folAt
  rw [numsL_len K.pos]
  refine if_neg fun q => ?_
  obtain ⟨q1, q2⟩ := q
  have hb : i + (1 + t) < ks.length := by omega
  have e : ((i : Int) + (1 + (t : Int))).toNat = i + (1 + t) := by omega
  rw [e, numsL_get (by omega) hb, fm8, hv] at q2
  have h1 := K.mono i (i + (1 + t)) (by omega) hb
  have h2 := K.le hb
  have h3 := K.ge (a := i - 1) (by omega)
  omega
theorem folL_no {ks : List Int} {n i : Nat} (K : KOk ks n) (hi : 1 ≤ i) (hil : i < ks.length) (hg : ks.getD (i - 1) 0 + 1 < ks.getD i 0) {v : Int} (hv : v = ks.getD (i - 1) 0 - 1) : folN (numsL ks) i v 3 = 0 := by
  show 0 + folAt (numsL ks) i v 0 + folAt (numsL ks) i v 1 + folAt (numsL ks) i v 2 = _
  rw [folLat_no K hi hil hg v hv, folLat_no K hi hil hg v hv, folLat_no K hi hil hg v hv]; rfl
theorem folLat_ge (ns : List Int) (a v : Int) (t : Nat) : 0 ≤ folAt ns a v t := by unfold folAt; split <;> decide
theorem folL_ge (ns : List Int) (a v : Int) : 0 ≤ folN ns a v 3 := by
  show 0 ≤ 0 + folAt ns a v 0 + folAt ns a v 1 + folAt ns a v 2
  have := folLat_ge ns a v 0
  have := folLat_ge ns a v 1
  have := folLat_ge ns a v 2
  omega
def homeL (ks : List Int) (p : Nat) : Option Nat := if p < ks.length then some (ks.getD p 0).toNat else none
def lastL (ks : List Int) (i : Nat) : Int := if i = 0 then -1 else ks.getD (i - 1) 0
theorem turns_L {ks : List Int} {n count : Nat} (K : KOk ks n) (hc : n ≤ count) (i : Nat) (hi : i < ks.length) : Turn (numsL ks) count (homeL ks) (lastL ks) i := by
  have hge := K.ge hi
  have hlt := K.lt i hi
  have hh : homeL ks i = some (ks.getD i 0).toNat := if_pos hi
  have hl' : lastL ks (i + 1) = ks.getD i 0 := by unfold lastL; rw [if_neg (Nat.succ_ne_zero i), Nat.add_sub_cancel]
  have ek : (((ks.getD i 0).toNat : Nat) : Int) = ks.getD i 0 := by omega
  by_cases h0 : i = 0
  · refine .on (ks.getD i 0).toNat (by omega) hh (by rw [hl', ek]) ?_ (.inl h0)
    rw [if_pos h0, ek, h0, K.first]
    rfl
  · have hl : lastL ks i = ks.getD (i - 1) 0 := if_neg h0
    have hm := K.mono (i - 1) i (by omega) hi
    have hle := K.le hi
    have hg1 := K.ge (a := i - 1) (by omega)
    have hsk : Int.fmod ((numsL ks).getD i 0 - lastL ks i) 8 = ks.getD i 0 - ks.getD (i - 1) 0 - 1 := by
      rw [numsL_get (by omega) hi, hl, fm8]; omega
    refine .on (ks.getD i 0).toNat (by omega) hh (by rw [hl', ek]) ?_ (.inr ?_)
    · rw [if_neg h0, hsk, hl, ek]; omega
    · rw [if_neg h0, hsk]
      by_cases hz : ks.getD i 0 - ks.getD (i - 1) 0 - 1 = 0
      · exact .inl hz
      · refine .inr ?_
        unfold isJumpN
        rw [folL_no K (by omega) hi (by omega) (v := lastL ks i + 1 - 2) (by rw [hl]; omega)]
        have hf := folL_ge (numsL ks) i (lastL ks i + 1 + (ks.getD i 0 - ks.getD (i - 1) 0 - 1) - 1)
        simp only [Bool.and_eq_true, Bool.or_eq_true, decide_eq_true_eq]
        rw [hl] at hf ⊢
        omega
theorem homes_L {ks : List Int} {n count : Nat} (K : KOk ks n) (hc : n ≤ count) : homesN (numsL ks) count = placed (homeL ks) count ks.length := by
  unfold homesN
  rw [numsL_len K.pos, run (last := lastL ks) (home := homeL ks) rfl ks.length fun i hi => turns_L K hc i hi]
theorem filter_one {l i : Nat} {q : Nat → Bool} (hi : i < l) (h : ∀ p < l, q p = true ↔ p = i) : (List.range l).filter q = [i] := by
  induction l with
  | zero => omega
  | succ l ih =>
    rw [List.range_succ, List.filter_append, List.filter_cons, List.filter_nil]
    by_cases e : i = l
    · subst e
      have h0 : (List.range i).filter q = [] := by
        rw [List.filter_eq_nil_iff]
        intro p hp hq
        have hp' := List.mem_range.mp hp
        have := (h p (by omega)).mp hq
        omega
      rw [h0, if_pos ((h i (by omega)).mpr rfl)]
      rfl
    · have hl : ¬ q l = true := fun hq => e ((h l (by omega)).mp hq).symm
      rw [if_neg hl, List.append_nil]
      exact ih (by omega) fun p hp => h p (by omega)
theorem due_L {ks : List Int} {n : Nat} (K : KOk ks n) (count : Nat) : placed (homeL ks) count ks.length = dueN ks count := by
  unfold placed dueN
  refine List.map_congr_left fun k hk => ?_
  by_cases h : (ks.any fun x => x == (k : Int)) = true
  · rw [if_pos h]
    have hx : ∃ x ∈ ks, (x == (k : Int)) = true := List.any_eq_true.mp h
    have hil : ks.findIdx (· == (k : Int)) < ks.length := List.findIdx_lt_length_of_exists hx
    have hat : ks.getD (ks.findIdx (· == (k : Int))) 0 = k := by
      rw [getD_at hil]
      have := List.findIdx_getElem (p := (· == (k : Int))) (w := hil)
      exact beq_iff_eq.mp this
    rw [filter_one hil fun p hp => ?_]
    · rfl
    · unfold homeL
      rw [if_pos hp, decide_eq_true_eq, Option.some.injEq]
      have hge := K.ge hp
      constructor
      · intro e
        have e2 : ks.getD p 0 = k := by omega
        rcases Nat.lt_trichotomy p (ks.findIdx (· == (k : Int))) with q | q | q
        · have := K.mono _ _ q hil
          omega
        · exact q
        · have := K.mono _ _ q hp
          omega
      · rintro rfl
        rw [hat]; rfl
  · rw [if_neg h]
    have h0 : (List.range ks.length).filter (fun p => decide (homeL ks p = some k)) = [] := by
      rw [List.filter_eq_nil_iff]
      intro p hp hq
      have hp' := List.mem_range.mp hp
      unfold homeL at hq
      rw [if_pos hp', decide_eq_true_eq, Option.some.injEq] at hq
      have hge := K.ge hp'
      apply h
      rw [List.any_eq_true]
      refine ⟨ks[p], List.getElem_mem hp', ?_⟩
      rw [beq_iff_eq]
      rw [getD_at hp'] at hq hge
      omega
    rw [h0]; rfl
theorem lost_law {gs : List Int} {n count : Nat} (hg : ∀ g ∈ gs, 1 ≤ g) (hl : gs.length ≤ 4) (hn : 1 ≤ n) (hc : n ≤ count) (_hc2 : count ≤ 20) : homesN ([-1] ++ ((keptN gs n).drop 1).map fun k => Int.fmod (k - 1) 8) count = dueN (keptN gs n) count := by
  have K := kept_ok hg hl hn
  have h := homes_L K hc
  rw [due_L K count] at h
  exact h
end

section
theorem words_10 : True := by
  k_with_none
  (k_with "my_enter" =>
    (
      (case k6 => k_is)
      (case k7 => k_is)
      (case k8 => ktr_room)
      (case k9 => rfl)
      (case kB => exact locs rfl)
      (case c2 => exact rfl)
      (case c3 => exact rfl)
      (case c4 => exact rfl)
      (case c5 => decide)))
  (k_with "my_fin" =>
    (
      (try dsimp only)
      (try k_unfold)
      (try dsimp only)))
  (k_with "my_read" =>
    ((try dsimp only); first
      | exact rfl
      | (with_reducible assumption)
      | exact if_pos rfl
      | (refine Eq.trans (if_neg (by decide)) ?_; walk_at "my_read")
      | fail "my_read"))
  (k_with "eval Name" =>
    (k_here; k_dflt (refine' nameX_L ?zqF ?zqv ?_ ?zqa ?zqb; (case zqF => k_asm); (case zqa => rfl); (case zqb => rfl); (case zqv => walk_at "my_read"); k_whole)))
  (k_with "my_room" =>
    (have hcL9 := cLine_is; first | ktr_room | ktr_units | (dsimp only [ktrTop, Around.deeper] at *; simp only [recursionLimit] at *; omega)))
  (k_with "call ref" =>
    refine toHalt ?_)
  (k_with "exec Assign cons ListComp" =>
    refine toHalt ?_)
  (k_with "eval ListComp" =>
    refine toHalt ?_)
  (k_with "CompSrc" =>
    refine toHalt ?_)
  (k_with "CompSrcT" =>
    refine toHalt ?_)
  (k_with "CompEnd" =>
    refine toHalt ?_)
  (k_with "UnrEnd" =>
    refine toHalt ?_)
  (k_with "om" =>
    first | ((repeat (with_reducible rename (_ ∧ _) => zz; clear zz)); omega) | omega)
  (k_with "my_enterC" =>
    (
      (case k6 => k_is)
      (case k7 => k_is)
      (case k8 => ktr_room)
      (case k9 => rfl)
      (case kB => exact rfl)
      (case kD => decide +kernel)
      (case c2 => exact rfl)
      (case c3 => exact rfl)
      (case c4 => exact rfl)))
  (k_with "call ref" =>
    ((with_reducible show wpAny _ _ (call (Value.ref 61) _) _ _ _); k_dflt (refine' c_take ?zqkB ?zqkF ?zqkX ?zqkN ?zqkT rfl ?zqkd ?zqku ?zqkU ?zqkS _ _ ?zqka ?zqkb ?_; (case zqkB => k_asm); (case zqkF => k_asm); (case zqkX => k_asm); (case zqkN => k_asm); (case zqkT => k_asm); (case zqkd => walk_at "my_room"); (case zqku => walk_at "my_room"); (case zqkU => k_updF); (case zqkS => assumption); (case zqka => first | decide | walk_at "om"); (case zqkb => first | decide | walk_at "om")); intro hq' tkq' rq' tq' oq' loq' hiq' hSq' Fq' Nq'; (try dsimp only at Nq')))
  (k_with "call type:range" =>
    ((with_reducible rename Fr _ _ _ _ => kF); (with_reducible rename News _ _ _ _ => kN); first
      | (with_unfolding_all refine range1_rows kF kN ?_; intro _ _ _ _ _ _ _ _ _)
      | (with_unfolding_all refine range2_rows kF kN ?_; intro _ _ _ _ _ _ _ _ _)))
  (k_with "subscriptTail Name Slice ref ref" =>
    (k_dflt (refine' slice1 ?zqF ?zqN ?zql ?zqp ?zqq ?zqz1 ?zqz ?_ ?zqs ?zqt; (case zqF => k_asm); (case zqN => k_asm); (case zql => kmk_list); (case zqp => kmk_part); (case zqq => kmk_part); (case zqs => with_unfolding_all rfl); (case zqt => kmk_pure); (case zqz => walk_at "om"); (case zqz1 => walk_at "om")); intro Dq' hq' Fq' Nq' lq1; (try k_lt lq1); (try k_sweep)))
  (k_with "call builtin:list.index" =>
    (k_dflt (refine' kf_index ?zqN ?zqm ?zqi ?zqe rfl ?zqz ?_; (case zqN => k_asm); (case zqm => k_mem); (case zqi => exact kf_ints_of (by assumption)); (case zqe => exact kf_at_of (by assumption) (by assumption)); (case zqz => (rw [sizeLine_eq]; (try simp only [List.toList_toArray]); walk_at "om")))))
  (k_with "compareOp Eq ref ref" =>
    refine toHalt ?_)
  trivial
abbrev LostI (L' : Nat) (src : Addr) (count : Nat) (ob : Obj) (i : Nat) (m₁ : Str → Option Value) (news₁ : Led) : Prop := ∃ G gs vs n oS oc, news₁ = [(G, listOf (List.toArray vs) n), (L' + 1 + 1, ob), (L' + 1, oc), (src, oS)] ∧ oc.data = .cell (some (.ref G)) ∧ SrcOk oS ∧ IntsAre vs gs ∧ gs.length ≤ i ∧ (∀ g ∈ gs, 1 ≤ g) ∧
    (L' + 1 + 1 < G ∧ L' + 1 < G ∧ @LT.lt Nat instLTNat src G) ∧ m₁ (Str.ofString "source") = some (.ref src) ∧ ∃ t, m₁ (Str.ofString "count") = some (.int count t)
theorem c_lost {src : Addr} {o : Obj} {led : Led} {gg : Obj → Led} (B : Below A₀ base outer h₀) (F : Fr h₀ L s.heap m) (X : Frag.In (hd.heap_39 w.params) h₀) (N : News h₀ L s.heap led) (T : Top p loose mean mg mb h₀) (hk : cs.kind = .function)
    (hdp : dp + 30 < recursionLimit) (hun : un + 200 < cLine) (U : UpdF src o led gg) (hS : SrcOk o) (count : Nat) (tc : Tok) (hc1 : 1 ≤ count) (hc2 : count ≤ 20)
    (ret : ∀ h' tk' o', SrcOk o' → Fr h₀ L h' m → News h₀ L h' (gg o') → Q (.bool true) { s with heap := h', toks := tk' }) :
    wpAny (model prog w) (ktrTop dp un gd cn cs L a ccd cl outer) (call (.ref 66) [.ref src, .int count tc]) Q E s := by
  obtain ⟨pre, post, rfl, hg, hpre, hpost⟩ := U.split
  k_dflt (refine' enterC (ex := [(src, o)]) (rest := pre ++ post) (binds := [(Str.ofString "source", .ref src), (Str.ofString "count", .int count tc)]) B F X (mid_news N) T (mid_dis hpre hpost) rfl rfl hk ?k6 ?k7 ?k8 ?k9 ?kB ?kD ?_ ?c2 ?c3 ?c4; walk_at "my_enterC")
  intro g' L' h' tk9 cells' hL FG' NG' l1 F' N' Y' B' X' T' kp'
  have hsrc : @LT.lt Nat instLTNat src L' := l1 _ (.head _)
  k_cells Y'
  (try simp only [List.cons_append, List.nil_append] at N')
  (try dsimp only)
  (try k_fold)
  k_steps
  refine loop_to (LostI L' src count _) rfl (by assumption) (by assumption) (by walk_at "om") (by assumption) (by assumption) ⟨_, [], [], _, _, _, rfl, by assumption, by assumption, .nil, Nat.le_refl _, fun _ h => (nomatch h), by assumption, by walk_at "my_read", _, by walk_at "my_read"⟩ ?_ ?_
  · rintro i m₁ news₁ I t h tk9 hi9 ⟨G, gs, vs, n, oS, oc, rfl, hdc, hSO, hia, hgl, hgs, lG, hm1, tc9, hm2⟩ off9 hI F1 N1
    have oG : @Ne Nat G I := off9 _ (.head _)
    have oK : @Ne Nat (L' + 1 + 1) I := off9 _ (.tail _ (.head _))
    have oC : @Ne Nat (L' + 1) I := off9 _ (.tail _ (.tail _ (.head _)))
    have oS1 : @Ne Nat src I := off9 _ (.tail _ (.tail _ (.tail _ (.head _))))
    k_steps
    refine Halt.out (UnrEnd.intro (by k_asm) (by k_asm) _ (fun _ h => h) (fun q hq => ?_) ⟨G, gs ++ [_], vs ++ [_], n + 1, _, oc, by rw [← List.push_toArray], hdc, by assumption, IntsAre.append hia (.cons _ _ .nil), by rw [List.length_append]; exact Nat.succ_le_succ hgl, fun g hg => ?_, lG, by walk_at "my_read", _, by walk_at "my_read"⟩)
    · simp only [List.mem_cons, List.not_mem_nil, or_false] at hq
      rcases hq with rfl | rfl | rfl | rfl
      · exact oG
      · exact oK
      · exact oC
      · exact oS1
    · rcases List.mem_append.mp hg with h | h
      · exact hgs g h
      · rw [List.mem_singleton.mp h]; walk_at "om"
  · rintro m₁ news₁ h tk9 ⟨G, gs, vs, n, oS, oc, rfl, hdc, hSO, hia, hgl, hgs, lG, hm1, tc9, hm2⟩ F1 N1
    k_steps
    refine Halt.out ?_
    refine wpAny_Assign_Name ?_
    k_steps
    refine Halt.out ?_
    k_dflt (refine LCt.ListComp_T (F₀ := by k_asm) (by with_unfolding_all rfl) (by decide) (by rfl) (by decide) (by rfl) ?_)
    k_steps
    refine Halt.out ?_
    refine srcT_to rfl (by k_asm) (by k_asm) (by assumption) end_lo (end_hi hc2 (by assumption) (by assumption) (by assumption) (by assumption)) ?_
    intro g1 n9 hn9
    obtain ⟨hn1, hn2⟩ := end_bounds hn9 hc1 (by assumption) (by assumption) (by assumption) (by assumption)
    clear hn9
    refine comp_invT (fun i ys news₁ => news₁ = [(G, listOf (List.toArray vs) n), (L' + 1 + 1, _), (L' + 1, oc), (src, _)] ∧ IntsAre ys (keptN gs i)) ⟨rfl, .nil⟩ ?_ ?_
    · rintro i ys news₁ v I oI C oC D m₂ h tk9 E' hi ⟨rfl, hys⟩ ⟨tv, hv⟩ hC hx F1 N1 off ne
      rw [Int.zero_add] at hv
      subst hv
      k_steps
      · refine Halt.out (LCg.CompEnd.intro (by k_asm) (by k_asm) _ (fun _ h => h) off trivial ⟨rfl, ?_⟩)
        have h9 : (gs.any fun x => x == (i : Int)) = true := by assumption
        rw [keptN_succ, h9, if_neg (by decide), List.append_nil]
        exact hys
      · refine Halt.out (LCg.CompEnd.intro (by k_asm) (by k_asm) _ (fun _ h => h) off trivial ⟨rfl, ?_⟩)
        have h9 : (gs.any fun x => x == (i : Int)) = false := by assumption
        rw [keptN_succ, h9, if_pos (by rfl)]
        exact IntsAre.append hys (.cons _ _ .nil)
    · rintro ys news' ⟨rfl, hys⟩
      have hyl : ys.length ≤ 20 := by rw [IntsAre.length hys]; have := keptN_le gs n9; walk_at "om"
      have hp0 := keptN_pos gs n9 hn1 hgs
      have hy1 : 1 ≤ ys.length := by
        rw [IntsAre.length hys]
        cases e : keptN gs n9 with
        | nil => rw [e] at hp0; simp at hp0
        | cons => simp
      k_steps
      refine Halt.out ?_
      k_dflt (refine LCg.ListComp_U (F₀ := by k_asm) (by with_unfolding_all rfl) (by decide) (by rfl) (by decide) (by rfl) ?_)
      k_steps
      refine Halt.out ?_
      refine LCg.CompSrc.ledger rfl (by k_asm) (by k_asm) (by k_mem) (by rw [sizeLine_eq, List.size_toArray, List.length_drop]; walk_at "om") ?_
      intro g2
      have hyd := ints_drop hys 1
      have hydl : (ys.drop 1).length = ((keptN gs n9).drop 1).length := IntsAre.length hyd
      refine comp_inv (fun i zs news₁ => news₁ = _ ∧ IntsAre zs ((((keptN gs n9).drop 1).take i).map fun k => Int.fmod (k - 1) 8)) ⟨rfl, .nil⟩ ?_ ?_
      · rintro i zs news₁ v I oI C oC D m₂ h tk9 E' hi ⟨rfl, hzs⟩ hv hC hx F1 N1 off ne
        obtain ⟨hi9, tv, hv⟩ := ints_get hyd hv
        subst hv
        k_steps
        refine Halt.out (LCg.CompEnd.intro (by k_asm) (by k_asm) _ (fun _ h => h) off (.inr ⟨_, by k_mem, rfl, _, rfl⟩) ⟨rfl, ?_⟩)
        rw [numsN_snoc hi9]
        exact IntsAre.append hzs (.cons _ _ .nil)
      · rintro zs news' ⟨rfl, hzs⟩
        rw [show (ys.drop 1).toArray.size = ((keptN gs n9).drop 1).length by rw [List.size_toArray, hydl], List.take_length] at hzs
        have hzl : zs.length ≤ 20 := by rw [IntsAre.length hzs, List.length_map, ← hydl, List.length_drop]; walk_at "om"
        k_steps
        refine Halt.out ?_
        k_dflt (refine LCg.Assign_ListComp_U (F₀ := by k_asm) (by rfl) (by with_unfolding_all rfl) (by with_unfolding_all rfl) (by decide) (by rfl) (by decide) (by rfl) (by rfl) (by rfl) ?_)
        k_steps
        refine Halt.out ?_
        refine src_to rfl (by k_asm) (by k_asm) (by assumption) (by walk_at "om") (by walk_at "om") ?_
        intro g3 n8 hn8
        obtain rfl : n8 = count := by walk_at "om"
        clear hn8
        refine comp_inv (fun i xs news₁ => ∃ rows, news₁ = _ :: _ :: _ :: _ :: _ :: _ :: _ :: _ :: _ :: rows ∧ xs = refs rows ∧ RowsAre rows (dueN (keptN gs n9) i)) ⟨[], rfl, rfl, rfl, fun i r ms hr => by simp at hr⟩ ?_ ?_
        · rintro i xs news₁ v I oI C oC D m₂ h tk9 E' hi ⟨rows, rfl, rfl, hR⟩ ⟨tv, hv⟩ hC hx F1 N1 off ne
          rw [Int.zero_add] at hv
          subst hv
          k_steps
          · (with_reducible rename (I < _ ∧ _) => hlt)
            (with_reducible rename (News _ _ _ (_ :: (I, _) :: _)) => N9)
            have h9 : ((keptN gs n9).any fun x => x == (i : Int)) = true := by assumption
            refine Halt.out (compEnd_row (base := [_, _, _, _, _, _, _, _, _]) (by k_asm) N9 off ⟨hlt.1, hlt.2.1, hlt.2.2.1⟩ ⟨_, rfl, (refs_snoc _ _ _).symm, ?_⟩)
            rw [dueN_succ, if_pos h9]
            exact rows_snoc hR (.cons _ _ .nil)
          · (with_reducible rename (I < _ ∧ _) => hlt)
            (with_reducible rename (News _ _ _ (_ :: (I, _) :: _)) => N9)
            have h9 : ((keptN gs n9).any fun x => x == (i : Int)) = false := by assumption
            refine Halt.out (compEnd_row (base := [_, _, _, _, _, _, _, _, _]) (by k_asm) N9 off ⟨hlt.1, hlt.2.1, hlt.2.2.1⟩ ⟨_, rfl, (refs_snoc _ _ _).symm, ?_⟩)
            rw [dueN_succ, h9, if_neg (by decide)]
            exact rows_snoc hR .nil
        · rintro xs news' ⟨rows, rfl, rfl, hR⟩
          k_steps
          refine Halt.out ?_
          refine c_homes_of (by k_asm) (by k_asm) (by k_asm) (by k_asm) (by k_asm) rfl (by walk_at "my_room") (by walk_at "my_room") (by kmk_list) (by assumption) (by rw [List.length_append, List.length_map, List.length_drop]; have := keptN_le gs n9; simp only [List.length_cons, List.length_nil]; walk_at "om") _ _ hc1 hc2 ?_
          intro h2 tk2 H rows2 n2 F2 N2 dis2 nd2 R2
          rw [lost_law hgs (by walk_at "om") hn1 hn2 hc2] at R2
          k_steps
          refine Halt.out ?_
          refine eq_rows N2 (fun q hq => List.mem_append_left _ (.tail _ hq)) (rows' := rows) (fun q hq => List.mem_append_right _ (by simp only [List.mem_cons]; exact .inr (.inr (.inr (.inr (.inr (.inr (.inr (.inr (.inr (.inr hq))))))))))) (.head _) (List.mem_append_right _ (.head _)) R2 hR (fun q hq r hr => (dis2 r (by simp only [List.mem_cons]; exact .inr (.inr (.inr (.inr (.inr (.inr (.inr (.inr (.inr (.inr hr)))))))))) q (.tail _ hq)).symm) (by walk_at "my_room") ?_
          have N9 : News g' L' h2 [(src, _)] := fun q hq => N2 q (by rw [List.mem_singleton.mp hq]; exact List.mem_append_right _ (.tail _ (.tail _ (.tail _ (.tail _ (.tail _ (.tail _ (.tail _ (.tail _ (.tail _ (.head _)))))))))))
          have bb := ret_upd hg FG' NG' F2 N9
          exact ret _ _ _ (by assumption) bb.1 bb.2
end

section
theorem words_11 : True := by
  k_with_none
  (k_with "my_enter" =>
    (
      (case k6 => k_is)
      (case k7 => k_is)
      (case k8 => ktr_room)
      (case k9 => rfl)
      (case kB => exact locs rfl)
      (case c2 => exact rfl)
      (case c3 => exact rfl)
      (case c4 => exact rfl)
      (case c5 => decide)))
  (k_with "my_fin" =>
    (
      (try dsimp only)
      (try k_unfold)
      (try dsimp only)))
  (k_with "my_read" =>
    ((try dsimp only); first
      | exact rfl
      | (with_reducible assumption)
      | exact if_pos rfl
      | (refine Eq.trans (if_neg (by decide)) ?_; walk_at "my_read")
      | fail "my_read"))
  (k_with "eval Name" =>
    (k_here; k_dflt (refine' nameX_L ?zqF ?zqv ?_ ?zqa ?zqb; (case zqF => k_asm); (case zqa => rfl); (case zqb => rfl); (case zqv => walk_at "my_read"); k_whole)))
  (k_with "my_room" =>
    (have hcL9 := cLine_is; first | ktr_room | ktr_units | (dsimp only [ktrTop, Around.deeper] at *; simp only [recursionLimit] at *; omega)))
  (k_with "call ref" =>
    refine toHalt ?_)
  (k_with "exec Assign cons ListComp" =>
    refine toHalt ?_)
  (k_with "eval ListComp" =>
    refine toHalt ?_)
  (k_with "CompSrc" =>
    refine toHalt ?_)
  (k_with "CompSrcT" =>
    refine toHalt ?_)
  (k_with "CompEnd" =>
    refine toHalt ?_)
  (k_with "UnrEnd" =>
    refine toHalt ?_)
  (k_with "om" =>
    first | ((repeat (with_reducible rename (_ ∧ _) => zz; clear zz)); omega) | omega)
  (k_with "my_enterC" =>
    (
      (case k6 => k_is)
      (case k7 => k_is)
      (case k8 => ktr_room)
      (case k9 => rfl)
      (case kB => exact rfl)
      (case kD => decide +kernel)
      (case c2 => exact rfl)
      (case c3 => exact rfl)
      (case c4 => exact rfl)))
  (k_with "call ref" =>
    ((with_reducible show wpAny _ _ (call (Value.ref 61) _) _ _ _); k_dflt (refine' c_take ?zqkB ?zqkF ?zqkX ?zqkN ?zqkT rfl ?zqkd ?zqku ?zqkU ?zqkS _ _ ?zqka ?zqkb ?_; (case zqkB => k_asm); (case zqkF => k_asm); (case zqkX => k_asm); (case zqkN => k_asm); (case zqkT => k_asm); (case zqkd => walk_at "my_room"); (case zqku => walk_at "my_room"); (case zqkU => k_updF); (case zqkS => assumption); (case zqka => first | decide | walk_at "om"); (case zqkb => first | decide | walk_at "om")); intro hq' tkq' rq' tq' oq' loq' hiq' hSq' Fq' Nq'; (try dsimp only at Nq')))
  (k_with "call type:range" =>
    ((with_reducible rename Fr _ _ _ _ => kF); (with_reducible rename News _ _ _ _ => kN); first
      | (with_unfolding_all refine range1_rows kF kN ?_; intro _ _ _ _ _ _ _ _ _)
      | (with_unfolding_all refine range2_rows kF kN ?_; intro _ _ _ _ _ _ _ _ _)))
  (k_with "subscriptTail Name Slice ref ref" =>
    (k_dflt (refine' slice1 ?zqF ?zqN ?zql ?zqp ?zqq ?zqz1 ?zqz ?_ ?zqs ?zqt; (case zqF => k_asm); (case zqN => k_asm); (case zql => kmk_list); (case zqp => kmk_part); (case zqq => kmk_part); (case zqs => with_unfolding_all rfl); (case zqt => kmk_pure); (case zqz => walk_at "om"); (case zqz1 => walk_at "om")); intro Dq' hq' Fq' Nq' lq1; (try k_lt lq1); (try k_sweep)))
  (k_with "call builtin:list.index" =>
    (k_dflt (refine' kf_index ?zqN ?zqm ?zqi ?zqe rfl ?zqz ?_; (case zqN => k_asm); (case zqm => k_mem); (case zqi => exact kf_ints_of (by assumption)); (case zqe => exact kf_at_of (by assumption) (by assumption)); (case zqz => (rw [sizeLine_eq]; (try simp only [List.toList_toArray]); walk_at "om")))))
  (k_with "compareOp Eq ref ref" =>
    refine toHalt ?_)
  (k_with "my_sum" =>
    (rw [sizeLine_eq]; (try simp only [List.length_append, List.length_take, List.length_drop, List.length_map, List.length_range, List.length_cons, List.length_nil]); walk_at "om"))
  (k_with "binaryOp Add ref ref" =>
    (k_dflt (refine' kmk_add_ints ?zqF ?zqN ?zqa ?zqb ?zqi ?zqj ?_ ?zqz; (case zqF => k_asm); (case zqN => k_asm); (case zqa => kmk_list); (case zqb => kmk_list); (case zqi => first | assumption | exact .cons _ _ .nil); (case zqj => first | assumption | exact .cons _ _ .nil); (case zqz => walk_at "my_sum")); intro Dq' wsq' hq' Fq' Nq' lq1 hIq'; (try k_lt lq1); (try k_sweep)))
  (k_with "subscriptTail Name Slice ref ref" =>
    (k_dflt (refine' slice_to ?zqF ?zqN ?zql ?zqhi ?zqp ?zqq ?zqz1 ?zqz ?_ ?zqs ?zqt; (case zqF => k_asm); (case zqN => k_asm); (case zql => kmk_list); (case zqhi => assumption); (case zqp => kmk_part); (case zqq => kmk_part); (case zqs => with_unfolding_all rfl); (case zqt => kmk_pure); (case zqz => (try simp only [List.length_append, List.length_take, List.length_drop, List.length_map, List.length_range, List.length_cons, List.length_nil]); walk_at "om"); (case zqz1 => walk_at "om")); intro Dq' usq' hq' Fq' Nq' lq1 hIq'; (try k_lt lq1); (try k_sweep)))
  (k_with "subscriptTail Name Slice ref ref" =>
    ((with_reducible show wpAny _ _ (subscriptTail _ (PySem.Expr.Slice (some _) none none _) (Value.ref _) (Value.ref _)) _ _ _); k_dflt (refine' slice_from ?zqF ?zqN ?zql ?zqhi ?zqp ?zqq ?zqz1 ?zqz ?_ ?zqs ?zqt; (case zqF => k_asm); (case zqN => k_asm); (case zql => kmk_list); (case zqhi => assumption); (case zqp => kmk_part); (case zqq => kmk_part); (case zqs => with_unfolding_all rfl); (case zqt => kmk_pure); (case zqz => (try simp only [List.length_append, List.length_take, List.length_drop, List.length_map, List.length_range, List.length_cons, List.length_nil]); walk_at "om"); (case zqz1 => walk_at "om")); intro Dq' usq' hq' Fq' Nq' lq1 hIq'; (try k_lt lq1); (try k_sweep)))
  (k_with "exec Assign cons IfExp" =>
    refine toHalt ?_)
  trivial
theorem FalseOk.flat {count : Nat} {r : Int} {hs : List (List Int)} (h : FalseOk count r hs) : hs.flatten.length ≤ count + 1 := by
  rw [h.perm.length_eq]
  refine Nat.le_trans (List.length_filter_le _ _) ?_
  simp
theorem flat_get {hs : List (List Int)} {i : Nat} (h : i < hs.length) : (hs.getD i []).length ≤ hs.flatten.length := by
  rw [List.getD_eq_getElem?_getD, List.getElem?_eq_getElem h, Option.getD_some]
  conv => rhs; rw [← List.take_append_drop i hs, List.flatten_append, List.drop_eq_getElem_cons h, List.flatten_cons]
  simp only [List.length_append]; walk_at "om"
theorem FalseOk.row {count : Nat} {r : Int} {hs : List (List Int)} (h : FalseOk count r hs) (i : Nat) (hi : i < count) : (hs.getD i []).length ≤ count + 1 :=
  Nat.le_trans (flat_get (by rw [h.len]; exact hi)) h.flat
theorem getD_mem {l : List Int} {j : Nat} (h : j < l.length) : l.getD j 0 ∈ l := by
  rw [List.getD_eq_getElem?_getD, List.getElem?_eq_getElem h]
  exact List.getElem_mem h
def dueU (r : Int) (hs : List (List Int)) (n : Nat) : List Int := ((List.range n).map Int.ofNat).filter fun p => decide (p ≠ r + 1) || hs.any fun row => row.any fun x => x == p
theorem dueU_succ (r : Int) (hs : List (List Int)) (n : Nat) : dueU r hs (n + 1) = dueU r hs n ++ (if (decide ((n : Int) ≠ r + 1) || hs.any fun row => row.any fun x => x == (n : Int)) = true then [(n : Int)] else []) := by
  unfold dueU
  rw [List.range_succ, List.map_append, List.filter_append, List.map_singleton, List.filter_cons, List.filter_nil]
  rfl
theorem dueU_yes {r : Int} {hs : List (List Int)} {n : Nat} (h : (n : Int) ≠ r + 1 ∨ (hs.any fun row => row.any fun x => x == (n : Int)) = true) : dueU r hs (n + 1) = dueU r hs n ++ [(n : Int)] := by
  rw [dueU_succ, if_pos]
  rcases h with h | h
  · rw [decide_eq_true h, Bool.true_or]
  · rw [h, Bool.or_true]
theorem dueU_no {r : Int} {hs : List (List Int)} {n : Nat} (h : (n : Int) = r + 1) (h' : (hs.any fun row => row.any fun x => x == (n : Int)) = false) : dueU r hs (n + 1) = dueU r hs n := by
  rw [dueU_succ, if_neg, List.append_nil]
  rw [h', Bool.or_false, decide_eq_false (fun q => q h)]
  decide
theorem any_upto {hs : List (List Int)} {p : Int} : (∀ k < hs.length, ((hs.getD k []).any fun x => x == p) = false) ↔ (hs.any fun row => row.any fun x => x == p) = false := by
  rw [List.any_eq_false]
  constructor
  · intro h row hrow
    obtain ⟨k, hk, rfl⟩ := List.getElem_of_mem hrow
    have h2 : (hs[k].any fun x => x == p) = false := by
      have := h k hk
      rwa [List.getD_eq_getElem?_getD, List.getElem?_eq_getElem hk, Option.getD_some] at this
    exact fun e => by rw [h2] at e; cases e
  · intro h k hk
    rw [List.getD_eq_getElem?_getD, List.getElem?_eq_getElem hk, Option.getD_some]
    exact Bool.eq_false_iff.mpr (h hs[k] (List.getElem_mem hk))
theorem ref_get {rows : Led} {j : Nat} {v : Value} (h : (refs rows).toArray[j]? = some v) : ∃ hj : j < rows.length, v = .ref rows[j].1 := by
  have hj : j < rows.length := by simpa [refs] using (Array.getElem?_eq_some_iff.mp h).1
  refine ⟨hj, ?_⟩
  have : (refs rows).toArray[j]? = some (.ref rows[j].1) := by simp [refs, List.getElem?_eq_getElem hj]
  rw [this] at h
  exact (Option.some.inj h).symm
theorem upto_yes {hs : List (List Int)} {p : Int} {xs : List Value} {y : Value} {j : Nat} (h : ((hs.getD j []).any fun x => x == p) = true) : ((xs ++ [y]).isEmpty = true ↔ ∀ k < j + 1, ((hs.getD k []).any fun x => x == p) = false) := by
  constructor
  · intro e; simp at e
  · intro e; rw [e j (Nat.lt_succ_self _)] at h; cases h
theorem upto_no {hs : List (List Int)} {p : Int} {xs : List Value} {j : Nat} (hx : xs.isEmpty = true ↔ ∀ k < j, ((hs.getD k []).any fun x => x == p) = false) (h : ((hs.getD j []).any fun x => x == p) = false) : (xs.isEmpty = true ↔ ∀ k < j + 1, ((hs.getD k []).any fun x => x == p) = false) := by
  rw [hx]
  constructor
  · intro e k hk
    by_cases hkj : k = j
    · rw [hkj]; exact h
    · exact e k (by walk_at "om")
  · intro e k hk
    exact e k (by walk_at "om")
theorem dueF_sorted (count : Nat) (r : Int) (hs : List (List Int)) : (dueF count r hs).Pairwise (· ≤ ·) := by
  refine List.Pairwise.filter _ ?_
  rw [List.pairwise_map]
  exact List.Pairwise.imp (fun h => Int.ofNat_le.mpr (Nat.le_of_lt h)) List.pairwise_lt_range
local macro_rules | `(tactic| k_all) => `(tactic| assumption)
theorem meth_item {A : Around} {value slice : PySem.Expr} {H : Addr} {rows led : Led} {nss : List (List Int)} {k : Int} {u : Tok} {Q : Value → Shared → Prop} (hl : s.heap.IsList H (refs rows).toArray) (hR : RowsAre rows nss)
    (h0 : 0 ≤ k) (h1 : k < nss.length) (hfit : k < 2 ^ 63) (hsub : ∀ q ∈ rows, q ∈ led) (h : ∀ a vs n, (a, listOf (List.toArray vs) n) ∈ led → IntsAre vs (nss.getD k.toNat []) → Q (.ref a) s)
    (hs : subscripted slice false (.ref H) (.int k u) = operate [.ref H, .int k u] (getItem (.ref H) (.int k u))) :
    wpAny (model prog w) A (subscriptTail value slice (.ref H) (.int k u)) Q E s :=
  item_row hl hR h0 h1 hfit (fun a vs n hr hi => h a vs n (hsub _ (List.mem_of_getElem? hr)) hi) hs
theorem words_12 : True := by
  (k_with "newTuple" =>
    (k_dflt (refine' newTuple_M ?zqka ?zqkb ?zqkc ?_; (case zqka => k_asm); (case zqkb => k_asm); (case zqkc => decide)); intro Dq9 hq9 Fq9 Nq9 ltq9))
  (k_with "compareOp NotIn int ref" =>
    refine toHalt ?_)
  (k_with "compareOp In int ref" =>
    refine toHalt ?_)
  (k_with "compareOp NotEq ref ref" =>
    refine toHalt ?_)
  (k_with "subscriptTail" =>
    ((with_reducible show wpAny _ _ (subscriptTail (PySem.Expr.Name (PySem.Str.ofString "homes") _) _ _ _) _ _ _); refine toHalt ?_))
  (k_with "call builtin:sorted" =>
    refine toHalt ?_)
  (k_with "my_mem" =>
    first | with_reducible assumption | exact List.mem_cons_self | (refine List.mem_cons_of_mem _ ?_; walk_at "my_mem"))
  trivial
theorem c_false {src : Addr} {o : Obj} {led : Led} {gg : Obj → Led} (B : Below A₀ base outer h₀) (F : Fr h₀ L s.heap m) (X : Frag.In (hd.heap_39 w.params) h₀) (N : News h₀ L s.heap led) (T : Top p loose mean mg mb h₀) (hk : cs.kind = .function)
    (hdp : dp + 30 < recursionLimit) (hun : un + 200 < cLine) (U : UpdF src o led gg) (hS : SrcOk o) (count : Nat) (tc : Tok) (hc1 : 1 ≤ count) (hc2 : count ≤ 20)
    (ret : ∀ h' tk' o', SrcOk o' → Fr h₀ L h' m → News h₀ L h' (gg o') → Q (.bool true) { s with heap := h', toks := tk' }) :
    wpAny (model prog w) (ktrTop dp un gd cn cs L a ccd cl outer) (call (.ref 71) [.ref src, .int count tc]) Q E s := by
  obtain ⟨pre, post, rfl, hg, hpre, hpost⟩ := U.split
  k_dflt (refine' enterC (ex := [(src, o)]) (rest := pre ++ post) (binds := [(Str.ofString "source", .ref src), (Str.ofString "count", .int count tc)]) B F X (mid_news N) T (mid_dis hpre hpost) rfl rfl hk ?k6 ?k7 ?k8 ?k9 ?kB ?kD ?_ ?c2 ?c3 ?c4; walk_at "my_enterC")
  intro g' L' h' tk9 cells' hL FG' NG' l1 F' N' Y' B' X' T' kp'
  have hsrc : @LT.lt Nat instLTNat src L' := l1 _ (.head _)
  obtain ⟨oP, oH, oI0, hE9, dP, dH, dI⟩ := CellsAre.three Y'
  subst hE9
  clear Y'
  (try simp only [List.cons_append, List.nil_append] at N')
  (try dsimp only)
  (try k_fold)
  k_steps
  (with_reducible rename Int => r)
  (with_reducible rename Obj => oIx)
  have hr0 : 0 ≤ r := by assumption
  have hr1 : r < (count : Int) := by assumption
  (with_reducible rename (Obj.data oIx = _) => hIx)
  refine Halt.out ?_
  refine wpAny_mono (Q := fun fl s' => Halt (∃ st t h tk oS m', fl = .next ∧ s' = { s with heap := h, toks := tk } ∧ 0 ≤ st ∧ st < 8 ∧ SrcOk oS ∧ Fr g' L' h m' ∧ News g' L' h [(L' + 1 + 1 + 1, oP), (L' + 1 + 1, oH), (L' + 1, oIx), (src, oS)] ∧
    m' (Str.ofString "count") = some (.int count tc) ∧ m' (Str.ofString "strange") = some (.int st t))) ?_ ?_ fun _ _ e => e
  · refine wpAny_Assign_Name ?_
    k_steps
    · refine Halt.out ⟨_, _, _, _, _, _, (by first | trivial | rfl), rfl, ?_, ?_, by assumption, by k_asm, by k_asm, by walk_at "my_read", by walk_at "my_read"⟩
      · exact fmod_lo _ (by decide)
      · exact fmod_hi _ (by decide)
    · exact Halt.out ⟨_, _, _, _, _, _, (by first | trivial | rfl), rfl, by assumption, by assumption, by assumption, by k_asm, by k_asm, by walk_at "my_read", by walk_at "my_read"⟩
  rintro fl s1 ⟨st, ts, h, tk8, oS, m', rfl, rfl, hs0, hs1, hSO, F1, N1, hm2, hm3⟩
  k_steps
  refine Halt.out ?_
  k_dflt (refine LCg.ListComp_U (F₀ := by k_asm) (by with_unfolding_all rfl) (by decide) (by rfl) (by decide) (by rfl) ?_)
  k_steps
  refine Halt.out ?_
  refine LCg.CompSrc.range (n := count - 1) rfl (by k_asm) (by k_asm) (by assumption) (rsmall (by walk_at "om") (by walk_at "om") (by walk_at "om") (by walk_at "om")) (rsize _ _ _ (by walk_at "om")) (by rw [sizeLine_eq]; walk_at "om") ?_
  intro g2
  refine comp_inv (fun i zs news₁ => news₁ = _ ∧ IntsAre zs ((List.range i).map fun (k : Nat) => Int.fmod (1 + (k : Int) - 1) 8)) ⟨rfl, .nil⟩ ?_ ?_
  · rintro i zs news₁ v I oI C oC D m₂ h tk9 E' hi ⟨rfl, hzs⟩ ⟨tv, rfl⟩ hC hx F1 N1 off ne
    k_steps
    refine Halt.out (LCg.CompEnd.intro (by k_asm) (by k_asm) _ (fun _ h => h) off trivial ⟨rfl, ?_⟩)
    rw [List.range_succ, List.map_append, List.map_singleton]
    exact IntsAre.append hzs (.cons _ _ .nil)
  · rintro zs news' ⟨rfl, hzs⟩
    have hzl : zs.length = count - 1 := by rw [IntsAre.length hzs, List.length_map, List.length_range]
    k_steps
    refine Halt.out ?_
    refine c_homes_of (by k_asm) (by k_asm) (by k_asm) (by k_asm) (by k_asm) rfl (by walk_at "my_room") (by walk_at "my_room") (by kmk_list) (by assumption) (by simp only [List.length_append, List.length_take, List.length_drop, List.length_map, List.length_range, List.length_cons, List.length_nil]; walk_at "om") _ _ hc1 hc2 ?_
    intro h2 tk2 H rows n2 F2 N2 dis2 nd2 R2
    have hF : FalseOk count r (homesN (numsF count r st) count) := false_law hc1 hc2 hr0 hr1 hs0 hs1
    change RowsAre rows (homesN (numsF count r st) count) at R2
    generalize homesN (numsF count r st) count = hs at hF R2
    have N3 : News g' L' h2 ((L' + 1 + 1 + 1, oP) :: (L' + 1 + 1, oH) :: (L' + 1, oIx) :: (src, oS) :: (H, listOf (refs rows).toArray n2) :: rows) := fun q hq => N2 q (by
      simp only [List.mem_cons, List.mem_append] at hq ⊢
      rcases hq with h | h | h | h | h | h
      · subst h; right; simp
      · subst h; right; simp
      · subst h; right; simp
      · subst h; right; simp
      · exact .inl (.inl h)
      · exact .inl (.inr h))
    have ne1 : ∀ q ∈ (H, listOf (refs rows).toArray n2) :: rows, q.1 ≠ L' + 1 + 1 + 1 := fun q hq e => dis2 (L' + 1 + 1 + 1, oP) (by simp) q hq e.symm
    have ne2 : ∀ q ∈ (H, listOf (refs rows).toArray n2) :: rows, q.1 ≠ L' + 1 + 1 := fun q hq e => dis2 (L' + 1 + 1, oH) (by simp) q hq e.symm
    clear N2 dis2
    have neH1 : @Ne Nat H (L' + 1 + 1 + 1) := ne1 _ (.head _)
    have neH2 : @Ne Nat H (L' + 1 + 1) := ne2 _ (.head _)
    have neR1 : ∀ q ∈ rows, q.1 ≠ L' + 1 + 1 + 1 := fun q hq => ne1 q (.tail _ hq)
    have neR2 : ∀ q ∈ rows, q.1 ≠ L' + 1 + 1 := fun q hq => ne2 q (.tail _ hq)
    k_steps
    (with_reducible rename Obj => oHs)
    (with_reducible rename (Obj.data oHs = _) => hHs)
    refine Halt.out ?_
    have hlen := hF.len
    refine loop_to (fun i m₁ news₁ => ∃ oP' v0, news₁ = (L' + 1 + 1 + 1, oP') :: (L' + 1 + 1, oHs) :: (L' + 1, oIx) :: (src, oS) :: (H, listOf (refs rows).toArray n2) :: rows ∧ oP'.data = .cell v0 ∧ m₁ (Str.ofString "count") = some (.int count tc))
      rfl (by assumption) (by walk_at "om") (by walk_at "om") (by assumption) (by assumption) ⟨oP, _, rfl, dP, by walk_at "my_read"⟩ ?_ ?_
    · rintro i m₁ news₁ I t h tk7 hi9 ⟨oP', v0, rfl, hdp9, hm1⟩ off9 hI F1 N1
      have hiN : i < count := by walk_at "om"
      have o1 : @Ne Nat (L' + 1 + 1 + 1) I := off9 _ (.head _)
      have o2 : @Ne Nat (L' + 1 + 1) I := off9 _ (.tail _ (.head _))
      simp only [Int.zero_add] at F1 N1 ⊢
      k_steps
      refine Halt.out ?_
      refine wpAny_mono (Q := fun fl s' => Halt (∃ h tk oP2 tp, fl = .next ∧ s' = { s with heap := h, toks := tk } ∧ oP2.data = .cell (some (.int (if (i : Int) ≤ r then (i : Int) else (i : Int) + 1) tp)) ∧ Fr g' L' h (fun y => if y = Str.ofString "one" then some (.int (i : Int) t) else m₁ y) ∧
        News g' L' h ((I, itR ((i + 1 : Nat) : Int) (((count : Int).toNat : Int) - ((i + 1 : Nat) : Int))) :: (L' + 1 + 1 + 1, oP2) :: (L' + 1 + 1, oHs) :: (L' + 1, oIx) :: (src, oS) :: (H, listOf (refs rows).toArray n2) :: rows))) ?_ ?_ fun _ _ e => e
      · refine wpAny_Assign_Name ?_
        k_steps
        · have hc9 : (i : Int) ≤ r := by assumption
          exact Halt.out ⟨_, _, _, _, (by first | trivial | rfl), rfl, (by rw [if_pos hc9]; assumption), by k_asm, by k_asm⟩
        · have hc9 : ¬ (i : Int) ≤ r := by first | assumption | walk_at "om"
          exact Halt.out ⟨_, _, _, _, (by first | trivial | rfl), rfl, (by rw [if_neg hc9]; assumption), by k_asm, by k_asm⟩
      rintro fl s1 ⟨h, tk6, oP2, tp, rfl, rfl, hP2, F1, N1⟩
      have own9 := hF.own i hiN
      have only9 := hF.only i hiN
      generalize (if (i : Int) ≤ r then (i : Int) else (i : Int) + 1) = pl at hP2 own9 only9
      k_steps
      refine Halt.out ?_
      refine meth_item (led := rows) (led_list (n := n2) (by k_asm) (by walk_at "my_mem")) R2 (by walk_at "om") (by walk_at "om") (by walk_at "om") (fun _ h => h) ?_ (by with_unfolding_all rfl)
      intro ra vs n hm hia
      rw [Int.toNat_natCast] at hia
      k_steps
      refine Halt.out ?_
      refine row_has (by k_asm) (by walk_at "my_mem") hia own9 ?_
      k_steps
      refine Halt.out ?_
      k_dflt (refine LCt.ListComp_T (F₀ := by k_asm) (by with_unfolding_all rfl) (by decide) (by rfl) (by decide) (by rfl) ?_)
      k_steps
      refine Halt.out ?_
      refine meth_item (led := rows) (led_list (n := n2) (by k_asm) (by walk_at "my_mem")) R2 (by walk_at "om") (by walk_at "om") (by walk_at "om") (fun _ h => h) ?_ (by with_unfolding_all rfl)
      intro ra' vs' n' hm' hia'
      rw [Int.toNat_natCast] at hia'
      k_steps
      refine Halt.out ?_
      refine LCt.CompSrcT.ledger (its := vs'.toArray) (k := n') rfl (by k_asm) (by k_asm) (by walk_at "my_mem") (by rw [sizeLine_eq, List.size_toArray, IntsAre.length hia']; exact Nat.le_trans (hF.row i hiN) (by walk_at "om")) ?_
      intro g3
      refine comp_invT (fun j ys news₁ => news₁ = _ ∧ ys = []) ⟨rfl, rfl⟩ ?_ ?_
      · rintro j ys news₁ v I2 oI C oC D m₂ h3 tk5 E' hj ⟨rfl, rfl⟩ hv hC hx F1 N1 off ne
        obtain ⟨hj9, tv, hv⟩ := ints_get hia' hv
        subst hv
        have hor := only9 _ (getD_mem hj9)
        generalize (hs.getD i []).getD j 0 = ov at hx hor
        k_steps
        refine Halt.out ?_
        refine tup_notin (by k_asm) (by k_mem) hor ?_
        k_steps
        exact Halt.out (LCg.CompEnd.intro (by k_asm) (by k_asm) _ (fun _ h => .tail _ h) off (.inr ⟨_, by walk_at "my_mem", rfl, _, rfl⟩) ⟨(by first | trivial | rfl), (by first | trivial | rfl)⟩)
      · rintro ys news' ⟨rfl, rfl⟩
        k_steps
        refine Halt.out ?_
        refine ne_nil (xs := []) (led_list (n := 0) (by k_asm) (by walk_at "my_mem")) (led_list (n := 0) (by k_asm) (by walk_at "my_mem")) (by walk_at "my_room") ?_
        k_steps
        refine Halt.out (UnrEnd.intro (by k_asm) (by k_asm) _ (fun _ h => .tail _ (.tail _ h)) (fun q hq => ?_) ⟨_, _, rfl, hP2, by walk_at "my_read"⟩)
        rcases List.mem_cons.mp hq with rfl | hq
        · exact o1
        · exact off9 q (.tail _ hq)
    · rintro m₁ news₁ h tk7 ⟨oP', v0, rfl, hdp9, hm1⟩ F1 N1
      k_steps
      refine Halt.out ?_
      refine flat_comp (h₀ := g') (L := L') (m := m₁) (by with_unfolding_all rfl) (by decide) (by rfl) (by decide) (by rfl) (by rfl) (by decide) (by decide) ?_
      k_steps
      refine Halt.out ⟨H, rows, hs, n2, _, rfl, rfl, by k_asm, by k_asm, by walk_at "my_mem", fun q hq => .tail _ (.tail _ (.tail _ (.tail _ (.tail _ hq)))), R2, Nat.le_trans hF.flat (by walk_at "om"), ?_⟩
      intro D1 ys1 h3 tk3 F3 N3 off3 hys1
      (try dsimp only)
      k_steps
      refine Halt.out ?_
      refine kso_sorted (by k_asm) (by k_asm) (led_list (its := ys1.toArray) (by k_asm) (by walk_at "my_mem")) hys1 (by have := hF.flat; walk_at "om") ?_
      intro D2 vs2 ns2 c2 h4 F4 N4 lt4 hi2 hl2 hp2 hso2 hx2
      clear hx2
      obtain rfl := perm_sorted (hp2.trans hF.perm) hso2 (dueF_sorted count r hs)
      k_steps
      refine Halt.out ?_
      refine comp_cell (h₀ := g') (L := L') (m := m₁) (by with_unfolding_all rfl) (by rfl) (by decide) (by rfl) (fun _ => rfl) (fun _ => rfl) ?_
      k_steps
      refine Halt.out ⟨_, _, _, _, _, count + 1, _, (fun i ys news => news = _ ∧ IntsAre ys (dueU r hs i)), rfl, rfl, by k_asm, by k_asm, by assumption, by walk_at "om", by walk_at "om", ⟨rfl, .nil⟩, ?_, ?_⟩
      · rintro i ys news₁ v I oI C oC D X oX h5 tk5 E' hi ⟨rfl, hys⟩ ⟨tv, rfl⟩ hX F1 N1 off ne offX
        k_steps
        · refine Halt.out (LCg.CompEnd.intro (by k_asm) (by k_asm) _ (fun _ h => h) off trivial ⟨oX, _, rfl, ⟨_, hX⟩, offX, (by first | trivial | rfl), ?_⟩)
          rw [dueU_yes (.inl (by assumption))]
          exact IntsAre.append hys (.cons _ _ .nil)
        · have hi8 : (i : Int) = r + 1 := by assumption
          refine Halt.out ?_
          k_dflt (refine LCt.ListComp_T (F₀ := by k_asm) (by with_unfolding_all rfl) (by decide) (by rfl) (by decide) (by rfl) ?_)
          k_steps
          refine Halt.out ?_
          refine LCt.CompSrcT.ledger (its := (refs rows).toArray) (k := n2) rfl (by k_asm) (by k_asm) (by walk_at "my_mem") (by rw [sizeLine_eq, List.size_toArray, refs_length, R2.1]; walk_at "om") ?_
          intro g6
          refine comp_invT (fun j xs news₁ => news₁ = _ ∧ (xs.isEmpty = true ↔ ∀ k < j, ((hs.getD k []).any fun x => x == (i : Int)) = false)) ⟨rfl, by simp⟩ ?_ ?_
          · rintro j xs news₁ v I2 oI2 C2 oC2 D2' m₂ h6 tk4 E2 hj ⟨rfl, hxs⟩ hv hC2 hx2 F2 N2 off2 ne2'
            obtain ⟨hjl, hv⟩ := ref_get hv
            subst hv
            obtain ⟨rvs, rn, hre, hria⟩ := R2.2 j rows[j] (hs.getD j []) (List.getElem?_eq_getElem hjl) (by rw [List.getD_eq_getElem?_getD, List.getElem?_eq_getElem (R2.1 ▸ hjl)]; rfl)
            have hrm : (rows[j].1, listOf (List.toArray rvs) rn) ∈ rows := by rw [← hre]; exact List.getElem_mem hjl
            generalize rows[j].1 = raj at hx2 hrm
            k_steps
            refine Halt.out ?_
            refine row_in (by k_asm) (by walk_at "my_mem") hria ?_
            k_steps
            · exact Halt.out (LCg.CompEnd.intro (by k_asm) (by k_asm) _ (fun _ h => h) off2 (.inr ⟨_, by walk_at "my_mem", rfl, _, rfl⟩) ⟨(by first | trivial | rfl), upto_yes (by assumption)⟩)
            · exact Halt.out (LCg.CompEnd.intro (by k_asm) (by k_asm) _ (fun _ h => h) off2 (.inr ⟨_, by walk_at "my_mem", rfl, _, rfl⟩) ⟨(by first | trivial | rfl), upto_no hxs (by assumption)⟩)
          · rintro xs news' ⟨rfl, hxs⟩
            rw [show (refs rows).toArray.size = hs.length by rw [List.size_toArray, refs_length, R2.1], any_upto] at hxs
            k_steps
            refine Halt.out ?_
            refine ne_nil (xs := xs) (led_list (its := xs.toArray) (by k_asm) (by walk_at "my_mem")) (led_list (n := 0) (by k_asm) (by walk_at "my_mem")) (by walk_at "my_room") ?_
            cases hxe : xs.isEmpty
            · rw [hxe] at hxs
              have hy8 : (hs.any fun row => row.any fun x => x == (i : Int)) = true := by
                cases q : hs.any fun row => row.any fun x => x == (i : Int) with
                | true => rfl
                | false => exact absurd (hxs.mpr q) (by decide)
              rw [Bool.not_false]
              k_steps
              refine Halt.out (LCg.CompEnd.intro (by k_asm) (by k_asm) _ (fun _ h => .tail _ (.tail _ h)) off trivial ⟨oX, _, rfl, ⟨_, hX⟩, offX, (by first | trivial | rfl), ?_⟩)
              rw [dueU_yes (.inr hy8)]
              exact IntsAre.append hys (.cons _ _ .nil)
            · rw [hxe] at hxs
              rw [Bool.not_true]
              k_steps
              refine Halt.out (LCg.CompEnd.intro (by k_asm) (by k_asm) _ (fun _ h => .tail _ (.tail _ h)) off trivial ⟨oX, _, rfl, ⟨_, hX⟩, offX, (by first | trivial | rfl), ?_⟩)
              rw [dueU_no hi8 (hxs.mp rfl)]
              exact hys
      · rintro D3 ys3 h5 tk5 news' ⟨rfl, hys3⟩ F5 N5 off5
        (try dsimp only)
        k_steps
        refine Halt.out ?_
        refine ke_eq_ints (led_list (its := vs2.toArray) (by k_asm) (by walk_at "my_mem")) (led_list (its := ys3.toArray) (by k_asm) (by walk_at "my_mem")) hi2 hys3 (by walk_at "my_room") ?_
        rw [show decide (dueF count r hs = dueU r hs (count + 1)) = true from decide_eq_true rfl]
        have N9 : News g' L' h5 [(src, oS)] := fun q hq => N5 q (by rw [List.mem_singleton.mp hq]; walk_at "my_mem")
        have bb := ret_upd hg FG' NG' F5 N9
        exact ret _ _ _ (by assumption) bb.1 bb.2
end

section
theorem words_13 : True := by
  k_with_none
  (k_with "my_enter" =>
    (
      (case k6 => k_is)
      (case k7 => k_is)
      (case k8 => ktr_room)
      (case k9 => rfl)
      (case kB => exact locs rfl)
      (case c2 => exact rfl)
      (case c3 => exact rfl)
      (case c4 => exact rfl)
      (case c5 => decide)))
  (k_with "my_fin" =>
    (
      (try dsimp only)
      (try k_unfold)
      (try dsimp only)))
  (k_with "my_read" =>
    ((try dsimp only); first
      | exact rfl
      | (with_reducible assumption)
      | exact if_pos rfl
      | (refine Eq.trans (if_neg (by decide)) ?_; walk_at "my_read")
      | fail "my_read"))
  (k_with "eval Name" =>
    (k_here; k_dflt (refine' nameX_L ?zqF ?zqv ?_ ?zqa ?zqb; (case zqF => k_asm); (case zqa => rfl); (case zqb => rfl); (case zqv => walk_at "my_read"); k_whole)))
  (k_with "my_room" =>
    (have hcL9 := cLine_is; first | ktr_room | ktr_units | (dsimp only [ktrTop, Around.deeper] at *; simp only [recursionLimit] at *; omega)))
  (k_with "call ref" =>
    refine toHalt ?_)
  (k_with "exec Assign cons ListComp" =>
    refine toHalt ?_)
  (k_with "eval ListComp" =>
    refine toHalt ?_)
  (k_with "CompSrc" =>
    refine toHalt ?_)
  (k_with "CompSrcT" =>
    refine toHalt ?_)
  (k_with "CompEnd" =>
    refine toHalt ?_)
  (k_with "UnrEnd" =>
    refine toHalt ?_)
  (k_with "om" =>
    first | ((repeat (with_reducible rename (_ ∧ _) => zz; clear zz)); omega) | omega)
  (k_with "my_enterC" =>
    (
      (case k6 => k_is)
      (case k7 => k_is)
      (case k8 => ktr_room)
      (case k9 => rfl)
      (case kB => exact rfl)
      (case kD => decide +kernel)
      (case c2 => exact rfl)
      (case c3 => exact rfl)
      (case c4 => exact rfl)))
  (k_with "call ref" =>
    ((with_reducible show wpAny _ _ (call (Value.ref 61) _) _ _ _); k_dflt (refine' c_take ?zqkB ?zqkF ?zqkX ?zqkN ?zqkT rfl ?zqkd ?zqku ?zqkU ?zqkS _ _ ?zqka ?zqkb ?_; (case zqkB => k_asm); (case zqkF => k_asm); (case zqkX => k_asm); (case zqkN => k_asm); (case zqkT => k_asm); (case zqkd => walk_at "my_room"); (case zqku => walk_at "my_room"); (case zqkU => k_updF); (case zqkS => assumption); (case zqka => first | decide | walk_at "om"); (case zqkb => first | decide | walk_at "om")); intro hq' tkq' rq' tq' oq' loq' hiq' hSq' Fq' Nq'; (try dsimp only at Nq')))
  (k_with "call type:range" =>
    ((with_reducible rename Fr _ _ _ _ => kF); (with_reducible rename News _ _ _ _ => kN); first
      | (with_unfolding_all refine range1_rows kF kN ?_; intro _ _ _ _ _ _ _ _ _)
      | (with_unfolding_all refine range2_rows kF kN ?_; intro _ _ _ _ _ _ _ _ _)))
  (k_with "subscriptTail Name Slice ref ref" =>
    (k_dflt (refine' slice1 ?zqF ?zqN ?zql ?zqp ?zqq ?zqz1 ?zqz ?_ ?zqs ?zqt; (case zqF => k_asm); (case zqN => k_asm); (case zql => kmk_list); (case zqp => kmk_part); (case zqq => kmk_part); (case zqs => with_unfolding_all rfl); (case zqt => kmk_pure); (case zqz => walk_at "om"); (case zqz1 => walk_at "om")); intro Dq' hq' Fq' Nq' lq1; (try k_lt lq1); (try k_sweep)))
  (k_with "call builtin:list.index" =>
    (k_dflt (refine' kf_index ?zqN ?zqm ?zqi ?zqe rfl ?zqz ?_; (case zqN => k_asm); (case zqm => k_mem); (case zqi => exact kf_ints_of (by assumption)); (case zqe => exact kf_at_of (by assumption) (by assumption)); (case zqz => (rw [sizeLine_eq]; (try simp only [List.toList_toArray]); walk_at "om")))))
  (k_with "compareOp Eq ref ref" =>
    refine toHalt ?_)
  trivial
local macro_rules | `(tactic| k_all) => `(tactic| assumption)
theorem words_14 : True := by
  (k_with "my_mem" =>
    first | with_reducible assumption | exact List.mem_cons_self | (refine List.mem_cons_of_mem _ ?_; walk_at "my_mem"))
  (k_with "newTuple" =>
    (k_dflt (refine' newTuple_M ?zqka ?zqkb ?zqkc ?_; (case zqka => k_asm); (case zqkb => k_asm); (case zqkc => decide)); intro Dq9 hq9 Fq9 Nq9 ltq9; (try k_lt ltq9)))
  (k_with "binaryOp Add bytes bytes" =>
    (k_dflt (refine' KBy.add_bytes ?zqz ?_; (case zqz => walk_at "my_bsz")); intro tq9 kq9))
  (k_with "my_rng" =>
    (intro n hn; simp only [List.mem_cons, List.not_mem_nil, or_false] at hn; first | (subst hn; walk_at "om") | (rcases hn with rfl | rfl <;> walk_at "om")))
  trivial
theorem flat_len (k : Nat) : ((List.replicate k [(255 : UInt8)]).flatten).length = k := by
  have := fill_size (k : Int)
  rwa [List.size_toArray, Int.toNat_natCast] at this
theorem words_15 : True := by
  (k_with "call builtin:list.append" =>
    refine toHalt ?_)
  (k_with "binaryOp Add ref ref" =>
    refine toHalt ?_)
  (k_with "subscriptTail" =>
    ((with_reducible show wpAny _ _ (subscriptTail (PySem.Expr.List _ _) _ _ _) _ _ _); refine toHalt ?_))
  (k_with "my_bsz" =>
    ((try simp only [Array.size_append, List.size_toArray, List.length_cons, List.length_nil, flat_len, byteArr_size]); walk_at "om"))
  trivial
theorem pick4 {r : Int} (h0 : 0 ≤ r) (h1 : r < 4) {t1 t2 t3 t4 : Tok} : ∃ (y : UInt8) (t : Tok), (#[Value.bytes #[1] t1, .bytes #[216] t2, .bytes #[217] t3, .bytes #[207] t4] : Array Value)[r.toNat]? = some (.bytes #[y] t) ∧ y ≠ 0 ∧ y ≠ 255 ∧ ¬ (208 ≤ y.toNat ∧ y.toNat ≤ 215) := by
  have h : r = 0 ∨ r = 1 ∨ r = 2 ∨ r = 3 := by walk_at "om"
  rcases h with rfl | rfl | rfl | rfl
  · exact ⟨1, t1, rfl, by decide, by decide, by decide⟩
  · exact ⟨216, t2, rfl, by decide, by decide, by decide⟩
  · exact ⟨217, t3, rfl, by decide, by decide, by decide⟩
  · exact ⟨207, t4, rfl, by decide, by decide, by decide⟩
theorem off_mk {I Du src : Addr} {tups : Led} {X Y : Obj} (o1 : @Ne Nat Du I) (o2 : @Ne Nat src I) (o3 : ∀ q ∈ tups, q.1 ≠ I) : ∀ q ∈ (Du, X) :: (src, Y) :: tups, q.1 ≠ I := by
  intro q hq
  rcases List.mem_cons.mp hq with rfl | hq
  · exact o1
  rcases List.mem_cons.mp hq with rfl | hq
  · exact o2
  · exact o3 q hq
theorem not255 {y : UInt8} {v : Int} (h : ((y.toNat : Nat) : Int) = v) (hv : v < 255) : y ≠ 255 := fun e => by
  rw [e] at h
  have : (((255 : UInt8).toNat : Nat) : Int) = 255 := rfl
  walk_at "om"
theorem data_cut {I Du src D : Addr} {tups led : Led} {ps : List Piece} {num : Int} {oB : Array UInt8} {t u : Tok} {n : Nat} {it oS : Obj} {h : Heap} (_N : News h₀ L h led) (hm1 : (D, tupObj [.int num t, .bytes oB u]) ∈ led) (hm2 : (Du, listOf ((refs tups).toArray.push (.ref D)) (n + 1)) ∈ led) (hm3 : (src, oS) ∈ led)
    (hm4 : ∀ q ∈ tups, q ∈ led) (hmI : (I, it) ∈ led) (hT : TupsAre tups ps) (neD : ∀ q ∈ tups, q.1 ≠ Du) (neS : ∀ q ∈ tups, q.1 ≠ src) (neI : ∀ q ∈ tups, q.1 ≠ I) (l1 : @Ne Nat D Du) (l2 : @Ne Nat D src) (l3 : @Ne Nat D I) :
    ∃ tups' n', (∀ q ∈ (I, it) :: (Du, listOf (refs tups').toArray n') :: (src, oS) :: tups', q ∈ led) ∧ TupsAre tups' (ps ++ [(num, oB)]) ∧ (∀ q ∈ tups', q.1 ≠ Du) ∧ (∀ q ∈ tups', q.1 ≠ src) ∧ (∀ q ∈ tups', q.1 ≠ I) := by
  have snoc : ∀ {z : Addr}, (∀ q ∈ tups, q.1 ≠ z) → @Ne Nat D z → ∀ q ∈ tups ++ [(D, tupObj [.int num t, .bytes oB u])], q.1 ≠ z := fun h hd q hq => by
    rcases List.mem_append.mp hq with hq | hq
    · exact h q hq
    · rw [List.mem_singleton.mp hq]; exact hd
  refine ⟨tups ++ [(D, tupObj [.int num t, .bytes oB u])], n + 1, fun q hq => ?_, tups_snoc hT ⟨t, u, rfl⟩, snoc neD l1, snoc neS l2, snoc neI l3⟩
  rw [refs_snoc, ← List.push_toArray] at hq
  simp only [List.mem_cons, List.mem_append, List.not_mem_nil, or_false] at hq
  rcases hq with h | h | h | h | h
  · rw [h]; exact hmI
  · rw [h]; exact hm2
  · rw [h]; exact hm3
  · exact hm4 q h
  · rw [h]; exact hm1
theorem DJ.mark' {i : Nat} {d o : Array UInt8} {num : Int} {ps : List Piece} {k : Int} {y : UInt8} (J : DJ i d o num ps) (hk : k < 3) (h0 : 0 ≤ k) (hy0 : y ≠ 0) (hy1 : y ≠ 255) (hy2 : ¬ (208 ≤ y.toNat ∧ y.toNat ≤ 215)) : DJ (i + 1) (d ++ fillN k ++ #[255] ++ #[y]) o num ps := J.mark h0 hk hy0 hy1 hy2
theorem DJ.rst' {i : Nat} {d o : Array UInt8} {num : Int} {ps : List Piece} {k r : Int} (J : DJ i d o num ps) (hk : k < 3) (h0 : 0 ≤ k) (hr1 : r < 8) (hr0 : 0 ≤ r) : DJ (i + 1) (d ++ fillN k ++ byteArr [255, 208 + r]) #[] r (ps ++ [(num, o)]) := J.rst h0 hk hr0 hr1
theorem data_fin {TP Dn D : Addr} {tups led : Led} {ps : List Piece} {num : Int} {oB dB : Array UInt8} {t u td : Tok} {h : Heap} (N : News h₀ L h led) (hm0 : (TP, tupObj [.bytes dB td, .ref Dn]) ∈ led) (hm2 : (Dn, listOf (refs tups ++ [Value.ref D]).toArray 0) ∈ led) (hm1 : (D, tupObj [.int num t, .bytes oB u]) ∈ led)
    (hm4 : ∀ q ∈ tups, q ∈ led) (hT : TupsAre tups ps) (hs : scan dB.toList [] (-1) #[] = ps ++ [(num, oB)]) :
    ∃ tups', News h₀ L h ((TP, tupObj [.bytes dB td, .ref Dn]) :: (Dn, listOf (refs tups').toArray 0) :: tups') ∧ TupsAre tups' (scan dB.toList [] (-1) #[]) := by
  refine ⟨tups ++ [(D, tupObj [.int num t, .bytes oB u])], fun q hq => N q ?_, hs ▸ tups_snoc hT ⟨t, u, rfl⟩⟩
  rw [refs_snoc] at hq
  simp only [List.mem_cons, List.mem_append, List.not_mem_nil, or_false] at hq
  rcases hq with h | h | h | h
  · rw [h]; exact hm0
  · rw [h]; exact hm2
  · exact hm4 q h
  · rw [h]; exact hm1
abbrev DataI (src : Addr) (i : Nat) (m₁ : Str → Option Value) (news₁ : Led) : Prop := ∃ Du n tups ps num dB oB oS t1 t2 t3, news₁ = (Du, listOf (refs tups).toArray n) :: (src, oS) :: tups ∧ SrcOk oS ∧ TupsAre tups ps ∧ DJ i dB oB num ps ∧ (∀ q ∈ tups, q.1 ≠ Du) ∧ (∀ q ∈ tups, q.1 ≠ src) ∧ (@Ne Nat Du src) ∧
      m₁ (Str.ofString "source") = some (.ref src) ∧ m₁ (Str.ofString "data") = some (.bytes dB t1) ∧ m₁ (Str.ofString "octets") = some (.bytes oB t2) ∧ m₁ (Str.ofString "number") = some (.int num t3) ∧ m₁ (Str.ofString "due") = some (.ref Du)
theorem c_data {src : Addr} {o : Obj} {led : Led} {gg : Obj → Led} (B : Below A₀ base outer h₀) (F : Fr h₀ L s.heap m) (X : Frag.In (hd.heap_39 w.params) h₀) (N : News h₀ L s.heap led) (T : Top p loose mean mg mb h₀) (hk : cs.kind = .function)
    (hdp : dp + 30 < recursionLimit) (hun : un + 200 < cLine) (U : UpdF src o led gg) (hS : SrcOk o)
    (ret : ∀ h' tk' TP Dn tups n dB td, Fr h₀ L h' m → News h₀ L h' ((TP, tupObj [.bytes dB td, .ref Dn]) :: (Dn, listOf (refs tups).toArray n) :: tups) → TupsAre tups (scan dB.toList [] (-1) #[]) → dB.size ≤ 500 → Q (.ref TP) { s with heap := h', toks := tk' }) :
    wpAny (model prog w) (ktrTop dp un gd cn cs L a ccd cl outer) (call (.ref 78) [.ref src]) Q E s := by
  obtain ⟨pre, post, rfl, hg, hpre, hpost⟩ := U.split
  k_dflt (refine' enter (ex := [(src, o)]) (rest := pre ++ post) (binds := [(Str.ofString "source", .ref src)]) B F X (mid_news N) T (mid_dis hpre hpost) rfl rfl hk ?k6 ?k7 ?k8 ?k9 ?kB ?_ ?c2 ?c3 ?c4 ?c5; walk_at "my_enter")
  intro g' L' h' hL FG' NG' l1 F' N' B' X' T' kp'
  have hsrc : @LT.lt Nat instLTNat src L' := l1 _ (.head _)
  (try dsimp only)
  (try k_fold)
  k_steps
  (with_reducible rename (News _ _ _ _) => N9)
  refine Halt.out ?_
  refine loop_to (DataI src)
    rfl (by assumption) (by walk_at "om") (by walk_at "om") (by assumption) (fun q hq => N9 q (.tail _ hq)) ⟨_, 0, [], [], -1, #[], #[], _, _, _, _, rfl, by assumption, ⟨rfl, fun i r q h => by simp at h⟩, DJ.init, fun _ h => (nomatch h), fun _ h => (nomatch h), ?ne0, by walk_at "my_read", by walk_at "my_read", by walk_at "my_read", by walk_at "my_read", by walk_at "my_read"⟩ ?_ ?_
  case ne0 => walk_at "om"
  · rintro i m₁ news₁ I t h tk7 hi9 ⟨Du, n, tups, ps, num, dB, oB, oS, t1, t2, t3, rfl, hSO, hT, hJ, neD, neS, neDS, hm1, hm2, hm3, hm4, hm5⟩ off9 hI F1 N1
    have o1 : @Ne Nat Du I := off9 _ (.head _)
    have o2 : @Ne Nat src I := off9 _ (.tail _ (.head _))
    have hsz := hJ.sz
    have hosz := hJ.osz
    have o3 : ∀ q ∈ tups, q.1 ≠ I := fun q hq => off9 q (.tail _ (.tail _ hq))
    k_steps
    · (with_reducible rename (((UInt8.toNat _ : Nat) : Int) = _) => hb)
      exact Halt.out (UnrEnd.intro (by k_asm) (by k_asm) _ (fun _ h => .tail _ (.tail _ (.tail _ (.tail _ h)))) (off_mk o1 o2 o3) ⟨Du, n, tups, ps, num, dB ++ #[_], oB ++ #[_], _, _, _, _, rfl, by assumption, hT, hJ.push (not255 hb (by walk_at "om")), neD, neS, neDS, by walk_at "my_read", by walk_at "my_read", by walk_at "my_read", by walk_at "my_read", by walk_at "my_read"⟩)
    · exact Halt.out (UnrEnd.intro (by k_asm) (by k_asm) _ (fun _ h => .tail _ (.tail _ h)) (off_mk o1 o2 o3) ⟨Du, n, tups, ps, num, dB ++ _ ++ #[255, 0], oB ++ #[255], _, _, _, _, rfl, by assumption, hT, hJ.zero (by assumption) (by assumption), neD, neS, neDS, by walk_at "my_read", by walk_at "my_read", by walk_at "my_read", by walk_at "my_read", by walk_at "my_read"⟩)
    · refine Halt.out ?_
      obtain ⟨y, ty, hy, hy0, hy1, hy2⟩ := pick4 (by assumption) (by assumption)
      refine item_any (led_list (n := 0) (by k_asm) (by walk_at "my_mem")) (by walk_at "om") (by walk_at "om") hy ?_ (by with_unfolding_all rfl)
      k_steps
      exact Halt.out (UnrEnd.intro (by k_asm) (by k_asm) _ (fun _ h => .tail _ (.tail _ h)) (off_mk o1 o2 o3) ⟨Du, n, tups, ps, num, dB ++ _ ++ #[255] ++ #[y], oB, _, _, _, _, rfl, by assumption, hT, hJ.mark' (by assumption) (by assumption) hy0 hy1 hy2, neD, neS, neDS, by walk_at "my_read", by walk_at "my_read", by walk_at "my_read", by walk_at "my_read", by walk_at "my_read"⟩)
    · refine Halt.out ?_
      refine append_K (by k_asm) (by k_asm) (by k_upd) ?_ (by rw [sizeLine_eq, List.size_toArray, refs_length, hT.1]; have := hJ.many; walk_at "om")
      intro h6 F6 N6
      k_steps
      (with_reducible rename (_ < (8 : Int)) => h8)
      (with_reducible rename (_ < (3 : Int)) => h3)
      (with_reducible rename (News _ _ _ _) => N9)
      obtain ⟨tups2, n2, sub2, hT2, neD2, neS2, neI2⟩ := data_cut (I := I) (num := num) (oB := oB) N9 (by walk_at "my_mem") (by walk_at "my_mem") (by walk_at "my_mem") (fun q hq => by walk_at "my_mem") (by walk_at "my_mem") hT neD neS o3 (by walk_at "om") (by walk_at "om") (by walk_at "om")
      exact Halt.out (UnrEnd.intro (by k_asm) N9 _ sub2 (off_mk o1 o2 neI2) ⟨Du, n2, tups2, ps ++ [(num, oB)], _, _, #[], _, _, _, _, rfl, by assumption, hT2, hJ.rst' h3 (by assumption) h8 (by assumption), neD2, neS2, neDS, by walk_at "my_read", by walk_at "my_read", by walk_at "my_read", by walk_at "my_read", by walk_at "my_read"⟩)
  · rintro m₁ news₁ h tk7 ⟨Du, n, tups, ps, num, dB, oB, oS, t1, t2, t3, rfl, hSO, hT, hJ, neD, neS, neDS, hm1, hm2, hm3, hm4, hm5⟩ F1 N1
    have hsz := hJ.sz
    have hmany := hJ.many
    have hs1 := hJ.fin255
    have hs2 := hJ.fin
    k_steps
    all_goals (refine Halt.out ?_)
    all_goals (refine kmk_add_lit (by k_asm) (by k_asm) (led_list (its := (refs tups).toArray) (by k_asm) (by walk_at "my_mem")) (led_list (n := 0) (by k_asm) (by walk_at "my_mem")) rfl ?_ (by rw [sizeLine_eq]; simp only [List.toList_toArray, refs_length, hT.1, List.length_cons, List.length_nil]; walk_at "om"); intro D2 h6 F6 N6 lt6; k_lt lt6)
    all_goals k_steps
    · (with_reducible rename (News _ _ _ _) => N9)
      (with_reducible rename (Fr _ _ _ _) => F9)
      obtain ⟨tups2, N7, hT2⟩ := data_fin (num := num) (oB := oB) (tups := tups) (dB := dB ++ #[255]) N9 (by walk_at "my_mem") (by walk_at "my_mem") (by walk_at "my_mem") (fun q hq => by walk_at "my_mem") hT hs1
      have bk := back (rest := pre ++ post) FG' NG' F9 N7
      exact ret _ _ _ _ tups2 0 _ _ bk.1 (fun q hq => bk.2 q (List.mem_append_left _ hq)) hT2 (by simp only [Array.size_append, List.size_toArray, List.length_cons, List.length_nil]; walk_at "om")
    · (with_reducible rename (News _ _ _ _) => N9)
      (with_reducible rename (Fr _ _ _ _) => F9)
      obtain ⟨tups2, N7, hT2⟩ := data_fin (num := num) (oB := oB) (tups := tups) (dB := dB) N9 (by walk_at "my_mem") (by walk_at "my_mem") (by walk_at "my_mem") (fun q hq => by walk_at "my_mem") hT hs2
      have bk := back (rest := pre ++ post) FG' NG' F9 N7
      exact ret _ _ _ _ tups2 0 _ _ bk.1 (fun q hq => bk.2 q (List.mem_append_left _ hq)) hT2 (by walk_at "om")
end

section
theorem words_16 : True := by
  k_with_none
  (k_with "my_enter" =>
    (
      (case k6 => k_is)
      (case k7 => k_is)
      (case k8 => ktr_room)
      (case k9 => rfl)
      (case kB => exact locs rfl)
      (case c2 => exact rfl)
      (case c3 => exact rfl)
      (case c4 => exact rfl)
      (case c5 => decide)))
  (k_with "my_fin" =>
    (
      (try dsimp only)
      (try k_unfold)
      (try dsimp only)))
  (k_with "my_read" =>
    ((try dsimp only); first
      | exact rfl
      | (with_reducible assumption)
      | exact if_pos rfl
      | (refine Eq.trans (if_neg (by decide)) ?_; walk_at "my_read")
      | fail "my_read"))
  (k_with "eval Name" =>
    (k_here; k_dflt (refine' nameX_L ?zqF ?zqv ?_ ?zqa ?zqb; (case zqF => k_asm); (case zqa => rfl); (case zqb => rfl); (case zqv => walk_at "my_read"); k_whole)))
  (k_with "my_room" =>
    (have hcL9 := cLine_is; first | ktr_room | ktr_units | (dsimp only [ktrTop, Around.deeper] at *; simp only [recursionLimit] at *; omega)))
  (k_with "call ref" =>
    refine toHalt ?_)
  (k_with "exec Assign cons ListComp" =>
    refine toHalt ?_)
  (k_with "eval ListComp" =>
    refine toHalt ?_)
  (k_with "CompSrc" =>
    refine toHalt ?_)
  (k_with "CompSrcT" =>
    refine toHalt ?_)
  (k_with "CompEnd" =>
    refine toHalt ?_)
  (k_with "UnrEnd" =>
    refine toHalt ?_)
  (k_with "om" =>
    first | ((repeat (with_reducible rename (_ ∧ _) => zz; clear zz)); omega) | omega)
  (k_with "my_enterC" =>
    (
      (case k6 => k_is)
      (case k7 => k_is)
      (case k8 => ktr_room)
      (case k9 => rfl)
      (case kB => exact rfl)
      (case kD => decide +kernel)
      (case c2 => exact rfl)
      (case c3 => exact rfl)
      (case c4 => exact rfl)))
  (k_with "call ref" =>
    ((with_reducible show wpAny _ _ (call (Value.ref 61) _) _ _ _); k_dflt (refine' c_take ?zqkB ?zqkF ?zqkX ?zqkN ?zqkT rfl ?zqkd ?zqku ?zqkU ?zqkS _ _ ?zqka ?zqkb ?_; (case zqkB => k_asm); (case zqkF => k_asm); (case zqkX => k_asm); (case zqkN => k_asm); (case zqkT => k_asm); (case zqkd => walk_at "my_room"); (case zqku => walk_at "my_room"); (case zqkU => k_updF); (case zqkS => assumption); (case zqka => first | decide | walk_at "om"); (case zqkb => first | decide | walk_at "om")); intro hq' tkq' rq' tq' oq' loq' hiq' hSq' Fq' Nq'; (try dsimp only at Nq')))
  (k_with "call type:range" =>
    ((with_reducible rename Fr _ _ _ _ => kF); (with_reducible rename News _ _ _ _ => kN); first
      | (with_unfolding_all refine range1_rows kF kN ?_; intro _ _ _ _ _ _ _ _ _)
      | (with_unfolding_all refine range2_rows kF kN ?_; intro _ _ _ _ _ _ _ _ _)))
  (k_with "subscriptTail Name Slice ref ref" =>
    (k_dflt (refine' slice1 ?zqF ?zqN ?zql ?zqp ?zqq ?zqz1 ?zqz ?_ ?zqs ?zqt; (case zqF => k_asm); (case zqN => k_asm); (case zql => kmk_list); (case zqp => kmk_part); (case zqq => kmk_part); (case zqs => with_unfolding_all rfl); (case zqt => kmk_pure); (case zqz => walk_at "om"); (case zqz1 => walk_at "om")); intro Dq' hq' Fq' Nq' lq1; (try k_lt lq1); (try k_sweep)))
  (k_with "call builtin:list.index" =>
    (k_dflt (refine' kf_index ?zqN ?zqm ?zqi ?zqe rfl ?zqz ?_; (case zqN => k_asm); (case zqm => k_mem); (case zqi => exact kf_ints_of (by assumption)); (case zqe => exact kf_at_of (by assumption) (by assumption)); (case zqz => (rw [sizeLine_eq]; (try simp only [List.toList_toArray]); walk_at "om")))))
  (k_with "compareOp Eq ref ref" =>
    refine toHalt ?_)
  trivial
theorem enter0 {A : Around} {K : Frag} {name qual : Str} {params : Arguments} {body : List Stmt} {scope : Scope} {dV kV doc pm cdv ct oc : Value} {an od : Option Addr} {osl : Array (Option Value)} {f : Addr} {vals : List Value} {binds : List (Str × Value)} {Q : Value → Shared → Prop} (X₀ : K.In s.heap) (T : Top p loose mean mg mb s.heap)
    (ho : K.lookup f = some ⟨oc, od, .func (fnOf name qual params body scope dV kV doc pm an cdv ct), osl⟩) (hcd : codeIn K cdv qual = true) (hroom : A.depth < recursionLimit)
    (hbind : bindArgs (fnOf name qual params body scope dV kV doc pm an cdv ct) ⟨vals, []⟩ = pure binds) (hloc : ∀ y ∈ binds, scope.names.lookup y.1 = some .local)
    (h : ∀ L' h₁, Fr s.heap L' h₁ (fun y => binds.reverse.lookup y) →
      wpD (model prog w) (A.deeper (envOf qual scope L' f cdv)) (execs body (envOf qual scope L' f cdv)) (fun fl s' => Q (match fl with | .ret v => v | _ => .none) s') { s with heap := h₁, toks := s.toks + binds.length })
    (hco : scope.isCoroutine = false) (hgen : scope.isGenerator = false) (hk : scope.kind = .function)
    (hcell : ∀ x ∈ scope.names, x.2 ≠ .cell) : wpD (model prog w) A (call (.ref f) vals) Q s := by
  refine wpD_call ?_
  refine codeD_call_def (fd := fnOf name qual params body scope dV kV doc pm an cdv ct) (body := body) (binds := binds) hroom (X₀ _ _ ho) rfl T.nolimit (codeRec_of X₀ hcd) rfl hbind hcell hloc (fun h₁ hns hk₁ => ?_) hco hgen hk
  exact h s.heap.objs.size h₁ ⟨hns, hk₁, Nat.le_refl _⟩

theorem wpD_callWith_fn {A : Around} {pos : Pos} {a : Addr} {first : List Value} {args : List (Bool × Sem Value)} {Q : Value → Shared → Prop} (hplain : args.any (·.1) = false)
    (h : wpAny (model prog w) A (evalArgs (.ref a) true args []) (fun x s₁ => Halt ((∃ o fd, s₁.heap.get? a = some o ∧ o.data = .func fd) ∧ wpD (model prog w) A (call (.ref a) (first ++ x.pos) x.kw) Q s₁)) (fun _ _ => False) s) :
    wpD (model prog w) A (callWith pos (.ref a) first args []) Q s := by
  unfold callWith
  refine wpD_bind (wpD_holding (wpD_any (wpAny_mono h (fun x s₁ h₁ => wpD_standAt ?_) fun _ _ x => x)))
  obtain ⟨⟨o, fd, h1, h2⟩, h3⟩ := h₁
  simp only [hplain, List.any_nil, Bool.or_false]
  unfold keeperOf
  refine wpD_leaf (wpAny_bind (wpAny_load h1 ?_))
  rw [h2]
  refine wpAny_pure ?_
  dsimp only
  split
  · exact wpD_tail h3
  · unfold callMarked; exact wpD_tail (wpD_keep h3)
theorem wpD_callWith_fn1 {A : Around} {env : Env} {pos : Pos} {a : Addr} {e : PySem.Expr} {Q : Value → Shared → Prop} (htrees : backTo pos (starEach [e] env) = [(false, eval e env)])
    (h : wpAny (model prog w) A (eval e env) (fun v s₁ => Halt ((∃ o fd, s₁.heap.get? a = some o ∧ o.data = .func fd) ∧ wpD (model prog w) A (call (.ref a) [v]) Q s₁)) (fun _ _ => False) s) :
    wpD (model prog w) A (callWith pos (.ref a) [] (backTo pos (starEach [e] env)) []) Q s := by
  refine wpD_callWith_fn (by rw [htrees]; rfl) ?_
  rw [htrees]
  exact evalArgs_plain (spliced_cons (wpAny_mono h (fun v s₂ h₂ => spliced_nil h₂) fun _ _ x => x))
local macro_rules | `(tactic| k_all) => `(tactic| assumption)
theorem words_17 : True := by
  (k_with "call ref" =>
    ((with_reducible show wpAny _ _ (call (Value.ref 54) _) _ _ _); k_dflt (refine' c_pool ?zqkB ?zqkF ?zqkX ?zqkN ?zqkT rfl ?zqkd ?zqku ?zqkl ?zqki ?zqkn ?_; (case zqkB => k_asm); (case zqkF => k_asm); (case zqkX => k_asm); (case zqkN => k_asm); (case zqkT => k_asm); (case zqkd => walk_at "my_room"); (case zqku => walk_at "my_room"); (case zqkl => is_list); (case zqki => assumption); (case zqkn => walk_at "om")); intro hq' tkq' Sq' oq' hSq' Fq' Nq' offq'))
  (k_with "call ref" =>
    ((with_reducible show wpAny _ _ (call (Value.ref 66) _) _ _ _); refine toHalt ?_))
  (k_with "call ref" =>
    ((with_reducible show wpAny _ _ (call (Value.ref 71) _) _ _ _); refine toHalt ?_))
  (k_with "call ref" =>
    ((with_reducible show wpAny _ _ (call (Value.ref 78) _) _ _ _); refine toHalt ?_))
  trivial
theorem law_walk : PySem.Challenge.rw_ok0123_01.Holds := by
  refine hd ?_
  k_fill
  intro w s₀ s₁ mg mb G Y fa o pm cd doc dV kV ho hd' hcd hD hmg hg args vals as hpre hlay hrd hwl hlo
  have KX := kIn_of Y
  refine Ground.open G ?_
  intro T B D TE TW
  have e85 := mg_of KX T.g (n := Str.ofString "law") (v := .ref 85) (by k_is)
  have hfa : fa = 85 := by
    have := hmg.symm.trans e85
    simpa using this
  subst hfa
  clear hmg e85 ho hd' hcd hD TE TW D
  wrow_args hpre hlay hrd hwl hlo
  rename_i ns _ _ _ _ _ _ _ l vs _ hL _ _ _ hI _ hn _
  have hn63 : ns.length ≤ 63 := by walk_at "om"
  k_dflt (refine' enter0 (binds := [(Str.ofString "script", .ref l)]) KX T ?k6 ?k7 ?k8 ?k9 ?kB ?_ ?c2 ?c3 ?c4 ?c5; (case k6 => k_is); (case k7 => k_is); (case k8 => decide); (case k9 => rfl); (case kB => exact locs rfl); (case c2 => exact rfl); (case c3 => exact rfl); (case c4 => exact rfl); (case c5 => decide))
  intro L' h1 F'
  have B0 := below_caller s₁.heap
  have N0 : News s₁.heap L' h1 [] := fun _ h => nomatch h
  (try dsimp only)
  refine wpD_execs_leaf ?_
  k_steps
  refine wpD_execs_leaf ?_
  k_steps
  (with_reducible rename Int => r)
  have hr0 : 0 ≤ r := by assumption
  have hr1 : r < 20 := by assumption
  obtain ⟨k, hk⟩ : ∃ k : Nat, 1 + r = (k : Int) := ⟨(1 + r).toNat, by walk_at "om"⟩
  have hk1 : 1 ≤ k := by walk_at "om"
  have hk2 : k ≤ 20 := by walk_at "om"
  (with_reducible rename (Fr _ _ _ _) => F9)
  simp only [hk] at F9
  refine wpD_execs_leaf ?_
  k_steps
  refine Halt.out ?_
  refine c_lost (by k_asm) (by k_asm) (by k_asm) (by k_asm) (by k_asm) rfl (by walk_at "my_room") (by walk_at "my_room") (by k_updF) (by assumption) k _ hk1 hk2 ?_
  intro h3 tk3 o3 hS3 F3 N3
  (try dsimp only at N3)
  k_steps
  refine Halt.out ?_
  refine c_false (by k_asm) (by k_asm) (by k_asm) (by k_asm) (by k_asm) rfl (by walk_at "my_room") (by walk_at "my_room") (by k_updF) hS3 k _ hk1 hk2 ?_
  intro h4 tk4 o4 hS4 F4 N4
  (try dsimp only at N4)
  k_steps
  refine wpD_execs_leaf ?_
  k_steps
  refine Halt.out ?_
  refine c_data (by k_asm) (by k_asm) (by k_asm) (by k_asm) (by k_asm) rfl (by walk_at "my_room") (by walk_at "my_room") (by k_updF) hS4 ?_
  intro h5 tk5 TP Dn tups n5 dB td F5 N5 hT hsz
  obtain ⟨b, rfl⟩ : ∃ b : List UInt8, dB = b.toArray := ⟨dB.toList, by simp⟩
  rw [List.toList_toArray] at hT
  rw [List.size_toArray] at hsz
  k_steps
  refine wpD_execs_cons ?_
  refine wpD_Return ?_
  refine wpD_Compare1 ?_
  refine wpD_Call_Name ?_
  k_steps
  refine wpD_callWith_fn1 rfl ?_
  k_steps
  (with_reducible rename (Fr _ _ _ _) => F8)
  refine Halt.out ⟨⟨_, _, (KX.keeps F8.keep) _ _ (by k_is), rfl⟩, ?_⟩
  (try dsimp only)
  refine c_found (by k_asm) (by k_asm) (by k_asm) (by k_asm) (by k_asm) rfl (by walk_at "my_room") (by walk_at "my_room") b _ hsz ?_
  intro h6 tk6 P tups2 n6 F6 N6 dis6 hT2
  (try dsimp only)
  k_steps
  refine Halt.out ?_
  refine eq_tups (tups := tups2) (tups' := tups) (ps := scan b [] (-1) #[]) N6 (fun q hq => List.mem_append_left _ (.tail _ hq)) (fun q hq => List.mem_append_right _ (.tail _ (.tail _ hq))) (.head _) (List.mem_append_right _ (.tail _ (.head _))) hT2 hT (fun q hq r hr => (dis6 r (.tail _ (.tail _ hr)) q (.tail _ hq)).symm) (by walk_at "my_room") ?_
  refine GoodW.toG (goodW_bool F6 hg (fun _ => rfl) ?_ rfl)
  first | rfl | wrow_post
end

end
end Mine
end

theorem PySem.Challenge.cw_ok0123_01_holds : PySem.Challenge.rw_ok0123_01.Holds := by
  exact Mine.law_walk
