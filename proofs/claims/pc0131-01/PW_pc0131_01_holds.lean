import PyProof.Rows.All
import Wide.All
import OpenK.AllK
import Wide.FinOn
import KE.KBytesCut
import KE.BytesMulAny
import Lean
import PySem.Challenge.RW_pc0131_01
set_option Elab.async false
section -- Ok
open PySem PySem.W PyProof.Rows PySem.Calls
set_option Elab.async false
set_option maxRecDepth 100000
namespace Mine

/-- codes that hold their first argument's memory while they run -/
def holdsMem : Code → Bool
  | .builtin id _ => Builtin.Bytes.decodersThatHold.contains id || (["bytearray.__contains__", "bytearray.__mod__", "bytearray.__rmod__", "_struct.pack_into.held", "bytearray.find.held"] : List String).contains id
  | _ => false
def Clean (l : List (Code × Pos)) : Prop := ∀ q ∈ l, holdsMem q.1 = false

/-- as wpAny without raising, for the stacks alone on which no code holds a bytearray's memory -/
def wpOk {α : Type} (M : Model) (A : Around) (t : Sem α) (Q : α → Shared → Prop) (s : Shared) : Prop :=
  ∀ Γ p, Γ.In A → holdsMem Γ.code = false → Clean Γ.below → Sem.wp M Γ t (fun a _ s' => Q a s') (fun _ _ _ => False) p s
def codeOk (M : Model) (A : Around) (c : Code) (R : Result → Shared → Prop) (s : Shared) : Prop :=
  ∀ Γ p, Γ.code = c → Γ.Below A → Clean Γ.below → wpCode M Γ R p s

def okFlow (Q : Flow → Shared → Prop) (r : Result) (s : Shared) : Prop := match r with | .ok f => Q f s | .error _ => False
def okValue (Q : Value → Shared → Prop) (r : Result) (s : Shared) : Prop := match r with | .ok (.ret v) => Q v s | _ => False

section
variable {α β : Type} {M : Model} {A : Around} {s : Shared}

theorem wpOk_of_any {t : Sem α} {Q : α → Shared → Prop} (h : wpAny M A t Q (fun _ _ => False) s) : wpOk M A t Q s := fun Γ p hΓ _ _ => h Γ p hΓ
theorem codeOk_of_any {c : Code} {R : Result → Shared → Prop} (h : codeAny M A c R s) : codeOk M A c R s := fun Γ p hc hΓ _ => h Γ p hc hΓ
theorem wpOk_mono {t : Sem α} {Q Q' : α → Shared → Prop} (h : wpOk M A t Q s) (hQ : ∀ a s, Q a s → Q' a s) : wpOk M A t Q' s :=
  fun Γ p hΓ h1 h2 => Sem.wp_mono M Γ t (fun a _ s => hQ a s) (fun _ _ _ x => x) p s (h Γ p hΓ h1 h2)
theorem wpOk_pure {a : α} {Q : α → Shared → Prop} (h : Q a s) : wpOk M A (pure a) Q s := wpOk_of_any (wpAny_pure h)
theorem wpOk_bind {m : Sem α} {f : α → Sem β} {Q : β → Shared → Prop} (h : wpOk M A m (fun a s' => wpOk M A (f a) Q s') s) : wpOk M A (m >>= f) Q s := fun Γ p hΓ h1 h2 => by
  rw [Sem.wp_bind']
  exact Sem.wp_mono M Γ m (fun a p' s' h' => h' Γ p' hΓ h1 h2) (fun _ _ _ h' => h') p s (h Γ p hΓ h1 h2)
/-- first what any stack allows, then the rest -/
theorem wpOk_then {m : Sem α} {f : α → Sem β} {Q : β → Shared → Prop} (h : wpAny M A m (fun a s' => wpOk M A (f a) Q s') (fun _ _ => False) s) : wpOk M A (m >>= f) Q s := wpOk_bind (wpOk_of_any h)
theorem wpOk_holding {vs : List Value} {m : Sem α} {Q : α → Shared → Prop} (h : wpOk M A m Q s) : wpOk M A (holding vs m) Q s :=
  fun Γ p hΓ h1 h2 => by rw [Sem.wp_holding]; exact h Γ p hΓ h1 h2
theorem wpOk_onRaise {m : Sem α} {k : Value → Sem Unit} {Q : α → Shared → Prop} (h : wpOk M A m Q s) : wpOk M A (m.onRaise k) Q s := fun Γ p hΓ h1 h2 => by
  rw [Sem.wp_onRaise]
  exact Sem.wp_mono M Γ m (fun _ _ _ h' => h') (fun _ _ _ h' => h'.elim) p s (h Γ p hΓ h1 h2)
theorem wpOk_standAt {pos : Pos} {Q : Unit → Shared → Prop} (h : Q () s) : wpOk M A (standAt pos) Q s := wpOk_of_any (wpAny_standAt h)
theorem wpOk_ite {c : Prop} [Decidable c] {a b : Sem α} {Q : α → Shared → Prop} (h : if c then wpOk M A a Q s else wpOk M A b Q s) : wpOk M A (if c then a else b) Q s := by split <;> simp_all
theorem wpOk_operate {vs : List Value} {m : Sem Value} {Q : Value → Shared → Prop} (h : wpOk M A m Q s) : wpOk M A (operate vs m) Q s :=
  fun Γ p hΓ h1 h2 => by rw [Sem.wp_operate]; exact h Γ p hΓ h1 h2

theorem clean_cons {Γ : Ctx} {p : Pos} (h1 : holdsMem Γ.code = false) (h2 : Clean Γ.below) : Clean ((Γ.code, p) :: Γ.below) := fun q hq => by
  rcases List.mem_cons.mp hq with rfl | hq
  · exact h1
  · exact h2 q hq

theorem wpOk_run {c : Code} {h : Option Value} {Q : Flow → Shared → Prop} (hc : codeOk M (A.mark h) c (okFlow Q) s) (hnb : h ≠ some byPass := by intro x; cases x) : wpOk M A (run c h) Q s :=
  fun Γ p hΓ h1 h2 => by
    rw [Sem.wp_run]
    have z := hc _ p rfl (hΓ.enter c h p hnb) (clean_cons (p := p) h1 h2)
    obtain ⟨r, s', hr, hq⟩ := z
    refine ⟨r, s', hr, ?_⟩
    cases r with
    | ok f => exact hq
    | error e => exact hq.elim
theorem wpOk_runOwn {c : Code} {env : Env} {h : Option Value} {Q : Flow → Shared → Prop} (hc : codeOk M (A.mark h) c (okFlow Q) s) (hnb : h ≠ some byPass := by intro x; cases x) : wpOk M A (runOwn c env h) Q s := by
  unfold runOwn
  exact wpOk_onRaise (wpOk_run hc hnb)
theorem wpOk_runValue {c : Code} {Q : Value → Shared → Prop} (hc : codeOk M A c (okValue Q) s) : wpOk M A (runValue c) Q s := fun Γ p hΓ h1 h2 => by
  rw [Sem.wp_runValue]
  obtain ⟨r, s', hr, hq⟩ := hc _ p rfl (hΓ.enter c none p (by intro x; cases x)) (clean_cons (p := p) h1 h2)
  refine ⟨r, s', hr, ?_⟩
  cases r with
  | error e => exact hq.elim
  | ok f => cases f <;> exact hq
theorem wpOk_call {f : Value} {pos : List Value} {kw : List (Str × Value)} {Q : Value → Shared → Prop} (hc : codeOk M A (.call f ⟨pos, kw⟩) (okValue Q) s) : wpOk M A (call f pos kw) Q s := wpOk_runValue hc

theorem codeOk_mono {c : Code} {R R' : Result → Shared → Prop} (h : codeOk M A c R s) (hR : ∀ r s, R r s → R' r s) : codeOk M A c R' s := fun Γ p hc hΓ h2 => wpCode_mono hR (h Γ p hc hΓ h2)

def finOk (M : Model) (A : Around) (R : Result → Shared → Prop) (fin : Fin) (s' : Shared) : Prop := match fin with | .done f => R (.ok f) s' | .again c' => c'.quiet = true ∧ codeOk M A c' R s'
theorem codeOk_of_tree {c : Code} {R : Result → Shared → Prop} (hm : holdsMem c = false) (h : wpOk M (A.under c) (M.den c) (finOk M A R) s) : codeOk M A c R s := fun Γ p hc hΓ h2 => by
  rw [wpCode_iff_wp, hc]
  refine Sem.wp_mono M Γ _ (fun fin p' s' h' => ?_) (fun _ _ _ h' => h'.elim) p s (h Γ p (hc ▸ hΓ.in) (by rw [hc]; exact hm) h2)
  cases fin with
  | done f => exact h'
  | again c' => exact ⟨h'.1, h'.2 (Γ.goto c') p' rfl (hΓ.goto c') h2⟩

theorem codeOk_loop {c : Code} {R : Result → Shared → Prop} (hm : holdsMem c = false) (hq : c.quiet = true) (I : Nat → Shared → Prop)
    (turn : ∀ n s, I n s → wpOk M (A.under c) (M.den c) (fun fin s' => match fin with
      | .done f => R (.ok f) s'
      | .again c' => (c' = c ∧ ∃ m, m < n ∧ I m s') ∨ (c'.quiet = true ∧ codeOk M A c' R s')) s) (n : Nat) (h : I n s) : codeOk M A c R s := by
  induction n using Nat.strongRecOn generalizing s with
  | ind n ih =>
    refine codeOk_of_tree hm (wpOk_mono (turn n s h) fun fin s' hf => ?_)
    cases fin with
    | done f => exact hf
    | again c' =>
      rcases hf with ⟨rfl, m, hm, hI⟩ | hf
      · exact ⟨hq, ih m hm hI⟩
      · exact hf
end

section
variable {M : Model} {A : Around} {s : Shared} {env : Env}
def okNext (M : Model) (A : Around) (rest : List Stmt) (env : Env) (Q : Flow → Shared → Prop) (f : Flow) (s' : Shared) : Prop := match f with | .next => wpOk M A (execs rest env) Q s' | f => Q f s'
theorem wpOk_execs_cons {st : Stmt} {rest : List Stmt} {Q : Flow → Shared → Prop} (h : wpOk M A (exec st env) (okNext M A rest env Q) s) : wpOk M A (execs (st :: rest) env) Q s := by
  rw [execs_cons]
  refine wpOk_bind (wpOk_mono h fun f s' h' => ?_)
  cases f with
  | next => exact h'
  | _ => exact wpOk_pure h'
theorem execs_split (pre rest : List Stmt) (env : Env) : execs (pre ++ rest) env = (do match ← execs pre env with | .next => execs rest env | f => pure f) := by
  induction pre with
  | nil =>
    show execs rest env = (pure Flow.next >>= fun f => match f with | .next => execs rest env | f => pure f)
    rw [pure_bind]
  | cons st pre ih =>
    show execs (st :: (pre ++ rest)) env = _
    rw [execs_cons, execs_cons, bind_assoc]
    congr 1
    funext f
    cases f with
    | next => exact ih
    | _ => simp
/-- a run of statements that any stack allows, then the rest -/
theorem wpOk_execs_any {pre rest : List Stmt} {Q : Flow → Shared → Prop} (h : wpAny M A (execs pre env) (okNext M A rest env Q) (fun _ _ => False) s) : wpOk M A (execs (pre ++ rest) env) Q s := by
  rw [execs_split]
  refine wpOk_then (wpAny_mono h (fun f s' h' => ?_) fun _ _ x => x)
  cases f with
  | next => exact h'
  | _ => exact wpOk_pure h'
theorem wpOk_Expr {e : Expr} {pos : Pos} {Q : Flow → Shared → Prop} (h : wpOk M A (eval e env) (fun v s' => (∀ a, v ≠ .ref a) ∧ Q .next s') s)
    (hi : interactive env = false := by rfl) (hs : swapsWith e none pos.line env = pure false := by rfl) : wpOk M A (exec (.Expr e pos) env) Q s := by
  rw [exec_Expr env e pos hi hs]
  refine wpOk_bind (wpOk_standAt (wpOk_bind (wpOk_mono h fun v s' h' => ?_)))
  rw [dropValue_plain h'.1]
  exact wpOk_pure h'.2
theorem wpOk_If {test : Expr} {body orelse : List Stmt} {pos : Pos} {Q : Flow → Shared → Prop} (h : wpOk M A (isTrue test env (eval test env)) (fun b s₂ => if b then wpOk M A (execs body env) Q s₂ else wpOk M A (execs orelse env) Q s₂) s) :
    wpOk M A (exec (.If test body orelse pos) env) Q s := by
  rw [exec_If]
  refine wpOk_bind (wpOk_standAt (wpOk_bind (wpOk_mono h fun b s' h' => ?_)))
  cases b <;> simpa using h'
theorem wpOk_Return {e : Expr} {pos : Pos} {Q : Flow → Shared → Prop} (h : wpOk M A (eval e env) (fun v => Q (.ret v)) s) : wpOk M A (exec (.Return (some e) pos) env) Q s := by
  rw [exec_Return_some]
  exact wpOk_bind (wpOk_standAt (wpOk_bind (wpOk_mono h fun v s' h' => wpOk_pure h')))
theorem wpOk_Compare {l r : Expr} {op : CmpOp} {pos : Pos} {Q : Value → Shared → Prop} (h : wpOk M A (eval l env) (fun a s₁ => wpAny M A (eval r env) (fun b s₂ => wpAny M A (compareOp op a b) Q (fun _ _ => False) s₂) (fun _ _ => False) s₁) s)
    (hm : behindInMarks op r = false := by with_unfolding_all rfl) : wpOk M A (eval (.Compare l [op] [r] pos) env) Q s := by
  rw [eval_Compare1, markedBehindIn_of_false hm]
  exact wpOk_bind (wpOk_mono h fun a s₁ h₁ => wpOk_then (wpAny_holding (wpAny_mono h₁ (fun b s₂ h₂ => wpOk_bind (wpOk_standAt (wpOk_operate (wpOk_of_any h₂)))) fun _ _ x => x)))
theorem wpOk_isTrue_Compare {l r : Expr} {op : CmpOp} {pos : Pos} {whole : Sem Value} {Q : Bool → Shared → Prop} (h : wpOk M A (eval l env) (fun a s₁ => wpAny M A (eval r env) (fun b s₂ => wpAny M A (compareOp op a b) (fun c s₃ => wpAny M A (truthy c) Q (fun _ _ => False) s₃) (fun _ _ => False) s₂) (fun _ _ => False) s₁) s)
    (hm : behindInMarks op r = false := by with_unfolding_all rfl) : wpOk M A (isTrue (.Compare l [op] [r] pos) env whole) Q s := by
  rw [isTrue_Compare1, markedBehindIn_of_false hm]
  exact wpOk_bind (wpOk_mono h fun a s₁ h₁ => wpOk_then (wpAny_holding (wpAny_mono h₁ (fun b s₂ h₂ => wpOk_bind (wpOk_standAt (wpOk_then (by
    intro Γ p hΓ
    rw [Sem.wp_operate]
    exact wpAny_mono h₂ (fun c s₃ h₃ => wpOk_of_any (wpAny_holding h₃)) (fun _ _ x => x) Γ p hΓ)))) fun _ _ x => x)))
theorem wpOk_And {e₁ e₂ : Expr} {rest : List Expr} {pos : Pos} {Q : Value → Shared → Prop}
    (h : wpOk M A (eval e₁ env) (fun v s₁ => wpAny M A (truthy v) (fun c s₂ => if c then wpAny M A (eval (.BoolOp .And (e₂ :: rest) pos) env) Q (fun _ _ => False) s₂ else Q v s₂) (fun _ _ => False) s₁) s) :
    wpOk M A (eval (.BoolOp .And (e₁ :: e₂ :: rest) pos) env) Q s := by
  show wpOk M A (do
    let v ← eval e₁ env
    standAt pos
    let c ← holding [v] (truthy v)
    match BoolOp.And, c with
    | .And, false | .Or, true => pure v
    | _, _ => boolOp pos .And (eval e₂ env :: evalEach rest env)) Q s
  refine wpOk_bind (wpOk_mono h fun v s₁ h₁ => wpOk_bind (wpOk_standAt (wpOk_then (wpAny_holding (wpAny_mono h₁ (fun c s₂ h₂ => ?_) fun _ _ x => x)))))
  cases c with
  | false => exact wpOk_pure (by simpa using h₂)
  | true => exact wpOk_of_any (show wpAny M A (eval (.BoolOp .And (e₂ :: rest) pos) env) Q _ s₂ from by simpa using h₂)
theorem wpOk_Call {func : Expr} {args : List Expr} {pos : Pos} {Q : Value → Shared → Prop} (h : wpAny M A (eval func env) (fun f s₁ => wpOk M A (callWith pos f [] (backTo pos (starEach args env)) []) Q s₁) (fun _ _ => False) s)
    (he : eval (.Call func args [] pos) env = (do callWith pos (← eval func env) [] (backTo pos (starEach args env)) (backToKw pos (keywordEach [] env))) := by rfl) :
    wpOk M A (eval (.Call func args [] pos) env) Q s := by
  rw [he]; exact wpOk_then h
theorem wpOk_MethodCall {o : Expr} {name : Str} {apos pos : Pos} {args : List Expr} {pl : Sem Bool} {Q : Value → Shared → Prop}
    (h : wpAny M A (eval o env) (fun ov s₁ => wpAny M A (getMethod ov name pl) (fun fx s₂ => wpOk M A (callWith pos fx.1 fx.2 (backTo pos (starEach args env)) []) Q s₂) (fun _ _ => False) s₁) (fun _ _ => False) s)
    (he : eval (.Call (.Attribute o name apos) args [] pos) env = (do
      let ov ← eval o env
      standAt apos.atName
      let (f, first) ← holding [ov] (getMethod ov name pl)
      callWith pos f first (backTo pos (starEach args env)) []) := by rfl) : wpOk M A (eval (.Call (.Attribute o name apos) args [] pos) env) Q s := by
  rw [he]
  exact wpOk_then (wpAny_mono h (fun ov s₁ h₁ => wpOk_bind (wpOk_standAt (wpOk_then (wpAny_holding (wpAny_mono h₁ (fun fx s₂ h₂ => h₂) fun _ _ x => x))))) fun _ _ x => x)
theorem wpOk_callWith {pos : Pos} {f : Value} {first : List Value} {args : List (Bool × Sem Value)} {Q : Value → Shared → Prop} (hk : keeperOf f = pure Keeper.machine) (hplain : args.any (·.1) = false)
    (h : wpAny M A (evalArgs f true args []) (fun a s₁ => wpOk M A (call f (first ++ a.pos) a.kw) Q s₁) (fun _ _ => False) s) : wpOk M A (callWith pos f first args []) Q s := by
  unfold callWith
  refine wpOk_then (wpAny_holding (wpAny_mono h (fun a s₁ h₁ => wpOk_bind (wpOk_standAt ?_)) fun _ _ x => x))
  simp only [hplain, List.any_nil, Bool.or_false]
  rw [hk]
  refine wpOk_bind (wpOk_pure ?_)
  exact wpOk_bind (wpOk_mono h₁ fun r s₂ hr => wpOk_then (wpAny_holding (wpAny_point (wpOk_pure hr))))
theorem wpOk_keep {α : Type} {t : Sem α} {vs : List Value} {Q : α → Shared → Prop} (h : wpOk M A t Q s) : wpOk M A (t.keep vs) Q s :=
  fun Γ p hΓ h1 h2 => by rw [Sem.wp_keep]; exact h Γ p hΓ h1 h2
theorem wpOk_callWith_def {pos : Pos} {a : Addr} {o : Obj} {fd : FuncData} {args : List (Bool × Sem Value)} {Q : Value → Shared → Prop} (hdat : o.data = .func fd) (hplain : args.any (·.1) = false)
    (h : wpAny M A (evalArgs (.ref a) true args []) (fun x s₁ => s₁.heap.get? a = some o ∧ wpOk M A (call (.ref a) x.pos x.kw) Q s₁) (fun _ _ => False) s) : wpOk M A (callWith pos (.ref a) [] args []) Q s := by
  unfold callWith
  refine wpOk_then (wpAny_holding (wpAny_mono h (fun x s₁ h₁ => wpOk_bind (wpOk_standAt ?_)) fun _ _ x => x))
  have tail : ∀ {t : Sem Value}, wpOk M A t Q s₁ → wpOk M A (t >>= fun r => holding [r] point >>= fun _ => pure r) Q s₁ :=
    fun ht => wpOk_bind (wpOk_mono ht fun r s₂ hr => wpOk_then (wpAny_holding (wpAny_point (wpOk_pure hr))))
  simp only [hplain, List.any_nil, Bool.or_false]
  refine wpOk_bind (m := keeperOf (.ref a)) (wpOk_of_any ?_)
  unfold keeperOf
  refine wpAny_bind (wpAny_load h₁.1 ?_)
  rw [hdat]
  refine wpAny_pure ?_
  first
    | refine wpOk_ite ?_
    | skip
  split <;> first
    | exact tail h₁.2
    | exact tail (by unfold callMarked; exact wpOk_keep h₁.2)

theorem wpOk_For {target iter : Expr} {body orelse : List Stmt} {pos : Pos} {Q : Flow → Shared → Prop}
    (h : wpAny M A (eval iter env) (fun x s₁ => wpAny M A (pyIter x) (fun it s₂ => codeOk M A (.forLoop target it body orelse env) (okFlow Q) s₂) (fun _ _ => False) s₁) (fun _ _ => False) s)
    (hs : ∀ x, foldedSetIterable iter env x = pure x := by intro _; rfl) : wpOk M A (exec (.For target iter body orelse pos) env) Q s := by
  rw [exec_For]
  refine wpOk_bind (wpOk_standAt (wpOk_then (wpAny_mono h (fun x s₁ h₁ => ?_) fun _ _ x => x)))
  rw [hs x]
  refine wpOk_bind (wpOk_pure (wpOk_bind (wpOk_standAt (wpOk_then (wpAny_holding (wpAny_mono h₁ (fun it s₂ h₂ => ?_) fun _ _ x => x))))))
  exact wpOk_runOwn h₂
end

section
variable {prog : Program} {w : World} {A : Around} {s : Shared} {env : Env}
theorem codeOk_forLoop {R : Result → Shared → Prop} {target : Expr} {it : Value} {body : List Stmt} (I : Nat → Shared → Prop)
    (turn : ∀ n s, I n s → wpAny (model prog w) A (pyNext it) (fun r s₁ => match r with
      | none => R (.ok .next) s₁
      | some v => wpAny (model prog w) A (letOwnedTupleGo target it v) (fun _ s₁' =>
          wpAny (model prog w) A (assign target env v) (fun _ s₂ => wpOk (model prog w) A (execs body env) (fun f s₃ => match f with
            | .next | .cont => ∃ m, m < n ∧ I m s₃
            | .brk => R (.ok .next) s₃
            | .ret v => R (.ok (.ret v)) s₃) s₂) (fun _ _ => False) s₁') (fun _ _ => False) s₁) (fun _ _ => False) s)
    (n : Nat) (h : I n s) : codeOk (model prog w) A (.forLoop target it body [] env) R s := by
  refine codeOk_loop rfl rfl I (fun n s hI => ?_) n h
  show wpOk _ A ((forTurn target it body [] env).onRaise (fun x => do noteFrame x env; theTreesLotGoes x)) _ s
  refine wpOk_onRaise ?_
  simp only [forTurn]
  refine wpOk_bind (wpOk_standAt (wpOk_then (wpAny_onRaise (wpAny_mono (turn n s hI) (fun r s₁ h₁ => ?_) fun _ _ h' => h'.elim))))
  cases r with
  | none =>
    refine wpOk_pure (.inr ⟨rfl, codeOk_of_any (codeAny_block ?_)⟩)
    exact wpAny_execs_nil h₁
  | some v =>
    refine wpOk_then (wpAny_mono h₁ (fun _ s₁' h₁' => ?_) fun _ _ h' => h')
    refine wpOk_then (wpAny_mono h₁' (fun _ s₂ h₂ => wpOk_bind (wpOk_mono h₂ fun f s₃ h₃ => ?_)) fun _ _ h' => h')
    cases f with
    | next => exact wpOk_pure (.inl ⟨rfl, h₃⟩)
    | cont => exact wpOk_pure (.inl ⟨rfl, h₃⟩)
    | brk => exact wpOk_pure h₃
    | ret v => exact wpOk_pure h₃

theorem codeOk_func {R : Result → Shared → Prop} {body : List Stmt} (h : wpOk (model prog w) (A.deeper env) (execs body env) (fun f s' => R (.ok (.ret (match f with | .ret v => v | _ => .none))) s') s) :
    codeOk (model prog w) A (.func body env) R s := by
  refine codeOk_of_tree rfl ?_
  show wpOk _ (A.deeper env) (do point; match ← (execs body env).onRaise (leaving env) with | .ret v => ret v | _ => ret .none) _ s
  refine wpOk_then (wpAny_point (wpOk_bind (wpOk_onRaise (wpOk_mono h fun f s' h' => ?_))))
  cases f <;> exact wpOk_pure h'

theorem codeOk_call_function {R : Result → Shared → Prop} {a : Addr} {args : Args} {o : Obj} {fd : FuncData} {body : List Stmt} (hroom : A.depth < recursionLimit)
    (ho : s.heap.get? a = some o) (hd' : o.data = .func fd) (hco : fd.scope.isCoroutine = false) (hgen : fd.scope.isGenerator = false) (hbody : fd.body = .stmts body) (hcd : s.heap.CodeRec fd.code fd.qualname)
    (h : wpAny (model prog w) A.in1 (bindArgs fd args) (fun binds s₁ =>
      wpAny (model prog w) A.in1 (newFunctionEnv fd.scope fd.globals fd.closure binds (fd.qualname ++ ".<locals>.") (some a) fd.code none fd.builtins)
        (fun env s₂ => s₂.heap.NoLimit ∧ codeOk (model prog w) A (.func body env) R s₂) (fun _ _ => False) s₁) (fun _ _ => False) s) :
    codeOk (model prog w) A (.call (.ref a) args) R s := by
  refine codeOk_of_tree rfl ?_
  show wpOk _ A.in1 (callAny (.ref a) args) _ s
  simp only [callAny]
  refine wpOk_then (wpAny_load ho ?_)
  obtain ⟨c, oc, vs, tq, hc, hoc, hdc, hq⟩ := hcd
  simp only [hd', callFunction, hco, hgen, hbody, hc]
  rw [hc] at h
  refine wpOk_then (m := field (.ref c) 1) (wpAny_field hoc hdc hq (wpOk_bind (wpOk_pure ?_)))
  exact wpOk_then (wpAny_mono h (fun binds s₁ h₁ => wpOk_then (wpAny_mono h₁ (fun env s₂ h₂ => wpOk_then (wpAny_enterFrame h₂.1 hroom
    (wpOk_pure (And.intro rfl h₂.2)))) fun _ _ h' => h')) fun _ _ h' => h')

theorem codeOk_builtin {R : Result → Shared → Prop} {id : String} {args : Args} {b : Builtin} (hm : holdsMem (.builtin id args) = false) (hb : entryFor table id = some b)
    (h : wpOk (model prog w) (A.under (.builtin id args)) (b args) (finOk (model prog w) A R) s) : codeOk (model prog w) A (.builtin id args) R s := by
  refine codeOk_of_tree hm ?_
  show wpOk _ _ (match entryFor table id with | some b => b args | none => unsupported ((withoutEnding? id "#data").getD id)) _ s
  rw [hb]; exact h
theorem codeOk_call_builtin {R : Result → Shared → Prop} {id : String} {args : Args} {b : Builtin} (hm : holdsMem (.builtin id args) = false) (hq : plainId id = true) (hb : entryFor table id = some b)
    (h : wpAny (model prog w) A.in1 (checkBuiltinCall id args) (fun _ s₁ => wpOk (model prog w) A.in1 (b args) (finOk (model prog w) A R) s₁) (fun _ _ => False) s) : codeOk (model prog w) A (.call (.builtin id) args) R s := by
  refine codeOk_of_tree rfl ?_
  show wpOk _ A.in1 (do checkBuiltinCall id args; again (.builtin id args)) _ s
  refine wpOk_then (wpAny_mono h (fun _ s₁ h₁ => wpOk_pure ⟨plainId_quiet hq args, codeOk_builtin hm hb ?_⟩) fun _ _ x => x)
  rw [Around.under_plainId hq args]
  exact h₁
end
end Mine
end
section -- Root
open PySem PySem.W PyProof.Rows PySem.Calls
set_option Elab.async false
set_option maxRecDepth 100000
namespace Mine
/-! From clean stacks to the claim: the library's road is taken for a guarded tree, which on a stack that is not clean is done at once; the claim's own thread starts on a clean stack, where the guard is one step. -/
def onClean {α : Type} (d : α) (t : Sem α) : Sem α := .stack fun l => if (l.all fun q => !holdsMem q.1) = true then t else .pure d
theorem all_clean {c : Code} {p : Pos} {l : List (Code × Pos)} : (((c, p) :: l).all fun q => !holdsMem q.1) = true ↔ holdsMem c = false ∧ Clean l := by
  rw [List.all_cons, Bool.and_eq_true, List.all_eq_true]
  simp only [Bool.not_eq_true']
  exact Iff.rfl
theorem any_onClean {α : Type} {M : Model} {A : Around} {s : Shared} {t : Sem α} {d : α} {Q : α → Shared → Prop} {E : Value → Shared → Prop} (h : wpOk M A t Q s) (hd : Q d s) : wpAny M A (onClean d t) Q E s := fun Γ p hΓ => by
  unfold onClean
  rw [Sem.wp_stack]
  by_cases hc : (((Γ.code, p) :: Γ.below).all fun q => !holdsMem q.1) = true
  · rw [if_pos hc]
    obtain ⟨h1, h2⟩ := all_clean.mp hc
    exact Sem.wp_mono M Γ t (fun _ _ _ x => x) (fun _ _ _ x => x.elim) p s (h Γ p hΓ h1 h2)
  · rw [if_neg hc]
    exact wpAny_pure hd Γ p hΓ
abbrev callTree (n : Str) (vs : List Value) : Sem Fin := do match ← nsGet mainNs n with
  | some f => do ret (← PySem.call f vs)
  | none => unsupported "claim.caller:no-such-global"
theorem tree_onClean {M : Model} {A : Around} {n : Str} {vs : List Value} {s : Shared} {mg : Str → Option Value} {f : Value} {Q : Fin → Shared → Prop} {E : Value → Shared → Prop} (hg : s.heap.Ns mainGlobals mg) (hf : mg n = some f)
    (h : wpAny M A (onClean (.bool true) (PySem.call f vs)) (fun v s' => Q (.done (.ret v)) s') E s) : wpAny M A (onClean (.done (.ret (.bool true))) (callTree n vs)) Q E s := fun Γ p hΓ => by
  have y := h Γ p hΓ
  unfold onClean at y ⊢
  rw [Sem.wp_stack] at y ⊢
  by_cases hc : (((Γ.code, p) :: Γ.below).all fun q => !holdsMem q.1) = true
  · rw [if_pos hc]
    have z : wpAny M A (nsGet mainNs n) (fun r s' => r = some f ∧ s' = s) E s := wpAny_nsGet hg ⟨hf, rfl⟩
    show Sem.wp M Γ (nsGet mainNs n >>= _) _ _ p s
    rw [Sem.wp_bind']
    refine Sem.wp_mono M Γ _ ?_ (fun _ _ _ x => x) p s (z Γ p hΓ)
    rintro r p' s' ⟨rfl, rfl⟩
    have y' := h Γ p' hΓ
    unfold onClean at y'
    rw [Sem.wp_stack, if_pos (all_clean.mpr (all_clean.mp hc))] at y'
    show Sem.wp M Γ (PySem.call f vs >>= _) _ _ p' s'
    rw [Sem.wp_bind']
    exact Sem.wp_mono M Γ _ (fun v p2 s2 x => wpAny_pure (Q := Q) x Γ p2 hΓ) (fun _ _ _ x => x) p' s' y'
  · rw [if_neg hc] at y ⊢
    exact wpAny_pure (Q := Q) (by simpa using y) Γ p hΓ
theorem halted_onClean {prog : Program} {w : World} {n : Nat} {s s' : Shared} {d : Fin} {t : Sem Fin} {o : Outcome} (hs : s.asleep) (h : schedN (denote table) prog w n (.single s ⟨onClean d t, .builtin "claim.caller" {}, default, []⟩) = .halted o s') :
    ∃ m, schedN (denote table) prog w m (.single s ⟨t, .builtin "claim.caller" {}, default, []⟩) = .halted o s' := by
  have e : step (denote table) prog w s ⟨onClean d t, .builtin "claim.caller" {}, default, []⟩ = .go s ⟨t, .builtin "claim.caller" {}, default, []⟩ := by
    obtain ⟨hp, g, dr, tk, os⟩ := s
    show Step.go _ ⟨if (List.all [(Code.builtin "claim.caller" {}, default)] fun q => !holdsMem q.1) = true then t else .pure d, _, _, _⟩ = _
    rw [if_pos (by decide +kernel)]
  cases n with
  | zero => cases h
  | succ n =>
    unfold schedN at h
    rcases sstep_single (den := denote table) (prog := prog) (w := w) s ⟨onClean d t, .builtin "claim.caller" {}, default, []⟩ rfl hs with e1 | e1
    · rw [e1, e] at h
      exact ⟨n, h⟩
    · rw [e] at e1; cases e1
/-- what holds for the guarded tree holds for the tree -/
theorem of_onClean {c : ClaimW} {d : Fin} {T : List Value → Sem Fin} {defs keeps : List Str} {writes : Bool} (hz : ∀ w s s₀, AfterRun (opening c.prog) w s → fenceModules? c.prog s = some s₀ → s₀.asleep)
    (H : c.HoldsOpenBy (fun vs => ⟨onClean d (T vs), .builtin "claim.caller" {}, default, []⟩) defs keeps writes) : c.HoldsOpenBy (fun vs => ⟨T vs, .builtin "claim.caller" {}, default, []⟩) defs keeps writes :=
  ⟨H.1, H.2.1, fun w => ⟨(H.2.2 w).1, fun s hs => by
    obtain ⟨s₀, h1, h2, s₁, h3, h4, h5, h6, h7⟩ := (H.2.2 w).2 s hs
    refine ⟨s₀, h1, h2, s₁, h3, h4, h5, h6, fun args hp hl ord ho => ?_⟩
    obtain ⟨vs, s₂, hlay, n, o, s', hr, rest⟩ := h7 args hp hl ord ho
    obtain ⟨m, hm⟩ := halted_onClean (Shared.asleep_of_life (layAllW_rest _ _ _ hlay).2.2.2 (Shared.asleep_of_life h3.2.1 (hz w s s₀ hs h1))) hr
    exact ⟨vs, s₂, hlay, m, o, s', hm, rest⟩⟩⟩

abbrev WalkOk (q : Program) (loose : List Str) (XP : (Str → Option Value) → Heap → Prop) (YP : World → Heap → Prop) (r : RowW) (d : DefRec) : Prop :=
  ∀ (w : World) (s₀ s₁ : Shared) (mg mb : Str → Option Value), Ground q loose r.records XP w s₀ mg mb s₁.heap → YP w s₁.heap → ∀ (a : Addr) (o : Obj) (pm cd doc dV kV : Value), s₁.heap.get? a = some o →
    o.data = .func { docDef d.name d.params d.body d.scope pm cd doc with defaults := dV, kwdefaults := kV } → s₁.heap.CodeRec cd d.name → Dflts mg s₁.heap d.params [] dV kV → mg d.name = some (.ref a) → s₁.gens = #[] →
    ∀ (args : List WData) (vals : List Value) (as : List Addr), r.claim.pre args = true → WData.layableAll args = true → ReadsAllW r.records (classAt s₀.heap) s₁.heap vals args as → WellAll w.params s₁.heap vals args → (∀ a ∈ as, (a == sysModules) = false) →
      wpOk (model r.prog w) callerA (PySem.call (.ref a) vals) (fun v s' => GoodWG r.claim (classAt s₀.heap) (ExcName.means s₀.heap) args s₁ (.ok (.ret v)) s') s₁
/-- a law (it answers True, and never raises) from a walk over clean stacks -/
theorem holds_clean {r : OpenRow} {q : Program} {loose : List Str} {Xt : Shared → Bool} {XP : (Str → Option Value) → Heap → Prop} {H : Hook} {d : DefRec} {N : Nat} (left : LeftO r.prog q loose Xt H.obs H.val N)
    (hX : ∀ s, Xt s = true → XP (s.heap.nsMap mainGlobals) s.heap) (hXk : ∀ mg h h', XP mg h → (∀ b o, h.get? b = some o → h'.get? b = some o) → XP mg h') (hRf : ∀ s, Xt s = true → RecFacts r.records s.heap)
    (hdef : defOf q r.name = some (d, [])) (hp : r.prog.theDef r.name = some (d.params, d.body, d.scope)) (hk : kwWritten? d.params.kwonlyargs d.params.kw_defaults = some []) (hwr : (!r.writes || r.records.isEmpty) = true)
    (k1 : r.wellSaid = true) (hch : chainsOk q = true) (ok : (opensWell r.prog && (frees r.toRowW && r.within.isEmpty)) = true) (hb : r.prog.bare) (hw : r.toRowW.promised) (pins : (if r.pinned then [r.name] else []) = [r.name])
    (tells : ∀ args, (∀ cls, r.claim.raises args cls = false) ∧ r.claim.post args (.bool true) args = true) (walk : WalkOk q loose XP H.says r.toRowW d) : r.Holds := by
  refine ⟨k1, hw, of_onClean (d := .done (.ret (.bool true))) (T := callTree r.name) (fun w s s₀ hs hf => ?_) (open_anyG (r := r.toRowW) (run := fun f vs => onClean (.bool true) (PySem.call f vs)) (tree := fun vs => onClean (.done (.ret (.bool true))) (callTree r.name vs))
    left (Hook.of H) (Hook.keeps H) hX hXk hRf hwr (by rw [hch, Bool.true_and]; exact ok) hb hw (fun vs w s mg f Q E hg hf h => tree_onClean hg hf h) (fun w s hg G n hn => ?_) fun w s₀ s₁ mg mb G Y args vs as hpre hlay L low => ?_)⟩
  · obtain ⟨s₀', hf', _, s1, hT, hz, _⟩ := (left.behind hX hch w).2 s hs
    cases hf.symm.trans hf'
    exact Shared.asleep_of_life hT.2.1.symm hz
  · rw [pins] at hn
    cases List.mem_singleton.mp hn
    exact pinned_of_view hg G hdef hp hk
  · obtain ⟨a, o, pm, cd, doc, dV, kV, e1, e2, e3, e4, e5⟩ := G.fn hdef
    have good : GoodW r.claim (classAt s₀.heap) (ExcName.means s₀.heap) args s₁ (.ok (.ret (.bool true))) s₁ := ⟨.inl ⟨.bool true, .bool true, [], rfl, (tells args).1, .bool true, (tells args).2, unshared_nil⟩, fun _ _ e => e, rfl, L.gens⟩
    exact ⟨.ref a, e1, any_onClean (walk w s₀ s₁ mg mb G Y a o pm cd doc dV kV e2 e3 e4 e5 (defOf_name hdef ▸ e1) L.gens args vs as hpre hlay L.reads L.well (L.low low)) good.toG⟩
end Mine
end
section -- LawA
open PySem PySem.W PyProof.Rows PySem.Calls PyProof.Rows.LCg
set_option Elab.async false
set_option maxRecDepth 100000
namespace Mine
theorem law_raises (args : List WData) : ∀ cls, PySem.Challenge.rw_pc0131_01.row.claim.raises args cls = false := fun cls => by
  rfl
theorem law_post (a : List WData) : PySem.Challenge.rw_pc0131_01.row.claim.post a (.bool true) a = true := by
  exact postW_of (by first | rfl | wrow_shape) (by wtm_val) (by first | rfl | decide)
end Mine
end
section -- Top
open PySem PySem.W PyProof.Rows
set_option Elab.async false
set_option maxRecDepth 100000
namespace Mine
noncomputable abbrev thePr : Program := PySem.Challenge.rw_pc0131_01.row.prog
noncomputable def stAt (i : Nat) : Stmt := match thePr.main.body[i]? with
  | some s => s
  | none => .Pass ⟨0, 0, 0, 0⟩
noncomputable def inAt (i j : Nat) : Stmt := match stAt i with
  | .ClassDef _ _ _ b .. => (match b[j]? with
    | some s => s
    | none => .Pass ⟨0, 0, 0, 0⟩)
  | _ => .Pass ⟨0, 0, 0, 0⟩
/-- the object that a def of the text's makes -/
noncomputable def fnOb (st : Stmt) (m c : Value) : Obj := match st with
  | .FunctionDef n ps b _ _ _ sc _ q _ => { cls := .type "function", data := .func { name := n, qualname := q, params := ps, body := .stmts b, scope := sc, globals := 3, closure := [], defaults := .none, kwdefaults := .none, pyModule := m, code := c } }
  | _ => { cls := .none, data := .plain }
/-- the object that a def in a class makes -/
noncomputable def mtOb (st : Stmt) (q : Str) (m c : Value) : Obj := match st with
  | .FunctionDef n ps b _ _ _ sc _ _ _ => { cls := .type "function", data := .func { name := n, qualname := q, params := ps, body := .stmts b, scope := sc, globals := 3, closure := [], defaults := .none, kwdefaults := .none, pyModule := m, code := c } }
  | _ => { cls := .none, data := .plain }
noncomputable def hd.view_39 : Program := PySem.W.view thePr [0, 2, 3, 5, 6, 7, 8, 9, 10, 11, 12, 13, 14, 15, 16, 17, 18, 19, 20, 21, 22, 23, 24, 25, 26, 28, 29, 30, 31, 32, 34, 35, 36]
noncomputable def hd.heap_39 : Params → Frag := fun P =>
  (nat_lit 3, { cls := Value.type "dict", data := Data.dict #[{ hash := PyData.keyHash P (Str.ofString "__name__"), key := Value.str (Str.ofString "__name__") 165, val := Value.str (Str.ofString "law_pc0131_01") 640 }, { hash := PyData.keyHash P (Str.ofString "__doc__"), key := Value.str (Str.ofString "__doc__") 166, val := Value.none }, { hash := PyData.keyHash P (Str.ofString "__package__"), key := Value.str (Str.ofString "__package__") 167, val := Value.none }, { hash := PyData.keyHash P (Str.ofString "__loader__"), key := Value.str (Str.ofString "__loader__") 168, val := Value.builtin "__main__.__loader__#opaque" }, { hash := PyData.keyHash P (Str.ofString "__spec__"), key := Value.str (Str.ofString "__spec__") 169, val := Value.none }, { hash := PyData.keyHash P (Str.ofString "__annotations__"), key := Value.str (Str.ofString "__annotations__") 170, val := Value.ref 6 }, { hash := PyData.keyHash P (Str.ofString "__builtins__"), key := Value.str (Str.ofString "__builtins__") 171, val := Value.ref 4 }, { hash := PyData.keyHash P (Str.ofString "__file__"), key := Value.str (Str.ofString "__file__") 173, val := Value.str (Str.ofString "/claim/cut.py") 172 }, { hash := PyData.keyHash P (Str.ofString "__cached__"), key := Value.str (Str.ofString "__cached__") 174, val := Value.none }, { hash := PyData.keyHash P (Str.ofString "_wall"), key := Value.str (Str.ofString "_wall") 193, val := Value.ref 21 }, { hash := PyData.keyHash P (Str.ofString "LedgerError"), key := Value.str (Str.ofString "LedgerError") 235, val := Value.ref 47 }, { hash := PyData.keyHash P (Str.ofString "PictureFault"), key := Value.str (Str.ofString "PictureFault") 251, val := Value.ref 60 }, { hash := PyData.keyHash P (Str.ofString "SIGNS"), key := Value.str (Str.ofString "SIGNS") 255, val := Value.str (Str.ofString "ABPSVXZ90/,.+-*$") 254 }, { hash := PyData.keyHash P (Str.ofString "TEXT_SIGNS"), key := Value.str (Str.ofString "TEXT_SIGNS") 257, val := Value.str (Str.ofString "A X 9 B 0 /") 256 }, { hash := PyData.keyHash P (Str.ofString "PLAIN_SIGNS"), key := Value.str (Str.ofString "PLAIN_SIGNS") 259, val := Value.str (Str.ofString "9 P S V") 258 }, { hash := PyData.keyHash P (Str.ofString "LAID_NOWHERE"), key := Value.str (Str.ofString "LAID_NOWHERE") 261, val := Value.str (Str.ofString "P S V") 260 }, { hash := PyData.keyHash P (Str.ofString "ALONE"), key := Value.str (Str.ofString "ALONE") 263, val := Value.str (Str.ofString "S V . CR DB") 262 }, { hash := PyData.keyHash P (Str.ofString "FIGURES"), key := Value.str (Str.ofString "FIGURES") 265, val := Value.str (Str.ofString "0123456789") 264 }, { hash := PyData.keyHash P (Str.ofString "MOST_TEXT"), key := Value.str (Str.ofString "MOST_TEXT") 267, val := Value.int 30 266 }, { hash := PyData.keyHash P (Str.ofString "MOST_DIGITS"), key := Value.str (Str.ofString "MOST_DIGITS") 269, val := Value.int 18 268 }, { hash := PyData.keyHash P (Str.ofString "MOST_SIZE"), key := Value.str (Str.ofString "MOST_SIZE") 271, val := Value.int 9999 270 }, { hash := PyData.keyHash P (Str.ofString "Picture"), key := Value.str (Str.ofString "Picture") 325, val := Value.ref 91 }, { hash := PyData.keyHash P (Str.ofString "Sign"), key := Value.str (Str.ofString "Sign") 365, val := Value.ref 119 }, { hash := PyData.keyHash P (Str.ofString "sign_at"), key := Value.str (Str.ofString "sign_at") 373, val := Value.ref 130 }, { hash := PyData.keyHash P (Str.ofString "count_at"), key := Value.str (Str.ofString "count_at") 379, val := Value.ref 135 }, { hash := PyData.keyHash P (Str.ofString "signs_of"), key := Value.str (Str.ofString "signs_of") 391, val := Value.ref 142 }, { hash := PyData.keyHash P (Str.ofString "symbols_of"), key := Value.str (Str.ofString "symbols_of") 400, val := Value.ref 149 }, { hash := PyData.keyHash P (Str.ofString "size_of_symbols"), key := Value.str (Str.ofString "size_of_symbols") 406, val := Value.ref 154 }, { hash := PyData.keyHash P (Str.ofString "Order"), key := Value.str (Str.ofString "Order") 568, val := Value.ref 276 }, { hash := PyData.keyHash P (Str.ofString "number_picture"), key := Value.str (Str.ofString "number_picture") 574, val := Value.ref 285 }, { hash := PyData.keyHash P (Str.ofString "text_category"), key := Value.str (Str.ofString "text_category") 580, val := Value.ref 290 }, { hash := PyData.keyHash P (Str.ofString "text_picture"), key := Value.str (Str.ofString "text_picture") 590, val := Value.ref 297 }, { hash := PyData.keyHash P (Str.ofString "read_picture"), key := Value.str (Str.ofString "read_picture") 596, val := Value.ref 302 }, { hash := PyData.keyHash P (Str.ofString "places"), key := Value.str (Str.ofString "places") 606, val := Value.ref 309 }, { hash := PyData.keyHash P (Str.ofString "INSERTED"), key := Value.str (Str.ofString "INSERTED") 610, val := Value.str (Str.ofString "B0/,") 609 }, { hash := PyData.keyHash P (Str.ofString "BLANK"), key := Value.str (Str.ofString "BLANK") 612, val := Value.str (Str.ofString " ") 611 }, { hash := PyData.keyHash P (Str.ofString "insert_text"), key := Value.str (Str.ofString "insert_text") 619, val := Value.ref 316 }, { hash := PyData.keyHash P (Str.ofString "data_places"), key := Value.str (Str.ofString "data_places") 625, val := Value.ref 321 }, { hash := PyData.keyHash P (Str.ofString "inserted"), key := Value.str (Str.ofString "inserted") 639, val := Value.ref 328 }, { hash := PyData.keyHash P (Str.ofString "_law_table"), key := Value.str (Str.ofString "_law_table") 657, val := Value.ref 334 }, { hash := PyData.keyHash P (Str.ofString "_law_draw"), key := Value.str (Str.ofString "_law_draw") 667, val := Value.ref 341 }, { hash := PyData.keyHash P (Str.ofString "law"), key := Value.str (Str.ofString "law") 673, val := Value.ref 346 }] 42 }) ::
  (nat_lit 75, { cls := Value.type "code", data := Data.fields #[Value.str (Str.ofString "__init__") 284, Value.str (Str.ofString "Picture.__init__") 285, Value.str (Str.ofString "/claim/cut.py") 286, Value.int 28 0, Value.int 8 0, Value.int 0 0, Value.int 0 0, Value.int 3 0, Value.ref 70, Value.bool true, Value.int 181 0, Value.ref 71, Value.none, Value.ref 72, Value.ref 73, Value.ref 74, Value.int 295 0, Value.int 28 0, Value.str (Str.ofString "/claim/cut.py") 296] }) ::
  (nat_lit 76, mtOb (inAt 14 0) (Str.ofString "Picture.__init__") (Value.str (Str.ofString "ledgerspeak.pictures") 252) (Value.ref 75)) ::
  (nat_lit 90, { cls := Value.type "dict", data := Data.dict #[{ hash := PyData.keyHash P (Str.ofString "__module__"), key := Value.str (Str.ofString "__module__") 279, val := Value.str (Str.ofString "ledgerspeak.pictures") 252 }, { hash := PyData.keyHash P (Str.ofString "__firstlineno__"), key := Value.str (Str.ofString "__firstlineno__") 283, val := Value.int 26 282 }, { hash := PyData.keyHash P (Str.ofString "__init__"), key := Value.str (Str.ofString "__init__") 297, val := Value.ref 76 }, { hash := PyData.keyHash P (Str.ofString "told"), key := Value.str (Str.ofString "told") 304, val := Value.ref 83 }, { hash := PyData.keyHash P (Str.ofString "has"), key := Value.str (Str.ofString "has") 310, val := Value.ref 88 }, { hash := PyData.keyHash P (Str.ofString "__static_attributes__"), key := Value.str (Str.ofString "__static_attributes__") 318, val := Value.ref 89 }, { hash := PyData.keyHash P (Str.ofString "__dict__"), key := Value.str (Str.ofString "__dict__") 320, val := Value.ref 92 }, { hash := PyData.keyHash P (Str.ofString "__weakref__"), key := Value.str (Str.ofString "__weakref__") 322, val := Value.ref 93 }, { hash := PyData.keyHash P (Str.ofString "__doc__"), key := Value.str (Str.ofString "__doc__") 323, val := Value.none }] 4 }) ::
  (nat_lit 91, { cls := Value.type "type", data := Data.cls { name := Str.ofString "Picture", bases := [Value.type "object"], mro := [Value.ref 91, Value.type "object"], ns := 90, qualname := Str.ofString "Picture" }, slots := #[none, none, some (Value.str (Str.ofString "Picture") 272), some (Value.str (Str.ofString "Picture") 280), some (Value.builtin "object.__new__"), some (Value.bool true)] }) ::
  (nat_lit 108, { cls := Value.type "code", data := Data.fields #[Value.str (Str.ofString "__init__") 338, Value.str (Str.ofString "Sign.__init__") 339, Value.str (Str.ofString "/claim/cut.py") 340, Value.int 44 0, Value.int 4 0, Value.int 0 0, Value.int 0 0, Value.int 3 0, Value.ref 103, Value.bool true, Value.int 181 0, Value.ref 104, Value.none, Value.ref 105, Value.ref 106, Value.ref 107, Value.int 345 0, Value.int 44 0, Value.str (Str.ofString "/claim/cut.py") 346] }) ::
  (nat_lit 109, mtOb (inAt 15 0) (Str.ofString "Sign.__init__") (Value.str (Str.ofString "ledgerspeak.pictures") 252) (Value.ref 108)) ::
  (nat_lit 118, { cls := Value.type "dict", data := Data.dict #[{ hash := PyData.keyHash P (Str.ofString "__module__"), key := Value.str (Str.ofString "__module__") 333, val := Value.str (Str.ofString "ledgerspeak.pictures") 252 }, { hash := PyData.keyHash P (Str.ofString "__firstlineno__"), key := Value.str (Str.ofString "__firstlineno__") 337, val := Value.int 42 336 }, { hash := PyData.keyHash P (Str.ofString "__init__"), key := Value.str (Str.ofString "__init__") 347, val := Value.ref 109 }, { hash := PyData.keyHash P (Str.ofString "fault"), key := Value.str (Str.ofString "fault") 354, val := Value.ref 116 }, { hash := PyData.keyHash P (Str.ofString "__static_attributes__"), key := Value.str (Str.ofString "__static_attributes__") 358, val := Value.ref 117 }, { hash := PyData.keyHash P (Str.ofString "__dict__"), key := Value.str (Str.ofString "__dict__") 360, val := Value.ref 120 }, { hash := PyData.keyHash P (Str.ofString "__weakref__"), key := Value.str (Str.ofString "__weakref__") 362, val := Value.ref 121 }, { hash := PyData.keyHash P (Str.ofString "__doc__"), key := Value.str (Str.ofString "__doc__") 363, val := Value.none }] 4 }) ::
  (nat_lit 119, { cls := Value.type "type", data := Data.cls { name := Str.ofString "Sign", bases := [Value.type "object"], mro := [Value.ref 119, Value.type "object"], ns := 118, qualname := Str.ofString "Sign" }, slots := #[none, none, some (Value.str (Str.ofString "Sign") 326), some (Value.str (Str.ofString "Sign") 334), some (Value.builtin "object.__new__"), some (Value.bool true)] }) ::
  (nat_lit 129, { cls := Value.type "code", data := Data.fields #[Value.str (Str.ofString "sign_at") 366, Value.str (Str.ofString "sign_at") 367, Value.str (Str.ofString "/claim/cut.py") 368, Value.int 51 0, Value.int 2 0, Value.int 0 0, Value.int 0 0, Value.int 3 0, Value.ref 124, Value.bool true, Value.int 181 0, Value.ref 125, Value.none, Value.ref 126, Value.ref 127, Value.ref 128, Value.int 371 0, Value.int 51 0, Value.str (Str.ofString "/claim/cut.py") 372] }) ::
  (nat_lit 130, fnOb (stAt 16) (Value.str (Str.ofString "ledgerspeak.pictures") 252) (Value.ref 129)) ::
  (nat_lit 134, { cls := Value.type "code", data := Data.fields #[Value.str (Str.ofString "count_at") 374, Value.str (Str.ofString "count_at") 375, Value.str (Str.ofString "/claim/cut.py") 376, Value.int 57 0, Value.int 2 0, Value.int 0 0, Value.int 0 0, Value.int 3 0, Value.ref 131, Value.bool true, Value.int 181 0, Value.ref 132, Value.none, Value.none, Value.none, Value.ref 133, Value.int 377 0, Value.int 57 0, Value.str (Str.ofString "/claim/cut.py") 378] }) ::
  (nat_lit 135, fnOb (stAt 17) (Value.str (Str.ofString "ledgerspeak.pictures") 252) (Value.ref 134)) ::
  (nat_lit 141, { cls := Value.type "code", data := Data.fields #[Value.str (Str.ofString "signs_of") 380, Value.str (Str.ofString "signs_of") 381, Value.str (Str.ofString "/claim/cut.py") 382, Value.int 65 0, Value.int 1 0, Value.int 0 0, Value.int 0 0, Value.int 3 0, Value.ref 136, Value.bool true, Value.int 181 0, Value.ref 137, Value.none, Value.ref 138, Value.ref 139, Value.ref 140, Value.int 389 0, Value.int 65 0, Value.str (Str.ofString "/claim/cut.py") 390] }) ::
  (nat_lit 142, fnOb (stAt 18) (Value.str (Str.ofString "ledgerspeak.pictures") 252) (Value.ref 141)) ::
  (nat_lit 148, { cls := Value.type "code", data := Data.fields #[Value.str (Str.ofString "symbols_of") 392, Value.str (Str.ofString "symbols_of") 393, Value.str (Str.ofString "/claim/cut.py") 394, Value.int 75 0, Value.int 1 0, Value.int 0 0, Value.int 0 0, Value.int 3 0, Value.ref 143, Value.bool true, Value.int 181 0, Value.ref 144, Value.none, Value.ref 145, Value.ref 146, Value.ref 147, Value.int 398 0, Value.int 75 0, Value.str (Str.ofString "/claim/cut.py") 399] }) ::
  (nat_lit 149, fnOb (stAt 19) (Value.str (Str.ofString "ledgerspeak.pictures") 252) (Value.ref 148)) ::
  (nat_lit 153, { cls := Value.type "code", data := Data.fields #[Value.str (Str.ofString "size_of_symbols") 401, Value.str (Str.ofString "size_of_symbols") 402, Value.str (Str.ofString "/claim/cut.py") 403, Value.int 83 0, Value.int 1 0, Value.int 0 0, Value.int 0 0, Value.int 3 0, Value.ref 150, Value.bool true, Value.int 181 0, Value.ref 151, Value.none, Value.none, Value.none, Value.ref 152, Value.int 404 0, Value.int 83 0, Value.str (Str.ofString "/claim/cut.py") 405] }) ::
  (nat_lit 154, fnOb (stAt 20) (Value.str (Str.ofString "ledgerspeak.pictures") 252) (Value.ref 153)) ::
  (nat_lit 289, { cls := Value.type "code", data := Data.fields #[Value.str (Str.ofString "text_category") 575, Value.str (Str.ofString "text_category") 576, Value.str (Str.ofString "/claim/cut.py") 577, Value.int 223 0, Value.int 1 0, Value.int 0 0, Value.int 0 0, Value.int 3 0, Value.ref 286, Value.bool true, Value.int 181 0, Value.ref 287, Value.none, Value.none, Value.none, Value.ref 288, Value.int 578 0, Value.int 223 0, Value.str (Str.ofString "/claim/cut.py") 579] }) ::
  (nat_lit 290, fnOb (stAt 23) (Value.str (Str.ofString "ledgerspeak.pictures") 252) (Value.ref 289)) ::
  (nat_lit 296, { cls := Value.type "code", data := Data.fields #[Value.str (Str.ofString "text_picture") 581, Value.str (Str.ofString "text_picture") 582, Value.str (Str.ofString "/claim/cut.py") 583, Value.int 228 0, Value.int 2 0, Value.int 0 0, Value.int 0 0, Value.int 3 0, Value.ref 291, Value.bool true, Value.int 181 0, Value.ref 292, Value.none, Value.ref 293, Value.ref 294, Value.ref 295, Value.int 588 0, Value.int 228 0, Value.str (Str.ofString "/claim/cut.py") 589] }) ::
  (nat_lit 297, fnOb (stAt 24) (Value.str (Str.ofString "ledgerspeak.pictures") 252) (Value.ref 296)) ::
  (nat_lit 301, { cls := Value.type "code", data := Data.fields #[Value.str (Str.ofString "read_picture") 591, Value.str (Str.ofString "read_picture") 592, Value.str (Str.ofString "/claim/cut.py") 593, Value.int 236 0, Value.int 1 0, Value.int 0 0, Value.int 0 0, Value.int 3 0, Value.ref 298, Value.bool true, Value.int 181 0, Value.ref 299, Value.none, Value.none, Value.none, Value.ref 300, Value.int 594 0, Value.int 236 0, Value.str (Str.ofString "/claim/cut.py") 595] }) ::
  (nat_lit 302, fnOb (stAt 25) (Value.str (Str.ofString "ledgerspeak.pictures") 252) (Value.ref 301)) ::
  (nat_lit 308, { cls := Value.type "code", data := Data.fields #[Value.str (Str.ofString "places") 597, Value.str (Str.ofString "places") 598, Value.str (Str.ofString "/claim/cut.py") 599, Value.int 244 0, Value.int 1 0, Value.int 0 0, Value.int 0 0, Value.int 3 0, Value.ref 303, Value.bool true, Value.int 181 0, Value.ref 304, Value.none, Value.ref 305, Value.ref 306, Value.ref 307, Value.int 604 0, Value.int 244 0, Value.str (Str.ofString "/claim/cut.py") 605] }) ::
  (nat_lit 309, fnOb (stAt 26) (Value.str (Str.ofString "ledgerspeak.pictures") 252) (Value.ref 308)) ::
  (nat_lit 315, { cls := Value.type "code", data := Data.fields #[Value.str (Str.ofString "insert_text") 613, Value.str (Str.ofString "insert_text") 614, Value.str (Str.ofString "/claim/cut.py") 615, Value.int 252 0, Value.int 1 0, Value.int 0 0, Value.int 0 0, Value.int 3 0, Value.ref 310, Value.bool true, Value.int 181 0, Value.ref 311, Value.none, Value.ref 312, Value.ref 313, Value.ref 314, Value.int 617 0, Value.int 252 0, Value.str (Str.ofString "/claim/cut.py") 618] }) ::
  (nat_lit 316, fnOb (stAt 30) (Value.str (Str.ofString "ledgerspeak.editing") 607) (Value.ref 315)) ::
  (nat_lit 320, { cls := Value.type "code", data := Data.fields #[Value.str (Str.ofString "data_places") 620, Value.str (Str.ofString "data_places") 621, Value.str (Str.ofString "/claim/cut.py") 622, Value.int 254 0, Value.int 1 0, Value.int 0 0, Value.int 0 0, Value.int 3 0, Value.ref 317, Value.bool true, Value.int 181 0, Value.ref 318, Value.none, Value.none, Value.none, Value.ref 319, Value.int 623 0, Value.int 254 0, Value.str (Str.ofString "/claim/cut.py") 624] }) ::
  (nat_lit 321, fnOb (stAt 31) (Value.str (Str.ofString "ledgerspeak.editing") 607) (Value.ref 320)) ::
  (nat_lit 327, { cls := Value.type "code", data := Data.fields #[Value.str (Str.ofString "inserted") 626, Value.str (Str.ofString "inserted") 627, Value.str (Str.ofString "/claim/cut.py") 628, Value.int 256 0, Value.int 2 0, Value.int 0 0, Value.int 0 0, Value.int 3 0, Value.ref 322, Value.bool true, Value.int 181 0, Value.ref 323, Value.none, Value.ref 324, Value.ref 325, Value.ref 326, Value.int 637 0, Value.int 256 0, Value.str (Str.ofString "/claim/cut.py") 638] }) ::
  (nat_lit 328, fnOb (stAt 32) (Value.str (Str.ofString "ledgerspeak.editing") 607) (Value.ref 327)) ::
  (nat_lit 329, { cls := Value.type "tuple", data := Data.seq #[Value.str (Str.ofString "XX/XX") 642, Value.bytes #[97, 98, 99, 100] 643, Value.bytes #[97, 98, 47, 99, 100] 644] }) ::
  (nat_lit 330, { cls := Value.type "tuple", data := Data.seq #[Value.str (Str.ofString "XBA0A") 645, Value.bytes #[120, 121, 122] 646, Value.bytes #[120, 32, 121, 48, 122] 647] }) ::
  (nat_lit 331, { cls := Value.type "tuple", data := Data.seq #[Value.str (Str.ofString "/X(3)") 648, Value.bytes #[97] 649, Value.bytes #[47, 97, 32, 32] 650] }) ::
  (nat_lit 332, { cls := Value.type "tuple", data := Data.seq #[Value.str (Str.ofString "X0") 651, Value.bytes #[] 652, Value.bytes #[32, 48] 653] }) ::
  (nat_lit 333, { cls := Value.type "tuple", data := Data.seq #[Value.str (Str.ofString "A9B9/") 654, Value.bytes #[113, 49, 50, 51, 52] 655, Value.bytes #[113, 49, 32, 50, 47] 656] }) ::
  (nat_lit 334, { cls := Value.type "tuple", data := Data.seq #[Value.ref 329, Value.ref 330, Value.ref 331, Value.ref 332, Value.ref 333] }) ::
  (nat_lit 340, { cls := Value.type "code", data := Data.fields #[Value.str (Str.ofString "_law_draw") 658, Value.str (Str.ofString "_law_draw") 659, Value.str (Str.ofString "/claim/cut.py") 660, Value.int 270 0, Value.int 2 0, Value.int 0 0, Value.int 0 0, Value.int 3 0, Value.ref 335, Value.bool true, Value.int 181 0, Value.ref 336, Value.none, Value.ref 337, Value.ref 338, Value.ref 339, Value.int 665 0, Value.int 270 0, Value.str (Str.ofString "/claim/cut.py") 666] }) ::
  (nat_lit 341, fnOb (stAt 35) (Value.str (Str.ofString "law_pc0131_01") 640) (Value.ref 340)) :: []
abbrev theLoose : List Str := [Str.ofString "LedgerError"]
abbrev theAs : List Addr := [3, 75, 76, 90, 91, 108, 109, 118, 119, 129, 130, 134, 135, 141, 142, 148, 149, 153, 154, 289, 290, 296, 297, 301, 302, 308, 309, 315, 316, 320, 321, 327, 328, 329, 330, 331, 332, 333, 334, 340, 341]
theorem as_ok : ∀ P, theAs = (hd.heap_39 P).map (·.1) := fun _ => by kernel_rfl
noncomputable abbrev theHook : Hook := kHook hd.heap_39 theAs as_ok
noncomputable abbrev theXt : Shared → Bool := fun s => xlAt hd.view_39 [] s && recOk (RowW.records PySem.Challenge.rw_pc0131_01.row.toRowW) s
/-- a def's object, its name and its defaults told apart -/
noncomputable def fgOb (st : Stmt) (cl : Value) (gl : Addr) (q : Str) (m c df : Value) : Obj := match st with
  | .FunctionDef n ps b _ _ _ sc _ _ _ => { cls := cl, data := .func { name := n, qualname := q, params := ps, body := .stmts b, scope := sc, globals := gl, closure := [], defaults := df, kwdefaults := .none, pyModule := m, code := c } }
  | _ => { cls := .none, data := .plain }
noncomputable def tuOb (vs : List Value) : Obj := { cls := .type "tuple", data := .seq vs.toArray }
noncomputable def coOb (vs : List Value) : Obj := { cls := .type "code", data := .fields vs.toArray }
/-- the objects behind the top -/
noncomputable def topObjs : Params → List Obj := fun P =>
  { cls := Value.type "dict", data := Data.dict #[{ hash := PyData.keyHash P (Str.ofString "__name__"), key := Value.str (Str.ofString "__name__") 1, val := Value.str (Str.ofString "builtins") 160 }, { hash := PyData.keyHash P (Str.ofString "__doc__"), key := Value.str (Str.ofString "__doc__") 2, val := Value.builtin "builtins.__doc__:str#opaque" }, { hash := PyData.keyHash P (Str.ofString "__package__"), key := Value.str (Str.ofString "__package__") 3, val := Value.builtin "builtins.__package__:str#opaque" }, { hash := PyData.keyHash P (Str.ofString "__loader__"), key := Value.str (Str.ofString "__loader__") 4, val := Value.builtin "builtins.__loader__:shared#opaque" }, { hash := PyData.keyHash P (Str.ofString "__spec__"), key := Value.str (Str.ofString "__spec__") 5, val := Value.builtin "builtins.__spec__#opaque" }, { hash := PyData.keyHash P (Str.ofString "__build_class__"), key := Value.str (Str.ofString "__build_class__") 6, val := Value.builtin "__build_class__" }, { hash := PyData.keyHash P (Str.ofString "__import__"), key := Value.str (Str.ofString "__import__") 7, val := Value.builtin "__import__" }, { hash := PyData.keyHash P (Str.ofString "abs"), key := Value.str (Str.ofString "abs") 8, val := Value.builtin "abs" }, { hash := PyData.keyHash P (Str.ofString "all"), key := Value.str (Str.ofString "all") 9, val := Value.builtin "all" }, { hash := PyData.keyHash P (Str.ofString "any"), key := Value.str (Str.ofString "any") 10, val := Value.builtin "any" }, { hash := PyData.keyHash P (Str.ofString "ascii"), key := Value.str (Str.ofString "ascii") 11, val := Value.builtin "ascii" }, { hash := PyData.keyHash P (Str.ofString "bin"), key := Value.str (Str.ofString "bin") 12, val := Value.builtin "bin" }, { hash := PyData.keyHash P (Str.ofString "breakpoint"), key := Value.str (Str.ofString "breakpoint") 13, val := Value.builtin "breakpoint" }, { hash := PyData.keyHash P (Str.ofString "callable"), key := Value.str (Str.ofString "callable") 14, val := Value.builtin "callable" }, { hash := PyData.keyHash P (Str.ofString "chr"), key := Value.str (Str.ofString "chr") 15, val := Value.builtin "chr" }, { hash := PyData.keyHash P (Str.ofString "compile"), key := Value.str (Str.ofString "compile") 16, val := Value.builtin "compile" }, { hash := PyData.keyHash P (Str.ofString "delattr"), key := Value.str (Str.ofString "delattr") 17, val := Value.builtin "delattr" }, { hash := PyData.keyHash P (Str.ofString "dir"), key := Value.str (Str.ofString "dir") 18, val := Value.builtin "dir" }, { hash := PyData.keyHash P (Str.ofString "divmod"), key := Value.str (Str.ofString "divmod") 19, val := Value.builtin "divmod" }, { hash := PyData.keyHash P (Str.ofString "eval"), key := Value.str (Str.ofString "eval") 20, val := Value.builtin "eval" }, { hash := PyData.keyHash P (Str.ofString "exec"), key := Value.str (Str.ofString "exec") 21, val := Value.builtin "exec" }, { hash := PyData.keyHash P (Str.ofString "format"), key := Value.str (Str.ofString "format") 22, val := Value.builtin "format" }, { hash := PyData.keyHash P (Str.ofString "getattr"), key := Value.str (Str.ofString "getattr") 23, val := Value.builtin "getattr" }, { hash := PyData.keyHash P (Str.ofString "globals"), key := Value.str (Str.ofString "globals") 24, val := Value.builtin "globals" }, { hash := PyData.keyHash P (Str.ofString "hasattr"), key := Value.str (Str.ofString "hasattr") 25, val := Value.builtin "hasattr" }, { hash := PyData.keyHash P (Str.ofString "hash"), key := Value.str (Str.ofString "hash") 26, val := Value.builtin "hash" }, { hash := PyData.keyHash P (Str.ofString "hex"), key := Value.str (Str.ofString "hex") 27, val := Value.builtin "hex" }, { hash := PyData.keyHash P (Str.ofString "id"), key := Value.str (Str.ofString "id") 28, val := Value.builtin "id" }, { hash := PyData.keyHash P (Str.ofString "input"), key := Value.str (Str.ofString "input") 29, val := Value.builtin "input" }, { hash := PyData.keyHash P (Str.ofString "isinstance"), key := Value.str (Str.ofString "isinstance") 30, val := Value.builtin "isinstance" }, { hash := PyData.keyHash P (Str.ofString "issubclass"), key := Value.str (Str.ofString "issubclass") 31, val := Value.builtin "issubclass" }, { hash := PyData.keyHash P (Str.ofString "iter"), key := Value.str (Str.ofString "iter") 32, val := Value.builtin "iter" }, { hash := PyData.keyHash P (Str.ofString "aiter"), key := Value.str (Str.ofString "aiter") 33, val := Value.builtin "aiter" }, { hash := PyData.keyHash P (Str.ofString "len"), key := Value.str (Str.ofString "len") 34, val := Value.builtin "len" }, { hash := PyData.keyHash P (Str.ofString "locals"), key := Value.str (Str.ofString "locals") 35, val := Value.builtin "locals" }, { hash := PyData.keyHash P (Str.ofString "max"), key := Value.str (Str.ofString "max") 36, val := Value.builtin "max" }, { hash := PyData.keyHash P (Str.ofString "min"), key := Value.str (Str.ofString "min") 37, val := Value.builtin "min" }, { hash := PyData.keyHash P (Str.ofString "next"), key := Value.str (Str.ofString "next") 38, val := Value.builtin "next" }, { hash := PyData.keyHash P (Str.ofString "anext"), key := Value.str (Str.ofString "anext") 39, val := Value.builtin "anext" }, { hash := PyData.keyHash P (Str.ofString "oct"), key := Value.str (Str.ofString "oct") 40, val := Value.builtin "oct" }, { hash := PyData.keyHash P (Str.ofString "ord"), key := Value.str (Str.ofString "ord") 41, val := Value.builtin "ord" }, { hash := PyData.keyHash P (Str.ofString "pow"), key := Value.str (Str.ofString "pow") 42, val := Value.builtin "pow" }, { hash := PyData.keyHash P (Str.ofString "print"), key := Value.str (Str.ofString "print") 43, val := Value.builtin "print" }, { hash := PyData.keyHash P (Str.ofString "repr"), key := Value.str (Str.ofString "repr") 44, val := Value.builtin "repr" }, { hash := PyData.keyHash P (Str.ofString "round"), key := Value.str (Str.ofString "round") 45, val := Value.builtin "round" }, { hash := PyData.keyHash P (Str.ofString "setattr"), key := Value.str (Str.ofString "setattr") 46, val := Value.builtin "setattr" }, { hash := PyData.keyHash P (Str.ofString "sorted"), key := Value.str (Str.ofString "sorted") 47, val := Value.builtin "sorted" }, { hash := PyData.keyHash P (Str.ofString "sum"), key := Value.str (Str.ofString "sum") 48, val := Value.builtin "sum" }, { hash := PyData.keyHash P (Str.ofString "vars"), key := Value.str (Str.ofString "vars") 49, val := Value.builtin "vars" }, { hash := PyData.keyHash P (Str.ofString "None"), key := Value.str (Str.ofString "None") 50, val := Value.none }, { hash := PyData.keyHash P (Str.ofString "Ellipsis"), key := Value.str (Str.ofString "Ellipsis") 51, val := Value.ellipsis }, { hash := PyData.keyHash P (Str.ofString "NotImplemented"), key := Value.str (Str.ofString "NotImplemented") 52, val := Value.notImplemented }, { hash := PyData.keyHash P (Str.ofString "False"), key := Value.str (Str.ofString "False") 53, val := Value.bool false }, { hash := PyData.keyHash P (Str.ofString "True"), key := Value.str (Str.ofString "True") 54, val := Value.bool true }, { hash := PyData.keyHash P (Str.ofString "bool"), key := Value.str (Str.ofString "bool") 55, val := Value.type "bool" }, { hash := PyData.keyHash P (Str.ofString "memoryview"), key := Value.str (Str.ofString "memoryview") 56, val := Value.type "memoryview" }, { hash := PyData.keyHash P (Str.ofString "bytearray"), key := Value.str (Str.ofString "bytearray") 57, val := Value.type "bytearray" }, { hash := PyData.keyHash P (Str.ofString "bytes"), key := Value.str (Str.ofString "bytes") 58, val := Value.type "bytes" }, { hash := PyData.keyHash P (Str.ofString "classmethod"), key := Value.str (Str.ofString "classmethod") 59, val := Value.type "classmethod" }, { hash := PyData.keyHash P (Str.ofString "complex"), key := Value.str (Str.ofString "complex") 60, val := Value.type "complex" }, { hash := PyData.keyHash P (Str.ofString "dict"), key := Value.str (Str.ofString "dict") 61, val := Value.type "dict" }, { hash := PyData.keyHash P (Str.ofString "enumerate"), key := Value.str (Str.ofString "enumerate") 62, val := Value.type "enumerate" }, { hash := PyData.keyHash P (Str.ofString "filter"), key := Value.str (Str.ofString "filter") 63, val := Value.type "filter" }, { hash := PyData.keyHash P (Str.ofString "float"), key := Value.str (Str.ofString "float") 64, val := Value.type "float" }, { hash := PyData.keyHash P (Str.ofString "frozenset"), key := Value.str (Str.ofString "frozenset") 65, val := Value.type "frozenset" }, { hash := PyData.keyHash P (Str.ofString "property"), key := Value.str (Str.ofString "property") 66, val := Value.type "property" }, { hash := PyData.keyHash P (Str.ofString "int"), key := Value.str (Str.ofString "int") 67, val := Value.type "int" }, { hash := PyData.keyHash P (Str.ofString "list"), key := Value.str (Str.ofString "list") 68, val := Value.type "list" }, { hash := PyData.keyHash P (Str.ofString "map"), key := Value.str (Str.ofString "map") 69, val := Value.type "map" }, { hash := PyData.keyHash P (Str.ofString "object"), key := Value.str (Str.ofString "object") 70, val := Value.type "object" }, { hash := PyData.keyHash P (Str.ofString "range"), key := Value.str (Str.ofString "range") 71, val := Value.type "range" }, { hash := PyData.keyHash P (Str.ofString "reversed"), key := Value.str (Str.ofString "reversed") 72, val := Value.type "reversed" }, { hash := PyData.keyHash P (Str.ofString "set"), key := Value.str (Str.ofString "set") 73, val := Value.type "set" }, { hash := PyData.keyHash P (Str.ofString "slice"), key := Value.str (Str.ofString "slice") 74, val := Value.type "slice" }, { hash := PyData.keyHash P (Str.ofString "staticmethod"), key := Value.str (Str.ofString "staticmethod") 75, val := Value.type "staticmethod" }, { hash := PyData.keyHash P (Str.ofString "str"), key := Value.str (Str.ofString "str") 76, val := Value.type "str" }, { hash := PyData.keyHash P (Str.ofString "super"), key := Value.str (Str.ofString "super") 77, val := Value.type "super" }, { hash := PyData.keyHash P (Str.ofString "tuple"), key := Value.str (Str.ofString "tuple") 78, val := Value.type "tuple" }, { hash := PyData.keyHash P (Str.ofString "type"), key := Value.str (Str.ofString "type") 79, val := Value.type "type" }, { hash := PyData.keyHash P (Str.ofString "zip"), key := Value.str (Str.ofString "zip") 80, val := Value.type "zip" }, { hash := PyData.keyHash P (Str.ofString "__debug__"), key := Value.str (Str.ofString "__debug__") 81, val := Value.bool true }, { hash := PyData.keyHash P (Str.ofString "BaseException"), key := Value.str (Str.ofString "BaseException") 82, val := Value.type "BaseException" }, { hash := PyData.keyHash P (Str.ofString "BaseExceptionGroup"), key := Value.str (Str.ofString "BaseExceptionGroup") 83, val := Value.type "BaseExceptionGroup" }, { hash := PyData.keyHash P (Str.ofString "Exception"), key := Value.str (Str.ofString "Exception") 84, val := Value.type "Exception" }, { hash := PyData.keyHash P (Str.ofString "GeneratorExit"), key := Value.str (Str.ofString "GeneratorExit") 85, val := Value.type "GeneratorExit" }, { hash := PyData.keyHash P (Str.ofString "KeyboardInterrupt"), key := Value.str (Str.ofString "KeyboardInterrupt") 86, val := Value.type "KeyboardInterrupt" }, { hash := PyData.keyHash P (Str.ofString "SystemExit"), key := Value.str (Str.ofString "SystemExit") 87, val := Value.type "SystemExit" }, { hash := PyData.keyHash P (Str.ofString "ArithmeticError"), key := Value.str (Str.ofString "ArithmeticError") 88, val := Value.type "ArithmeticError" }, { hash := PyData.keyHash P (Str.ofString "AssertionError"), key := Value.str (Str.ofString "AssertionError") 89, val := Value.type "AssertionError" }, { hash := PyData.keyHash P (Str.ofString "AttributeError"), key := Value.str (Str.ofString "AttributeError") 90, val := Value.type "AttributeError" }, { hash := PyData.keyHash P (Str.ofString "BufferError"), key := Value.str (Str.ofString "BufferError") 91, val := Value.type "BufferError" }, { hash := PyData.keyHash P (Str.ofString "EOFError"), key := Value.str (Str.ofString "EOFError") 92, val := Value.type "EOFError" }, { hash := PyData.keyHash P (Str.ofString "ImportError"), key := Value.str (Str.ofString "ImportError") 93, val := Value.type "ImportError" }, { hash := PyData.keyHash P (Str.ofString "LookupError"), key := Value.str (Str.ofString "LookupError") 94, val := Value.type "LookupError" }, { hash := PyData.keyHash P (Str.ofString "MemoryError"), key := Value.str (Str.ofString "MemoryError") 95, val := Value.type "MemoryError" }, { hash := PyData.keyHash P (Str.ofString "NameError"), key := Value.str (Str.ofString "NameError") 96, val := Value.type "NameError" }, { hash := PyData.keyHash P (Str.ofString "OSError"), key := Value.str (Str.ofString "OSError") 97, val := Value.type "OSError" }, { hash := PyData.keyHash P (Str.ofString "ReferenceError"), key := Value.str (Str.ofString "ReferenceError") 98, val := Value.type "ReferenceError" }, { hash := PyData.keyHash P (Str.ofString "RuntimeError"), key := Value.str (Str.ofString "RuntimeError") 99, val := Value.type "RuntimeError" }, { hash := PyData.keyHash P (Str.ofString "StopAsyncIteration"), key := Value.str (Str.ofString "StopAsyncIteration") 100, val := Value.type "StopAsyncIteration" }, { hash := PyData.keyHash P (Str.ofString "StopIteration"), key := Value.str (Str.ofString "StopIteration") 101, val := Value.type "StopIteration" }, { hash := PyData.keyHash P (Str.ofString "SyntaxError"), key := Value.str (Str.ofString "SyntaxError") 102, val := Value.type "SyntaxError" }, { hash := PyData.keyHash P (Str.ofString "SystemError"), key := Value.str (Str.ofString "SystemError") 103, val := Value.type "SystemError" }, { hash := PyData.keyHash P (Str.ofString "TypeError"), key := Value.str (Str.ofString "TypeError") 104, val := Value.type "TypeError" }, { hash := PyData.keyHash P (Str.ofString "ValueError"), key := Value.str (Str.ofString "ValueError") 105, val := Value.type "ValueError" }, { hash := PyData.keyHash P (Str.ofString "Warning"), key := Value.str (Str.ofString "Warning") 106, val := Value.type "Warning" }, { hash := PyData.keyHash P (Str.ofString "FloatingPointError"), key := Value.str (Str.ofString "FloatingPointError") 107, val := Value.type "FloatingPointError" }, { hash := PyData.keyHash P (Str.ofString "OverflowError"), key := Value.str (Str.ofString "OverflowError") 108, val := Value.type "OverflowError" }, { hash := PyData.keyHash P (Str.ofString "ZeroDivisionError"), key := Value.str (Str.ofString "ZeroDivisionError") 109, val := Value.type "ZeroDivisionError" }, { hash := PyData.keyHash P (Str.ofString "BytesWarning"), key := Value.str (Str.ofString "BytesWarning") 110, val := Value.type "BytesWarning" }, { hash := PyData.keyHash P (Str.ofString "DeprecationWarning"), key := Value.str (Str.ofString "DeprecationWarning") 111, val := Value.type "DeprecationWarning" }, { hash := PyData.keyHash P (Str.ofString "EncodingWarning"), key := Value.str (Str.ofString "EncodingWarning") 112, val := Value.type "EncodingWarning" }, { hash := PyData.keyHash P (Str.ofString "FutureWarning"), key := Value.str (Str.ofString "FutureWarning") 113, val := Value.type "FutureWarning" }, { hash := PyData.keyHash P (Str.ofString "ImportWarning"), key := Value.str (Str.ofString "ImportWarning") 114, val := Value.type "ImportWarning" }, { hash := PyData.keyHash P (Str.ofString "PendingDeprecationWarning"), key := Value.str (Str.ofString "PendingDeprecationWarning") 115, val := Value.type "PendingDeprecationWarning" }, { hash := PyData.keyHash P (Str.ofString "ResourceWarning"), key := Value.str (Str.ofString "ResourceWarning") 116, val := Value.type "ResourceWarning" }, { hash := PyData.keyHash P (Str.ofString "RuntimeWarning"), key := Value.str (Str.ofString "RuntimeWarning") 117, val := Value.type "RuntimeWarning" }, { hash := PyData.keyHash P (Str.ofString "SyntaxWarning"), key := Value.str (Str.ofString "SyntaxWarning") 118, val := Value.type "SyntaxWarning" }, { hash := PyData.keyHash P (Str.ofString "UnicodeWarning"), key := Value.str (Str.ofString "UnicodeWarning") 119, val := Value.type "UnicodeWarning" }, { hash := PyData.keyHash P (Str.ofString "UserWarning"), key := Value.str (Str.ofString "UserWarning") 120, val := Value.type "UserWarning" }, { hash := PyData.keyHash P (Str.ofString "BlockingIOError"), key := Value.str (Str.ofString "BlockingIOError") 121, val := Value.type "BlockingIOError" }, { hash := PyData.keyHash P (Str.ofString "ChildProcessError"), key := Value.str (Str.ofString "ChildProcessError") 122, val := Value.type "ChildProcessError" }, { hash := PyData.keyHash P (Str.ofString "ConnectionError"), key := Value.str (Str.ofString "ConnectionError") 123, val := Value.type "ConnectionError" }, { hash := PyData.keyHash P (Str.ofString "FileExistsError"), key := Value.str (Str.ofString "FileExistsError") 124, val := Value.type "FileExistsError" }, { hash := PyData.keyHash P (Str.ofString "FileNotFoundError"), key := Value.str (Str.ofString "FileNotFoundError") 125, val := Value.type "FileNotFoundError" }, { hash := PyData.keyHash P (Str.ofString "InterruptedError"), key := Value.str (Str.ofString "InterruptedError") 126, val := Value.type "InterruptedError" }, { hash := PyData.keyHash P (Str.ofString "IsADirectoryError"), key := Value.str (Str.ofString "IsADirectoryError") 127, val := Value.type "IsADirectoryError" }, { hash := PyData.keyHash P (Str.ofString "NotADirectoryError"), key := Value.str (Str.ofString "NotADirectoryError") 128, val := Value.type "NotADirectoryError" }, { hash := PyData.keyHash P (Str.ofString "PermissionError"), key := Value.str (Str.ofString "PermissionError") 129, val := Value.type "PermissionError" }, { hash := PyData.keyHash P (Str.ofString "ProcessLookupError"), key := Value.str (Str.ofString "ProcessLookupError") 130, val := Value.type "ProcessLookupError" }, { hash := PyData.keyHash P (Str.ofString "TimeoutError"), key := Value.str (Str.ofString "TimeoutError") 131, val := Value.type "TimeoutError" }, { hash := PyData.keyHash P (Str.ofString "IndentationError"), key := Value.str (Str.ofString "IndentationError") 132, val := Value.type "IndentationError" }, { hash := PyData.keyHash P (Str.ofString "_IncompleteInputError"), key := Value.str (Str.ofString "_IncompleteInputError") 133, val := Value.type "_IncompleteInputError" }, { hash := PyData.keyHash P (Str.ofString "IndexError"), key := Value.str (Str.ofString "IndexError") 134, val := Value.type "IndexError" }, { hash := PyData.keyHash P (Str.ofString "KeyError"), key := Value.str (Str.ofString "KeyError") 135, val := Value.type "KeyError" }, { hash := PyData.keyHash P (Str.ofString "ModuleNotFoundError"), key := Value.str (Str.ofString "ModuleNotFoundError") 136, val := Value.type "ModuleNotFoundError" }, { hash := PyData.keyHash P (Str.ofString "NotImplementedError"), key := Value.str (Str.ofString "NotImplementedError") 137, val := Value.type "NotImplementedError" }, { hash := PyData.keyHash P (Str.ofString "PythonFinalizationError"), key := Value.str (Str.ofString "PythonFinalizationError") 138, val := Value.type "PythonFinalizationError" }, { hash := PyData.keyHash P (Str.ofString "RecursionError"), key := Value.str (Str.ofString "RecursionError") 139, val := Value.type "RecursionError" }, { hash := PyData.keyHash P (Str.ofString "UnboundLocalError"), key := Value.str (Str.ofString "UnboundLocalError") 140, val := Value.type "UnboundLocalError" }, { hash := PyData.keyHash P (Str.ofString "UnicodeError"), key := Value.str (Str.ofString "UnicodeError") 141, val := Value.type "UnicodeError" }, { hash := PyData.keyHash P (Str.ofString "BrokenPipeError"), key := Value.str (Str.ofString "BrokenPipeError") 142, val := Value.type "BrokenPipeError" }, { hash := PyData.keyHash P (Str.ofString "ConnectionAbortedError"), key := Value.str (Str.ofString "ConnectionAbortedError") 143, val := Value.type "ConnectionAbortedError" }, { hash := PyData.keyHash P (Str.ofString "ConnectionRefusedError"), key := Value.str (Str.ofString "ConnectionRefusedError") 144, val := Value.type "ConnectionRefusedError" }, { hash := PyData.keyHash P (Str.ofString "ConnectionResetError"), key := Value.str (Str.ofString "ConnectionResetError") 145, val := Value.type "ConnectionResetError" }, { hash := PyData.keyHash P (Str.ofString "TabError"), key := Value.str (Str.ofString "TabError") 146, val := Value.type "TabError" }, { hash := PyData.keyHash P (Str.ofString "UnicodeDecodeError"), key := Value.str (Str.ofString "UnicodeDecodeError") 147, val := Value.type "UnicodeDecodeError" }, { hash := PyData.keyHash P (Str.ofString "UnicodeEncodeError"), key := Value.str (Str.ofString "UnicodeEncodeError") 148, val := Value.type "UnicodeEncodeError" }, { hash := PyData.keyHash P (Str.ofString "UnicodeTranslateError"), key := Value.str (Str.ofString "UnicodeTranslateError") 149, val := Value.type "UnicodeTranslateError" }, { hash := PyData.keyHash P (Str.ofString "ExceptionGroup"), key := Value.str (Str.ofString "ExceptionGroup") 150, val := Value.type "ExceptionGroup" }, { hash := PyData.keyHash P (Str.ofString "EnvironmentError"), key := Value.str (Str.ofString "EnvironmentError") 151, val := Value.type "OSError" }, { hash := PyData.keyHash P (Str.ofString "IOError"), key := Value.str (Str.ofString "IOError") 152, val := Value.type "OSError" }, { hash := PyData.keyHash P (Str.ofString "open"), key := Value.str (Str.ofString "open") 153, val := Value.builtin "open" }, { hash := PyData.keyHash P (Str.ofString "quit"), key := Value.str (Str.ofString "quit") 154, val := Value.builtin "builtins.quit#opaque" }, { hash := PyData.keyHash P (Str.ofString "exit"), key := Value.str (Str.ofString "exit") 155, val := Value.builtin "builtins.exit#opaque" }, { hash := PyData.keyHash P (Str.ofString "copyright"), key := Value.str (Str.ofString "copyright") 156, val := Value.builtin "builtins.copyright#opaque" }, { hash := PyData.keyHash P (Str.ofString "credits"), key := Value.str (Str.ofString "credits") 157, val := Value.builtin "builtins.credits#opaque" }, { hash := PyData.keyHash P (Str.ofString "license"), key := Value.str (Str.ofString "license") 158, val := Value.builtin "builtins.license#opaque" }, { hash := PyData.keyHash P (Str.ofString "help"), key := Value.str (Str.ofString "help") 159, val := Value.builtin "builtins.help#opaque" }] 159 } ::
  { cls := Value.type "dict", data := Data.dict #[{ hash := PyData.keyHash P (Str.ofString "builtins"), key := Value.str (Str.ofString "builtins") 162, val := Value.ref 4 }, { hash := PyData.keyHash P (Str.ofString "__main__"), key := Value.str (Str.ofString "__main__") 163, val := Value.ref 5 }] 2 } ::
  { cls := Value.none, data := Data.dict #[{ hash := PyData.keyHash P (Str.ofString "type.__subclasses__.Exception.0"), key := Value.str (Str.ofString "type.__subclasses__.Exception.0") 232, val := Value.int 47 0 }, { hash := PyData.keyHash P (Str.ofString "type.__subclasses__.Exception.n"), key := Value.str (Str.ofString "type.__subclasses__.Exception.n") 233, val := Value.int 1 0 }] 2 } ::
  { cls := Value.type "dict", data := Data.dict #[{ hash := PyData.keyHash P (Str.ofString "__name__"), key := Value.str (Str.ofString "__name__") 165, val := Value.str (Str.ofString "law_pc0131_01") 640 }, { hash := PyData.keyHash P (Str.ofString "__doc__"), key := Value.str (Str.ofString "__doc__") 166, val := Value.none }, { hash := PyData.keyHash P (Str.ofString "__package__"), key := Value.str (Str.ofString "__package__") 167, val := Value.none }, { hash := PyData.keyHash P (Str.ofString "__loader__"), key := Value.str (Str.ofString "__loader__") 168, val := Value.builtin "__main__.__loader__#opaque" }, { hash := PyData.keyHash P (Str.ofString "__spec__"), key := Value.str (Str.ofString "__spec__") 169, val := Value.none }, { hash := PyData.keyHash P (Str.ofString "__annotations__"), key := Value.str (Str.ofString "__annotations__") 170, val := Value.ref 6 }, { hash := PyData.keyHash P (Str.ofString "__builtins__"), key := Value.str (Str.ofString "__builtins__") 171, val := Value.ref 4 }, { hash := PyData.keyHash P (Str.ofString "__file__"), key := Value.str (Str.ofString "__file__") 173, val := Value.str (Str.ofString "/claim/cut.py") 172 }, { hash := PyData.keyHash P (Str.ofString "__cached__"), key := Value.str (Str.ofString "__cached__") 174, val := Value.none }, { hash := PyData.keyHash P (Str.ofString "_wall"), key := Value.str (Str.ofString "_wall") 193, val := Value.ref 21 }, { hash := PyData.keyHash P (Str.ofString "LedgerError"), key := Value.str (Str.ofString "LedgerError") 235, val := Value.ref 47 }, { hash := PyData.keyHash P (Str.ofString "PictureFault"), key := Value.str (Str.ofString "PictureFault") 251, val := Value.ref 60 }, { hash := PyData.keyHash P (Str.ofString "SIGNS"), key := Value.str (Str.ofString "SIGNS") 255, val := Value.str (Str.ofString "ABPSVXZ90/,.+-*$") 254 }, { hash := PyData.keyHash P (Str.ofString "TEXT_SIGNS"), key := Value.str (Str.ofString "TEXT_SIGNS") 257, val := Value.str (Str.ofString "A X 9 B 0 /") 256 }, { hash := PyData.keyHash P (Str.ofString "PLAIN_SIGNS"), key := Value.str (Str.ofString "PLAIN_SIGNS") 259, val := Value.str (Str.ofString "9 P S V") 258 }, { hash := PyData.keyHash P (Str.ofString "LAID_NOWHERE"), key := Value.str (Str.ofString "LAID_NOWHERE") 261, val := Value.str (Str.ofString "P S V") 260 }, { hash := PyData.keyHash P (Str.ofString "ALONE"), key := Value.str (Str.ofString "ALONE") 263, val := Value.str (Str.ofString "S V . CR DB") 262 }, { hash := PyData.keyHash P (Str.ofString "FIGURES"), key := Value.str (Str.ofString "FIGURES") 265, val := Value.str (Str.ofString "0123456789") 264 }, { hash := PyData.keyHash P (Str.ofString "MOST_TEXT"), key := Value.str (Str.ofString "MOST_TEXT") 267, val := Value.int 30 266 }, { hash := PyData.keyHash P (Str.ofString "MOST_DIGITS"), key := Value.str (Str.ofString "MOST_DIGITS") 269, val := Value.int 18 268 }, { hash := PyData.keyHash P (Str.ofString "MOST_SIZE"), key := Value.str (Str.ofString "MOST_SIZE") 271, val := Value.int 9999 270 }, { hash := PyData.keyHash P (Str.ofString "Picture"), key := Value.str (Str.ofString "Picture") 325, val := Value.ref 91 }, { hash := PyData.keyHash P (Str.ofString "Sign"), key := Value.str (Str.ofString "Sign") 365, val := Value.ref 119 }, { hash := PyData.keyHash P (Str.ofString "sign_at"), key := Value.str (Str.ofString "sign_at") 373, val := Value.ref 130 }, { hash := PyData.keyHash P (Str.ofString "count_at"), key := Value.str (Str.ofString "count_at") 379, val := Value.ref 135 }, { hash := PyData.keyHash P (Str.ofString "signs_of"), key := Value.str (Str.ofString "signs_of") 391, val := Value.ref 142 }, { hash := PyData.keyHash P (Str.ofString "symbols_of"), key := Value.str (Str.ofString "symbols_of") 400, val := Value.ref 149 }, { hash := PyData.keyHash P (Str.ofString "size_of_symbols"), key := Value.str (Str.ofString "size_of_symbols") 406, val := Value.ref 154 }, { hash := PyData.keyHash P (Str.ofString "Order"), key := Value.str (Str.ofString "Order") 568, val := Value.ref 276 }, { hash := PyData.keyHash P (Str.ofString "number_picture"), key := Value.str (Str.ofString "number_picture") 574, val := Value.ref 285 }, { hash := PyData.keyHash P (Str.ofString "text_category"), key := Value.str (Str.ofString "text_category") 580, val := Value.ref 290 }, { hash := PyData.keyHash P (Str.ofString "text_picture"), key := Value.str (Str.ofString "text_picture") 590, val := Value.ref 297 }, { hash := PyData.keyHash P (Str.ofString "read_picture"), key := Value.str (Str.ofString "read_picture") 596, val := Value.ref 302 }, { hash := PyData.keyHash P (Str.ofString "places"), key := Value.str (Str.ofString "places") 606, val := Value.ref 309 }, { hash := PyData.keyHash P (Str.ofString "INSERTED"), key := Value.str (Str.ofString "INSERTED") 610, val := Value.str (Str.ofString "B0/,") 609 }, { hash := PyData.keyHash P (Str.ofString "BLANK"), key := Value.str (Str.ofString "BLANK") 612, val := Value.str (Str.ofString " ") 611 }, { hash := PyData.keyHash P (Str.ofString "insert_text"), key := Value.str (Str.ofString "insert_text") 619, val := Value.ref 316 }, { hash := PyData.keyHash P (Str.ofString "data_places"), key := Value.str (Str.ofString "data_places") 625, val := Value.ref 321 }, { hash := PyData.keyHash P (Str.ofString "inserted"), key := Value.str (Str.ofString "inserted") 639, val := Value.ref 328 }, { hash := PyData.keyHash P (Str.ofString "_law_table"), key := Value.str (Str.ofString "_law_table") 657, val := Value.ref 334 }, { hash := PyData.keyHash P (Str.ofString "_law_draw"), key := Value.str (Str.ofString "_law_draw") 667, val := Value.ref 341 }, { hash := PyData.keyHash P (Str.ofString "law"), key := Value.str (Str.ofString "law") 673, val := Value.ref 346 }] 42 } ::
  { cls := Value.type "module", dict := some 0 } ::
  { cls := Value.type "module", dict := some 3 } ::
  { cls := Value.type "dict", data := Data.dict #[] } ::
  tuOb [] ::
  { cls := Value.none, data := Data.fields #[] } ::
  coOb [Value.str (Str.ofString "<module>") 176, Value.str (Str.ofString "<module>") 177, Value.str (Str.ofString "/claim/cut.py") 178, Value.int 1 0, Value.int 0 0, Value.int 0 0, Value.int 0 0, Value.int 0 0, Value.ref 7, Value.bool false, Value.int 175 0, Value.ref 8, Value.none, Value.none, Value.none, Value.none, Value.int 179 0, Value.int 1 0, Value.str (Str.ofString "/claim/cut.py") 180] ::
  { cls := Value.type "frame", slots := #[some (Value.ref 9), some (Value.ref 3), some (Value.ref 3), none, some (Value.str (Str.ofString "__main__") 164), none, some (Value.ref 0)] } ::
  tuOb [] ::
  { cls := Value.none, data := Data.fields #[Value.int 1 0, Value.int 0 0, Value.ref 20, Value.int 5 0, Value.int 0 0, Value.ref 27, Value.int 14 0, Value.int 0 0, Value.ref 56, Value.int 26 0, Value.int 0 0, Value.ref 68, Value.int 42 0, Value.int 0 0, Value.ref 101, Value.int 51 0, Value.int 0 0, Value.ref 129, Value.int 57 0, Value.int 0 0, Value.ref 134, Value.int 65 0, Value.int 0 0, Value.ref 141, Value.int 75 0, Value.int 0 0, Value.ref 148, Value.int 83 0, Value.int 0 0, Value.ref 153, Value.int 85 0, Value.int 0 0, Value.ref 160, Value.int 213 0, Value.int 0 0, Value.ref 284, Value.int 223 0, Value.int 0 0, Value.ref 289, Value.int 228 0, Value.int 0 0, Value.ref 296, Value.int 236 0, Value.int 0 0, Value.ref 301, Value.int 244 0, Value.int 0 0, Value.ref 308, Value.int 252 0, Value.int 0 0, Value.ref 315, Value.int 254 0, Value.int 0 0, Value.ref 320, Value.int 256 0, Value.int 0 0, Value.ref 327, Value.int 270 0, Value.int 0 0, Value.ref 340, Value.int 282 0, Value.int 0 0, Value.ref 345] } ::
  coOb [Value.str (Str.ofString "<module>") 182, Value.str (Str.ofString "<module>") 183, Value.str (Str.ofString "/claim/cut.py") 184, Value.int 1 0, Value.int 0 0, Value.int 0 0, Value.int 0 0, Value.int 0 0, Value.ref 11, Value.bool false, Value.int 181 0, Value.ref 12, Value.none, Value.none, Value.none, Value.none, Value.int 185 0, Value.int 1 0, Value.str (Str.ofString "/claim/cut.py") 186] ::
  { cls := Value.type "frame", slots := #[some (Value.ref 13), some (Value.ref 3), some (Value.ref 3), none, some (Value.str (Str.ofString "__main__") 164), none, some (Value.ref 0)] } ::
  tuOb [] ::
  { cls := Value.none, data := Data.fields #[] } ::
  tuOb [Value.str (Str.ofString "k") 190] ::
  tuOb [] ::
  fgOb (stAt 0) (Value.none) 0 (Str.ofString "_wall") (Value.none) (Value.none) (Value.none) ::
  coOb [Value.str (Str.ofString "_wall") 187, Value.str (Str.ofString "_wall") 188, Value.str (Str.ofString "/claim/cut.py") 189, Value.int 1 0, Value.int 1 0, Value.int 0 0, Value.int 0 0, Value.int 3 0, Value.ref 15, Value.bool true, Value.int 181 0, Value.ref 16, Value.none, Value.ref 17, Value.ref 18, Value.ref 19, Value.int 191 0, Value.int 1 0, Value.str (Str.ofString "/claim/cut.py") 192] ::
  fgOb (stAt 0) (Value.type "function") 3 (Str.ofString "_wall") (Value.str (Str.ofString "__main__") 164) (Value.ref 20) (Value.none) ::
  tuOb [Value.type "Exception"] ::
  { cls := Value.type "builtin_function_or_method", data := Data.fields #[Value.builtin "type.__prepare__", Value.type "type"] } ::
  { cls := Value.type "dict", data := Data.dict #[{ hash := PyData.keyHash P (Str.ofString "__module__"), key := Value.str (Str.ofString "__module__") 203, val := Value.str (Str.ofString "ledgerspeak.errors") 194 }, { hash := PyData.keyHash P (Str.ofString "__qualname__"), key := Value.str (Str.ofString "__qualname__") 205, val := Value.str (Str.ofString "LedgerError") 204 }, { hash := PyData.keyHash P (Str.ofString "__firstlineno__"), key := Value.str (Str.ofString "__firstlineno__") 207, val := Value.int 5 206 }, { hash := PyData.keyHash P (Str.ofString "__init__"), key := Value.str (Str.ofString "__init__") 218, val := Value.ref 37 }, { hash := PyData.keyHash P (Str.ofString "told"), key := Value.str (Str.ofString "told") 225, val := Value.ref 44 }, { hash := PyData.keyHash P (Str.ofString "__static_attributes__"), key := Value.str (Str.ofString "__static_attributes__") 228, val := Value.ref 45 }] 6 } ::
  tuOb [] ::
  { cls := Value.none, data := Data.fields #[Value.int 7 0, Value.int 4 0, Value.ref 36, Value.int 12 0, Value.int 4 0, Value.ref 43] } ::
  coOb [Value.str (Str.ofString "LedgerError") 198, Value.str (Str.ofString "LedgerError") 199, Value.str (Str.ofString "/claim/cut.py") 200, Value.int 5 0, Value.int 0 0, Value.int 0 0, Value.int 0 0, Value.int 0 0, Value.ref 25, Value.bool false, Value.int 181 0, Value.ref 26, Value.none, Value.none, Value.none, Value.none, Value.int 201 0, Value.int 5 0, Value.str (Str.ofString "/claim/cut.py") 202] ::
  { cls := Value.type "frame", slots := #[some (Value.ref 27), some (Value.ref 3), some (Value.ref 24), none, some (Value.str (Str.ofString "ledgerspeak.errors") 194), none, some (Value.ref 0)] } ::
  tuOb [Value.int 0 208, Value.int 0 209] ::
  tuOb [Value.ref 29] ::
  tuOb [] ::
  { cls := Value.none, data := Data.fields #[] } ::
  tuOb [Value.str (Str.ofString "self") 213, Value.str (Str.ofString "what") 214, Value.str (Str.ofString "at") 215] ::
  tuOb [] ::
  fgOb (inAt 2 0) (Value.none) 0 (Str.ofString "LedgerError.__init__") (Value.none) (Value.none) (Value.none) ::
  coOb [Value.str (Str.ofString "__init__") 210, Value.str (Str.ofString "LedgerError.__init__") 211, Value.str (Str.ofString "/claim/cut.py") 212, Value.int 7 0, Value.int 3 0, Value.int 0 0, Value.int 0 0, Value.int 3 0, Value.ref 31, Value.bool true, Value.int 181 0, Value.ref 32, Value.none, Value.ref 33, Value.ref 34, Value.ref 35, Value.int 216 0, Value.int 7 0, Value.str (Str.ofString "/claim/cut.py") 217] ::
  fgOb (inAt 2 0) (Value.type "function") 3 (Str.ofString "LedgerError.__init__") (Value.str (Str.ofString "ledgerspeak.errors") 194) (Value.ref 36) (Value.ref 30) ::
  tuOb [] ::
  { cls := Value.none, data := Data.fields #[] } ::
  tuOb [Value.str (Str.ofString "self") 222] ::
  tuOb [] ::
  fgOb (inAt 2 1) (Value.none) 0 (Str.ofString "LedgerError.told") (Value.none) (Value.none) (Value.none) ::
  coOb [Value.str (Str.ofString "told") 219, Value.str (Str.ofString "LedgerError.told") 220, Value.str (Str.ofString "/claim/cut.py") 221, Value.int 12 0, Value.int 1 0, Value.int 0 0, Value.int 0 0, Value.int 3 0, Value.ref 38, Value.bool true, Value.int 181 0, Value.ref 39, Value.none, Value.ref 40, Value.ref 41, Value.ref 42, Value.int 223 0, Value.int 12 0, Value.str (Str.ofString "/claim/cut.py") 224] ::
  fgOb (inAt 2 1) (Value.type "function") 3 (Str.ofString "LedgerError.told") (Value.str (Str.ofString "ledgerspeak.errors") 194) (Value.ref 43) (Value.none) ::
  tuOb [Value.str (Str.ofString "at") 226, Value.str (Str.ofString "what") 227] ::
  { cls := Value.type "dict", data := Data.dict #[{ hash := PyData.keyHash P (Str.ofString "__module__"), key := Value.str (Str.ofString "__module__") 203, val := Value.str (Str.ofString "ledgerspeak.errors") 194 }, { hash := PyData.keyHash P (Str.ofString "__firstlineno__"), key := Value.str (Str.ofString "__firstlineno__") 207, val := Value.int 5 206 }, { hash := PyData.keyHash P (Str.ofString "__init__"), key := Value.str (Str.ofString "__init__") 218, val := Value.ref 37 }, { hash := PyData.keyHash P (Str.ofString "told"), key := Value.str (Str.ofString "told") 225, val := Value.ref 44 }, { hash := PyData.keyHash P (Str.ofString "__static_attributes__"), key := Value.str (Str.ofString "__static_attributes__") 228, val := Value.ref 45 }, { hash := PyData.keyHash P (Str.ofString "__weakref__"), key := Value.str (Str.ofString "__weakref__") 230, val := Value.ref 48 }, { hash := PyData.keyHash P (Str.ofString "__doc__"), key := Value.str (Str.ofString "__doc__") 231, val := Value.none }] 3 } ::
  { cls := Value.type "type", data := Data.cls { name := Str.ofString "LedgerError", bases := [Value.type "Exception"], mro := [Value.ref 47, Value.type "Exception", Value.type "BaseException", Value.type "object"], ns := 46, qualname := Str.ofString "LedgerError", subclasses := [Value.ref 60] }, slots := #[some (Value.ref 22), none, some (Value.str (Str.ofString "LedgerError") 196), some (Value.str (Str.ofString "LedgerError") 204), some (Value.builtin "Exception.__new__"), some (Value.bool true)] } ::
  { cls := Value.type "getset_descriptor", data := Data.fields #[Value.str (Str.ofString "__weakref__") 229, Value.ref 47, Value.builtin "ExceptionGroup.__weakref__", Value.none] } ::
  { cls := Value.type "super", data := Data.fields #[Value.ref 47, Value.ref 47, Value.ref 47] } ::
  { cls := Value.type "builtin_function_or_method", data := Data.fields #[Value.builtin "object.__init_subclass__", Value.ref 47] } ::
  tuOb [Value.ref 47] ::
  { cls := Value.type "builtin_function_or_method", data := Data.fields #[Value.builtin "type.__prepare__", Value.type "type"] } ::
  { cls := Value.type "dict", data := Data.dict #[{ hash := PyData.keyHash P (Str.ofString "__module__"), key := Value.str (Str.ofString "__module__") 243, val := Value.str (Str.ofString "ledgerspeak.errors") 194 }, { hash := PyData.keyHash P (Str.ofString "__qualname__"), key := Value.str (Str.ofString "__qualname__") 245, val := Value.str (Str.ofString "PictureFault") 244 }, { hash := PyData.keyHash P (Str.ofString "__firstlineno__"), key := Value.str (Str.ofString "__firstlineno__") 247, val := Value.int 14 246 }, { hash := PyData.keyHash P (Str.ofString "__static_attributes__"), key := Value.str (Str.ofString "__static_attributes__") 248, val := Value.ref 58 }] 4 } ::
  tuOb [] ::
  { cls := Value.none, data := Data.fields #[] } ::
  coOb [Value.str (Str.ofString "PictureFault") 238, Value.str (Str.ofString "PictureFault") 239, Value.str (Str.ofString "/claim/cut.py") 240, Value.int 14 0, Value.int 0 0, Value.int 0 0, Value.int 0 0, Value.int 0 0, Value.ref 54, Value.bool false, Value.int 181 0, Value.ref 55, Value.none, Value.none, Value.none, Value.none, Value.int 241 0, Value.int 14 0, Value.str (Str.ofString "/claim/cut.py") 242] ::
  { cls := Value.type "frame", slots := #[some (Value.ref 56), some (Value.ref 3), some (Value.ref 53), none, some (Value.str (Str.ofString "ledgerspeak.errors") 194), none, some (Value.ref 0)] } ::
  tuOb [] ::
  { cls := Value.type "dict", data := Data.dict #[{ hash := PyData.keyHash P (Str.ofString "__module__"), key := Value.str (Str.ofString "__module__") 243, val := Value.str (Str.ofString "ledgerspeak.errors") 194 }, { hash := PyData.keyHash P (Str.ofString "__firstlineno__"), key := Value.str (Str.ofString "__firstlineno__") 247, val := Value.int 14 246 }, { hash := PyData.keyHash P (Str.ofString "__static_attributes__"), key := Value.str (Str.ofString "__static_attributes__") 248, val := Value.ref 58 }, { hash := PyData.keyHash P (Str.ofString "__doc__"), key := Value.str (Str.ofString "__doc__") 249, val := Value.none }] 2 } ::
  { cls := Value.type "type", data := Data.cls { name := Str.ofString "PictureFault", bases := [Value.ref 47], mro := [Value.ref 60, Value.ref 47, Value.type "Exception", Value.type "BaseException", Value.type "object"], ns := 59, qualname := Str.ofString "PictureFault" }, slots := #[some (Value.ref 51), none, some (Value.str (Str.ofString "PictureFault") 236), some (Value.str (Str.ofString "PictureFault") 244), some (Value.builtin "Exception.__new__"), some (Value.bool true)] } ::
  { cls := Value.type "super", data := Data.fields #[Value.ref 60, Value.ref 60, Value.ref 60] } ::
  { cls := Value.type "builtin_function_or_method", data := Data.fields #[Value.builtin "object.__init_subclass__", Value.ref 60] } ::
  tuOb [] ::
  { cls := Value.type "builtin_function_or_method", data := Data.fields #[Value.builtin "type.__prepare__", Value.type "type"] } ::
  { cls := Value.type "dict", data := Data.dict #[{ hash := PyData.keyHash P (Str.ofString "__module__"), key := Value.str (Str.ofString "__module__") 279, val := Value.str (Str.ofString "ledgerspeak.pictures") 252 }, { hash := PyData.keyHash P (Str.ofString "__qualname__"), key := Value.str (Str.ofString "__qualname__") 281, val := Value.str (Str.ofString "Picture") 280 }, { hash := PyData.keyHash P (Str.ofString "__firstlineno__"), key := Value.str (Str.ofString "__firstlineno__") 283, val := Value.int 26 282 }, { hash := PyData.keyHash P (Str.ofString "__init__"), key := Value.str (Str.ofString "__init__") 297, val := Value.ref 76 }, { hash := PyData.keyHash P (Str.ofString "told"), key := Value.str (Str.ofString "told") 304, val := Value.ref 83 }, { hash := PyData.keyHash P (Str.ofString "has"), key := Value.str (Str.ofString "has") 310, val := Value.ref 88 }, { hash := PyData.keyHash P (Str.ofString "__static_attributes__"), key := Value.str (Str.ofString "__static_attributes__") 318, val := Value.ref 89 }] 7 } ::
  tuOb [] ::
  { cls := Value.none, data := Data.fields #[Value.int 28 0, Value.int 4 0, Value.ref 75, Value.int 37 0, Value.int 4 0, Value.ref 82, Value.int 40 0, Value.int 4 0, Value.ref 87] } ::
  coOb [Value.str (Str.ofString "Picture") 274, Value.str (Str.ofString "Picture") 275, Value.str (Str.ofString "/claim/cut.py") 276, Value.int 26 0, Value.int 0 0, Value.int 0 0, Value.int 0 0, Value.int 0 0, Value.ref 66, Value.bool false, Value.int 181 0, Value.ref 67, Value.none, Value.none, Value.none, Value.none, Value.int 277 0, Value.int 26 0, Value.str (Str.ofString "/claim/cut.py") 278] ::
  { cls := Value.type "frame", slots := #[some (Value.ref 68), some (Value.ref 3), some (Value.ref 65), none, some (Value.str (Str.ofString "ledgerspeak.pictures") 252), none, some (Value.ref 0)] } ::
  tuOb [] ::
  { cls := Value.none, data := Data.fields #[] } ::
  tuOb [Value.str (Str.ofString "self") 287, Value.str (Str.ofString "text") 288, Value.str (Str.ofString "symbols") 289, Value.str (Str.ofString "category") 290, Value.str (Str.ofString "digits") 291, Value.str (Str.ofString "scale") 292, Value.str (Str.ofString "is_signed") 293, Value.str (Str.ofString "size") 294] ::
  tuOb [] ::
  fgOb (inAt 14 0) (Value.none) 0 (Str.ofString "Picture.__init__") (Value.none) (Value.none) (Value.none) ::
  coOb [Value.str (Str.ofString "__init__") 284, Value.str (Str.ofString "Picture.__init__") 285, Value.str (Str.ofString "/claim/cut.py") 286, Value.int 28 0, Value.int 8 0, Value.int 0 0, Value.int 0 0, Value.int 3 0, Value.ref 70, Value.bool true, Value.int 181 0, Value.ref 71, Value.none, Value.ref 72, Value.ref 73, Value.ref 74, Value.int 295 0, Value.int 28 0, Value.str (Str.ofString "/claim/cut.py") 296] ::
  fgOb (inAt 14 0) (Value.type "function") 3 (Str.ofString "Picture.__init__") (Value.str (Str.ofString "ledgerspeak.pictures") 252) (Value.ref 75) (Value.none) ::
  tuOb [] ::
  { cls := Value.none, data := Data.fields #[] } ::
  tuOb [Value.str (Str.ofString "self") 301] ::
  tuOb [] ::
  fgOb (inAt 14 1) (Value.none) 0 (Str.ofString "Picture.told") (Value.none) (Value.none) (Value.none) ::
  coOb [Value.str (Str.ofString "told") 298, Value.str (Str.ofString "Picture.told") 299, Value.str (Str.ofString "/claim/cut.py") 300, Value.int 37 0, Value.int 1 0, Value.int 0 0, Value.int 0 0, Value.int 3 0, Value.ref 77, Value.bool true, Value.int 181 0, Value.ref 78, Value.none, Value.ref 79, Value.ref 80, Value.ref 81, Value.int 302 0, Value.int 37 0, Value.str (Str.ofString "/claim/cut.py") 303] ::
  fgOb (inAt 14 1) (Value.type "function") 3 (Str.ofString "Picture.told") (Value.str (Str.ofString "ledgerspeak.pictures") 252) (Value.ref 82) (Value.none) ::
  tuOb [] ::
  { cls := Value.none, data := Data.fields #[] } ::
  fgOb (inAt 14 2) (Value.none) 0 (Str.ofString "Picture.has") (Value.none) (Value.none) (Value.none) ::
  coOb [Value.str (Str.ofString "has") 305, Value.str (Str.ofString "Picture.has") 306, Value.str (Str.ofString "/claim/cut.py") 307, Value.int 40 0, Value.int 2 0, Value.int 0 0, Value.int 0 0, Value.int 3 0, Value.ref 84, Value.bool true, Value.int 181 0, Value.ref 85, Value.none, Value.none, Value.none, Value.ref 86, Value.int 308 0, Value.int 40 0, Value.str (Str.ofString "/claim/cut.py") 309] ::
  fgOb (inAt 14 2) (Value.type "function") 3 (Str.ofString "Picture.has") (Value.str (Str.ofString "ledgerspeak.pictures") 252) (Value.ref 87) (Value.none) ::
  tuOb [Value.str (Str.ofString "category") 311, Value.str (Str.ofString "digits") 312, Value.str (Str.ofString "is_signed") 313, Value.str (Str.ofString "scale") 314, Value.str (Str.ofString "size") 315, Value.str (Str.ofString "symbols") 316, Value.str (Str.ofString "text") 317] ::
  { cls := Value.type "dict", data := Data.dict #[{ hash := PyData.keyHash P (Str.ofString "__module__"), key := Value.str (Str.ofString "__module__") 279, val := Value.str (Str.ofString "ledgerspeak.pictures") 252 }, { hash := PyData.keyHash P (Str.ofString "__firstlineno__"), key := Value.str (Str.ofString "__firstlineno__") 283, val := Value.int 26 282 }, { hash := PyData.keyHash P (Str.ofString "__init__"), key := Value.str (Str.ofString "__init__") 297, val := Value.ref 76 }, { hash := PyData.keyHash P (Str.ofString "told"), key := Value.str (Str.ofString "told") 304, val := Value.ref 83 }, { hash := PyData.keyHash P (Str.ofString "has"), key := Value.str (Str.ofString "has") 310, val := Value.ref 88 }, { hash := PyData.keyHash P (Str.ofString "__static_attributes__"), key := Value.str (Str.ofString "__static_attributes__") 318, val := Value.ref 89 }, { hash := PyData.keyHash P (Str.ofString "__dict__"), key := Value.str (Str.ofString "__dict__") 320, val := Value.ref 92 }, { hash := PyData.keyHash P (Str.ofString "__weakref__"), key := Value.str (Str.ofString "__weakref__") 322, val := Value.ref 93 }, { hash := PyData.keyHash P (Str.ofString "__doc__"), key := Value.str (Str.ofString "__doc__") 323, val := Value.none }] 4 } ::
  { cls := Value.type "type", data := Data.cls { name := Str.ofString "Picture", bases := [Value.type "object"], mro := [Value.ref 91, Value.type "object"], ns := 90, qualname := Str.ofString "Picture" }, slots := #[none, none, some (Value.str (Str.ofString "Picture") 272), some (Value.str (Str.ofString "Picture") 280), some (Value.builtin "object.__new__"), some (Value.bool true)] } ::
  { cls := Value.type "getset_descriptor", data := Data.fields #[Value.str (Str.ofString "__dict__") 319, Value.ref 91, Value.builtin "function.__dict__", Value.builtin "function.__dict__#set"] } ::
  { cls := Value.type "getset_descriptor", data := Data.fields #[Value.str (Str.ofString "__weakref__") 321, Value.ref 91, Value.builtin "ExceptionGroup.__weakref__", Value.none] } ::
  { cls := Value.type "super", data := Data.fields #[Value.ref 91, Value.ref 91, Value.ref 91] } ::
  { cls := Value.type "builtin_function_or_method", data := Data.fields #[Value.builtin "object.__init_subclass__", Value.ref 91] } ::
  tuOb [] ::
  { cls := Value.type "builtin_function_or_method", data := Data.fields #[Value.builtin "type.__prepare__", Value.type "type"] } ::
  { cls := Value.type "dict", data := Data.dict #[{ hash := PyData.keyHash P (Str.ofString "__module__"), key := Value.str (Str.ofString "__module__") 333, val := Value.str (Str.ofString "ledgerspeak.pictures") 252 }, { hash := PyData.keyHash P (Str.ofString "__qualname__"), key := Value.str (Str.ofString "__qualname__") 335, val := Value.str (Str.ofString "Sign") 334 }, { hash := PyData.keyHash P (Str.ofString "__firstlineno__"), key := Value.str (Str.ofString "__firstlineno__") 337, val := Value.int 42 336 }, { hash := PyData.keyHash P (Str.ofString "__init__"), key := Value.str (Str.ofString "__init__") 347, val := Value.ref 109 }, { hash := PyData.keyHash P (Str.ofString "fault"), key := Value.str (Str.ofString "fault") 354, val := Value.ref 116 }, { hash := PyData.keyHash P (Str.ofString "__static_attributes__"), key := Value.str (Str.ofString "__static_attributes__") 358, val := Value.ref 117 }] 6 } ::
  tuOb [] ::
  { cls := Value.none, data := Data.fields #[Value.int 44 0, Value.int 4 0, Value.ref 108, Value.int 49 0, Value.int 4 0, Value.ref 115] } ::
  coOb [Value.str (Str.ofString "Sign") 328, Value.str (Str.ofString "Sign") 329, Value.str (Str.ofString "/claim/cut.py") 330, Value.int 42 0, Value.int 0 0, Value.int 0 0, Value.int 0 0, Value.int 0 0, Value.ref 99, Value.bool false, Value.int 181 0, Value.ref 100, Value.none, Value.none, Value.none, Value.none, Value.int 331 0, Value.int 42 0, Value.str (Str.ofString "/claim/cut.py") 332] ::
  { cls := Value.type "frame", slots := #[some (Value.ref 101), some (Value.ref 3), some (Value.ref 98), none, some (Value.str (Str.ofString "ledgerspeak.pictures") 252), none, some (Value.ref 0)] } ::
  tuOb [] ::
  { cls := Value.none, data := Data.fields #[] } ::
  tuOb [Value.str (Str.ofString "self") 341, Value.str (Str.ofString "sign") 342, Value.str (Str.ofString "count") 343, Value.str (Str.ofString "at") 344] ::
  tuOb [] ::
  fgOb (inAt 15 0) (Value.none) 0 (Str.ofString "Sign.__init__") (Value.none) (Value.none) (Value.none) ::
  coOb [Value.str (Str.ofString "__init__") 338, Value.str (Str.ofString "Sign.__init__") 339, Value.str (Str.ofString "/claim/cut.py") 340, Value.int 44 0, Value.int 4 0, Value.int 0 0, Value.int 0 0, Value.int 3 0, Value.ref 103, Value.bool true, Value.int 181 0, Value.ref 104, Value.none, Value.ref 105, Value.ref 106, Value.ref 107, Value.int 345 0, Value.int 44 0, Value.str (Str.ofString "/claim/cut.py") 346] ::
  fgOb (inAt 15 0) (Value.type "function") 3 (Str.ofString "Sign.__init__") (Value.str (Str.ofString "ledgerspeak.pictures") 252) (Value.ref 108) (Value.none) ::
  tuOb [] ::
  { cls := Value.none, data := Data.fields #[] } ::
  tuOb [Value.str (Str.ofString "self") 351] ::
  tuOb [] ::
  fgOb (inAt 15 1) (Value.none) 0 (Str.ofString "Sign.fault") (Value.none) (Value.none) (Value.none) ::
  coOb [Value.str (Str.ofString "fault") 348, Value.str (Str.ofString "Sign.fault") 349, Value.str (Str.ofString "/claim/cut.py") 350, Value.int 49 0, Value.int 1 0, Value.int 0 0, Value.int 0 0, Value.int 3 0, Value.ref 110, Value.bool true, Value.int 181 0, Value.ref 111, Value.none, Value.ref 112, Value.ref 113, Value.ref 114, Value.int 352 0, Value.int 49 0, Value.str (Str.ofString "/claim/cut.py") 353] ::
  fgOb (inAt 15 1) (Value.type "function") 3 (Str.ofString "Sign.fault") (Value.str (Str.ofString "ledgerspeak.pictures") 252) (Value.ref 115) (Value.none) ::
  tuOb [Value.str (Str.ofString "at") 355, Value.str (Str.ofString "count") 356, Value.str (Str.ofString "sign") 357] ::
  { cls := Value.type "dict", data := Data.dict #[{ hash := PyData.keyHash P (Str.ofString "__module__"), key := Value.str (Str.ofString "__module__") 333, val := Value.str (Str.ofString "ledgerspeak.pictures") 252 }, { hash := PyData.keyHash P (Str.ofString "__firstlineno__"), key := Value.str (Str.ofString "__firstlineno__") 337, val := Value.int 42 336 }, { hash := PyData.keyHash P (Str.ofString "__init__"), key := Value.str (Str.ofString "__init__") 347, val := Value.ref 109 }, { hash := PyData.keyHash P (Str.ofString "fault"), key := Value.str (Str.ofString "fault") 354, val := Value.ref 116 }, { hash := PyData.keyHash P (Str.ofString "__static_attributes__"), key := Value.str (Str.ofString "__static_attributes__") 358, val := Value.ref 117 }, { hash := PyData.keyHash P (Str.ofString "__dict__"), key := Value.str (Str.ofString "__dict__") 360, val := Value.ref 120 }, { hash := PyData.keyHash P (Str.ofString "__weakref__"), key := Value.str (Str.ofString "__weakref__") 362, val := Value.ref 121 }, { hash := PyData.keyHash P (Str.ofString "__doc__"), key := Value.str (Str.ofString "__doc__") 363, val := Value.none }] 4 } ::
  { cls := Value.type "type", data := Data.cls { name := Str.ofString "Sign", bases := [Value.type "object"], mro := [Value.ref 119, Value.type "object"], ns := 118, qualname := Str.ofString "Sign" }, slots := #[none, none, some (Value.str (Str.ofString "Sign") 326), some (Value.str (Str.ofString "Sign") 334), some (Value.builtin "object.__new__"), some (Value.bool true)] } ::
  { cls := Value.type "getset_descriptor", data := Data.fields #[Value.str (Str.ofString "__dict__") 359, Value.ref 119, Value.builtin "function.__dict__", Value.builtin "function.__dict__#set"] } ::
  { cls := Value.type "getset_descriptor", data := Data.fields #[Value.str (Str.ofString "__weakref__") 361, Value.ref 119, Value.builtin "ExceptionGroup.__weakref__", Value.none] } ::
  { cls := Value.type "super", data := Data.fields #[Value.ref 119, Value.ref 119, Value.ref 119] } ::
  { cls := Value.type "builtin_function_or_method", data := Data.fields #[Value.builtin "object.__init_subclass__", Value.ref 119] } ::
  tuOb [] ::
  { cls := Value.none, data := Data.fields #[] } ::
  tuOb [Value.str (Str.ofString "text") 369, Value.str (Str.ofString "at") 370] ::
  tuOb [] ::
  fgOb (stAt 16) (Value.none) 0 (Str.ofString "sign_at") (Value.none) (Value.none) (Value.none) ::
  coOb [Value.str (Str.ofString "sign_at") 366, Value.str (Str.ofString "sign_at") 367, Value.str (Str.ofString "/claim/cut.py") 368, Value.int 51 0, Value.int 2 0, Value.int 0 0, Value.int 0 0, Value.int 3 0, Value.ref 124, Value.bool true, Value.int 181 0, Value.ref 125, Value.none, Value.ref 126, Value.ref 127, Value.ref 128, Value.int 371 0, Value.int 51 0, Value.str (Str.ofString "/claim/cut.py") 372] ::
  fgOb (stAt 16) (Value.type "function") 3 (Str.ofString "sign_at") (Value.str (Str.ofString "ledgerspeak.pictures") 252) (Value.ref 129) (Value.none) ::
  tuOb [] ::
  { cls := Value.none, data := Data.fields #[] } ::
  fgOb (stAt 17) (Value.none) 0 (Str.ofString "count_at") (Value.none) (Value.none) (Value.none) ::
  coOb [Value.str (Str.ofString "count_at") 374, Value.str (Str.ofString "count_at") 375, Value.str (Str.ofString "/claim/cut.py") 376, Value.int 57 0, Value.int 2 0, Value.int 0 0, Value.int 0 0, Value.int 3 0, Value.ref 131, Value.bool true, Value.int 181 0, Value.ref 132, Value.none, Value.none, Value.none, Value.ref 133, Value.int 377 0, Value.int 57 0, Value.str (Str.ofString "/claim/cut.py") 378] ::
  fgOb (stAt 17) (Value.type "function") 3 (Str.ofString "count_at") (Value.str (Str.ofString "ledgerspeak.pictures") 252) (Value.ref 134) (Value.none) ::
  tuOb [] ::
  { cls := Value.none, data := Data.fields #[] } ::
  tuOb [Value.str (Str.ofString "text") 383, Value.str (Str.ofString "found") 384, Value.str (Str.ofString "at") 385, Value.str (Str.ofString "sign") 386, Value.str (Str.ofString "count") 387, Value.str (Str.ofString "end") 388] ::
  tuOb [] ::
  fgOb (stAt 18) (Value.none) 0 (Str.ofString "signs_of") (Value.none) (Value.none) (Value.none) ::
  coOb [Value.str (Str.ofString "signs_of") 380, Value.str (Str.ofString "signs_of") 381, Value.str (Str.ofString "/claim/cut.py") 382, Value.int 65 0, Value.int 1 0, Value.int 0 0, Value.int 0 0, Value.int 3 0, Value.ref 136, Value.bool true, Value.int 181 0, Value.ref 137, Value.none, Value.ref 138, Value.ref 139, Value.ref 140, Value.int 389 0, Value.int 65 0, Value.str (Str.ofString "/claim/cut.py") 390] ::
  fgOb (stAt 18) (Value.type "function") 3 (Str.ofString "signs_of") (Value.str (Str.ofString "ledgerspeak.pictures") 252) (Value.ref 141) (Value.none) ::
  tuOb [] ::
  { cls := Value.none, data := Data.fields #[] } ::
  tuOb [Value.str (Str.ofString "signs") 395, Value.str (Str.ofString "found") 396, Value.str (Str.ofString "one") 397] ::
  tuOb [] ::
  fgOb (stAt 19) (Value.none) 0 (Str.ofString "symbols_of") (Value.none) (Value.none) (Value.none) ::
  coOb [Value.str (Str.ofString "symbols_of") 392, Value.str (Str.ofString "symbols_of") 393, Value.str (Str.ofString "/claim/cut.py") 394, Value.int 75 0, Value.int 1 0, Value.int 0 0, Value.int 0 0, Value.int 3 0, Value.ref 143, Value.bool true, Value.int 181 0, Value.ref 144, Value.none, Value.ref 145, Value.ref 146, Value.ref 147, Value.int 398 0, Value.int 75 0, Value.str (Str.ofString "/claim/cut.py") 399] ::
  fgOb (stAt 19) (Value.type "function") 3 (Str.ofString "symbols_of") (Value.str (Str.ofString "ledgerspeak.pictures") 252) (Value.ref 148) (Value.none) ::
  tuOb [] ::
  { cls := Value.none, data := Data.fields #[] } ::
  fgOb (stAt 20) (Value.none) 0 (Str.ofString "size_of_symbols") (Value.none) (Value.none) (Value.none) ::
  coOb [Value.str (Str.ofString "size_of_symbols") 401, Value.str (Str.ofString "size_of_symbols") 402, Value.str (Str.ofString "/claim/cut.py") 403, Value.int 83 0, Value.int 1 0, Value.int 0 0, Value.int 0 0, Value.int 3 0, Value.ref 150, Value.bool true, Value.int 181 0, Value.ref 151, Value.none, Value.none, Value.none, Value.ref 152, Value.int 404 0, Value.int 83 0, Value.str (Str.ofString "/claim/cut.py") 405] ::
  fgOb (stAt 20) (Value.type "function") 3 (Str.ofString "size_of_symbols") (Value.str (Str.ofString "ledgerspeak.pictures") 252) (Value.ref 153) (Value.none) ::
  tuOb [] ::
  { cls := Value.type "builtin_function_or_method", data := Data.fields #[Value.builtin "type.__prepare__", Value.type "type"] } ::
  { cls := Value.type "dict", data := Data.dict #[{ hash := PyData.keyHash P (Str.ofString "__module__"), key := Value.str (Str.ofString "__module__") 414, val := Value.str (Str.ofString "ledgerspeak.pictures") 252 }, { hash := PyData.keyHash P (Str.ofString "__qualname__"), key := Value.str (Str.ofString "__qualname__") 416, val := Value.str (Str.ofString "Order") 415 }, { hash := PyData.keyHash P (Str.ofString "__firstlineno__"), key := Value.str (Str.ofString "__firstlineno__") 418, val := Value.int 85 417 }, { hash := PyData.keyHash P (Str.ofString "__init__"), key := Value.str (Str.ofString "__init__") 425, val := Value.ref 168 }, { hash := PyData.keyHash P (Str.ofString "digits"), key := Value.str (Str.ofString "digits") 432, val := Value.ref 175 }, { hash := PyData.keyHash P (Str.ofString "add_behind"), key := Value.str (Str.ofString "add_behind") 441, val := Value.ref 182 }, { hash := PyData.keyHash P (Str.ofString "take_nine"), key := Value.str (Str.ofString "take_nine") 449, val := Value.ref 189 }, { hash := PyData.keyHash P (Str.ofString "take_zero"), key := Value.str (Str.ofString "take_zero") 457, val := Value.ref 196 }, { hash := PyData.keyHash P (Str.ofString "take_point"), key := Value.str (Str.ofString "take_point") 465, val := Value.ref 203 }, { hash := PyData.keyHash P (Str.ofString "take_scaling"), key := Value.str (Str.ofString "take_scaling") 473, val := Value.ref 210 }, { hash := PyData.keyHash P (Str.ofString "take_inserted"), key := Value.str (Str.ofString "take_inserted") 481, val := Value.ref 217 }, { hash := PyData.keyHash P (Str.ofString "float_on"), key := Value.str (Str.ofString "float_on") 490, val := Value.ref 224 }, { hash := PyData.keyHash P (Str.ofString "may_float"), key := Value.str (Str.ofString "may_float") 497, val := Value.ref 231 }, { hash := PyData.keyHash P (Str.ofString "take_sign"), key := Value.str (Str.ofString "take_sign") 505, val := Value.ref 238 }, { hash := PyData.keyHash P (Str.ofString "take_money"), key := Value.str (Str.ofString "take_money") 513, val := Value.ref 245 }, { hash := PyData.keyHash P (Str.ofString "take_end"), key := Value.str (Str.ofString "take_end") 521, val := Value.ref 252 }, { hash := PyData.keyHash P (Str.ofString "take"), key := Value.str (Str.ofString "take") 530, val := Value.ref 259 }, { hash := PyData.keyHash P (Str.ofString "is_whole"), key := Value.str (Str.ofString "is_whole") 537, val := Value.ref 266 }, { hash := PyData.keyHash P (Str.ofString "scale"), key := Value.str (Str.ofString "scale") 544, val := Value.ref 273 }, { hash := PyData.keyHash P (Str.ofString "__static_attributes__"), key := Value.str (Str.ofString "__static_attributes__") 561, val := Value.ref 274 }] 20 } ::
  tuOb [] ::
  { cls := Value.none, data := Data.fields #[Value.int 87 0, Value.int 4 0, Value.ref 167, Value.int 105 0, Value.int 4 0, Value.ref 174, Value.int 108 0, Value.int 4 0, Value.ref 181, Value.int 113 0, Value.int 4 0, Value.ref 188, Value.int 119 0, Value.int 4 0, Value.ref 195, Value.int 126 0, Value.int 4 0, Value.ref 202, Value.int 131 0, Value.int 4 0, Value.ref 209, Value.int 141 0, Value.int 4 0, Value.ref 216, Value.int 146 0, Value.int 4 0, Value.ref 223, Value.int 150 0, Value.int 4 0, Value.ref 230, Value.int 153 0, Value.int 4 0, Value.ref 237, Value.int 162 0, Value.int 4 0, Value.ref 244, Value.int 173 0, Value.int 4 0, Value.ref 251, Value.int 179 0, Value.int 4 0, Value.ref 258, Value.int 204 0, Value.int 4 0, Value.ref 265, Value.int 209 0, Value.int 4 0, Value.ref 272] } ::
  coOb [Value.str (Str.ofString "Order") 409, Value.str (Str.ofString "Order") 410, Value.str (Str.ofString "/claim/cut.py") 411, Value.int 85 0, Value.int 0 0, Value.int 0 0, Value.int 0 0, Value.int 0 0, Value.ref 158, Value.bool false, Value.int 181 0, Value.ref 159, Value.none, Value.none, Value.none, Value.none, Value.int 412 0, Value.int 85 0, Value.str (Str.ofString "/claim/cut.py") 413] ::
  { cls := Value.type "frame", slots := #[some (Value.ref 160), some (Value.ref 3), some (Value.ref 157), none, some (Value.str (Str.ofString "ledgerspeak.pictures") 252), none, some (Value.ref 0)] } ::
  tuOb [] ::
  { cls := Value.none, data := Data.fields #[] } ::
  tuOb [Value.str (Str.ofString "self") 422] ::
  tuOb [] ::
  fgOb (inAt 21 0) (Value.none) 0 (Str.ofString "Order.__init__") (Value.none) (Value.none) (Value.none) ::
  coOb [Value.str (Str.ofString "__init__") 419, Value.str (Str.ofString "Order.__init__") 420, Value.str (Str.ofString "/claim/cut.py") 421, Value.int 87 0, Value.int 1 0, Value.int 0 0, Value.int 0 0, Value.int 3 0, Value.ref 162, Value.bool true, Value.int 181 0, Value.ref 163, Value.none, Value.ref 164, Value.ref 165, Value.ref 166, Value.int 423 0, Value.int 87 0, Value.str (Str.ofString "/claim/cut.py") 424] ::
  fgOb (inAt 21 0) (Value.type "function") 3 (Str.ofString "Order.__init__") (Value.str (Str.ofString "ledgerspeak.pictures") 252) (Value.ref 167) (Value.none) ::
  tuOb [] ::
  { cls := Value.none, data := Data.fields #[] } ::
  tuOb [Value.str (Str.ofString "self") 429] ::
  tuOb [] ::
  fgOb (inAt 21 1) (Value.none) 0 (Str.ofString "Order.digits") (Value.none) (Value.none) (Value.none) ::
  coOb [Value.str (Str.ofString "digits") 426, Value.str (Str.ofString "Order.digits") 427, Value.str (Str.ofString "/claim/cut.py") 428, Value.int 105 0, Value.int 1 0, Value.int 0 0, Value.int 0 0, Value.int 3 0, Value.ref 169, Value.bool true, Value.int 181 0, Value.ref 170, Value.none, Value.ref 171, Value.ref 172, Value.ref 173, Value.int 430 0, Value.int 105 0, Value.str (Str.ofString "/claim/cut.py") 431] ::
  fgOb (inAt 21 1) (Value.type "function") 3 (Str.ofString "Order.digits") (Value.str (Str.ofString "ledgerspeak.pictures") 252) (Value.ref 174) (Value.none) ::
  tuOb [] ::
  { cls := Value.none, data := Data.fields #[] } ::
  tuOb [Value.str (Str.ofString "self") 436, Value.str (Str.ofString "count") 437, Value.str (Str.ofString "is_loose") 438] ::
  tuOb [] ::
  fgOb (inAt 21 2) (Value.none) 0 (Str.ofString "Order.add_behind") (Value.none) (Value.none) (Value.none) ::
  coOb [Value.str (Str.ofString "add_behind") 433, Value.str (Str.ofString "Order.add_behind") 434, Value.str (Str.ofString "/claim/cut.py") 435, Value.int 108 0, Value.int 3 0, Value.int 0 0, Value.int 0 0, Value.int 3 0, Value.ref 176, Value.bool true, Value.int 181 0, Value.ref 177, Value.none, Value.ref 178, Value.ref 179, Value.ref 180, Value.int 439 0, Value.int 108 0, Value.str (Str.ofString "/claim/cut.py") 440] ::
  fgOb (inAt 21 2) (Value.type "function") 3 (Str.ofString "Order.add_behind") (Value.str (Str.ofString "ledgerspeak.pictures") 252) (Value.ref 181) (Value.none) ::
  tuOb [] ::
  { cls := Value.none, data := Data.fields #[] } ::
  tuOb [Value.str (Str.ofString "self") 445, Value.str (Str.ofString "one") 446] ::
  tuOb [] ::
  fgOb (inAt 21 3) (Value.none) 0 (Str.ofString "Order.take_nine") (Value.none) (Value.none) (Value.none) ::
  coOb [Value.str (Str.ofString "take_nine") 442, Value.str (Str.ofString "Order.take_nine") 443, Value.str (Str.ofString "/claim/cut.py") 444, Value.int 113 0, Value.int 2 0, Value.int 0 0, Value.int 0 0, Value.int 3 0, Value.ref 183, Value.bool true, Value.int 181 0, Value.ref 184, Value.none, Value.ref 185, Value.ref 186, Value.ref 187, Value.int 447 0, Value.int 113 0, Value.str (Str.ofString "/claim/cut.py") 448] ::
  fgOb (inAt 21 3) (Value.type "function") 3 (Str.ofString "Order.take_nine") (Value.str (Str.ofString "ledgerspeak.pictures") 252) (Value.ref 188) (Value.none) ::
  tuOb [] ::
  { cls := Value.none, data := Data.fields #[] } ::
  tuOb [Value.str (Str.ofString "self") 453, Value.str (Str.ofString "one") 454] ::
  tuOb [] ::
  fgOb (inAt 21 4) (Value.none) 0 (Str.ofString "Order.take_zero") (Value.none) (Value.none) (Value.none) ::
  coOb [Value.str (Str.ofString "take_zero") 450, Value.str (Str.ofString "Order.take_zero") 451, Value.str (Str.ofString "/claim/cut.py") 452, Value.int 119 0, Value.int 2 0, Value.int 0 0, Value.int 0 0, Value.int 3 0, Value.ref 190, Value.bool true, Value.int 181 0, Value.ref 191, Value.none, Value.ref 192, Value.ref 193, Value.ref 194, Value.int 455 0, Value.int 119 0, Value.str (Str.ofString "/claim/cut.py") 456] ::
  fgOb (inAt 21 4) (Value.type "function") 3 (Str.ofString "Order.take_zero") (Value.str (Str.ofString "ledgerspeak.pictures") 252) (Value.ref 195) (Value.none) ::
  tuOb [] ::
  { cls := Value.none, data := Data.fields #[] } ::
  tuOb [Value.str (Str.ofString "self") 461, Value.str (Str.ofString "one") 462] ::
  tuOb [] ::
  fgOb (inAt 21 5) (Value.none) 0 (Str.ofString "Order.take_point") (Value.none) (Value.none) (Value.none) ::
  coOb [Value.str (Str.ofString "take_point") 458, Value.str (Str.ofString "Order.take_point") 459, Value.str (Str.ofString "/claim/cut.py") 460, Value.int 126 0, Value.int 2 0, Value.int 0 0, Value.int 0 0, Value.int 3 0, Value.ref 197, Value.bool true, Value.int 181 0, Value.ref 198, Value.none, Value.ref 199, Value.ref 200, Value.ref 201, Value.int 463 0, Value.int 126 0, Value.str (Str.ofString "/claim/cut.py") 464] ::
  fgOb (inAt 21 5) (Value.type "function") 3 (Str.ofString "Order.take_point") (Value.str (Str.ofString "ledgerspeak.pictures") 252) (Value.ref 202) (Value.none) ::
  tuOb [] ::
  { cls := Value.none, data := Data.fields #[] } ::
  tuOb [Value.str (Str.ofString "self") 469, Value.str (Str.ofString "one") 470] ::
  tuOb [] ::
  fgOb (inAt 21 6) (Value.none) 0 (Str.ofString "Order.take_scaling") (Value.none) (Value.none) (Value.none) ::
  coOb [Value.str (Str.ofString "take_scaling") 466, Value.str (Str.ofString "Order.take_scaling") 467, Value.str (Str.ofString "/claim/cut.py") 468, Value.int 131 0, Value.int 2 0, Value.int 0 0, Value.int 0 0, Value.int 3 0, Value.ref 204, Value.bool true, Value.int 181 0, Value.ref 205, Value.none, Value.ref 206, Value.ref 207, Value.ref 208, Value.int 471 0, Value.int 131 0, Value.str (Str.ofString "/claim/cut.py") 472] ::
  fgOb (inAt 21 6) (Value.type "function") 3 (Str.ofString "Order.take_scaling") (Value.str (Str.ofString "ledgerspeak.pictures") 252) (Value.ref 209) (Value.none) ::
  tuOb [] ::
  { cls := Value.none, data := Data.fields #[] } ::
  tuOb [Value.str (Str.ofString "self") 477, Value.str (Str.ofString "one") 478] ::
  tuOb [] ::
  fgOb (inAt 21 7) (Value.none) 0 (Str.ofString "Order.take_inserted") (Value.none) (Value.none) (Value.none) ::
  coOb [Value.str (Str.ofString "take_inserted") 474, Value.str (Str.ofString "Order.take_inserted") 475, Value.str (Str.ofString "/claim/cut.py") 476, Value.int 141 0, Value.int 2 0, Value.int 0 0, Value.int 0 0, Value.int 3 0, Value.ref 211, Value.bool true, Value.int 181 0, Value.ref 212, Value.none, Value.ref 213, Value.ref 214, Value.ref 215, Value.int 479 0, Value.int 141 0, Value.str (Str.ofString "/claim/cut.py") 480] ::
  fgOb (inAt 21 7) (Value.type "function") 3 (Str.ofString "Order.take_inserted") (Value.str (Str.ofString "ledgerspeak.pictures") 252) (Value.ref 216) (Value.none) ::
  tuOb [] ::
  { cls := Value.none, data := Data.fields #[] } ::
  tuOb [Value.str (Str.ofString "self") 485, Value.str (Str.ofString "one") 486, Value.str (Str.ofString "count") 487] ::
  tuOb [] ::
  fgOb (inAt 21 8) (Value.none) 0 (Str.ofString "Order.float_on") (Value.none) (Value.none) (Value.none) ::
  coOb [Value.str (Str.ofString "float_on") 482, Value.str (Str.ofString "Order.float_on") 483, Value.str (Str.ofString "/claim/cut.py") 484, Value.int 146 0, Value.int 3 0, Value.int 0 0, Value.int 0 0, Value.int 3 0, Value.ref 218, Value.bool true, Value.int 181 0, Value.ref 219, Value.none, Value.ref 220, Value.ref 221, Value.ref 222, Value.int 488 0, Value.int 146 0, Value.str (Str.ofString "/claim/cut.py") 489] ::
  fgOb (inAt 21 8) (Value.type "function") 3 (Str.ofString "Order.float_on") (Value.str (Str.ofString "ledgerspeak.pictures") 252) (Value.ref 223) (Value.none) ::
  tuOb [] ::
  { cls := Value.none, data := Data.fields #[] } ::
  tuOb [Value.str (Str.ofString "self") 494] ::
  tuOb [] ::
  fgOb (inAt 21 9) (Value.none) 0 (Str.ofString "Order.may_float") (Value.none) (Value.none) (Value.none) ::
  coOb [Value.str (Str.ofString "may_float") 491, Value.str (Str.ofString "Order.may_float") 492, Value.str (Str.ofString "/claim/cut.py") 493, Value.int 150 0, Value.int 1 0, Value.int 0 0, Value.int 0 0, Value.int 3 0, Value.ref 225, Value.bool true, Value.int 181 0, Value.ref 226, Value.none, Value.ref 227, Value.ref 228, Value.ref 229, Value.int 495 0, Value.int 150 0, Value.str (Str.ofString "/claim/cut.py") 496] ::
  fgOb (inAt 21 9) (Value.type "function") 3 (Str.ofString "Order.may_float") (Value.str (Str.ofString "ledgerspeak.pictures") 252) (Value.ref 230) (Value.none) ::
  tuOb [] ::
  { cls := Value.none, data := Data.fields #[] } ::
  tuOb [Value.str (Str.ofString "self") 501, Value.str (Str.ofString "one") 502] ::
  tuOb [] ::
  fgOb (inAt 21 10) (Value.none) 0 (Str.ofString "Order.take_sign") (Value.none) (Value.none) (Value.none) ::
  coOb [Value.str (Str.ofString "take_sign") 498, Value.str (Str.ofString "Order.take_sign") 499, Value.str (Str.ofString "/claim/cut.py") 500, Value.int 153 0, Value.int 2 0, Value.int 0 0, Value.int 0 0, Value.int 3 0, Value.ref 232, Value.bool true, Value.int 181 0, Value.ref 233, Value.none, Value.ref 234, Value.ref 235, Value.ref 236, Value.int 503 0, Value.int 153 0, Value.str (Str.ofString "/claim/cut.py") 504] ::
  fgOb (inAt 21 10) (Value.type "function") 3 (Str.ofString "Order.take_sign") (Value.str (Str.ofString "ledgerspeak.pictures") 252) (Value.ref 237) (Value.none) ::
  tuOb [] ::
  { cls := Value.none, data := Data.fields #[] } ::
  tuOb [Value.str (Str.ofString "self") 509, Value.str (Str.ofString "one") 510] ::
  tuOb [] ::
  fgOb (inAt 21 11) (Value.none) 0 (Str.ofString "Order.take_money") (Value.none) (Value.none) (Value.none) ::
  coOb [Value.str (Str.ofString "take_money") 506, Value.str (Str.ofString "Order.take_money") 507, Value.str (Str.ofString "/claim/cut.py") 508, Value.int 162 0, Value.int 2 0, Value.int 0 0, Value.int 0 0, Value.int 3 0, Value.ref 239, Value.bool true, Value.int 181 0, Value.ref 240, Value.none, Value.ref 241, Value.ref 242, Value.ref 243, Value.int 511 0, Value.int 162 0, Value.str (Str.ofString "/claim/cut.py") 512] ::
  fgOb (inAt 21 11) (Value.type "function") 3 (Str.ofString "Order.take_money") (Value.str (Str.ofString "ledgerspeak.pictures") 252) (Value.ref 244) (Value.none) ::
  tuOb [] ::
  { cls := Value.none, data := Data.fields #[] } ::
  tuOb [Value.str (Str.ofString "self") 517, Value.str (Str.ofString "one") 518] ::
  tuOb [] ::
  fgOb (inAt 21 12) (Value.none) 0 (Str.ofString "Order.take_end") (Value.none) (Value.none) (Value.none) ::
  coOb [Value.str (Str.ofString "take_end") 514, Value.str (Str.ofString "Order.take_end") 515, Value.str (Str.ofString "/claim/cut.py") 516, Value.int 173 0, Value.int 2 0, Value.int 0 0, Value.int 0 0, Value.int 3 0, Value.ref 246, Value.bool true, Value.int 181 0, Value.ref 247, Value.none, Value.ref 248, Value.ref 249, Value.ref 250, Value.int 519 0, Value.int 173 0, Value.str (Str.ofString "/claim/cut.py") 520] ::
  fgOb (inAt 21 12) (Value.type "function") 3 (Str.ofString "Order.take_end") (Value.str (Str.ofString "ledgerspeak.pictures") 252) (Value.ref 251) (Value.none) ::
  tuOb [] ::
  { cls := Value.none, data := Data.fields #[] } ::
  tuOb [Value.str (Str.ofString "self") 525, Value.str (Str.ofString "one") 526, Value.str (Str.ofString "sign") 527] ::
  tuOb [] ::
  fgOb (inAt 21 13) (Value.none) 0 (Str.ofString "Order.take") (Value.none) (Value.none) (Value.none) ::
  coOb [Value.str (Str.ofString "take") 522, Value.str (Str.ofString "Order.take") 523, Value.str (Str.ofString "/claim/cut.py") 524, Value.int 179 0, Value.int 2 0, Value.int 0 0, Value.int 0 0, Value.int 3 0, Value.ref 253, Value.bool true, Value.int 181 0, Value.ref 254, Value.none, Value.ref 255, Value.ref 256, Value.ref 257, Value.int 528 0, Value.int 179 0, Value.str (Str.ofString "/claim/cut.py") 529] ::
  fgOb (inAt 21 13) (Value.type "function") 3 (Str.ofString "Order.take") (Value.str (Str.ofString "ledgerspeak.pictures") 252) (Value.ref 258) (Value.none) ::
  tuOb [] ::
  { cls := Value.none, data := Data.fields #[] } ::
  tuOb [Value.str (Str.ofString "self") 534] ::
  tuOb [] ::
  fgOb (inAt 21 14) (Value.none) 0 (Str.ofString "Order.is_whole") (Value.none) (Value.none) (Value.none) ::
  coOb [Value.str (Str.ofString "is_whole") 531, Value.str (Str.ofString "Order.is_whole") 532, Value.str (Str.ofString "/claim/cut.py") 533, Value.int 204 0, Value.int 1 0, Value.int 0 0, Value.int 0 0, Value.int 3 0, Value.ref 260, Value.bool true, Value.int 181 0, Value.ref 261, Value.none, Value.ref 262, Value.ref 263, Value.ref 264, Value.int 535 0, Value.int 204 0, Value.str (Str.ofString "/claim/cut.py") 536] ::
  fgOb (inAt 21 14) (Value.type "function") 3 (Str.ofString "Order.is_whole") (Value.str (Str.ofString "ledgerspeak.pictures") 252) (Value.ref 265) (Value.none) ::
  tuOb [] ::
  { cls := Value.none, data := Data.fields #[] } ::
  tuOb [Value.str (Str.ofString "self") 541] ::
  tuOb [] ::
  fgOb (inAt 21 15) (Value.none) 0 (Str.ofString "Order.scale") (Value.none) (Value.none) (Value.none) ::
  coOb [Value.str (Str.ofString "scale") 538, Value.str (Str.ofString "Order.scale") 539, Value.str (Str.ofString "/claim/cut.py") 540, Value.int 209 0, Value.int 1 0, Value.int 0 0, Value.int 0 0, Value.int 3 0, Value.ref 267, Value.bool true, Value.int 181 0, Value.ref 268, Value.none, Value.ref 269, Value.ref 270, Value.ref 271, Value.int 542 0, Value.int 209 0, Value.str (Str.ofString "/claim/cut.py") 543] ::
  fgOb (inAt 21 15) (Value.type "function") 3 (Str.ofString "Order.scale") (Value.str (Str.ofString "ledgerspeak.pictures") 252) (Value.ref 272) (Value.none) ::
  tuOb [Value.str (Str.ofString "behind") 545, Value.str (Str.ofString "floats") 546, Value.str (Str.ofString "is_inserted") 547, Value.str (Str.ofString "is_late") 548, Value.str (Str.ofString "is_over") 549, Value.str (Str.ofString "is_plain") 550, Value.str (Str.ofString "last") 551, Value.str (Str.ofString "lead") 552, Value.str (Str.ofString "money") 553, Value.str (Str.ofString "nines") 554, Value.str (Str.ofString "point") 555, Value.str (Str.ofString "seen") 556, Value.str (Str.ofString "sign") 557, Value.str (Str.ofString "trail") 558, Value.str (Str.ofString "zero") 559, Value.str (Str.ofString "zeros") 560] ::
  { cls := Value.type "dict", data := Data.dict #[{ hash := PyData.keyHash P (Str.ofString "__module__"), key := Value.str (Str.ofString "__module__") 414, val := Value.str (Str.ofString "ledgerspeak.pictures") 252 }, { hash := PyData.keyHash P (Str.ofString "__firstlineno__"), key := Value.str (Str.ofString "__firstlineno__") 418, val := Value.int 85 417 }, { hash := PyData.keyHash P (Str.ofString "__init__"), key := Value.str (Str.ofString "__init__") 425, val := Value.ref 168 }, { hash := PyData.keyHash P (Str.ofString "digits"), key := Value.str (Str.ofString "digits") 432, val := Value.ref 175 }, { hash := PyData.keyHash P (Str.ofString "add_behind"), key := Value.str (Str.ofString "add_behind") 441, val := Value.ref 182 }, { hash := PyData.keyHash P (Str.ofString "take_nine"), key := Value.str (Str.ofString "take_nine") 449, val := Value.ref 189 }, { hash := PyData.keyHash P (Str.ofString "take_zero"), key := Value.str (Str.ofString "take_zero") 457, val := Value.ref 196 }, { hash := PyData.keyHash P (Str.ofString "take_point"), key := Value.str (Str.ofString "take_point") 465, val := Value.ref 203 }, { hash := PyData.keyHash P (Str.ofString "take_scaling"), key := Value.str (Str.ofString "take_scaling") 473, val := Value.ref 210 }, { hash := PyData.keyHash P (Str.ofString "take_inserted"), key := Value.str (Str.ofString "take_inserted") 481, val := Value.ref 217 }, { hash := PyData.keyHash P (Str.ofString "float_on"), key := Value.str (Str.ofString "float_on") 490, val := Value.ref 224 }, { hash := PyData.keyHash P (Str.ofString "may_float"), key := Value.str (Str.ofString "may_float") 497, val := Value.ref 231 }, { hash := PyData.keyHash P (Str.ofString "take_sign"), key := Value.str (Str.ofString "take_sign") 505, val := Value.ref 238 }, { hash := PyData.keyHash P (Str.ofString "take_money"), key := Value.str (Str.ofString "take_money") 513, val := Value.ref 245 }, { hash := PyData.keyHash P (Str.ofString "take_end"), key := Value.str (Str.ofString "take_end") 521, val := Value.ref 252 }, { hash := PyData.keyHash P (Str.ofString "take"), key := Value.str (Str.ofString "take") 530, val := Value.ref 259 }, { hash := PyData.keyHash P (Str.ofString "is_whole"), key := Value.str (Str.ofString "is_whole") 537, val := Value.ref 266 }, { hash := PyData.keyHash P (Str.ofString "scale"), key := Value.str (Str.ofString "scale") 544, val := Value.ref 273 }, { hash := PyData.keyHash P (Str.ofString "__static_attributes__"), key := Value.str (Str.ofString "__static_attributes__") 561, val := Value.ref 274 }, { hash := PyData.keyHash P (Str.ofString "__dict__"), key := Value.str (Str.ofString "__dict__") 563, val := Value.ref 277 }, { hash := PyData.keyHash P (Str.ofString "__weakref__"), key := Value.str (Str.ofString "__weakref__") 565, val := Value.ref 278 }, { hash := PyData.keyHash P (Str.ofString "__doc__"), key := Value.str (Str.ofString "__doc__") 566, val := Value.none }] 4 } ::
  { cls := Value.type "type", data := Data.cls { name := Str.ofString "Order", bases := [Value.type "object"], mro := [Value.ref 276, Value.type "object"], ns := 275, qualname := Str.ofString "Order" }, slots := #[none, none, some (Value.str (Str.ofString "Order") 407), some (Value.str (Str.ofString "Order") 415), some (Value.builtin "object.__new__"), some (Value.bool true)] } ::
  { cls := Value.type "getset_descriptor", data := Data.fields #[Value.str (Str.ofString "__dict__") 562, Value.ref 276, Value.builtin "function.__dict__", Value.builtin "function.__dict__#set"] } ::
  { cls := Value.type "getset_descriptor", data := Data.fields #[Value.str (Str.ofString "__weakref__") 564, Value.ref 276, Value.builtin "ExceptionGroup.__weakref__", Value.none] } ::
  { cls := Value.type "super", data := Data.fields #[Value.ref 276, Value.ref 276, Value.ref 276] } ::
  { cls := Value.type "builtin_function_or_method", data := Data.fields #[Value.builtin "object.__init_subclass__", Value.ref 276] } ::
  tuOb [] ::
  { cls := Value.none, data := Data.fields #[] } ::
  fgOb (stAt 22) (Value.none) 0 (Str.ofString "number_picture") (Value.none) (Value.none) (Value.none) ::
  coOb [Value.str (Str.ofString "number_picture") 569, Value.str (Str.ofString "number_picture") 570, Value.str (Str.ofString "/claim/cut.py") 571, Value.int 213 0, Value.int 2 0, Value.int 0 0, Value.int 0 0, Value.int 3 0, Value.ref 281, Value.bool true, Value.int 181 0, Value.ref 282, Value.none, Value.none, Value.none, Value.ref 283, Value.int 572 0, Value.int 213 0, Value.str (Str.ofString "/claim/cut.py") 573] ::
  fgOb (stAt 22) (Value.type "function") 3 (Str.ofString "number_picture") (Value.str (Str.ofString "ledgerspeak.pictures") 252) (Value.ref 284) (Value.none) ::
  tuOb [] ::
  { cls := Value.none, data := Data.fields #[] } ::
  fgOb (stAt 23) (Value.none) 0 (Str.ofString "text_category") (Value.none) (Value.none) (Value.none) ::
  coOb [Value.str (Str.ofString "text_category") 575, Value.str (Str.ofString "text_category") 576, Value.str (Str.ofString "/claim/cut.py") 577, Value.int 223 0, Value.int 1 0, Value.int 0 0, Value.int 0 0, Value.int 3 0, Value.ref 286, Value.bool true, Value.int 181 0, Value.ref 287, Value.none, Value.none, Value.none, Value.ref 288, Value.int 578 0, Value.int 223 0, Value.str (Str.ofString "/claim/cut.py") 579] ::
  fgOb (stAt 23) (Value.type "function") 3 (Str.ofString "text_category") (Value.str (Str.ofString "ledgerspeak.pictures") 252) (Value.ref 289) (Value.none) ::
  tuOb [] ::
  { cls := Value.none, data := Data.fields #[] } ::
  tuOb [Value.str (Str.ofString "text") 584, Value.str (Str.ofString "signs") 585, Value.str (Str.ofString "one") 586, Value.str (Str.ofString "symbols") 587] ::
  tuOb [] ::
  fgOb (stAt 24) (Value.none) 0 (Str.ofString "text_picture") (Value.none) (Value.none) (Value.none) ::
  coOb [Value.str (Str.ofString "text_picture") 581, Value.str (Str.ofString "text_picture") 582, Value.str (Str.ofString "/claim/cut.py") 583, Value.int 228 0, Value.int 2 0, Value.int 0 0, Value.int 0 0, Value.int 3 0, Value.ref 291, Value.bool true, Value.int 181 0, Value.ref 292, Value.none, Value.ref 293, Value.ref 294, Value.ref 295, Value.int 588 0, Value.int 228 0, Value.str (Str.ofString "/claim/cut.py") 589] ::
  fgOb (stAt 24) (Value.type "function") 3 (Str.ofString "text_picture") (Value.str (Str.ofString "ledgerspeak.pictures") 252) (Value.ref 296) (Value.none) ::
  tuOb [] ::
  { cls := Value.none, data := Data.fields #[] } ::
  fgOb (stAt 25) (Value.none) 0 (Str.ofString "read_picture") (Value.none) (Value.none) (Value.none) ::
  coOb [Value.str (Str.ofString "read_picture") 591, Value.str (Str.ofString "read_picture") 592, Value.str (Str.ofString "/claim/cut.py") 593, Value.int 236 0, Value.int 1 0, Value.int 0 0, Value.int 0 0, Value.int 3 0, Value.ref 298, Value.bool true, Value.int 181 0, Value.ref 299, Value.none, Value.none, Value.none, Value.ref 300, Value.int 594 0, Value.int 236 0, Value.str (Str.ofString "/claim/cut.py") 595] ::
  fgOb (stAt 25) (Value.type "function") 3 (Str.ofString "read_picture") (Value.str (Str.ofString "ledgerspeak.pictures") 252) (Value.ref 301) (Value.none) ::
  tuOb [] ::
  { cls := Value.none, data := Data.fields #[] } ::
  tuOb [Value.str (Str.ofString "picture") 600, Value.str (Str.ofString "found") 601, Value.str (Str.ofString "sign") 602, Value.str (Str.ofString "count") 603] ::
  tuOb [] ::
  fgOb (stAt 26) (Value.none) 0 (Str.ofString "places") (Value.none) (Value.none) (Value.none) ::
  coOb [Value.str (Str.ofString "places") 597, Value.str (Str.ofString "places") 598, Value.str (Str.ofString "/claim/cut.py") 599, Value.int 244 0, Value.int 1 0, Value.int 0 0, Value.int 0 0, Value.int 3 0, Value.ref 303, Value.bool true, Value.int 181 0, Value.ref 304, Value.none, Value.ref 305, Value.ref 306, Value.ref 307, Value.int 604 0, Value.int 244 0, Value.str (Str.ofString "/claim/cut.py") 605] ::
  fgOb (stAt 26) (Value.type "function") 3 (Str.ofString "places") (Value.str (Str.ofString "ledgerspeak.pictures") 252) (Value.ref 308) (Value.none) ::
  tuOb [] ::
  { cls := Value.none, data := Data.fields #[] } ::
  tuOb [Value.str (Str.ofString "sign") 616] ::
  tuOb [] ::
  fgOb (stAt 30) (Value.none) 0 (Str.ofString "insert_text") (Value.none) (Value.none) (Value.none) ::
  coOb [Value.str (Str.ofString "insert_text") 613, Value.str (Str.ofString "insert_text") 614, Value.str (Str.ofString "/claim/cut.py") 615, Value.int 252 0, Value.int 1 0, Value.int 0 0, Value.int 0 0, Value.int 3 0, Value.ref 310, Value.bool true, Value.int 181 0, Value.ref 311, Value.none, Value.ref 312, Value.ref 313, Value.ref 314, Value.int 617 0, Value.int 252 0, Value.str (Str.ofString "/claim/cut.py") 618] ::
  fgOb (stAt 30) (Value.type "function") 3 (Str.ofString "insert_text") (Value.str (Str.ofString "ledgerspeak.editing") 607) (Value.ref 315) (Value.none) ::
  tuOb [] ::
  { cls := Value.none, data := Data.fields #[] } ::
  fgOb (stAt 31) (Value.none) 0 (Str.ofString "data_places") (Value.none) (Value.none) (Value.none) ::
  coOb [Value.str (Str.ofString "data_places") 620, Value.str (Str.ofString "data_places") 621, Value.str (Str.ofString "/claim/cut.py") 622, Value.int 254 0, Value.int 1 0, Value.int 0 0, Value.int 0 0, Value.int 3 0, Value.ref 317, Value.bool true, Value.int 181 0, Value.ref 318, Value.none, Value.none, Value.none, Value.ref 319, Value.int 623 0, Value.int 254 0, Value.str (Str.ofString "/claim/cut.py") 624] ::
  fgOb (stAt 31) (Value.type "function") 3 (Str.ofString "data_places") (Value.str (Str.ofString "ledgerspeak.editing") 607) (Value.ref 320) (Value.none) ::
  tuOb [] ::
  { cls := Value.none, data := Data.fields #[] } ::
  tuOb [Value.str (Str.ofString "picture") 629, Value.str (Str.ofString "octets") 630, Value.str (Str.ofString "signs") 631, Value.str (Str.ofString "many") 632, Value.str (Str.ofString "held") 633, Value.str (Str.ofString "found") 634, Value.str (Str.ofString "at") 635, Value.str (Str.ofString "sign") 636] ::
  tuOb [] ::
  fgOb (stAt 32) (Value.none) 0 (Str.ofString "inserted") (Value.none) (Value.none) (Value.none) ::
  coOb [Value.str (Str.ofString "inserted") 626, Value.str (Str.ofString "inserted") 627, Value.str (Str.ofString "/claim/cut.py") 628, Value.int 256 0, Value.int 2 0, Value.int 0 0, Value.int 0 0, Value.int 3 0, Value.ref 322, Value.bool true, Value.int 181 0, Value.ref 323, Value.none, Value.ref 324, Value.ref 325, Value.ref 326, Value.int 637 0, Value.int 256 0, Value.str (Str.ofString "/claim/cut.py") 638] ::
  fgOb (stAt 32) (Value.type "function") 3 (Str.ofString "inserted") (Value.str (Str.ofString "ledgerspeak.editing") 607) (Value.ref 327) (Value.none) ::
  tuOb [Value.str (Str.ofString "XX/XX") 642, Value.bytes #[97, 98, 99, 100] 643, Value.bytes #[97, 98, 47, 99, 100] 644] ::
  tuOb [Value.str (Str.ofString "XBA0A") 645, Value.bytes #[120, 121, 122] 646, Value.bytes #[120, 32, 121, 48, 122] 647] ::
  tuOb [Value.str (Str.ofString "/X(3)") 648, Value.bytes #[97] 649, Value.bytes #[47, 97, 32, 32] 650] ::
  tuOb [Value.str (Str.ofString "X0") 651, Value.bytes #[] 652, Value.bytes #[32, 48] 653] ::
  tuOb [Value.str (Str.ofString "A9B9/") 654, Value.bytes #[113, 49, 50, 51, 52] 655, Value.bytes #[113, 49, 32, 50, 47] 656] ::
  tuOb [Value.ref 329, Value.ref 330, Value.ref 331, Value.ref 332, Value.ref 333] ::
  tuOb [] ::
  { cls := Value.none, data := Data.fields #[] } ::
  tuOb [Value.str (Str.ofString "pen") 661, Value.str (Str.ofString "many") 662, Value.str (Str.ofString "cell") 663, Value.str (Str.ofString "digit") 664] ::
  tuOb [] ::
  fgOb (stAt 35) (Value.none) 0 (Str.ofString "_law_draw") (Value.none) (Value.none) (Value.none) ::
  coOb [Value.str (Str.ofString "_law_draw") 658, Value.str (Str.ofString "_law_draw") 659, Value.str (Str.ofString "/claim/cut.py") 660, Value.int 270 0, Value.int 2 0, Value.int 0 0, Value.int 0 0, Value.int 3 0, Value.ref 335, Value.bool true, Value.int 181 0, Value.ref 336, Value.none, Value.ref 337, Value.ref 338, Value.ref 339, Value.int 665 0, Value.int 270 0, Value.str (Str.ofString "/claim/cut.py") 666] ::
  fgOb (stAt 35) (Value.type "function") 3 (Str.ofString "_law_draw") (Value.str (Str.ofString "law_pc0131_01") 640) (Value.ref 340) (Value.none) ::
  tuOb [] ::
  { cls := Value.none, data := Data.fields #[] } ::
  fgOb (stAt 36) (Value.none) 0 (Str.ofString "law") (Value.none) (Value.none) (Value.none) ::
  coOb [Value.str (Str.ofString "law") 668, Value.str (Str.ofString "law") 669, Value.str (Str.ofString "/claim/cut.py") 670, Value.int 282 0, Value.int 1 0, Value.int 0 0, Value.int 0 0, Value.int 3 0, Value.ref 342, Value.bool true, Value.int 181 0, Value.ref 343, Value.none, Value.none, Value.none, Value.ref 344, Value.int 671 0, Value.int 282 0, Value.str (Str.ofString "/claim/cut.py") 672] ::
  fgOb (stAt 36) (Value.type "function") 3 (Str.ofString "law") (Value.str (Str.ofString "law_pc0131_01") 640) (Value.ref 345) (Value.none) :: []
noncomputable def topHeap : Params → Heap := fun P => ⟨Array.mk (topObjs P), {}⟩
theorem size_ok : ∀ w : World, ((boot_heap w.params).isNs mainGlobals && (Array.mk [] : Array GenState).size == 0, (boot_heap w.params).objs.size, (boot_heap w.params).nsMap mainGlobals "__annotations__") = (true, 11, some (Value.ref 6)) := fun _ => by kernel_rfl
theorem run_ok : ∀ (w : World) (os : OsState), topRun treeTable thePr w 11 (some (Value.ref 6)) 2500 ⟨boot_heap w.params, Array.mk [], boot_drawn, boot_toks, os⟩ (topStub thePr) = some ⟨topHeap w.params, Array.mk [], {}, 674, os⟩ := fun w os => by
  rw [PySem.W.Fast.te14082659384304107361, PySem.W.Fast.te14364793385576792824]
  kernel_rfl
theorem statics_ok : ∀ (w : World) (os : OsState), (staticsOk (importedModules thePr.main.body) (boot_heap w.params) (topHeap w.params) && namesBound thePr (topHeap w.params) && gensDone ⟨topHeap w.params, Array.mk [], {}, 674, os⟩ && laidKept (boot_heap w.params) (topHeap w.params)) = true := fun _ _ => by kernel_rfl
theorem seen_ok : ∀ (w : World) (os : OsState), openSeen hd.view_39 theLoose (importedModules thePr.main.body) theXt true ⟨topHeap w.params, Array.mk [], {}, 674, os⟩ = openGood hd.view_39 theLoose := fun w os => by
  rw [PySem.W.Fast.te4187177175401517315]
  kernel_rfl
theorem hook_ok : ∀ (w : World) (os : OsState), theHook.obs ⟨topHeap w.params, Array.mk [], {}, 674, os⟩ = theHook.val w := fun _ _ => by kernel_rfl
theorem the_left : LeftO thePr hd.view_39 theLoose theXt theHook.obs theHook.val 2500 true :=
  LeftO.of_pieces (boot_open (by kernel_rfl) (by decide) (fun _ => by kernel_rfl)) size_ok run_ok (by decide) (fun w => funext fun os => by rw [statics_ok w os, seen_ok w os, hook_ok w os])
theorem the_said : OpenLaw.wellSaid PySem.Challenge.rw_pc0131_01 = true := by
  rw [PySem.W.Fast.te9446332074065402090]
  kernel_rfl
theorem the_promise : PySem.Challenge.rw_pc0131_01.row.toRowW.promised := by w_witness2
theorem hd {d : DefRec} (h1 : defOf hd.view_39 PySem.Challenge.rw_pc0131_01.row.name = some (d, [])) (h2 : thePr.theDef PySem.Challenge.rw_pc0131_01.row.name = some (d.params, d.body, d.scope)) (h3 : kwWritten? d.params.kwonlyargs d.params.kw_defaults = some [])
    (walk : WalkOk hd.view_39 theLoose (XL hd.view_39 []) theHook.says PySem.Challenge.rw_pc0131_01.row.toRowW d) : PySem.Challenge.rw_pc0131_01.Holds :=
  holds_law the_said fun sd => holds_clean (H := theHook) the_left (fun s e => xl_of s (Bool.and_eq_true_iff.mp e).1) XL.keeps (fun _ e => recFacts_of (Bool.and_eq_true_iff.mp e).2) h1 h2 h3 (by rfl) sd (by decide +kernel) (by decide +kernel) ⟨rfl, rfl, rfl, rfl, rfl, by decide +kernel⟩ the_promise (by rfl)
    (fun a => ⟨law_raises a, law_post a⟩) walk
end Mine
end
section -- Base
open PySem PySem.W PyProof.Rows PySem.Calls
set_option Elab.async false
set_option maxRecDepth 100000
namespace Mine

def retv : Flow → Value
  | .ret v => v
  | _ => .none

/-- the end of a body: the frame still stands over g -/
def Done (g : Heap) (L : Addr) (s : Shared) (Post : Value → Heap → Prop) (fl : Flow) (s' : Shared) : Prop :=
  ∃ h' tk' m', s' = { s with heap := h', toks := tk' } ∧ Fr g L h' m' ∧ Post (retv fl) h'

abbrev Ard (dp un : Nat) (gd : Option (List Code)) (env : Env) (outer : List Env) : Around := { handled := none, depth := dp, frames := some (env :: outer), guards := gd, units := un }

/-- what a caller owes -/
structure Here (w : World) (mean : ExcName → Option Value) (mg mb : Str → Option Value) (dp un : Nat) (A₀ : Around) (env : Env) (outer : List Env) (base h₀ : Heap) (L : Addr) (m : Str → Option Value) (s : Shared) (d u : Nat) : Prop where
  B : Below A₀ base outer h₀
  F : Fr h₀ L s.heap m
  X : (hd.heap_39 w.params).In h₀
  T : Top hd.view_39 (looseW hd.view_39 [Str.ofString "LedgerError"]) mean mg mb h₀
  hf : env.frame = some L
  hke : env.scope.kind = .function
  hd : dp + d < recursionLimit
  hu : un + u < cLine

def Spec (w : World) (f : Addr) (args : List Value) (d u : Nat) (Pre : Heap → Prop) (Post : Heap → Value → Heap → Prop) : Prop :=
  ∀ (mean : ExcName → Option Value) (mg mb : Str → Option Value) (dp un : Nat) (gd : Option (List Code)) (A₀ : Around) (env : Env) (outer : List Env) (base h₀ : Heap) (L : Addr) (m : Str → Option Value) (s : Shared) (Q E : Value → Shared → Prop),
    Here w mean mg mb dp un A₀ env outer base h₀ L m s d u → Pre s.heap →
    (∀ v h' tk', s.heap.StaysIn h' → Post s.heap v h' → Q v { s with heap := h', toks := tk' }) →
    wpAny (model PySem.Challenge.rw_pc0131_01.row.prog w) (Ard dp un gd env outer) (call (.ref f) args) Q E s

/-- entering a def that raises nothing and changes nothing that stood -/
theorem enter {w : World} {mean : ExcName → Option Value} {mg mb : Str → Option Value} {dp un : Nat} {gd : Option (List Code)} {A₀ : Around} {env : Env} {outer : List Env} {base h₀ : Heap} {L : Addr} {m : Str → Option Value} {s : Shared} {Q E : Value → Shared → Prop} {d u : Nat}
    {name qual : Str} {params : Arguments} {body : List Stmt} {scope : Scope} {dV kV doc pm cdv ct oc : Value} {an od : Option Addr} {osl : Array (Option Value)} {f : Addr} {args : List Value} (binds : List (Str × Value)) {Post : Value → Heap → Prop}
    (H : Here w mean mg mb dp un A₀ env outer base h₀ L m s d u)
    (ret : ∀ v h' tk', s.heap.StaysIn h' → Post v h' → Q v { s with heap := h', toks := tk' })
    (ho : (hd.heap_39 w.params).lookup f = some ⟨oc, od, .func (fnOf name qual params body scope dV kV doc pm an cdv ct), osl⟩) (hcd : codeIn (hd.heap_39 w.params) cdv qual = true)
    (hbind : BindsTo s (fnOf name qual params body scope dV kV doc pm an cdv ct) ⟨args, []⟩ binds) (hloc : ∀ y ∈ binds, scope.names.lookup y.1 = some .local)
    (h : ∀ g L' h₁ tk₁, s.heap.StaysIn g → Fr g L' h₁ (fun y => binds.reverse.lookup y) → News g L' h₁ [] → Below (Ard dp un gd env outer) base (env :: outer) g → (hd.heap_39 w.params).In g → Top hd.view_39 (looseW hd.view_39 [Str.ofString "LedgerError"]) mean mg mb g →
      wpAny (model PySem.Challenge.rw_pc0131_01.row.prog w) ((Ard dp un gd env outer).deeper (envOf qual scope L' f cdv)) (execs body (envOf qual scope L' f cdv)) (Done g L' s Post) (fun _ _ => False) { s with heap := h₁, toks := tk₁ })
    (hco : scope.isCoroutine = false) (hgen : scope.isGenerator = false) (hk : scope.kind = .function)
    (hcell : ∀ x ∈ scope.names, x.2 ≠ .cell) :
    wpAny (model PySem.Challenge.rw_pc0131_01.row.prog w) (Ard dp un gd env outer) (call (.ref f) args) Q E s := by
  have hroom : (Ard dp un gd env outer).depth < recursionLimit := by have := H.hd; show dp < _; omega
  refine wpAny_call ?_
  refine code_defG (news := []) H.B H.F H.X (fun _ hp => nomatch hp) H.T rfl H.hf H.hke ho hcd hroom hbind hloc (fun g L' h₁ FG F' N' B' X' T' hsub => ?_) hco hgen hk hcell
  have hst : s.heap.StaysIn g := fun b o e => hsub b o e (by simp)
  refine wpAny_mono (h g L' h₁ _ hst F' N' B' X' T') ?_ (fun _ _ x => x.elim)
  rintro fl s' ⟨h', tk', m', rfl, F'', hp⟩
  refine ⟨L', m', [], F'', (fun _ hp => nomatch hp), fun _ _ => ?_⟩
  have z := ret _ h' tk' (fun b o e => F''.keep b o (hst b o e)) hp
  cases fl <;> exact z

theorem fr_stays {h₀ h h' : Heap} {L : Addr} {m : Str → Option Value} (F : Fr h₀ L h m) (k : h.StaysIn h') : Fr h₀ L h' m := by
  obtain ⟨⟨oL, a1, a2, hL, a3⟩, kp, ab⟩ := F
  exact ⟨⟨oL, a1, a2, k _ _ hL, a3⟩, fun b o e => k _ _ (kp b o e), ab⟩
theorem news_stays {h₀ h h' : Heap} {L : Addr} {news : List (Addr × Obj)} (N : News h₀ L h news) (k : h.StaysIn h') : News h₀ L h' news :=
  fun p hp => ⟨k _ _ (N p hp).1, (N p hp).2⟩
/-- a new object of a callee's joins the ledger -/
theorem news_add {h₀ h h' : Heap} {L a : Addr} {o : Obj} {m : Str → Option Value} {news : List (Addr × Obj)} (F : Fr h₀ L h m) (N : News h₀ L h' news) (hn : h.get? a = none) (ha : h'.get? a = some o) : News h₀ L h' ((a, o) :: news) := by
  intro p hp
  rcases List.mem_cons.mp hp with rfl | hp
  · refine ⟨ha, fun e => ?_, ?_⟩
    · obtain ⟨⟨oL, _, _, hL, _⟩, _, _⟩ := F
      subst e
      rw [hn] at hL; cases hL
    · cases q : h₀.get? a with
      | none => rfl
      | some o' => have := F.keep _ _ q; rw [hn] at this; cases this
  · exact N p hp
theorem news_ne {h₀ h : Heap} {L a : Addr} {news : List (Addr × Obj)} (N : News h₀ L h news) (hn : h.get? a = none) : ∀ p ∈ news, p.1 ≠ a := fun p hp e => by
  have := (N p hp).1
  rw [e, hn] at this; cases this
def AllNe (d : Nat) : List (Addr × Obj) → Prop
  | [] => True
  | p :: r => @Ne Nat p.1 d ∧ AllNe d r
theorem allNe_of {d : Addr} : ∀ {l : List (Addr × Obj)}, (∀ p ∈ l, p.1 ≠ d) → AllNe d l
  | [], _ => trivial
  | p :: _, h => ⟨h p (.head _), allNe_of fun q hq => h q (.tail _ hq)⟩
theorem allNe_app {d : Addr} {l l' : List (Addr × Obj)} (h : AllNe d (l ++ l')) : AllNe d l ∧ AllNe d l' := by
  induction l with
  | nil => exact ⟨trivial, h⟩
  | cons p r ih => exact ⟨⟨h.1, (ih h.2).1⟩, (ih h.2).2⟩
theorem AllNe.all {d : Addr} : ∀ {l : List (Addr × Obj)}, AllNe d l → ∀ p ∈ l, p.1 ≠ d
  | [], _, _, hp => nomatch hp
  | _ :: _, h, _, .head _ => h.1
  | _ :: _, h, _, .tail _ hp => AllNe.all h.2 _ hp

theorem Spec.use {w : World} {mean : ExcName → Option Value} {mg mb : Str → Option Value} {A A₀ : Around} {env : Env} {outer : List Env} {base h₀ : Heap} {L : Addr} {m : Str → Option Value} {news : List (Addr × Obj)} {s : Shared} {Q E : Value → Shared → Prop} {d u : Nat}
    {f : Addr} {args : List Value} {Pre : Heap → Prop} {Post : Heap → Value → Heap → Prop} (S : Spec w f args d u Pre Post)
    (B : Below A₀ base outer h₀) (F : Fr h₀ L s.heap m) (X : (hd.heap_39 w.params).In h₀) (T : Top hd.view_39 (looseW hd.view_39 [Str.ofString "LedgerError"]) mean mg mb h₀) (N : News h₀ L s.heap news)
    (hA : A.frames = some (env :: outer)) (hf : env.frame = some L) (hke : env.scope.kind = .function) (hh : A.handled = none) (hd : A.depth + d < recursionLimit) (hu : A.units + u < cLine) (hpre : Pre s.heap)
    (k : ∀ v h' tk', Fr h₀ L h' m → News h₀ L h' news → s.heap.StaysIn h' → Post s.heap v h' → (∀ a, s.heap.get? a = none → AllNe a news) → (∀ a o, s.heap.get? a = none → h'.get? a = some o → News h₀ L h' ((a, o) :: news)) → Q v { s with heap := h', toks := tk' }) :
    wpAny (model PySem.Challenge.rw_pc0131_01.row.prog w) A (call (.ref f) args) Q E s := by
  obtain ⟨ha, dp, fr, gd, un⟩ := A
  cases hA
  cases hh
  exact S mean mg mb dp un gd A₀ env outer base h₀ L m s Q E ⟨B, F, X, T, hf, hke, hd, hu⟩ hpre fun v h' tk' hst hp => k v h' tk' (fr_stays F hst) (news_stays N hst) hst hp (fun a hn => allNe_of (news_ne N hn)) (fun a o hn ho => news_add F (news_stays N hst) hn ho)
end Mine
namespace Mine
def Mk (P : Prop) : Prop := P
theorem Mk.intro {P : Prop} (h : Mk P) : P := h
theorem Mk.out {P : Prop} (h : Mk P) : P := h
end Mine
namespace Mine
theorem Mk.of {P : Prop} (h : P) : Mk P := h
end Mine
namespace Mine
theorem fresh_of {h g : Heap} {a : Addr} (hst : h.StaysIn g) (hn : g.get? a = none) : h.get? a = none := by
  cases q : h.get? a with
  | none => rfl
  | some o => have := hst _ _ q; rw [hn] at this; cases this
end Mine
namespace Mine
inductive All2 {α β : Type} (R : α → β → Prop) : List α → List β → Prop
  | nil : All2 R [] []
  | cons {a : α} {b : β} {as : List α} {bs : List β} : R a b → All2 R as bs → All2 R (a :: as) (b :: bs)
theorem All2.snoc {α β : Type} {R : α → β → Prop} {a : α} {b : β} : ∀ {as : List α} {bs : List β}, All2 R as bs → R a b → All2 R (as ++ [a]) (bs ++ [b])
  | _, _, .nil, h => .cons h .nil
  | _, _, .cons x r, h => .cons x (r.snoc h)
theorem All2.mono {α β : Type} {R R' : α → β → Prop} (k : ∀ a b, R a b → R' a b) : ∀ {as : List α} {bs : List β}, All2 R as bs → All2 R' as bs
  | _, _, .nil => .nil
  | _, _, .cons x r => .cons (k _ _ x) (r.mono k)
theorem All2.len {α β : Type} {R : α → β → Prop} : ∀ {as : List α} {bs : List β}, All2 R as bs → as.length = bs.length
  | _, _, .nil => rfl
  | _, _, .cons _ r => congrArg Nat.succ r.len
theorem All2.at {α β : Type} {R : α → β → Prop} : ∀ {as : List α} {bs : List β}, All2 R as bs → ∀ {i : Nat} {a : α}, as[i]? = some a → ∃ b, bs[i]? = some b ∧ R a b
  | _, _, .nil, i, a, h => by simp at h
  | _, _, .cons x r, 0, a, h => by simp at h; subst h; exact ⟨_, by simp, x⟩
  | _, _, .cons x r, i + 1, a, h => by simp at h; obtain ⟨b, hb, hr⟩ := r.at h; exact ⟨b, by simpa using hb, hr⟩
theorem news_sub {h₀ h : Heap} {L : Addr} {l l' : List (Addr × Obj)} (N : News h₀ L h l) (hs : ∀ p ∈ l', p ∈ l) : News h₀ L h l' := fun p hp => N p (hs p hp)
end Mine
end
section -- Rul
open PySem PySem.W PyProof.Rows PySem.Calls
set_option Elab.async false
set_option maxRecDepth 100000
namespace Mine

section
variable {prog : Program} {w : World} {A : Around} {E : Value → Shared → Prop} {Q : Flow → Shared → Prop} {s : Shared} {env : Env} {h₀ : Heap} {L : Addr}

/-- where a turn of a loop ends -/
def LoopEnd {σ : Type} (h₀ : Heap) (L : Addr) (s : Shared) (Led : σ → List (Addr × Obj)) (ps : σ → List (Str × Value)) (Facts : σ → Prop) (stored : List Str) (m₀ : Str → Option Value) (P : σ → Prop) (I : Addr) (oI : Obj) (s₂ : Shared) : Prop :=
  ∃ (c' : σ) (h' : Heap) (tk : Nat) (m' : Str → Option Value) (news' : List (Addr × Obj)), s₂ = { s with heap := h', toks := tk } ∧ Fr h₀ L h' m' ∧ News h₀ L h' news' ∧ (I, oI) ∈ news' ∧ (∀ p ∈ Led c', p ∈ news') ∧ (∀ p ∈ Led c', p.1 ≠ I) ∧ Facts c' ∧ (∀ p ∈ ps c', m' p.1 = some p.2) ∧ (∀ z, (∀ p ∈ ps c', z ≠ p.1) → stored.contains z = false → m' z = m₀ z) ∧ P c'
def LoopPost {σ : Type} (h₀ : Heap) (L : Addr) (s : Shared) (Led : σ → List (Addr × Obj)) (ps : σ → List (Str × Value)) (Facts : σ → Prop) (stored : List Str) (m₀ : Str → Option Value) (P : σ → Prop) (I : Addr) (oI : Obj) (Q : Flow → Shared → Prop) (f : Flow) (s₂ : Shared) : Prop :=
  match f with
  | .ret v => Q (.ret v) s₂
  | .brk => Q .next s₂
  | _ => LoopEnd h₀ L s Led ps Facts stored m₀ P I oI s₂

theorem for_walk {σ : Type} {target : Expr} {body : List Stmt} {I : Addr} {fp : List Addr} {n : Nat} {P' : Nat → Value → Prop} {St : Nat → Heap → Prop} {m₀ : Str → Option Value}
    (Led : σ → List (Addr × Obj)) (ps : σ → List (Str × Value)) (Facts : σ → Prop) (stored : List Str) (P : Nat → σ → Prop) (c₀ : σ)
    (W : Walks prog w A I fp [I] n P' St) (hgo : ∀ i v (s' : Shared) (Q' : Unit → Shared → Prop) (E' : Value → Shared → Prop), St i s'.heap → Q' () s' → wpAny (model prog w) A (letOwnedTupleGo target (.ref I) v) Q' E' s')
    (hIo : ∀ i h, St i h → ∃ o, h.get? I = some o) (hL : L ≠ I) (hI₀ : h₀.get? I = none)
    (hsrc : ∀ b ∈ fp, b = I ∨ (∃ o, h₀.get? b = some o) ∨ ∃ o, ∀ c, Facts c → (b, o) ∈ Led c)
    (hst : St 0 s.heap) (F : Fr h₀ L s.heap m₀) (N : News h₀ L s.heap (Led c₀)) (hoff : ∀ p ∈ Led c₀, p.1 ≠ I) (hf : Facts c₀) (hk : ∀ p ∈ ps c₀, m₀ p.1 = some p.2) (hp : P 0 c₀)
    (turn : ∀ (c : σ) i v oI (u : Str → Option Value) h tk, i < n → P' i v → Facts c → P i c → (∀ p ∈ Led c, p.1 ≠ I) →
      Fr h₀ L h (kstB (fun z => if stored.contains z then u z else m₀ z) (ps c)) → News h₀ L h ((I, oI) :: Led c) →
      wpAny (model prog w) A (assign target env v) (fun _ s₂ => wpAny (model prog w) A (execs body env) (LoopPost h₀ L s Led ps Facts stored m₀ (P (i + 1)) I oI Q) E s₂) E { s with heap := h, toks := tk })
    (done : ∀ (c : σ) (u : Str → Option Value) h tk, Facts c → P n c → Fr h₀ L h (kstB (fun z => if stored.contains z then u z else m₀ z) (ps c)) → News h₀ L h (Led c) → Q .next { s with heap := h, toks := tk })
    (hE : PassesOwn (model prog w) A env E := by passes_own) :
    codeAny (model prog w) A (.forLoop target (.ref I) body [] env) (fun r s' => match r with | .ok f => Q f s' | .error e => cameBackBy (model prog w) A env E e s') s := by
  have base : ∀ b o, h₀.get? b = some o → b ≠ I := fun b o e q => by rw [q, hI₀] at e; cases e
  refine codeAny_forLoop_any
    (fun k s' => ∃ (h' : Heap) (tk : Nat) (m' : Str → Option Value) (i : Nat) (c : σ), s' = { s with heap := h', toks := tk } ∧ i ≤ n ∧ k = n + 1 - i ∧ St i h' ∧ Fr h₀ L h' m' ∧ News h₀ L h' (Led c) ∧ (∀ p ∈ Led c, p.1 ≠ I) ∧ Facts c ∧
      (∀ p ∈ ps c, m' p.1 = some p.2) ∧ (∀ z, (∀ p ∈ ps c, z ≠ p.1) → stored.contains z = false → m' z = m₀ z) ∧ P i c) ?_ (n + 1)
    ⟨s.heap, s.toks, m₀, 0, c₀, rfl, Nat.zero_le _, rfl, hst, F, N, hoff, hf, hk, fun _ _ _ => rfl, hp⟩
  rintro k s' ⟨h', tk, m', i, c, rfl, hi, rfl, hst', F', N', hoff', hf', hk', hr', hp'⟩
  have keepF : ∀ h₁ : Heap, (∀ b o, b ∉ [I] → h'.get? b = some o → h₁.get? b = some o) → Fr h₀ L h₁ m' := fun h₁ hk₁ =>
    ⟨F'.ns.at' fun o e => hk₁ L o (by simpa using hL) e, fun b o e => hk₁ b o (by simpa using base b o e) (F'.keep b o e), F'.above⟩
  have keepN : ∀ h₁ : Heap, (∀ b o, b ∉ [I] → h'.get? b = some o → h₁.get? b = some o) → News h₀ L h₁ (Led c) := fun h₁ hk₁ =>
    fun p hp => ⟨hk₁ _ _ (by simpa using hoff' p hp) (N' p hp).1, (N' p hp).2⟩
  by_cases hlt : i < n
  · refine W.item i _ _ _ hlt hst' fun v h₁ tk₁ hP hst₁ hk₁ => ?_
    obtain ⟨oI, heI⟩ := hIo _ _ hst₁
    refine hgo (i + 1) v _ _ _ hst₁ ?_
    have F₁ := keepF h₁ hk₁
    have N₁ := keepN h₁ hk₁
    have NI : News h₀ L h₁ ((I, oI) :: Led c) := fun p hp => by
      rcases List.mem_cons.mp hp with rfl | hp
      · exact ⟨heI, Ne.symm hL, hI₀⟩
      · exact N₁ p hp
    refine wpAny_passesOwn (E := E) hE ?_
    refine wpAny_mono (turn c i v oI m' h₁ tk₁ hlt hP hf' hp' hoff' (ksw_fr hk' hr' F₁) NI) (fun _ s₂ h₂ => ?_) fun _ _ e => e
    refine wpAny_passesOwn (E := E) hE ?_
    refine wpAny_mono h₂ (fun f s₃ h₃ => ?_) fun _ _ e => e
    have fin : LoopEnd h₀ L s Led ps Facts stored m₀ (P (i + 1)) I oI s₃ → ∃ m, m < n + 1 - i ∧ ∃ (h' : Heap) (tk : Nat) (m' : Str → Option Value) (i : Nat) (c : σ), s₃ = { s with heap := h', toks := tk } ∧ i ≤ n ∧ m = n + 1 - i ∧ St i h' ∧ Fr h₀ L h' m' ∧ News h₀ L h' (Led c) ∧ (∀ p ∈ Led c, p.1 ≠ I) ∧ Facts c ∧
      (∀ p ∈ ps c, m' p.1 = some p.2) ∧ (∀ z, (∀ p ∈ ps c, z ≠ p.1) → stored.contains z = false → m' z = m₀ z) ∧ P i c := by
      rintro ⟨c₂, h₂, tk₂, m₂, news₂, rfl, F₂, N₂, hm, hsub, ho₂, hf₂, hk₂, hr₂, hp₂⟩
      refine ⟨n + 1 - (i + 1), by omega, h₂, tk₂, m₂, i + 1, c₂, rfl, hlt, rfl, ?_, F₂, fun p hp => N₂ p (hsub p hp), ho₂, hf₂, hk₂, hr₂, hp₂⟩
      refine W.frame _ _ _ hst₁ fun b hb o e => ?_
      rcases hsrc b hb with rfl | ⟨o', e'⟩ | ⟨o', e'⟩
      · rw [heI] at e; cases e; exact (N₂ _ hm).1
      · have := F₁.keep b o' e'; rw [e] at this; cases this; exact F₂.keep b o e'
      · have := (N₁ _ (e' c hf')).1; rw [e] at this; cases this; exact (N₂ _ (hsub _ (e' c₂ hf₂))).1
    cases f with
    | ret v => exact h₃
    | brk => exact h₃
    | cont => exact fin h₃
    | next => exact fin h₃
  · obtain rfl : i = n := Nat.le_antisymm hi (Nat.not_lt.mp hlt)
    refine W.done _ _ _ hst' fun h₁ tk₁ hk₁ => wpAny_execs_nil ?_
    exact done c m' h₁ tk₁ hf' hp' (ksw_fr hk' hr' (keepF h₁ hk₁)) (keepN h₁ hk₁)

theorem go_name {x : Str} {p : Pos} {I : Addr} {v : Value} {Q' : Unit → Shared → Prop} {E' : Value → Shared → Prop} (h : Q' () s) : wpAny (model prog w) A (letOwnedTupleGo (.Name x p) (.ref I) v) Q' E' s := wpAny_pure h

theorem go_list {target : Expr} {I : Addr} {v : Value} {Q' : Unit → Shared → Prop} {E' : Value → Shared → Prop} {o : Obj} (ho : s.heap.get? I = some o) (hc : o.cls = .type "list_iterator") (h : Q' () s) : wpAny (model prog w) A (letOwnedTupleGo target (.ref I) v) Q' E' s := by
  unfold letOwnedTupleGo
  have key : wpAny (model prog w) A (do
    let (.ref r, .ref a) := (Value.ref I, v) | return
    let o ← load r
    match o.cls, o.data with
    | .type n, .fields vs =>
      if ["enumerate", "zip", "dict_itemiterator", "dict_reverseitemiterator", "odict_iterator", "itertools.zip_longest", "itertools.pairwise"].contains n && vs[0]? == some (rawInt a) then
        rule "for.unpacks-the-owned-tuple"
        updateField r 0 .none
    | _, _ => pure ()) Q' E' s := by
    cases v <;> first | exact wpAny_pure h | skip
    refine wpAny_bind (wpAny_load ho ?_)
    rw [hc]
    cases o.data <;> first | exact wpAny_pure h | skip
  cases target <;> first | exact wpAny_pure h | exact key
end
end Mine
namespace Mine
theorem kstB_off {u m₀ : Str → Option Value} {stored : List Str} {z : Str} (h3 : stored.contains z = false) : ∀ {ps : List (Str × Value)}, (∀ p ∈ ps, z ≠ p.1) → kstB (fun z => if stored.contains z then u z else m₀ z) ps z = m₀ z
  | [], _ => by show (if stored.contains z = true then u z else m₀ z) = m₀ z; rw [h3]; rfl
  | p :: r, h => by
    show (if z = p.1 then some p.2 else kstB _ r z) = m₀ z
    rw [if_neg (h p (.head _))]
    exact kstB_off h3 fun q hq => h q (.tail _ hq)
end Mine
namespace Mine
section
variable {prog : Program} {w : World} {A : Around} {E : Value → Shared → Prop} {Q : Flow → Shared → Prop} {s : Shared} {env : Env} {h₀ : Heap} {L : Addr}
abbrev ForRest (prog : Program) (w : World) (A : Around) (env : Env) (target : Expr) (body : List Stmt) (Q : Flow → Shared → Prop) (E : Value → Shared → Prop) (it : Value) (s₂ : Shared) : Prop :=
  codeAny (model prog w) A (.forLoop target it body [] env) (fun r s' => match r with | .ok f => Q f s' | .error e => cameBackBy (model prog w) A env E e s') s₂

theorem for_list {σ : Type} {target : Expr} {body : List Stmt} {l : Addr} {its : Array Value} {m₀ : Str → Option Value}
    (Led : σ → List (Addr × Obj)) (ps : σ → List (Str × Value)) (Facts : σ → Prop) (stored : List Str) (P : Nat → σ → Prop) (c₀ : σ)
    (hh : A.handled = none) (hl : s.heap.IsList l its) (hsrc : (∃ o, h₀.get? l = some o) ∨ ∃ o, ∀ c, Facts c → (l, o) ∈ Led c)
    (F : Fr h₀ L s.heap m₀) (N : News h₀ L s.heap (Led c₀)) (hf : Facts c₀) (hk : ∀ p ∈ ps c₀, m₀ p.1 = some p.2) (hp : P 0 c₀)
    (turn : ∀ (c : σ) i v I oI (u : Str → Option Value) h tk, its[i]? = some v → Facts c → P i c → (∀ p ∈ Led c, p.1 ≠ I) →
      Fr h₀ L h (kstB (fun z => if stored.contains z then u z else m₀ z) (ps c)) → News h₀ L h ((I, oI) :: Led c) →
      wpAny (model prog w) A (assign target env v) (fun _ s₂ => wpAny (model prog w) A (execs body env) (LoopPost h₀ L s Led ps Facts stored m₀ (P (i + 1)) I oI Q) E s₂) E { s with heap := h, toks := tk })
    (done : ∀ (c : σ) (u : Str → Option Value) h tk, Facts c → P its.size c → Fr h₀ L h (kstB (fun z => if stored.contains z then u z else m₀ z) (ps c)) → News h₀ L h (Led c) → Q .next { s with heap := h, toks := tk })
    (hE : PassesOwn (model prog w) A env E := by passes_own) :
    wpAny (model prog w) A (pyIter (.ref l)) (ForRest prog w A env target body Q E) E s := by
  have hlt : l < s.heap.objs.size := by obtain ⟨_, e, _⟩ := hl; exact Heap.lt_size e
  refine wpAny_pyIter_list hl ?_
  refine for_walk (s := { s with heap := s.heap.push _ }) Led ps Facts stored P c₀ (Walks.list hh s.heap.objs.size l (Nat.ne_of_lt hlt) its)
    (fun i v s' Q' E' st h => by obtain ⟨o, e, hc, _⟩ := st.1; exact go_list e hc h) (fun i h st => by obtain ⟨o, e, _⟩ := st.1; exact ⟨o, e⟩)
    (Nat.ne_of_lt F.ns.lt) (next_is_new F) (fun b hb => ?_) ⟨⟨_, Heap.get?_push_size _ rfl, rfl, rfl⟩, hl.push _⟩ (F.push _) (fun p hp => ⟨Heap.get?_push_of_some _ (N p hp).1, (N p hp).2⟩)
    (fun p hp => Nat.ne_of_lt (Heap.lt_size (N p hp).1)) hf hk hp ?_ ?_ hE
  · rcases List.mem_cons.mp hb with rfl | hb
    · exact .inl rfl
    · rw [List.mem_singleton.mp hb]; exact .inr hsrc
  · intro c i v oI u h tk _ hv hf' hp' hoff F' N'
    exact turn c i v _ oI u h tk hv hf' hp' hoff F' N'
  · intro c u h tk hf' hp' F' N'
    exact done c u h tk hf' hp' F' N'

theorem for_range {σ : Type} {target : Expr} {body : List Stmt} {r : Addr} {a b : Int} {tt uu vv : Tok} {n : Nat} {m₀ : Str → Option Value}
    (Led : σ → List (Addr × Obj)) (ps : σ → List (Str × Value)) (Facts : σ → Prop) (stored : List Str) (P : Nat → σ → Prop) (c₀ : σ)
    (hh : A.handled = none) (hr : IsRange s.heap r a b 1 tt uu vv) (hsm : Builtin.Range.small a b 1 = true) (hn : Builtin.Range.rangeSize a b 1 = ((n : Nat) : Int))
    (hname : ∃ x p, target = .Name x p)
    (F : Fr h₀ L s.heap m₀) (N : News h₀ L s.heap (Led c₀)) (hf : Facts c₀) (hk : ∀ p ∈ ps c₀, m₀ p.1 = some p.2) (hp : P 0 c₀)
    (turn : ∀ (c : σ) i t I oI (u : Str → Option Value) h tk, i < n → Facts c → P i c → (∀ p ∈ Led c, p.1 ≠ I) →
      Fr h₀ L h (kstB (fun z => if stored.contains z then u z else m₀ z) (ps c)) → News h₀ L h ((I, oI) :: Led c) →
      wpAny (model prog w) A (assign target env (.int (a + (i : Int)) t)) (fun _ s₂ => wpAny (model prog w) A (execs body env) (LoopPost h₀ L s Led ps Facts stored m₀ (P (i + 1)) I oI Q) E s₂) E { s with heap := h, toks := tk })
    (done : ∀ (c : σ) (u : Str → Option Value) h tk, Facts c → P n c → Fr h₀ L h (kstB (fun z => if stored.contains z then u z else m₀ z) (ps c)) → News h₀ L h (Led c) → Q .next { s with heap := h, toks := tk })
    (hE : PassesOwn (model prog w) A env E := by passes_own) :
    wpAny (model prog w) A (pyIter (.ref r)) (ForRest prog w A env target body Q E) E s := by
  obtain ⟨x, px, rfl⟩ := hname
  refine wpAny_pyIter_range hr hsm ?_
  refine for_walk (s := { s with heap := s.heap.push _ }) Led ps Facts stored P c₀ (LCg.range_walks hh a n)
    (fun i v s' Q' E' st h => go_name h) (fun i h st => ⟨_, st⟩)
    (Nat.ne_of_lt F.ns.lt) (next_is_new F) (fun b hb => .inl (List.mem_singleton.mp hb)) (by show IsRangeIter _ _ _ _ _; rw [hn]; simpa using Heap.get?_push_size _ rfl) (F.push _) (fun p hp => ⟨Heap.get?_push_of_some _ (N p hp).1, (N p hp).2⟩)
    (fun p hp => Nat.ne_of_lt (Heap.lt_size (N p hp).1)) hf hk hp ?_ ?_ hE
  · rintro c i v oI u h tk hi ⟨t, rfl⟩ hf' hp' hoff F' N'
    exact turn c i t _ oI u h tk hi hf' hp' hoff F' N'
  · intro c u h tk hf' hp' F' N'
    exact done c u h tk hf' hp' F' N'

theorem instAt_base {g h : Heap} {L : Addr} {m : Str → Option Value} (F : Fr g L h m) {x dx C : Addr} {od : Obj} (hx : g.get? x = some (instObj C dx)) (hd : g.get? dx = some od) : InstAt h x (instObj C dx) C (some od) :=
  ⟨F.keep _ _ hx, rfl, rfl, F.keep _ _ hd⟩
end
end Mine
end
section -- Cmp
open PySem PySem.W PyProof.Rows PySem.Calls PyProof.Rows.LCg
set_option Elab.async false
set_option maxRecDepth 100000
namespace Mine

section
variable {prog : Program} {w : World} {A : Around} {E : Value → Shared → Prop} {s : Shared} {h₀ : Heap} {L : Addr} {m : Str → Option Value} {env : Env}

abbrev Tests (ifs : List Expr) (env : Env) : Sem Bool := forIn ifs true fun c r => if r = true then do let ok ← isTrue c env (eval c env); pure (ForInStep.yield ok) else pure (ForInStep.yield r)

theorem comp_loop {elt target iter : Expr} {ifs : List Expr} {scope : Scope} {pos : Pos} {it acc : Value} {env : Env} {R : Result → Shared → Prop} (I : Nat → Shared → Prop)
    (turn : ∀ n s, I n s → wpAny (model prog w) A (pyNext it) (fun r s₁ => match r with
      | none => R (.ok .next) s₁
      | some v => wpAny (model prog w) A (letOwnedTupleGo target it v) (fun _ s₀ => wpAny (model prog w) A (assign target env v) (fun _ s₂ =>
          wpAny (model prog w) A (Tests ifs env) (fun ok s₃ => if ok = true then wpAny (model prog w) A (eval elt env) (fun x s₄ =>
            wpAny (model prog w) A (call (.builtin "list.append") [acc, x]) (fun _ s₅ => ∃ m, m < n ∧ I m s₅) (notedBy (model prog w) A env fun e s' => R (.error e) s') s₄) (notedBy (model prog w) A env fun e s' => R (.error e) s') s₃
            else ∃ m, m < n ∧ I m s₃) (notedBy (model prog w) A env fun e s' => R (.error e) s') s₂)
          (notedBy (model prog w) A env fun e s' => R (.error e) s') s₀) (notedBy (model prog w) A env fun e s' => R (.error e) s') s₁) (notedBy (model prog w) A env fun e s' => R (.error e) s') s)
    (n : Nat) (h : I n s) : codeAny (model prog w) A (.compLoop (.ListComp elt [⟨target, iter, ifs, 0⟩] scope pos) 0 it acc env) R s := by
  refine codeAny_loop rfl I (fun n s hI => ?_) n h
  show wpAny _ A ((compTurn (.ListComp elt [⟨target, iter, ifs, 0⟩] scope pos) 0 it acc env).onRaise (fun x => do noteFrame x env; theTreesLotGoes x)) _ _ s
  refine wpAny_noted ?_
  rw [compTurn_list]
  refine wpAny_bind (wpAny_standAt (wpAny_bind (wpAny_mono (turn n s hI) (fun r s₁ h₁ => ?_) fun _ _ h' => h')))
  cases r with
  | none => exact wpAny_pure h₁
  | some v =>
    refine wpAny_bind (wpAny_mono h₁ (fun _ s₀ h₀' => ?_) fun _ _ h' => h')
    refine wpAny_bind (wpAny_mono h₀' (fun _ s₂ h₂ => ?_) fun _ _ h' => h')
    refine wpAny_bind (wpAny_mono h₂ (fun okb s₃ h₃ => ?_) fun _ _ h' => h')
    cases okb with
    | false => exact wpAny_pure ⟨rfl, h₃⟩
    | true => exact wpAny_bind (wpAny_bind (wpAny_mono h₃ (fun x s₄ h₄ => wpAny_bind (wpAny_mono h₄ (fun _ s₅ h₅ => wpAny_pure (wpAny_pure ⟨rfl, h₅⟩)) fun _ _ h' => h')) fun _ _ h' => h'))

theorem comp_block {elt iter target : Expr} {ifs : List Expr} {scope : Scope} {cl : List (Str × Addr)} {pos : Pos} {s₂ : Shared} {I : Addr} {fp : List Addr} {n : Nat} {P : Nat → Value → Prop} {St : Nat → Heap → Prop} {news : List (Addr × Obj)}
    {RR : Value → Addr → Result → Shared → Prop} (J : Nat → List Value → List (Addr × Obj) → Prop) (Bd : Nat → Value → (Str → Option Value) → Prop)
    (W : Walks prog w A I fp [I] n P St) (hsz : n ≤ sizeLine) (hIo : ∀ i h, St i h → ∃ o, h.get? I = some o)
    (hgo : ∀ i v (s' : Shared) (Q' : Unit → Shared → Prop) (E' : Value → Shared → Prop), St i s'.heap → Q' () s' → wpAny (model prog w) A (letOwnedTupleGo target (.ref I) v) Q' E' s')
    (hsrc : ∀ b ∈ fp, b = I ∨ (∃ o, h₀.get? b = some o) ∨ ∃ o, ∀ i ys news, J i ys news → (b, o) ∈ news)
    (hcell : ∀ y ∈ scope.names, y.2 ≠ .cell) (hkind : scope.kind = .function)
    (hasg : ∀ i v (s' : Shared) C m' (Q' : Unit → Shared → Prop) (E' : Value → Shared → Prop), i < n → P i v → (∀ b o, h₀.get? b = some o → s'.heap.get? b = some o) → s'.heap.Ns C m' →
      (∀ h'' tk m'', h''.Ns C m'' → Bd i v m'' → (∀ c o, c ≠ C → s'.heap.get? c = some o → h''.get? c = some o) → Q' () { s' with heap := h'', toks := tk }) → wpAny (model prog w) A (assign target (compEnvC scope cl C env) v) Q' E' s')
    (hst : St 0 s₂.heap) (hfp : ∀ b ∈ fp, b < s₂.heap.objs.size)
    (F : Fr h₀ L s₂.heap m) (N : News h₀ L s₂.heap news) (hIL : L ≠ I) (hI₀ : h₀.get? I = none) (off : ∀ p ∈ news, p.1 ≠ I) (hJ : J 0 [] news)
    (turn : ∀ i ys news v oI C oC D m₂ h tk (E' : Value → Shared → Prop), i < n → P i v → J i ys news → NsObj oC m₂ → Bd i v m₂ → Fr h₀ L h m → News h₀ L h ((I, oI) :: (C, oC) :: (D, lst ys) :: news) → Off3 I C D news → ((@Ne Nat I C) ∧ (@Ne Nat I D) ∧ (@Ne Nat C D)) →
      wpAny (model prog w) A (Tests ifs (compEnvC scope cl C env)) (fun ok s' => if ok = true then
        wpAny (model prog w) A (eval elt (compEnvC scope cl C env)) (CompEnd h₀ L m { s₂ with heap := h, toks := tk } I oI C oC D (lst ys) (fun _ => True) (fun y news' => J (i + 1) (ys ++ [y]) news')) E' s'
        else CompEnd h₀ L m { s₂ with heap := h, toks := tk } I oI C oC D (lst ys) (fun _ => True) (fun _ news' => J (i + 1) ys news') Value.none s') E' { s₂ with heap := h, toks := tk })
    (hRR : ∀ D C h tk m' ys news', Fr h₀ L h m → News h₀ L h ((D, lst ys) :: news') → Off1 D news' → h.Ns C m' → h₀.get? C = none → h₀.get? D = none → C ≠ L → D ≠ L → C ≠ D → (∀ p ∈ news', p.1 ≠ C) → J n ys news' → RR (.ref D) C (.ok .next) { s₂ with heap := h, toks := tk }) :
    wpAny (model prog w) A (newList []) (fun acc s₃ => wpAny (model prog w) A (newFunctionEnv scope env.globals cl [] env.qual none .none (some env)) (fun cenv s₄ =>
      codeAny (model prog w) A (.compStart (.ListComp elt [⟨target, iter, ifs, 0⟩] scope pos) 0 (.ref I) acc { cenv with scope := relabel scope env }) (RR acc cenv.locals) s₄) E s₃) E s₂ := by
  refine wpAny_newObj_type (wpAny_newFunctionEnv hcell (by intro y hy; simp at hy) (fun h₁ hns₁ hsb₁ => ?_) hkind)
  dsimp only at hns₁ hsb₁ ⊢
  generalize hH2 : s₂.heap.push { cls := .type "list", dict := none, data := .seq ([] : List Value).toArray } = H2 at hns₁ hsb₁ ⊢
  have hC : H2.objs.size = s₂.heap.objs.size + 1 := by rw [← hH2, Heap.size_push]
  have hDC : s₂.heap.objs.size ≠ H2.objs.size := by rw [hC]; exact Nat.ne_of_lt (Nat.lt_succ_self _)
  have below : ∀ b, b < s₂.heap.objs.size → b ≠ H2.objs.size ∧ b ≠ s₂.heap.objs.size := fun b hb => ⟨by rw [hC]; exact Nat.ne_of_lt (Nat.lt_succ_of_lt hb), Nat.ne_of_lt hb⟩
  have hDf : s₂.heap.objs.size ∉ fp := fun hm => Nat.lt_irrefl _ (hfp _ hm)
  have hCf : H2.objs.size ∉ fp := fun hm => by have := hfp _ hm; rw [hC] at this; exact Nat.lt_irrefl _ (Nat.lt_of_succ_lt this)
  have hIf : I ∈ fp := W.sub I (List.mem_singleton.mpr rfl)
  have hIlt : I < s₂.heap.objs.size := hfp I hIf
  have old : ∀ b o, s₂.heap.get? b = some o → h₁.get? b = some o := fun b o e => hsb₁.extBut b o (below b (Heap.lt_size e)).1 (Heap.get?_push_of_some _ (hH2 ▸ Heap.get?_push_of_some _ e))
  have hacc : h₁.get? s₂.heap.objs.size = some (lst []) := hsb₁.extBut _ _ hDC (Heap.get?_push_of_some _ (hH2 ▸ Heap.get?_push_size _ rfl))
  have hst₁ : St 0 h₁ := W.frame _ _ _ hst fun b _ o e => old b o e
  have fresh : ∀ a, s₂.heap.objs.size ≤ a → s₂.heap.get? a = none := fun a ha => by
    cases e : s₂.heap.get? a with
    | none => rfl
    | some o' => exact absurd (Heap.lt_size e) (Nat.not_lt.mpr ha)
  have fresh₀ : ∀ a, s₂.heap.objs.size ≤ a → h₀.get? a = none := fun a ha => by
    cases e : h₀.get? a with
    | none => rfl
    | some o' => have := F.keep a o' e; rw [fresh a ha] at this; cases this
  have hD₀ : h₀.get? s₂.heap.objs.size = none := fresh₀ _ (Nat.le_refl _)
  have hC₀ : h₀.get? H2.objs.size = none := fresh₀ _ (by rw [hC]; exact Nat.le_succ _)
  have hLlt : L < s₂.heap.objs.size := F.ns.lt
  have hDL : s₂.heap.objs.size ≠ L := Ne.symm (below L hLlt).2
  have hCL : H2.objs.size ≠ L := Ne.symm (below L hLlt).1
  have hCI : I ≠ H2.objs.size := (below I hIlt).1
  have hDI : I ≠ s₂.heap.objs.size := (below I hIlt).2
  have off₀ : Off3 I H2.objs.size s₂.heap.objs.size news := Off3.of fun p hp => ⟨off p hp, (below _ (Heap.lt_size (N p hp).1)).1, (below _ (Heap.lt_size (N p hp).1)).2⟩
  have loop : ∀ s₃ : Shared, s₃ = { s₂ with heap := h₁, toks := s₂.toks + ([] : List (Str × Value)).length } →
      codeAny (model prog w) A (.compLoop (.ListComp elt [⟨target, iter, ifs, 0⟩] scope pos) 0 (.ref I) (.ref s₂.heap.objs.size) (compEnvC scope cl H2.objs.size env))
        (RR (.ref s₂.heap.objs.size) H2.objs.size) s₃ := by
    rintro s₃ rfl
    refine comp_loop
      (fun k s' => ∃ h' tk i ys m' news', s' = { s₂ with heap := h', toks := tk } ∧ i ≤ n ∧ k = n + 1 - i ∧ ys.length ≤ i ∧ St i h' ∧ Fr h₀ L h' m ∧ h'.Ns H2.objs.size m' ∧ News h₀ L h' ((s₂.heap.objs.size, lst ys) :: news') ∧
        Off3 I H2.objs.size s₂.heap.objs.size news' ∧ J i ys news') ?_ (n + 1)
      ⟨h₁, _, 0, [], _, news, rfl, Nat.zero_le _, rfl, Nat.le_refl _, hst₁, F.keeps old, hns₁, fun p hp => ?_, off₀, hJ⟩
    · rintro k s' ⟨h', tk, i, ys, m', news', rfl, hi, rfl, hyl, hst', F', hn', N', off', hJ'⟩
      by_cases hlt : i < n
      · refine W.item i _ _ _ hlt hst' fun v h₂ tk₂ hPv hst₂ hk₂ => ?_
        refine hgo (i + 1) v _ _ _ hst₂ ?_
        have F₂ : Fr h₀ L h₂ m := fr_but F' hk₂ hIL hI₀
        refine hasg i v _ _ _ _ _ hlt hPv F₂.keep (hn'.at' fun o e => hk₂ _ o (by simpa using Ne.symm hCI) e) (fun h₃ tk₃ m₃ hn₃ hBd hk₃ => ?_)
        have hst₃ : St (i + 1) h₃ := W.frame _ _ _ hst₂ fun b hb o e => hk₃ b o (fun q => hCf (by have q' : b = H2.objs.size := q; rw [← q']; exact hb)) e
        obtain ⟨oI, heI⟩ := hIo _ _ hst₃
        obtain ⟨oC, heC, hoC⟩ := ns_obj hn₃
        have F₃ : Fr h₀ L h₃ m := ⟨F₂.ns.at' fun o e => hk₃ L o (Ne.symm hCL) e, fun b o e => hk₃ b o (fun q => by rw [q, hC₀] at e; cases e) (F₂.keep b o e), F₂.above⟩
        have off3 := off'.mem
        have N₂ : News h₀ L h₂ ((s₂.heap.objs.size, lst ys) :: news') := news_but N' hk₂ fun p hp => by
          rcases List.mem_cons.mp hp with rfl | hp
          · exact Ne.symm hDI
          · exact (off3 p hp).1
        have N₃ : News h₀ L h₃ ((I, oI) :: (H2.objs.size, oC) :: (s₂.heap.objs.size, lst ys) :: news') := fun p hp => by
          rcases List.mem_cons.mp hp with rfl | hp
          · exact ⟨heI, Ne.symm hIL, hI₀⟩
          · rcases List.mem_cons.mp hp with rfl | hp
            · exact ⟨heC, hCL, hC₀⟩
            · have z := N₂ p hp
              refine ⟨hk₃ _ _ ?_ z.1, z.2⟩
              rcases List.mem_cons.mp hp with rfl | hp
              · exact hDC
              · exact (off3 p hp).2.1
        have hfr : ∀ h₄ : Heap, Fr h₀ L h₄ m → ∀ news₄, News h₀ L h₄ ((I, oI) :: (H2.objs.size, oC) :: (s₂.heap.objs.size, lst ys) :: news₄) → (∃ j ys', J j ys' news₄) → St (i + 1) h₄ := fun h₄ F₄ news₄ N₄ hJ₄ => by
          obtain ⟨j, ys', hJ₄⟩ := hJ₄
          refine W.frame _ _ _ hst₃ fun b hb o e => ?_
          rcases hsrc b hb with rfl | ⟨o', e'⟩ | ⟨o', e'⟩
          · rw [heI] at e; cases e; exact (N₄ _ List.mem_cons_self).1
          · have := F₃.keep b o' e'; rw [e] at this; cases this; exact F₄.keep b o e'
          · have hm := e' _ _ _ hJ'
            have := (N₃ _ (List.mem_cons_of_mem _ (List.mem_cons_of_mem _ (List.mem_cons_of_mem _ hm)))).1
            rw [e] at this; cases this
            exact (N₄ _ (List.mem_cons_of_mem _ (List.mem_cons_of_mem _ (List.mem_cons_of_mem _ (e' _ _ _ hJ₄))))).1
        refine wpAny_mono (turn i ys news' v oI H2.objs.size oC s₂.heap.objs.size _ h₃ _ _ hlt hPv hJ' hoC hBd F₃ N₃ off' ⟨hCI, hDI, Ne.symm hDC⟩) (fun ok s₄ h₄ => ?_) fun _ _ e => e
        cases ok with
        | true =>
          simp only [if_true] at h₄ ⊢
          refine wpAny_mono h₄ (fun y s₅ h₅ => ?_) fun _ _ e => e
          obtain ⟨h₄, tk₄, news₄, rfl, F₄, N₄, off₄, _, R₄⟩ := h₅
          have zC := (N₄ (H2.objs.size, oC) (List.mem_cons_of_mem _ List.mem_cons_self)).1
          have zD := (N₄ (s₂.heap.objs.size, lst ys) (List.mem_cons_of_mem _ (List.mem_cons_of_mem _ List.mem_cons_self))).1
          have N₄' : News h₀ L h₄ news₄ := fun p hp => N₄ p (List.mem_cons_of_mem _ (List.mem_cons_of_mem _ (List.mem_cons_of_mem _ hp)))
          have hst₄ : St (i + 1) h₄ := hfr _ F₄ _ N₄ ⟨_, _, R₄⟩
          refine append_at (hsz := by show ys.toArray.size ≤ sizeLine; rw [List.size_toArray]; exact Nat.le_trans (Nat.le_trans hyl hi) hsz) zD fun h₅ hs₅ hD₅ => ?_
          have off4 := off₄.mem
          refine ⟨n + 1 - (i + 1), by omega, h₅, tk₄, i + 1, ys ++ [y], _, news₄, rfl, hlt, rfl, by rw [List.length_append, List.length_singleton]; exact Nat.succ_le_succ hyl, W.frame _ _ _ hst₄ fun b hb o e => hs₅.extBut b o (fun q => hDf (q ▸ hb)) e, F₄.change hs₅ hDL hD₀,
            (hoC.ns zC).sameBut hs₅ (Ne.symm hDC), fun p hp => ?_, off₄, ?_⟩
          · rcases List.mem_cons.mp hp with rfl | hp
            · exact ⟨hD₅.trans (congrArg some (lst_snoc ys y)), hDL, hD₀⟩
            · exact ⟨hs₅.extBut _ _ (off4 p hp).2.2 (N₄' p hp).1, (N₄' p hp).2⟩
          · exact R₄
        | false =>
          simp only [Bool.false_eq_true, if_false] at h₄ ⊢
          obtain ⟨h₅, tk₄, news₄, rfl, F₄, N₄, off₄, _, R₄⟩ := h₄
          have zC := (N₄ (H2.objs.size, oC) (List.mem_cons_of_mem _ List.mem_cons_self)).1
          have N₄' : News h₀ L h₅ news₄ := fun p hp => N₄ p (List.mem_cons_of_mem _ (List.mem_cons_of_mem _ (List.mem_cons_of_mem _ hp)))
          have hst₄ : St (i + 1) h₅ := hfr _ F₄ _ N₄ ⟨_, _, R₄⟩
          refine ⟨n + 1 - (i + 1), by omega, h₅, tk₄, i + 1, ys, _, news₄, rfl, hlt, rfl, Nat.le_succ_of_le hyl, hst₄, F₄, hoC.ns zC, fun p hp => ?_, off₄, R₄⟩
          rcases List.mem_cons.mp hp with rfl | hp
          · exact N₄ _ (List.mem_cons_of_mem _ (List.mem_cons_of_mem _ List.mem_cons_self))
          · exact N₄' p hp
      · obtain rfl : i = n := Nat.le_antisymm hi (Nat.not_lt.mp hlt)
        refine W.done _ _ _ hst' fun h₂ tk₂ hk₂ => ?_
        have off3 := off'.mem
        exact hRR _ _ h₂ tk₂ _ ys news' (fr_but F' hk₂ hIL hI₀) (news_but N' hk₂ fun p hp => by
          rcases List.mem_cons.mp hp with rfl | hp
          · exact Ne.symm hDI
          · exact (off3 p hp).1) off'.one (hn'.at' fun o e => hk₂ _ o (by simpa using Ne.symm hCI) e) hC₀ hD₀ hCL hDL (Ne.symm hDC) (fun p hp => (off3 p hp).2.1) hJ'
    · rcases List.mem_cons.mp hp with rfl | hp
      · exact ⟨hacc, hDL, hD₀⟩
      · exact ⟨old _ _ (N p hp).1, (N p hp).2⟩
  exact codeAny_compStart_list (loop _ rfl) (W.self 0 _ _ _ hst₁ (loop _ rfl))
end
end Mine
end
section -- Cmp2
open PySem PySem.W PyProof.Rows PySem.Calls PyProof.Rows.LCg
set_option Elab.async false
set_option maxRecDepth 100000
namespace Mine

section
variable {prog : Program} {w : World} {A : Around} {E : Value → Shared → Prop} {s : Shared} {h₀ : Heap} {L : Addr} {m : Str → Option Value} {env : Env}

/-- a list comprehension that is about to run over the iterator it -/
def CompAt (prog : Program) (w : World) (A : Around) (env : Env) (elt target iter : Expr) (ifs : List Expr) (scope : Scope) (cl : List (Str × Addr)) (pos : Pos) (Q : Value → Shared → Prop) (E : Value → Shared → Prop) (it : Value) (s₂ : Shared) : Prop :=
  wpAny (model prog w) A (newList []) (fun acc s₃ => wpAny (model prog w) A (newFunctionEnv scope env.globals cl [] env.qual none .none (some env)) (fun cenv s₄ =>
    codeAny (model prog w) A (.compStart (.ListComp elt [⟨target, iter, ifs, 0⟩] scope pos) 0 it acc { cenv with scope := relabel scope env }) (compPost (model prog w) A E none Q acc cenv.locals) s₄) E s₃) E s₂

theorem comp_eval {elt target iter : Expr} {ifs : List Expr} {scope : Scope} {cl : List (Str × Addr)} {pos : Pos} {Q : Value → Shared → Prop}
    (hclos : closureFor scope env = pure cl) (hkind : scope.kind = .function) (hnames : ∀ y ∈ scope.names, y.2 = .local → scope.names.lookup y.1 = some .local)
    (h : wpAny (model prog w) A (eval iter env) (fun xv s₁ => wpAny (model prog w) A (pyIter xv) (CompAt prog w A env elt target iter ifs scope cl pos Q E) E s₁) E s)
    (hs : ∀ x, foldedSetIterable iter env x = pure x) :
    wpAny (model prog w) A (eval (.ListComp elt [⟨target, iter, ifs, 0⟩] scope pos) env) Q E s := by
  rw [eval_ListComp]
  exact wpAny_comprehension_free (use := none) rfl hs hclos hkind hnames h

theorem asg_name {x : Str} {px : Pos} {scope : Scope} {cl : List (Str × Addr)} (hx : scope.names.lookup x = some .local) (hkind : scope.kind = .function) {v : Value} {s' : Shared} {C : Addr} {m' : Str → Option Value} {Q' : Unit → Shared → Prop} {E' : Value → Shared → Prop}
    (hn' : s'.heap.Ns C m')
    (k : ∀ h'' tk m'', h''.Ns C m'' → m'' x = some v → (∀ c o, c ≠ C → s'.heap.get? c = some o → h''.get? c = some o) → Q' () { s' with heap := h'', toks := tk }) :
    wpAny (model prog w) A (assign (.Name x px) (compEnvC scope cl C env) v) Q' E' s' :=
  wpAny_assign_Name (wpAny_storeName_local (lookup_relabel_local hx) hn' (fun h₃ hn₃ hs₃ => k h₃ _ _ hn₃ (by simp) fun c o hc e => hs₃.extBut c o hc e) (by simp [compEnvC, relabel, hkind]))

theorem asg_pair {a b : Str} {pa pb tp : Pos} {kk : Nat} {scope : Scope} {cl : List (Str × Addr)} (hh : A.handled = none) (ha : scope.names.lookup a = some .local) (hb : scope.names.lookup b = some .local) (hab : a ≠ b) (hkind : scope.kind = .function) {T : Addr} {x y : Value} {s' : Shared} {C : Addr} {m' : Str → Option Value} {Q' : Unit → Shared → Prop} {E' : Value → Shared → Prop}
    (ht : s'.heap.IsTuple T #[x, y]) (hn' : s'.heap.Ns C m')
    (k : ∀ h'' tk m'', h''.Ns C m'' → m'' a = some x → m'' b = some y → (∀ c o, c ≠ C → s'.heap.get? c = some o → h''.get? c = some o) → Q' () { s' with heap := h'', toks := tk }) :
    wpAny (model prog w) A (assign (.Tuple [.Name a pa, .Name b pb] kk tp) (compEnvC scope cl C env) (.ref T)) Q' E' s' :=
  kcp_assign hh ht (lookup_relabel_local ha) (lookup_relabel_local hb) (by simp [compEnvC, relabel, hkind]) hn' fun h' tk hn hk => k h' tk _ hn (by simp [hab]) (by simp) hk

theorem comp_fin {D C : Addr} {h : Heap} {tk : Nat} {m' : Str → Option Value} {ys : List Value} {news' : List (Addr × Obj)} {s₂ : Shared} {Q : Value → Shared → Prop}
    (F' : Fr h₀ L h m) (N' : News h₀ L h ((D, lst ys) :: news')) (o1 : Off1 D news') (hn : h.Ns C m') (hC₀ : h₀.get? C = none) (hCL : C ≠ L) (hCD : C ≠ D) (offC : ∀ p ∈ news', p.1 ≠ C)
    (fin : ∀ h'', Fr h₀ L h'' m → News h₀ L h'' ((D, lst ys) :: news') → Off1 D news' → Q (.ref D) { s₂ with heap := h'', toks := tk }) :
    compPost (model prog w) A E none Q (.ref D) C (.ok .next) { s₂ with heap := h, toks := tk } := by
  refine ⟨m', hn, fun h'' hs'' => fin h'' (F'.change hs'' hCL hC₀) (fun p hp => ?_) o1⟩
  refine ⟨hs''.extBut _ _ ?_ (N' p hp).1, (N' p hp).2⟩
  rcases List.mem_cons.mp hp with rfl | hp
  · exact Ne.symm hCD
  · exact offC p hp


/-- one turn of a comprehension: J goes on -/
def TurnC (prog : Program) (w : World) (A : Around) (h₀ : Heap) (L : Addr) (m : Str → Option Value) (env : Env) (elt : Expr) (ifs : List Expr) (scope : Scope) (cl : List (Str × Addr)) (s : Shared) (J : Nat → List Value → List (Addr × Obj) → Prop) (Bd : Nat → (Str → Option Value) → Prop) : Prop :=
  ∀ i ys news I oI C oC D m₂ h tk (E' : Value → Shared → Prop), J i ys news → NsObj oC m₂ → Bd i m₂ → Fr h₀ L h m → News h₀ L h ((I, oI) :: (C, oC) :: (D, lst ys) :: news) → Off3 I C D news → ((@Ne Nat I C) ∧ (@Ne Nat I D) ∧ (@Ne Nat C D)) →
    wpAny (model prog w) A (Tests ifs (compEnvC scope cl C env)) (fun ok s' => if ok = true then
      wpAny (model prog w) A (eval elt (compEnvC scope cl C env)) (CompEnd h₀ L m { s with heap := h, toks := tk } I oI C oC D (lst ys) (fun _ => True) (fun y news' => J (i + 1) (ys ++ [y]) news')) E' s'
      else CompEnd h₀ L m { s with heap := h, toks := tk } I oI C oC D (lst ys) (fun _ => True) (fun _ news' => J (i + 1) ys news') Value.none s') E' { s with heap := h, toks := tk }

/-- over a text -/
theorem comp_str {elt iter : Expr} {ifs : List Expr} {x : Str} {px : Pos} {scope : Scope} {cl : List (Str × Addr)} {pos : Pos} {Q : Value → Shared → Prop} {xt : Str} {tx : Tok} {news : List (Addr × Obj)}
    (J : Nat → List Value → List (Addr × Obj) → Prop) (hh : A.handled = none) (ha : xt.cps.all (· < 128) = true) (hsz : xt.cps.size ≤ sizeLine)
    (hcell : ∀ y ∈ scope.names, y.2 ≠ .cell) (hkind : scope.kind = .function) (hx : scope.names.lookup x = some .local)
    (F : Fr h₀ L s.heap m) (N : News h₀ L s.heap news) (hJ : J 0 [] news)
    (turn : TurnC prog w A h₀ L m env elt ifs scope cl s J (fun i m₂ => ∃ c u, xt.cps[i]? = some c ∧ m₂ x = some (.str ⟨#[c]⟩ u)))
    (fin : ∀ D h tk ys news', Fr h₀ L h m → News h₀ L h ((D, lst ys) :: news') → Off1 D news' → J xt.cps.size ys news' → Q (.ref D) { s with heap := h, toks := tk }) :
    wpAny (model prog w) A (pyIter (.str xt tx)) (CompAt prog w A env elt (.Name x px) iter ifs scope cl pos Q E) E s := by
  refine wpAny_pyIter_ascii ha ?_
  refine comp_block (h₀ := h₀) (L := L) (m := m) (news := news) J (fun _ v m₂ => m₂ x = some v) (Walks.strAscii hh s.heap.objs.size xt tx) hsz (fun i h st => let ⟨o, ho, _⟩ := st; ⟨o, ho⟩) (fun _ _ _ _ _ _ h => go_name h) (fun b hb => .inl (List.mem_singleton.mp hb)) hcell hkind
    (fun i v s' C m' Q' E' _ _ _ hn' k => asg_name hx hkind hn' k) ⟨_, Heap.get?_push_size _ rfl, rfl, rfl⟩ (fun b hb => by rw [List.mem_singleton.mp hb]; show _ < (s.heap.push _).objs.size; rw [Heap.size_push]; exact Nat.lt_succ_self _)
    (F.push _) (fun p hp => ⟨Heap.get?_push_of_some _ (N p hp).1, (N p hp).2⟩) (Nat.ne_of_lt F.ns.lt) (next_is_new F) (fun p hp => Nat.ne_of_lt (Heap.lt_size (N p hp).1)) hJ ?_ ?_
  · rintro i ys news' v oI C oC D m₂ h tk E' _ ⟨c, u, hc, rfl⟩ hJ' hoC hB F' N' off ne
    exact turn i ys news' _ oI C oC D m₂ h tk E' hJ' hoC ⟨c, u, hc, hB⟩ F' N' off ne
  · intro D C h tk m' ys news' F' N' o1 hn hC₀ _ hCL _ hCD offC hJ'
    exact comp_fin (s₂ := { s with heap := s.heap.push _ }) F' N' o1 hn hC₀ hCL hCD offC fun h'' F'' N'' o1' => fin D h'' tk ys news' F'' N'' o1' hJ'

/-- over a list of the base's, or of the ledger's -/
theorem comp_list {elt iter : Expr} {ifs : List Expr} {x : Str} {px : Pos} {scope : Scope} {cl : List (Str × Addr)} {pos : Pos} {Q : Value → Shared → Prop} {ax : Addr} {its : Array Value} {news : List (Addr × Obj)}
    (J : Nat → List Value → List (Addr × Obj) → Prop) (hh : A.handled = none) (hl : s.heap.IsList ax its) (hsrc : (∃ o, h₀.get? ax = some o) ∨ ∃ o, ∀ i ys news, J i ys news → (ax, o) ∈ news) (hsz : its.size ≤ sizeLine)
    (hcell : ∀ y ∈ scope.names, y.2 ≠ .cell) (hkind : scope.kind = .function) (hx : scope.names.lookup x = some .local)
    (F : Fr h₀ L s.heap m) (N : News h₀ L s.heap news) (hJ : J 0 [] news)
    (turn : TurnC prog w A h₀ L m env elt ifs scope cl s J (fun i m₂ => ∃ v, its[i]? = some v ∧ m₂ x = some v))
    (fin : ∀ D h tk ys news', Fr h₀ L h m → News h₀ L h ((D, lst ys) :: news') → Off1 D news' → J its.size ys news' → Q (.ref D) { s with heap := h, toks := tk }) :
    wpAny (model prog w) A (pyIter (.ref ax)) (CompAt prog w A env elt (.Name x px) iter ifs scope cl pos Q E) E s := by
  have hlt : ax < s.heap.objs.size := by obtain ⟨_, e, _⟩ := hl; exact Heap.lt_size e
  refine wpAny_pyIter_list hl ?_
  refine comp_block (h₀ := h₀) (L := L) (m := m) (news := news) J (fun _ v m₂ => m₂ x = some v) (Walks.list hh s.heap.objs.size ax (Nat.ne_of_lt hlt) its) hsz (fun i h st => by obtain ⟨o, e, _⟩ := st.1; exact ⟨o, e⟩) (fun _ _ _ _ _ _ h => go_name h)
    (fun b hb => by
      rcases List.mem_cons.mp hb with rfl | hb
      · exact .inl rfl
      · rw [List.mem_singleton.mp hb]; exact .inr hsrc) hcell hkind
    (fun i v s' C m' Q' E' _ _ _ hn' k => asg_name hx hkind hn' k) ⟨⟨_, Heap.get?_push_size _ rfl, rfl, rfl⟩, hl.push _⟩ (fun b hb => ?_)
    (F.push _) (fun p hp => ⟨Heap.get?_push_of_some _ (N p hp).1, (N p hp).2⟩) (Nat.ne_of_lt F.ns.lt) (next_is_new F) (fun p hp => Nat.ne_of_lt (Heap.lt_size (N p hp).1)) hJ ?_ ?_
  · show b < (s.heap.push _).objs.size
    rw [Heap.size_push]
    rcases List.mem_cons.mp hb with rfl | hb
    · exact Nat.lt_succ_self _
    · rw [List.mem_singleton.mp hb]; exact Nat.lt_succ_of_lt hlt
  · intro i ys news' v oI C oC D m₂ h tk E' _ hv hJ' hoC hB F' N' off ne
    exact turn i ys news' _ oI C oC D m₂ h tk E' hJ' hoC ⟨v, hv, hB⟩ F' N' off ne
  · intro D C h tk m' ys news' F' N' o1 hn hC₀ _ hCL _ hCD offC hJ'
    exact comp_fin (s₂ := { s with heap := s.heap.push _ }) F' N' o1 hn hC₀ hCL hCD offC fun h'' F'' N'' o1' => fin D h'' tk ys news' F'' N'' o1' hJ'

/-- over a list of pairs: the pairs lie in the base -/
theorem comp_pairs {elt iter : Expr} {ifs : List Expr} {a b : Str} {pa pb tp : Pos} {kk : Nat} {scope : Scope} {cl : List (Str × Addr)} {pos : Pos} {Q : Value → Shared → Prop} {ax : Addr} {its : Array Value} {news : List (Addr × Obj)}
    (J : Nat → List Value → List (Addr × Obj) → Prop) (hh : A.handled = none) (hl : s.heap.IsList ax its) (hsrc : (∃ o, h₀.get? ax = some o) ∨ ∃ o, ∀ i ys news, J i ys news → (ax, o) ∈ news) (hsz : its.size ≤ sizeLine)
    (Pr : Nat → Value → Value → Prop) (hpr : ∀ i v, its[i]? = some v → ∃ T x y, v = .ref T ∧ h₀.IsTuple T #[x, y] ∧ Pr i x y)
    (hcell : ∀ y ∈ scope.names, y.2 ≠ .cell) (hkind : scope.kind = .function) (hxa : scope.names.lookup a = some .local) (hxb : scope.names.lookup b = some .local) (hab : a ≠ b)
    (F : Fr h₀ L s.heap m) (N : News h₀ L s.heap news) (hJ : J 0 [] news)
    (turn : TurnC prog w A h₀ L m env elt ifs scope cl s J (fun i m₂ => ∃ x y, Pr i x y ∧ m₂ a = some x ∧ m₂ b = some y))
    (fin : ∀ D h tk ys news', Fr h₀ L h m → News h₀ L h ((D, lst ys) :: news') → Off1 D news' → J its.size ys news' → Q (.ref D) { s with heap := h, toks := tk }) :
    wpAny (model prog w) A (pyIter (.ref ax)) (CompAt prog w A env elt (.Tuple [.Name a pa, .Name b pb] kk tp) iter ifs scope cl pos Q E) E s := by
  have hlt : ax < s.heap.objs.size := by obtain ⟨_, e, _⟩ := hl; exact Heap.lt_size e
  refine wpAny_pyIter_list hl ?_
  refine comp_block (h₀ := h₀) (L := L) (m := m) (news := news) J (fun i _ m₂ => ∃ x y, Pr i x y ∧ m₂ a = some x ∧ m₂ b = some y) (P := fun i v => its[i]? = some v) (Walks.list hh s.heap.objs.size ax (Nat.ne_of_lt hlt) its) hsz (fun i h st => by obtain ⟨o, e, _⟩ := st.1; exact ⟨o, e⟩)
    (fun i v s' Q' E' st h => by obtain ⟨o, e, hc, _⟩ := st.1; exact go_list e hc h)
    (fun b hb => by
      rcases List.mem_cons.mp hb with rfl | hb
      · exact .inl rfl
      · rw [List.mem_singleton.mp hb]; exact .inr hsrc) hcell hkind
    ?_ ⟨⟨_, Heap.get?_push_size _ rfl, rfl, rfl⟩, hl.push _⟩ (fun b hb => ?_)
    (F.push _) (fun p hp => ⟨Heap.get?_push_of_some _ (N p hp).1, (N p hp).2⟩) (Nat.ne_of_lt F.ns.lt) (next_is_new F) (fun p hp => Nat.ne_of_lt (Heap.lt_size (N p hp).1)) hJ ?_ ?_
  · intro i v s' C m' Q' E' _ hv hbase hn' k
    obtain ⟨T, x, y, rfl, hT, hP⟩ := hpr i v hv
    refine asg_pair hh hxa hxb hab hkind (x := x) (y := y) ?_ hn' fun h'' tk m'' hn'' h1 h2 hk => k h'' tk m'' hn'' ⟨x, y, hP, h1, h2⟩ hk
    obtain ⟨o, e, r⟩ := hT
    exact ⟨o, hbase _ _ e, r⟩
  · show b < (s.heap.push _).objs.size
    rw [Heap.size_push]
    rcases List.mem_cons.mp hb with rfl | hb
    · exact Nat.lt_succ_self _
    · rw [List.mem_singleton.mp hb]; exact Nat.lt_succ_of_lt hlt
  · intro i ys news' v oI C oC D m₂ h tk E' _ hv hJ' hoC hB F' N' off ne
    exact turn i ys news' _ oI C oC D m₂ h tk E' hJ' hoC hB F' N' off ne
  · intro D C h tk m' ys news' F' N' o1 hn hC₀ _ hCL _ hCD offC hJ'
    exact comp_fin (s₂ := { s with heap := s.heap.push _ }) F' N' o1 hn hC₀ hCL hCD offC fun h'' F'' N'' o1' => fin D h'' tk ys news' F'' N'' o1' hJ'
/-- over a list of pairs: the pairs lie in the base -/
theorem comp_pairsG {RR : Value → Addr → Result → Shared → Prop} {elt iter : Expr} {ifs : List Expr} {a b : Str} {pa pb tp : Pos} {kk : Nat} {scope : Scope} {cl : List (Str × Addr)} {pos : Pos} {ax : Addr} {its : Array Value} {news : List (Addr × Obj)}
    (J : Nat → List Value → List (Addr × Obj) → Prop) (hh : A.handled = none) (hl : s.heap.IsList ax its) (hsrc : (∃ o, h₀.get? ax = some o) ∨ ∃ o, ∀ i ys news, J i ys news → (ax, o) ∈ news) (hsz : its.size ≤ sizeLine)
    (Pr : Nat → Value → Value → Prop) (hpr : ∀ i v, its[i]? = some v → ∃ T x y, v = .ref T ∧ h₀.IsTuple T #[x, y] ∧ Pr i x y)
    (hcell : ∀ y ∈ scope.names, y.2 ≠ .cell) (hkind : scope.kind = .function) (hxa : scope.names.lookup a = some .local) (hxb : scope.names.lookup b = some .local) (hab : a ≠ b)
    (F : Fr h₀ L s.heap m) (N : News h₀ L s.heap news) (hJ : J 0 [] news)
    (turn : TurnC prog w A h₀ L m env elt ifs scope cl s J (fun i m₂ => ∃ x y, Pr i x y ∧ m₂ a = some x ∧ m₂ b = some y))
    (fin : ∀ D C h tk m' ys news', Fr h₀ L h m → News h₀ L h ((D, lst ys) :: news') → Off1 D news' → h.Ns C m' → h₀.get? C = none → C ≠ L → C ≠ D → (∀ p ∈ news', p.1 ≠ C) → J its.size ys news' → RR (.ref D) C (.ok .next) { s with heap := h, toks := tk }) :
    wpAny (model prog w) A (pyIter (.ref ax)) (fun it s₂ => wpAny (model prog w) A (newList []) (fun acc s₃ => wpAny (model prog w) A (newFunctionEnv scope env.globals cl [] env.qual none .none (some env)) (fun cenv s₄ =>
      codeAny (model prog w) A (.compStart (.ListComp elt [⟨.Tuple [.Name a pa, .Name b pb] kk tp, iter, ifs, 0⟩] scope pos) 0 it acc { cenv with scope := relabel scope env }) (RR acc cenv.locals) s₄) E s₃) E s₂) E s := by
  have hlt : ax < s.heap.objs.size := by obtain ⟨_, e, _⟩ := hl; exact Heap.lt_size e
  refine wpAny_pyIter_list hl ?_
  refine comp_block (h₀ := h₀) (L := L) (m := m) (news := news) J (fun i _ m₂ => ∃ x y, Pr i x y ∧ m₂ a = some x ∧ m₂ b = some y) (P := fun i v => its[i]? = some v) (Walks.list hh s.heap.objs.size ax (Nat.ne_of_lt hlt) its) hsz (fun i h st => by obtain ⟨o, e, _⟩ := st.1; exact ⟨o, e⟩)
    (fun i v s' Q' E' st h => by obtain ⟨o, e, hc, _⟩ := st.1; exact go_list e hc h)
    (fun b hb => by
      rcases List.mem_cons.mp hb with rfl | hb
      · exact .inl rfl
      · rw [List.mem_singleton.mp hb]; exact .inr hsrc) hcell hkind
    ?_ ⟨⟨_, Heap.get?_push_size _ rfl, rfl, rfl⟩, hl.push _⟩ (fun b hb => ?_)
    (F.push _) (fun p hp => ⟨Heap.get?_push_of_some _ (N p hp).1, (N p hp).2⟩) (Nat.ne_of_lt F.ns.lt) (next_is_new F) (fun p hp => Nat.ne_of_lt (Heap.lt_size (N p hp).1)) hJ ?_ ?_
  · intro i v s' C m' Q' E' _ hv hbase hn' k
    obtain ⟨T, x, y, rfl, hT, hP⟩ := hpr i v hv
    refine asg_pair hh hxa hxb hab hkind (x := x) (y := y) ?_ hn' fun h'' tk m'' hn'' h1 h2 hk => k h'' tk m'' hn'' ⟨x, y, hP, h1, h2⟩ hk
    obtain ⟨o, e, r⟩ := hT
    exact ⟨o, hbase _ _ e, r⟩
  · show b < (s.heap.push _).objs.size
    rw [Heap.size_push]
    rcases List.mem_cons.mp hb with rfl | hb
    · exact Nat.lt_succ_self _
    · rw [List.mem_singleton.mp hb]; exact Nat.lt_succ_of_lt hlt
  · intro i ys news' v oI C oC D m₂ h tk E' _ hv hJ' hoC hB F' N' off ne
    exact turn i ys news' _ oI C oC D m₂ h tk E' hJ' hoC hB F' N' off ne
  · intro D C h tk m' ys news' F' N' o1 hn hC₀ _ hCL _ hCD offC hJ'
    exact fin D C h tk m' ys news' F' N' o1 hn hC₀ hCL hCD offC hJ'

def CompAtU (prog : Program) (w : World) (A : Around) (env : Env) (elt target iter : Expr) (ifs : List Expr) (scope : Scope) (cl : List (Str × Addr)) (pos : Pos) (y : Str) (py : Pos) (Q : Flow → Shared → Prop) (E : Value → Shared → Prop) (it : Value) (s₂ : Shared) : Prop :=
  wpAny (model prog w) A (newList []) (fun acc s₃ => wpAny (model prog w) A (newFunctionEnv scope env.globals cl [] env.qual none .none (some env)) (fun cenv s₄ =>
    codeAny (model prog w) A (.compStart (.ListComp elt [⟨target, iter, ifs, 0⟩] scope pos) 0 it acc { cenv with scope := relabel scope env }) (compPost (model prog w) A E (some (assign (.Name y py) env)) (fun _ s' => Q .next s') acc cenv.locals) s₄) E s₃) E s₂

theorem comp_evalU {elt target iter : Expr} {ifs : List Expr} {y : Str} {py : Pos} {scope : Scope} {cl : List (Str × Addr)} {pos spos : Pos} {Q : Flow → Shared → Prop}
    (hsw : swapsWith (.ListComp elt [⟨target, iter, ifs, 0⟩] scope pos) (some (.Name y py)) spos.line env = pure true)
    (hclos : closureFor scope env = pure cl) (hkind : scope.kind = .function) (hnames : ∀ y ∈ scope.names, y.2 = .local → scope.names.lookup y.1 = some .local)
    (h : wpAny (model prog w) A (eval iter env) (fun xv s₁ => wpAny (model prog w) A (pyIter xv) (CompAtU prog w A env elt target iter ifs scope cl pos y py Q E) E s₁) E s)
    (hs : ∀ x, foldedSetIterable iter env x = pure x) :
    wpAny (model prog w) A (exec (.Assign [.Name y py] (.ListComp elt [⟨target, iter, ifs, 0⟩] scope pos) spos) env) Q E s := by
  rw [exec_Assign_Name_used _ _ _ _ hsw]
  refine wpAny_bind (wpAny_standAt (wpAny_bind ?_))
  show wpAny _ A (do let _ ← comprehension (.ListComp elt [⟨target, iter, ifs, 0⟩] scope pos) scope env _ (newList []) false (eval iter env) (some (assign (.Name y py) env))) _ _ s
  exact wpAny_bind (wpAny_mono (wpAny_comprehension_free (use := some (assign (.Name y py) env)) (Q := fun _ s' => Q .next s') rfl hs hclos hkind hnames h) (fun _ s' hq => wpAny_pure (wpAny_pure hq)) fun _ _ e => e)

theorem comp_finU {D C : Addr} {h : Heap} {tk : Nat} {m' : Str → Option Value} {ys : List Value} {news' : List (Addr × Obj)} {s₂ : Shared} {y : Str} {py : Pos} {Qn : Shared → Prop} (hLe : env.locals = L)
    (hy : env.kindOf y = some .local) (hp : (env.scope.kind == .class || (env.scope.kind == .module && env.locals != env.globals)) = false)
    (F' : Fr h₀ L h m) (N' : News h₀ L h ((D, lst ys) :: news')) (o1 : Off1 D news') (hn : h.Ns C m') (hC₀ : h₀.get? C = none) (hCL : C ≠ L) (hCD : C ≠ D) (offC : ∀ p ∈ news', p.1 ≠ C)
    (fin : ∀ h'' tk', Fr h₀ L h'' (fun z => if z = y then some (.ref D) else m z) → News h₀ L h'' ((D, lst ys) :: news') → Off1 D news' → Qn { s₂ with heap := h'', toks := tk' }) :
    compPost (model prog w) A E (some (assign (.Name y py) env)) (fun _ s' => Qn s') (.ref D) C (.ok .next) { s₂ with heap := h, toks := tk } := by
  subst hLe
  show wpAny _ A (assign (.Name y py) env (.ref D)) _ _ _
  refine wpAny_assign_Name (wpAny_storeName_local hy F'.ns (fun h₂ hn₂ hs₂ => ?_) hp)
  have hL₀ : h₀.get? env.locals = none := Heap.get?_none_of_le F'.above
  have F₂ : Fr h₀ env.locals h₂ (fun z => if z = y then some (.ref D) else m z) := ⟨hn₂, fun b o e => hs₂.extBut b o (fun q => by rw [q, hL₀] at e; cases e) (F'.keep b o e), F'.above⟩
  refine ⟨m', hn.sameBut hs₂ hCL, fun h'' hs'' => fin h'' _ (F₂.change hs'' hCL hC₀) (fun p hp => ?_) o1⟩
  have z : h₂.get? p.1 = some p.2 := hs₂.extBut _ _ (N' p hp).2.1 (N' p hp).1
  refine ⟨hs''.extBut _ _ ?_ z, (N' p hp).2⟩
  rcases List.mem_cons.mp hp with rfl | hp
  · exact Ne.symm hCD
  · exact offC p hp
end
end Mine
namespace Mine
theorem comp_same {h₀ : Heap} {L I C D : Addr} {m : Str → Option Value} {s₁ : Shared} {oI oC oD : Obj} {rest : Value → List (Addr × Obj) → Prop} {y : Value} {h' : Heap} {tk : Nat} {news all : List (Addr × Obj)}
    (F : Fr h₀ L h' m) (N : News h₀ L h' all) (sub : ∀ p ∈ (I, oI) :: (C, oC) :: (D, oD) :: news, p ∈ all) (off : Off3 I C D news) (r : rest y news) :
    CompEnd h₀ L m s₁ I oI C oC D oD (fun _ => True) rest y { s₁ with heap := h', toks := tk } := CompEnd.intro F N news sub off trivial r
end Mine
end
section -- Bui
open PySem PySem.W PyProof.Rows PySem.Calls PyProof.Rows.LCg PySem.SeqAt
set_option Elab.async false
set_option maxRecDepth 100000
namespace Mine
section
variable {prog : Program} {w : World} {A : Around} {E : Value → Shared → Prop} {s : Shared}
theorem ne_diff {a b : Addr} {xs ys : Array Value} {Q : Value → Shared → Prop} (hl : s.heap.IsList a xs) (hb : s.heap.IsList b ys) (hsz : (xs.size != ys.size) = true) (hu : A.units < cLine) (h : Q (.bool true) s) :
    wpAny (model prog w) A (compareOp .NotEq (.ref a) (.ref b)) Q E s := cmp_ofNotEq (RcNeAt.lists_lengths hl hb hsz hu prog w E Q h)
theorem ne_nils {a b : Addr} {xs ys : Array Value} {Q : Value → Shared → Prop} (hl : s.heap.IsList a xs) (hb : s.heap.IsList b ys) (hx : xs.size = 0) (hy : ys.size = 0) (hu : A.units < cLine) (h : Q (.bool false) s) :
    wpAny (model prog w) A (compareOp .NotEq (.ref a) (.ref b)) Q E s :=
  cmp_ofNotEq (RcNeAt.lists (e := fun _ => true) hl hb (by rw [hx, hy]) hu (fun j h1 => by omega) prog w E Q (by
    have e : (List.range xs.size).all (fun _ => true) = true := by simp
    rw [e]; exact h))
end
end Mine
namespace Mine
section
variable {prog : Program} {w : World} {A : Around} {E : Value → Shared → Prop} {s : Shared} {h₀ : Heap} {L : Addr} {m : Str → Option Value} {news news' : List (Addr × Obj)}
theorem set_last {D : Addr} {xs : Array Value} {old v : Value} {n : Nat} {t : Tok} {Q : Unit → Shared → Prop} (F : Fr h₀ L s.heap m) (N : News h₀ L s.heap news) (U : Upd D (listOf (xs.push old) n) (listOf (xs.push v) n) news news')
    (h : ∀ h', Fr h₀ L h' m → News h₀ L h' news' → Q () { s with heap := h' }) : wpAny (model prog w) A (setItem (.ref D) (.int (-1) t) v) Q E s := by
  obtain ⟨pre, post, rfl, rfl, a, b⟩ := U.split
  have z := N (D, listOf (xs.push old) n) (List.mem_append.mpr (.inr (.head _)))
  refine ki_setBack z.1 (by decide) (by simp; omega) (by decide) (h _ (F.change (Heap.SameBut.update ..) z.2.1 z.2.2) (ki_turn _ N a b ?_ ?_))
  · have e1 : ((-1 : Int) + ((xs.push old).size : Int)).toNat = xs.size := by simp; omega
    rw [e1]
    apply Array.toList_inj.mp
    simp
  · simp
theorem get_last {D : Addr} {xs : Array Value} {v : Value} {t : Tok} {Q : Value → Shared → Prop} (hl : s.heap.IsList D (xs.push v)) (h : Q v s) : wpAny (model prog w) A (getItem (.ref D) (.int (-1) t)) Q E s :=
  wpAny_getItem_list_neg hl (by decide) (by simp; omega) (by decide) (by
    have e1 : ((-1 : Int) + ((xs.push v).size : Int)).toNat = xs.size := by simp; omega
    rw [e1]; simp) h
theorem sub_last {value slice : PySem.Expr} {D : Addr} {xs : Array Value} {v : Value} {t : Tok} {Q : Value → Shared → Prop} (hl : s.heap.IsList D (xs.push v)) (h : Q v s)
    (hs : subscripted slice false (.ref D) (.int (-1) t) = operate [.ref D, .int (-1) t] (getItem (.ref D) (.int (-1) t))) :
    wpAny (model prog w) A (subscriptTail value slice (.ref D) (.int (-1) t)) Q E s :=
  tail_any hl.typeIs slot_list_getitem.lookup (get_last hl h) hs
end
end Mine
end
section -- Bui2
open PySem PySem.W PyProof.Rows PySem.Calls PyProof.Rows.LCg PySem.SeqAt
set_option Elab.async false
set_option maxRecDepth 100000
namespace Mine
section
variable {prog : Program} {w : World} {A : Around} {E : Value → Shared → Prop} {s : Shared} {h₀ : Heap} {L : Addr} {m : Str → Option Value} {news news' : List (Addr × Obj)}
theorem extend_K {D b : Addr} {its its2 : Array Value} {n n2 : Nat} {Q : Value → Shared → Prop} (F : Fr h₀ L s.heap m) (N : News h₀ L s.heap news) (hb : (b, listOf its2 n2) ∈ news) (hne : its2.size ≠ 0)
    (U : Upd D (listOf its n) (listOf (its ++ its2) (n + 1)) news news') (hsz : its.size + its2.size ≤ 100000)
    (h : ∀ h', Fr h₀ L h' m → News h₀ L h' news' → Q .none { s with heap := h' }) : wpAny (model prog w) A (call (.builtin "list.extend") [.ref D, .ref b]) Q E s := by
  refine kl_extend (n := n) (its := its) (l := its.toList ++ its2.toList) F N hb rfl (by rw [Array.length_toList]; exact hne) ?_ ?_ ?_ ?_ h
  · have e : (its.toList ++ its2.toList).toArray = its ++ its2 := by simp
    rw [e]; exact U
  · intro hc
    rw [Bool.and_eq_true] at hc
    have := hc.2
    unfold Builtin.List.listTooLong at this
    rw [decide_eq_true_eq, sizeLine_eq] at this
    omega
  · rw [Array.length_toList, sizeLine_eq]; omega
  · rw [sizeLine_eq]; omega
end
end Mine
end
section -- EntM
open PySem PySem.W PyProof.Rows PySem.Calls
set_option Elab.async false
set_option maxRecDepth 100000
namespace Mine
/-- the end of a body that turns one object p of the caller's -/
def DoneM (g : Heap) (L : Addr) (s : Shared) (p : Addr) (Post : Value → Obj → Prop) (fl : Flow) (s' : Shared) : Prop :=
  ∃ h' tk' m' o', s' = { s with heap := h', toks := tk' } ∧ Fr g L h' m' ∧ News g L h' [(p, o')] ∧ Post (retv fl) o'

def SpecM (w : World) (f : Addr) (args : List Value) (p : Addr) (o : Obj) (d u : Nat) (Pre : Heap → Prop) (Post : Value → Obj → Prop) : Prop :=
  ∀ (mean : ExcName → Option Value) (mg mb : Str → Option Value) (dp un : Nat) (gd : Option (List Code)) (A₀ : Around) (env : Env) (outer : List Env) (base h₀ : Heap) (L : Addr) (m : Str → Option Value) (s : Shared) (Q E : Value → Shared → Prop),
    Here w mean mg mb dp un A₀ env outer base h₀ L m s d u → News h₀ L s.heap [(p, o)] → Pre s.heap →
    (∀ v h' tk' o', (∀ b ob, b ≠ p → s.heap.get? b = some ob → h'.get? b = some ob) → News h₀ L h' [(p, o')] → Post v o' → Q v { s with heap := h', toks := tk' }) →
    wpAny (model PySem.Challenge.rw_pc0131_01.row.prog w) (Ard dp un gd env outer) (call (.ref f) args) Q E s

theorem enterM {w : World} {mean : ExcName → Option Value} {mg mb : Str → Option Value} {dp un : Nat} {gd : Option (List Code)} {A₀ : Around} {env : Env} {outer : List Env} {base h₀ : Heap} {L : Addr} {m : Str → Option Value} {s : Shared} {Q E : Value → Shared → Prop} {d u : Nat}
    {name qual : Str} {params : Arguments} {body : List Stmt} {scope : Scope} {dV kV doc pm cdv ct oc : Value} {an od : Option Addr} {osl : Array (Option Value)} {f : Addr} {args : List Value} (binds : List (Str × Value)) {p : Addr} {o : Obj} {Post : Value → Obj → Prop}
    (H : Here w mean mg mb dp un A₀ env outer base h₀ L m s d u) (N : News h₀ L s.heap [(p, o)])
    (ret : ∀ v h' tk' o', (∀ b ob, b ≠ p → s.heap.get? b = some ob → h'.get? b = some ob) → News h₀ L h' [(p, o')] → Post v o' → Q v { s with heap := h', toks := tk' })
    (ho : (hd.heap_39 w.params).lookup f = some ⟨oc, od, .func (fnOf name qual params body scope dV kV doc pm an cdv ct), osl⟩) (hcd : codeIn (hd.heap_39 w.params) cdv qual = true)
    (hbind : BindsTo s (fnOf name qual params body scope dV kV doc pm an cdv ct) ⟨args, []⟩ binds) (hloc : ∀ y ∈ binds, scope.names.lookup y.1 = some .local)
    (h : ∀ g L' h₁ tk₁, (∀ b ob, b ≠ p → s.heap.get? b = some ob → g.get? b = some ob) → Fr g L' h₁ (fun y => binds.reverse.lookup y) → News g L' h₁ [(p, o)] → Below (Ard dp un gd env outer) base (env :: outer) g → (hd.heap_39 w.params).In g → Top hd.view_39 (looseW hd.view_39 [Str.ofString "LedgerError"]) mean mg mb g →
      wpAny (model PySem.Challenge.rw_pc0131_01.row.prog w) ((Ard dp un gd env outer).deeper (envOf qual scope L' f cdv)) (execs body (envOf qual scope L' f cdv)) (DoneM g L' s p Post) (fun _ _ => False) { s with heap := h₁, toks := tk₁ })
    (hco : scope.isCoroutine = false) (hgen : scope.isGenerator = false) (hk : scope.kind = .function)
    (hcell : ∀ x ∈ scope.names, x.2 ≠ .cell) :
    wpAny (model PySem.Challenge.rw_pc0131_01.row.prog w) (Ard dp un gd env outer) (call (.ref f) args) Q E s := by
  have hroom : (Ard dp un gd env outer).depth < recursionLimit := by have := H.hd; show dp < _; omega
  refine wpAny_call ?_
  refine code_defG (news := [(p, o)]) H.B H.F H.X N H.T rfl H.hf H.hke ho hcd hroom hbind hloc (fun g L' h₁ FG F' N' B' X' T' hsub => ?_) hco hgen hk hcell
  have hst : ∀ b ob, b ≠ p → s.heap.get? b = some ob → g.get? b = some ob := fun b ob hb e => hsub b ob e (by simpa using hb)
  refine wpAny_mono (h g L' h₁ _ hst F' N' B' X' T') ?_ (fun _ _ x => x.elim)
  rintro fl s' ⟨h', tk', m', o', rfl, F'', N'', hp⟩
  refine ⟨L', m', [(p, o')], F'', N'', fun _ N3 => ?_⟩
  have z := ret _ h' tk' o' (fun b ob hb e => F''.keep b ob (hst b ob hb e)) N3 hp
  cases fl <;> exact z

theorem SpecM.use {w : World} {mean : ExcName → Option Value} {mg mb : Str → Option Value} {A A₀ : Around} {env : Env} {outer : List Env} {base h₀ : Heap} {L : Addr} {m : Str → Option Value} {news : List (Addr × Obj)} {f' : Obj → List (Addr × Obj)} {s : Shared} {Q E : Value → Shared → Prop} {d u : Nat}
    {f : Addr} {args : List Value} {p : Addr} {o : Obj} {Pre : Heap → Prop} {Post : Value → Obj → Prop} (S : SpecM w f args p o d u Pre Post)
    (B : Below A₀ base outer h₀) (F : Fr h₀ L s.heap m) (X : (hd.heap_39 w.params).In h₀) (T : Top hd.view_39 (looseW hd.view_39 [Str.ofString "LedgerError"]) mean mg mb h₀) (N : News h₀ L s.heap news) (U : ∀ o', Upd p o o' news (f' o'))
    (hA : A.frames = some (env :: outer)) (hf : env.frame = some L) (hke : env.scope.kind = .function) (hh : A.handled = none) (hd : A.depth + d < recursionLimit) (hu : A.units + u < cLine) (hpre : Pre s.heap)
    (k : ∀ v h' tk' o', Fr h₀ L h' m → News h₀ L h' (f' o') → (∀ b ob, b ≠ p → s.heap.get? b = some ob → h'.get? b = some ob) → Post v o' → Q v { s with heap := h', toks := tk' }) :
    wpAny (model PySem.Challenge.rw_pc0131_01.row.prog w) A (call (.ref f) args) Q E s := by
  obtain ⟨ha, dp, fr, gd, un⟩ := A
  cases hA
  cases hh
  have Np : News h₀ L s.heap [(p, o)] := by
    obtain ⟨pre, post, rfl, _, _, _⟩ := (U o).split
    intro q hq
    cases List.mem_singleton.mp hq
    exact N _ (List.mem_append.mpr (.inr (.head _)))
  refine S mean mg mb dp un gd A₀ env outer base h₀ L m s Q E ⟨B, F, X, T, hf, hke, hd, hu⟩ Np hpre fun v h' tk' o' hst N3 hp => ?_
  have P3 := N3 (p, o') (.head _)
  refine k v h' tk' o' ?_ ?_ hst hp
  · obtain ⟨⟨oL, a1, a2, hL, a3⟩, kp, ab⟩ := F
    refine ⟨⟨oL, a1, a2, hst _ _ (Ne.symm P3.2.1) hL, a3⟩, fun b ob e => hst b ob (fun q => ?_) (kp b ob e), ab⟩
    have := P3.2.2
    rw [q] at e
    rw [e] at this
    cases this
  · obtain ⟨pre, post, e1, e2, n1, n2⟩ := (U o').split
    rw [e2]
    rw [e1] at N
    intro q hq
    rcases List.mem_append.mp hq with hq | hq
    · have z := N q (List.mem_append.mpr (.inl hq))
      exact ⟨hst _ _ (n1 q hq) z.1, z.2⟩
    · rcases List.mem_cons.mp hq with rfl | hq
      · exact P3
      · have z := N q (List.mem_append.mpr (.inr (.tail _ hq)))
        exact ⟨hst _ _ (n2 q hq) z.1, z.2⟩
end Mine
end
section -- Ok2
open PySem PySem.W PyProof.Rows PySem.Calls
set_option Elab.async false
set_option maxRecDepth 100000
namespace Mine

def SpecOk (w : World) (f : Addr) (args : List Value) (d u : Nat) (Pre : Heap → Prop) (Post : Heap → Value → Heap → Prop) : Prop :=
  ∀ (mean : ExcName → Option Value) (mg mb : Str → Option Value) (dp un : Nat) (gd : Option (List Code)) (A₀ : Around) (env : Env) (outer : List Env) (base h₀ : Heap) (L : Addr) (m : Str → Option Value) (s : Shared) (Q : Value → Shared → Prop),
    Here w mean mg mb dp un A₀ env outer base h₀ L m s d u → Pre s.heap →
    (∀ v h' tk', s.heap.StaysIn h' → Post s.heap v h' → Q v { s with heap := h', toks := tk' }) →
    wpOk (model PySem.Challenge.rw_pc0131_01.row.prog w) (Ard dp un gd env outer) (call (.ref f) args) Q s

section
variable {prog : Program} {w : World} {A₀ A : Around} {s : Shared} {base h₀ : Heap} {outer : List Env} {L : Addr} {m : Str → Option Value} {env : Env} {news : List (Addr × Obj)}
theorem code_defOk {K : Frag} {p : Program} {loose : List Str} {mean : ExcName → Option Value} {mg mb : Str → Option Value} {R : Result → Shared → Prop} {name qual : Str} {params : Arguments} {body : List Stmt} {scope : Scope} {dV kV doc pm cdv ct oc : Value} {an od : Option Addr} {osl : Array (Option Value)} {f : Addr} {args : Args} {binds : List (Str × Value)}
    (B : Below A₀ base outer h₀) (F : Fr h₀ L s.heap m) (X₀ : K.In h₀) (N : News h₀ L s.heap news) (T : Top p loose mean mg mb h₀) (hA : A.frames = some (env :: outer)) (hf : env.frame = some L) (hke : env.scope.kind = .function)
    (ho : K.lookup f = some ⟨oc, od, .func (fnOf name qual params body scope dV kV doc pm an cdv ct), osl⟩) (hcd : codeIn K cdv qual = true) (hroom : A.depth < recursionLimit)
    (hbind : BindsTo s (fnOf name qual params body scope dV kV doc pm an cdv ct) args binds) (hloc : ∀ y ∈ binds, scope.names.lookup y.1 = some .local)
    (h : ∀ g L' h₁, Fr g L' h₁ (fun y => binds.reverse.lookup y) → News g L' h₁ news → Below A base (env :: outer) g → K.In g → Top p loose mean mg mb g → GSub s.heap g (news.map (·.1)) →
      wpOk (model prog w) (A.deeper (envOf qual scope L' f cdv)) (execs body (envOf qual scope L' f cdv)) (fun fl s' => LeaveK h₀ L m g R (match fl with | .ret v => v | _ => .none) s') { s with heap := h₁, toks := s.toks + binds.length })
    (hco : scope.isCoroutine = false) (hgen : scope.isGenerator = false) (hk : scope.kind = .function) (hcell : ∀ x ∈ scope.names, x.2 ≠ .cell) : codeOk (model prog w) A (.call (.ref f) args) R s := by
  obtain ⟨FG, BG, st, lv⟩ := groundX (R := R) B F N hA hf hke
  have hlim : s.heap.NoLimit := T.nolimit.keeps F.keep
  refine codeOk_call_function (fd := fnOf name qual params body scope dV kV doc pm an cdv ct) hroom ((X₀.keeps F.keep) _ _ ho) rfl hco hgen rfl (codeRec_of (X₀.keeps F.keep) hcd) (hbind _ _ _ _ ?_)
  refine wpAny_newFunctionEnv hcell hloc (fun h₁ hns hsb => ⟨hlim.fresh _ hsb, codeOk_func ?_⟩) hk
  have hk₁ : ∀ b o, s.heap.get? b = some o → h₁.get? b = some o := fun b o e => hsb.extBut b o (Nat.ne_of_lt (Heap.lt_size e)) (Heap.get?_push_of_some _ e)
  exact wpOk_mono (h _ s.heap.objs.size h₁ ⟨hns, fun b o e => hk₁ b o (of_hideAll _ e), Nat.le_of_eq (hideAll_size _ _)⟩
    (fun p hp => ⟨hk₁ _ _ (N p hp).1, Nat.ne_of_lt (Heap.lt_size (N p hp).1), hideAll_none _ (List.mem_map_of_mem hp)⟩) BG (X₀.keeps st) (T.keeps st) (fun b o e n => hideAll_get _ e n)) (fun fl s' hl => lv _ _ hl)
end

theorem enterOk {w : World} {mean : ExcName → Option Value} {mg mb : Str → Option Value} {dp un : Nat} {gd : Option (List Code)} {A₀ : Around} {env : Env} {outer : List Env} {base h₀ : Heap} {L : Addr} {m : Str → Option Value} {s : Shared} {Q : Value → Shared → Prop} {d u : Nat}
    {name qual : Str} {params : Arguments} {body : List Stmt} {scope : Scope} {dV kV doc pm cdv ct oc : Value} {an od : Option Addr} {osl : Array (Option Value)} {f : Addr} {args : List Value} (binds : List (Str × Value)) {Post : Value → Heap → Prop}
    (H : Here w mean mg mb dp un A₀ env outer base h₀ L m s d u)
    (ret : ∀ v h' tk', s.heap.StaysIn h' → Post v h' → Q v { s with heap := h', toks := tk' })
    (ho : (hd.heap_39 w.params).lookup f = some ⟨oc, od, .func (fnOf name qual params body scope dV kV doc pm an cdv ct), osl⟩) (hcd : codeIn (hd.heap_39 w.params) cdv qual = true)
    (hbind : BindsTo s (fnOf name qual params body scope dV kV doc pm an cdv ct) ⟨args, []⟩ binds) (hloc : ∀ y ∈ binds, scope.names.lookup y.1 = some .local)
    (h : ∀ g L' h₁ tk₁, s.heap.StaysIn g → Fr g L' h₁ (fun y => binds.reverse.lookup y) → News g L' h₁ [] → Below (Ard dp un gd env outer) base (env :: outer) g → (hd.heap_39 w.params).In g → Top hd.view_39 (looseW hd.view_39 [Str.ofString "LedgerError"]) mean mg mb g →
      wpOk (model PySem.Challenge.rw_pc0131_01.row.prog w) ((Ard dp un gd env outer).deeper (envOf qual scope L' f cdv)) (execs body (envOf qual scope L' f cdv)) (Done g L' s Post) { s with heap := h₁, toks := tk₁ })
    (hco : scope.isCoroutine = false) (hgen : scope.isGenerator = false) (hk : scope.kind = .function) (hcell : ∀ x ∈ scope.names, x.2 ≠ .cell) :
    wpOk (model PySem.Challenge.rw_pc0131_01.row.prog w) (Ard dp un gd env outer) (call (.ref f) args) Q s := by
  have hroom : (Ard dp un gd env outer).depth < recursionLimit := by have := H.hd; show dp < _; omega
  refine wpOk_call ?_
  refine code_defOk (news := []) H.B H.F H.X (fun _ hp => nomatch hp) H.T rfl H.hf H.hke ho hcd hroom hbind hloc (fun g L' h₁ F' N' B' X' T' hsub => ?_) hco hgen hk hcell
  have hst : s.heap.StaysIn g := fun b o e => hsub b o e (by simp)
  refine wpOk_mono (h g L' h₁ _ hst F' N' B' X' T') ?_
  rintro fl s' ⟨h', tk', m', rfl, F'', hp⟩
  refine ⟨L', m', [], F'', (fun _ hp => nomatch hp), fun _ _ => ?_⟩
  have z := ret _ h' tk' (fun b o e => F''.keep b o (hst b o e)) hp
  cases fl <;> exact z

theorem SpecOk.use {w : World} {mean : ExcName → Option Value} {mg mb : Str → Option Value} {A A₀ : Around} {env : Env} {outer : List Env} {base h₀ : Heap} {L : Addr} {m : Str → Option Value} {news : List (Addr × Obj)} {s : Shared} {Q : Value → Shared → Prop} {d u : Nat}
    {f : Addr} {args : List Value} {Pre : Heap → Prop} {Post : Heap → Value → Heap → Prop} (S : SpecOk w f args d u Pre Post)
    (B : Below A₀ base outer h₀) (F : Fr h₀ L s.heap m) (X : (hd.heap_39 w.params).In h₀) (T : Top hd.view_39 (looseW hd.view_39 [Str.ofString "LedgerError"]) mean mg mb h₀) (N : News h₀ L s.heap news)
    (hA : A.frames = some (env :: outer)) (hf : env.frame = some L) (hke : env.scope.kind = .function) (hh : A.handled = none) (hd : A.depth + d < recursionLimit) (hu : A.units + u < cLine) (hpre : Pre s.heap)
    (k : ∀ v h' tk', Fr h₀ L h' m → News h₀ L h' news → s.heap.StaysIn h' → Post s.heap v h' → Q v { s with heap := h', toks := tk' }) :
    wpOk (model PySem.Challenge.rw_pc0131_01.row.prog w) A (call (.ref f) args) Q s := by
  obtain ⟨ha, dp, fr, gd, un⟩ := A
  cases hA
  cases hh
  exact S mean mg mb dp un gd A₀ env outer base h₀ L m s Q ⟨B, F, X, T, hf, hke, hd, hu⟩ hpre fun v h' tk' hst hp => k v h' tk' (fr_stays F hst) (news_stays N hst) hst hp

section
variable {prog : Program} {w : World} {A : Around} {Q : Flow → Shared → Prop} {s : Shared} {env : Env} {h₀ : Heap} {L : Addr}
/-- a for loop over a list, whose turns are walked over clean stacks -/
theorem for_listOk {σ : Type} {target : Expr} {body : List Stmt} {l : Addr} {its : Array Value} {m₀ : Str → Option Value}
    (Led : σ → List (Addr × Obj)) (ps : σ → List (Str × Value)) (Facts : σ → Prop) (stored : List Str) (P : Nat → σ → Prop) (c₀ : σ)
    (hh : A.handled = none) (hl : s.heap.IsList l its) (hsrc : (∃ o, h₀.get? l = some o) ∨ ∃ o, ∀ c, Facts c → (l, o) ∈ Led c)
    (F : Fr h₀ L s.heap m₀) (N : News h₀ L s.heap (Led c₀)) (hf : Facts c₀) (hk : ∀ p ∈ ps c₀, m₀ p.1 = some p.2) (hp : P 0 c₀)
    (turn : ∀ (c : σ) i v I oI (u : Str → Option Value) h tk, its[i]? = some v → Facts c → P i c → (∀ p ∈ Led c, p.1 ≠ I) →
      Fr h₀ L h (kstB (fun z => if stored.contains z then u z else m₀ z) (ps c)) → News h₀ L h ((I, oI) :: Led c) →
      wpAny (model prog w) A (assign target env v) (fun _ s₂ => wpOk (model prog w) A (execs body env) (LoopPost h₀ L s Led ps Facts stored m₀ (P (i + 1)) I oI Q) s₂) (fun _ _ => False) { s with heap := h, toks := tk })
    (done : ∀ (c : σ) (u : Str → Option Value) h tk, Facts c → P its.size c → Fr h₀ L h (kstB (fun z => if stored.contains z then u z else m₀ z) (ps c)) → News h₀ L h (Led c) → Q .next { s with heap := h, toks := tk }) :
    wpAny (model prog w) A (pyIter (.ref l)) (fun it s₂ => codeOk (model prog w) A (.forLoop target it body [] env) (okFlow Q) s₂) (fun _ _ => False) s := by
  have hlt : l < s.heap.objs.size := by obtain ⟨_, e, _⟩ := hl; exact Heap.lt_size e
  refine wpAny_pyIter_list hl ?_
  generalize hI : s.heap.objs.size = I
  have W := Walks.list (prog := prog) (w := w) hh I l (by rw [← hI]; exact Nat.ne_of_lt hlt) its
  have hI₀ : h₀.get? I = none := by rw [← hI]; exact next_is_new F
  have hL : L ≠ I := by rw [← hI]; exact Nat.ne_of_lt F.ns.lt
  have base : ∀ b o, h₀.get? b = some o → b ≠ I := fun b o e q => by rw [q, hI₀] at e; cases e
  refine codeOk_forLoop
    (fun k s' => ∃ (h' : Heap) (tk : Nat) (m' : Str → Option Value) (i : Nat) (c : σ), s' = { s with heap := h', toks := tk } ∧ i ≤ its.size ∧ k = its.size + 1 - i ∧ (h'.IsListIter I l i ∧ h'.IsList l its) ∧ Fr h₀ L h' m' ∧ News h₀ L h' (Led c) ∧ (∀ p ∈ Led c, p.1 ≠ I) ∧ Facts c ∧
      (∀ p ∈ ps c, m' p.1 = some p.2) ∧ (∀ z, (∀ p ∈ ps c, z ≠ p.1) → stored.contains z = false → m' z = m₀ z) ∧ P i c) ?_ (its.size + 1)
    ⟨_, _, m₀, 0, c₀, rfl, Nat.zero_le _, rfl, ⟨?_, hl.push _⟩, F.push _, (fun p hp => ⟨Heap.get?_push_of_some _ (N p hp).1, (N p hp).2⟩), (fun p hp => by rw [← hI]; exact Nat.ne_of_lt (Heap.lt_size (N p hp).1)), hf, hk, fun _ _ _ => rfl, hp⟩
  rotate_left
  · rw [← hI]; exact ⟨_, Heap.get?_push_size _ rfl, rfl, rfl⟩
  rintro k s' ⟨h', tk, m', i, c, rfl, hi, rfl, hst', F', N', hoff', hf', hk', hr', hp'⟩
  have keepF : ∀ h₁ : Heap, (∀ b o, b ∉ [I] → h'.get? b = some o → h₁.get? b = some o) → Fr h₀ L h₁ m' := fun h₁ hk₁ =>
    ⟨F'.ns.at' fun o e => hk₁ L o (by simpa using hL) e, fun b o e => hk₁ b o (by simpa using base b o e) (F'.keep b o e), F'.above⟩
  have keepN : ∀ h₁ : Heap, (∀ b o, b ∉ [I] → h'.get? b = some o → h₁.get? b = some o) → News h₀ L h₁ (Led c) := fun h₁ hk₁ =>
    fun p hp => ⟨hk₁ _ _ (by simpa using hoff' p hp) (N' p hp).1, (N' p hp).2⟩
  by_cases hlt : i < its.size
  · refine W.item i _ _ _ hlt hst' fun v h₁ tk₁ hP hst₁ hk₁ => ?_
    obtain ⟨oI, heI, hcI, hdI⟩ := hst₁.1
    refine go_list heI hcI ?_
    have F₁ := keepF h₁ hk₁
    have N₁ := keepN h₁ hk₁
    have NI : News h₀ L h₁ ((I, oI) :: Led c) := fun p hp => by
      rcases List.mem_cons.mp hp with rfl | hp
      · exact ⟨heI, Ne.symm hL, hI₀⟩
      · exact N₁ p hp
    refine wpAny_mono (turn c i v I oI m' h₁ tk₁ hP hf' hp' hoff' (ksw_fr hk' hr' F₁) NI) (fun _ s₂ h₂ => ?_) fun _ _ e => e
    refine wpOk_mono h₂ fun f s₃ h₃ => ?_
    have fin : LoopEnd h₀ L s Led ps Facts stored m₀ (P (i + 1)) I oI s₃ → ∃ m, m < its.size + 1 - i ∧ ∃ (h' : Heap) (tk : Nat) (m' : Str → Option Value) (i : Nat) (c : σ), s₃ = { s with heap := h', toks := tk } ∧ i ≤ its.size ∧ m = its.size + 1 - i ∧ (h'.IsListIter I l i ∧ h'.IsList l its) ∧ Fr h₀ L h' m' ∧ News h₀ L h' (Led c) ∧ (∀ p ∈ Led c, p.1 ≠ I) ∧ Facts c ∧
      (∀ p ∈ ps c, m' p.1 = some p.2) ∧ (∀ z, (∀ p ∈ ps c, z ≠ p.1) → stored.contains z = false → m' z = m₀ z) ∧ P i c := by
      rintro ⟨c₂, h₂, tk₂, m₂, news₂, rfl, F₂, N₂, hm, hsub, ho₂, hf₂, hk₂, hr₂, hp₂⟩
      refine ⟨its.size + 1 - (i + 1), by omega, h₂, tk₂, m₂, i + 1, c₂, rfl, hlt, rfl, ?_, F₂, fun p hp => N₂ p (hsub p hp), ho₂, hf₂, hk₂, hr₂, hp₂⟩
      refine W.frame _ _ _ hst₁ fun b hb o e => ?_
      rcases List.mem_cons.mp hb with rfl | hb
      · rw [heI] at e; cases e; exact (N₂ _ hm).1
      · rw [List.mem_singleton.mp hb] at e ⊢
        rcases hsrc with ⟨o', e'⟩ | ⟨o', e'⟩
        · have := F₁.keep l o' e'; rw [e] at this; cases this; exact F₂.keep l o e'
        · have := (N₁ _ (e' c hf')).1; rw [e] at this; cases this; exact (N₂ _ (hsub _ (e' c₂ hf₂))).1
    cases f with
    | ret v => exact h₃
    | brk => exact h₃
    | cont => exact fin h₃
    | next => exact fin h₃
  · obtain rfl : i = its.size := Nat.le_antisymm hi (Nat.not_lt.mp hlt)
    refine W.done _ _ _ hst' fun h₁ tk₁ hk₁ => ?_
    exact done c m' h₁ tk₁ hf' hp' (ksw_fr hk' hr' (keepF h₁ hk₁)) (keepN h₁ hk₁)
end
end Mine
end
section -- Ok4
open PySem PySem.W PyProof.Rows PySem.Calls
set_option Elab.async false
set_option maxRecDepth 100000
namespace Mine
section
variable {prog : Program} {w : World} {A : Around} {Q : Flow → Shared → Prop} {s : Shared} {env : Env} {h₀ : Heap} {L : Addr}
theorem go_tuple {target : Expr} {I : Addr} {v : Value} {Q' : Unit → Shared → Prop} {E' : Value → Shared → Prop} {o : Obj} (ho : s.heap.get? I = some o) (hc : o.cls = .type "tuple_iterator") (h : Q' () s) : wpAny (model prog w) A (letOwnedTupleGo target (.ref I) v) Q' E' s := by
  unfold letOwnedTupleGo
  have key : wpAny (model prog w) A (do
    let (.ref r, .ref a) := (Value.ref I, v) | return
    let o ← load r
    match o.cls, o.data with
    | .type n, .fields vs =>
      if ["enumerate", "zip", "dict_itemiterator", "dict_reverseitemiterator", "odict_iterator", "itertools.zip_longest", "itertools.pairwise"].contains n && vs[0]? == some (rawInt a) then
        rule "for.unpacks-the-owned-tuple"
        updateField r 0 .none
    | _, _ => pure ()) Q' E' s := by
    cases v <;> first | exact wpAny_pure h | skip
    refine wpAny_bind (wpAny_load ho ?_)
    rw [hc]
    cases o.data <;> first | exact wpAny_pure h | skip
  cases target <;> first | exact wpAny_pure h | exact key
/-- a for loop over a tuple of the base, whose turns are walked over clean stacks -/
theorem for_tupleOk {σ : Type} {target : Expr} {body : List Stmt} {l : Addr} {its : Array Value} {m₀ : Str → Option Value}
    (Led : σ → List (Addr × Obj)) (ps : σ → List (Str × Value)) (Facts : σ → Prop) (stored : List Str) (P : Nat → σ → Prop) (c₀ : σ)
    (hh : A.handled = none) (hl : s.heap.IsTuple l its) (hsrc : ∃ o, h₀.get? l = some o)
    (F : Fr h₀ L s.heap m₀) (N : News h₀ L s.heap (Led c₀)) (hf : Facts c₀) (hk : ∀ p ∈ ps c₀, m₀ p.1 = some p.2) (hp : P 0 c₀)
    (turn : ∀ (c : σ) i v I oI (u : Str → Option Value) h tk, its[i]? = some v → Facts c → P i c → (∀ p ∈ Led c, p.1 ≠ I) →
      Fr h₀ L h (kstB (fun z => if stored.contains z then u z else m₀ z) (ps c)) → News h₀ L h ((I, oI) :: Led c) →
      wpAny (model prog w) A (assign target env v) (fun _ s₂ => wpOk (model prog w) A (execs body env) (LoopPost h₀ L s Led ps Facts stored m₀ (P (i + 1)) I oI Q) s₂) (fun _ _ => False) { s with heap := h, toks := tk })
    (done : ∀ (c : σ) (u : Str → Option Value) h tk, Facts c → P its.size c → Fr h₀ L h (kstB (fun z => if stored.contains z then u z else m₀ z) (ps c)) → News h₀ L h (Led c) → Q .next { s with heap := h, toks := tk }) :
    wpAny (model prog w) A (pyIter (.ref l)) (fun it s₂ => codeOk (model prog w) A (.forLoop target it body [] env) (okFlow Q) s₂) (fun _ _ => False) s := by
  have hlt : l < s.heap.objs.size := by obtain ⟨_, e, _⟩ := hl; exact Heap.lt_size e
  refine wpAny_pyIter_tuple hl ?_
  generalize hI : s.heap.objs.size = I
  have W := Walks.tuple (prog := prog) (w := w) hh I l (by rw [← hI]; exact Nat.ne_of_lt hlt) its
  have hI₀ : h₀.get? I = none := by rw [← hI]; exact next_is_new F
  have hL : L ≠ I := by rw [← hI]; exact Nat.ne_of_lt F.ns.lt
  have base : ∀ b o, h₀.get? b = some o → b ≠ I := fun b o e q => by rw [q, hI₀] at e; cases e
  refine codeOk_forLoop
    (fun k s' => ∃ (h' : Heap) (tk : Nat) (m' : Str → Option Value) (i : Nat) (c : σ), s' = { s with heap := h', toks := tk } ∧ i ≤ its.size ∧ k = its.size + 1 - i ∧ (h'.IsTupleIter I l i ∧ h'.IsTuple l its) ∧ Fr h₀ L h' m' ∧ News h₀ L h' (Led c) ∧ (∀ p ∈ Led c, p.1 ≠ I) ∧ Facts c ∧
      (∀ p ∈ ps c, m' p.1 = some p.2) ∧ (∀ z, (∀ p ∈ ps c, z ≠ p.1) → stored.contains z = false → m' z = m₀ z) ∧ P i c) ?_ (its.size + 1)
    ⟨_, _, m₀, 0, c₀, rfl, Nat.zero_le _, rfl, ⟨?_, hl.push _⟩, F.push _, (fun p hp => ⟨Heap.get?_push_of_some _ (N p hp).1, (N p hp).2⟩), (fun p hp => by rw [← hI]; exact Nat.ne_of_lt (Heap.lt_size (N p hp).1)), hf, hk, fun _ _ _ => rfl, hp⟩
  rotate_left
  · rw [← hI]; exact ⟨_, Heap.get?_push_size _ rfl, rfl, rfl⟩
  rintro k s' ⟨h', tk, m', i, c, rfl, hi, rfl, hst', F', N', hoff', hf', hk', hr', hp'⟩
  have keepF : ∀ h₁ : Heap, (∀ b o, b ∉ [I] → h'.get? b = some o → h₁.get? b = some o) → Fr h₀ L h₁ m' := fun h₁ hk₁ =>
    ⟨F'.ns.at' fun o e => hk₁ L o (by simpa using hL) e, fun b o e => hk₁ b o (by simpa using base b o e) (F'.keep b o e), F'.above⟩
  have keepN : ∀ h₁ : Heap, (∀ b o, b ∉ [I] → h'.get? b = some o → h₁.get? b = some o) → News h₀ L h₁ (Led c) := fun h₁ hk₁ =>
    fun p hp => ⟨hk₁ _ _ (by simpa using hoff' p hp) (N' p hp).1, (N' p hp).2⟩
  by_cases hlt : i < its.size
  · refine W.item i _ _ _ hlt hst' fun v h₁ tk₁ hP hst₁ hk₁ => ?_
    obtain ⟨oI, heI, hcI, hdI⟩ := hst₁.1
    refine go_tuple heI hcI ?_
    have F₁ := keepF h₁ hk₁
    have N₁ := keepN h₁ hk₁
    have NI : News h₀ L h₁ ((I, oI) :: Led c) := fun p hp => by
      rcases List.mem_cons.mp hp with rfl | hp
      · exact ⟨heI, Ne.symm hL, hI₀⟩
      · exact N₁ p hp
    refine wpAny_mono (turn c i v I oI m' h₁ tk₁ hP hf' hp' hoff' (ksw_fr hk' hr' F₁) NI) (fun _ s₂ h₂ => ?_) fun _ _ e => e
    refine wpOk_mono h₂ fun f s₃ h₃ => ?_
    have fin : LoopEnd h₀ L s Led ps Facts stored m₀ (P (i + 1)) I oI s₃ → ∃ m, m < its.size + 1 - i ∧ ∃ (h' : Heap) (tk : Nat) (m' : Str → Option Value) (i : Nat) (c : σ), s₃ = { s with heap := h', toks := tk } ∧ i ≤ its.size ∧ m = its.size + 1 - i ∧ (h'.IsTupleIter I l i ∧ h'.IsTuple l its) ∧ Fr h₀ L h' m' ∧ News h₀ L h' (Led c) ∧ (∀ p ∈ Led c, p.1 ≠ I) ∧ Facts c ∧
      (∀ p ∈ ps c, m' p.1 = some p.2) ∧ (∀ z, (∀ p ∈ ps c, z ≠ p.1) → stored.contains z = false → m' z = m₀ z) ∧ P i c := by
      rintro ⟨c₂, h₂, tk₂, m₂, news₂, rfl, F₂, N₂, hm, hsub, ho₂, hf₂, hk₂, hr₂, hp₂⟩
      refine ⟨its.size + 1 - (i + 1), by omega, h₂, tk₂, m₂, i + 1, c₂, rfl, hlt, rfl, ?_, F₂, fun p hp => N₂ p (hsub p hp), ho₂, hf₂, hk₂, hr₂, hp₂⟩
      refine W.frame _ _ _ hst₁ fun b hb o e => ?_
      rcases List.mem_cons.mp hb with rfl | hb
      · rw [heI] at e; cases e; exact (N₂ _ hm).1
      · rw [List.mem_singleton.mp hb] at e ⊢
        obtain ⟨o', e'⟩ := hsrc
        have := F₁.keep l o' e'; rw [e] at this; cases this; exact F₂.keep l o e'
    cases f with
    | ret v => exact h₃
    | brk => exact h₃
    | cont => exact fin h₃
    | next => exact fin h₃
  · obtain rfl : i = its.size := Nat.le_antisymm hi (Nat.not_lt.mp hlt)
    refine W.done _ _ _ hst' fun h₁ tk₁ hk₁ => ?_
    exact done c m' h₁ tk₁ hf' hp' (ksw_fr hk' hr' (keepF h₁ hk₁)) (keepN h₁ hk₁)
end
end Mine
end
section -- Byt
open PySem PySem.W PyProof.Rows PySem.Calls
set_option Elab.async false
set_option maxRecDepth 100000
namespace Mine
namespace FBA
theorem mro : mroOf (.type "bytearray") = pure [.type "bytearray", .type "object"] := by rw [mroOf_type]; kernel_rfl
theorem look_new : typeLookup (.type "bytearray") "__new__" = pure (some (.builtin "bytearray.__new__")) := by rw [typeLookup_type, builtinLookup_eq_fast]; kernel_rfl
theorem slot_init : Slot "bytearray" "__init__" "bytearray.__init__" :=
  .of (owner := "bytearray") (n := "__init__") (by rw [typeLookup_type, builtinLookup_eq_fast]; kernel_rfl) (by decide +kernel) (by decide +kernel) (by decide +kernel)
    (by first | exact .inl (by decide +kernel) | exact .inr (by decide +kernel)) (by rw [isSubtype_type]; kernel_rfl)
theorem called : TypeCalled "bytearray" "bytearray.__new__" "bytearray.__init__" :=
  ⟨by decide +kernel, by decide +kernel, ⟨_, _, mro⟩, madeBy_type mro look_new (by decide +kernel), by decide +kernel, by rw [isSubtype_type]; kernel_rfl, slot_init⟩
theorem typeCall_0 : checkTypeCall "bytearray" ⟨[], []⟩ = pure () := by kernel_rfl
theorem newCall_0 : checkBuiltinCall "bytearray.__new__" ⟨[.type "bytearray"], []⟩ = pure () := by kernel_rfl
theorem entry_new : entryFor table "bytearray.__new__" = some Builtin.«list.__new__» := entryFor_alias (id' := "list.__new__") (by kernel_rfl) rfl (by decide +kernel) (by kernel_rfl)
theorem plain_new : plainId "bytearray.__new__" = true := by decide +kernel
theorem owner_ba : Manifest.owners.lookup (String.ofList ['y', 'a', 'r', 'r', 'a', 'e', 't', 'y', 'b'].reverse) = some Manifest.sig_bytearray := by kernel_rfl
theorem entry_init : entryFor table "bytearray.__init__" = some Builtin.«bytearray.__init__» := entryFor_of_tree (by kernel_rfl)
theorem args_init_1 (a : Value) : argsOk "bytearray.__init__" ⟨[a], []⟩ := by
  unfold argsOk; rw [signature?_of (id := "bytearray.__init__") (n := ['_', '_', 't', 'i', 'n', 'i', '_', '_']) (o := ['y', 'a', 'r', 'r', 'a', 'e', 't', 'y', 'b']) (by kernel_rfl) owner_ba]; kernel_rfl
theorem slot_append : Slot "bytearray" "append" "bytearray.append" :=
  .of (owner := "bytearray") (n := "append") (by rw [typeLookup_type, builtinLookup_eq_fast]; kernel_rfl) (by decide +kernel) (by decide +kernel) (by decide +kernel)
    (by first | exact .inl (by decide +kernel) | exact .inr (by decide +kernel)) (by rw [isSubtype_type]; kernel_rfl)
theorem entry_append : entryFor table "bytearray.append" = some Builtin.«bytearray.append» := entryFor_of_tree (by kernel_rfl)
theorem type_append : typeOf (.builtin "bytearray.append") = pure (.type "method_descriptor") := by show builtinType _ = _; rw [builtinType_eq_fast]; kernel_rfl
theorem args_append_2 (a b : Value) : argsOk "bytearray.append" ⟨[a, b], []⟩ := by
  unfold argsOk; rw [signature?_of (id := "bytearray.append") (n := ['d', 'n', 'e', 'p', 'p', 'a']) (o := ['y', 'a', 'r', 'r', 'a', 'e', 't', 'y', 'b']) (by kernel_rfl) owner_ba]; kernel_rfl
theorem plainAttrs : PlainAttrs "bytearray" :=
  ⟨⟨"bytearray.__getattribute__", by rw [typeLookup_type, builtinLookup_eq_fast]; kernel_rfl, by decide +kernel⟩, by rw [typeLookup_type, builtinLookup_eq_fast]; kernel_rfl⟩
theorem look_release : typeLookup (.type "bytearray") "__release_buffer__" = pure (some (.builtin "bytearray.__release_buffer__")) := by rw [typeLookup_type, builtinLookup_eq_fast]; kernel_rfl
theorem look_buffer : typeLookup (.type "bytearray") "__buffer__" = pure (some (.builtin "bytearray.__buffer__")) := by rw [typeLookup_type, builtinLookup_eq_fast]; kernel_rfl
theorem noBytes : typeLookup (.type "bytearray") "__bytes__" = pure none := by rw [typeLookup_type, builtinLookup_eq_fast]; kernel_rfl
theorem noIndex : typeLookup (.type "bytearray") "__index__" = pure none := by rw [typeLookup_type, builtinLookup_eq_fast]; kernel_rfl
theorem look_bytes : typeLookup (.type "bytes") "__bytes__" = pure (some (.builtin "bytes.__bytes__")) := by rw [typeLookup_type, builtinLookup_eq_fast]; kernel_rfl
theorem sub_self : isSubtype (.type "bytearray") (.type "bytearray") = pure true := by rw [isSubtype_type]; kernel_rfl
end FBA
set_option maxRecDepth 1000000 in
set_option maxHeartbeats 4000000 in
theorem owner_ba_new : ("bytearray.__new__".splitOn ".__new__").headD "" = "bytearray" := by simp +decide [String.splitOn, String.splitOnAux]

abbrev baOf (b : Array UInt8) : Obj := { cls := .type "bytearray", dict := none, data := .bytearray b 0, slots := #[] }

section
variable {M : Model} {A : Around} {s : Shared}
theorem exported_ok {self : Value} {Q : Bool → Shared → Prop} (h : Q false s) : wpOk M A (Builtin.Bytes.exported self) Q s := fun Γ p hΓ h1 h2 => by
  have h3 : Clean ((Γ.code, p) :: Γ.below) := clean_cons h1 h2
  unfold Builtin.Bytes.exported
  show Q (List.any ((Γ.code, p) :: Γ.below) _) s
  have e : ∀ f : Code × Pos → Bool, (∀ q, holdsMem q.1 = false → f q = false) → List.any ((Γ.code, p) :: Γ.below) f = false := fun f hf => by
    rw [List.any_eq_false]
    intro q hq
    rw [hf q (h3 q hq)]; exact Bool.false_ne_true
  rw [e _ ?_]
  · exact h
  · intro q hq
    split
    all_goals first
      | rfl
      | (exfalso; revert hq; simp [holdsMem]; done)
      | skip
    · rename_i id v _ _ _ _ _ _ _ _
      simp only [holdsMem, Bool.or_eq_false_iff] at hq
      rw [hq.1, Bool.and_false]
theorem ok_if_false {α : Type} {c : Bool} {a b : Sem α} {Q : α → Shared → Prop} (hc : c = false) (h : wpOk M A b Q s) : wpOk M A (if c = true then a else b) Q s := by
  subst hc; simpa using h
theorem ok_if_true {α : Type} {c : Bool} {a b : Sem α} {Q : α → Shared → Prop} (hc : c = true) (h : wpOk M A a Q s) : wpOk M A (if c = true then a else b) Q s := by
  subst hc; simpa using h
theorem any_if_false {α : Type} {E : Value → Shared → Prop} {c : Bool} {a b : Sem α} {Q : α → Shared → Prop} (hc : c = false) (h : wpAny M A b Q E s) : wpAny M A (if c = true then a else b) Q E s := by
  subst hc; simpa using h
theorem slotIsOwn_of {self : Value} {T name id : String} {E : Value → Shared → Prop} {Q : Bool → Shared → Prop} (hT : s.TypeIs self T) (hl : typeLookup (.type T) (name : Str) = pure (some (.builtin id))) (he : id.endsWith ("." ++ name) = true)
    (hd : id.dropRight (name.length + 1) = T) (hs : isSubtype (.type T) (.type T) = pure true) (h : Q true s) : wpAny M A (Builtin.Bytes.slotIsOwn self name) Q E s := by
  unfold Builtin.Bytes.slotIsOwn
  refine wpAny_bind (wpAny_specialOf hT hl ?_)
  dsimp only
  refine any_if_false (by rw [he]; rfl) ?_
  rw [hd]
  exact wpAny_isInstance hT hs h
theorem ownRelease_ba {self : Value} {E : Value → Shared → Prop} {Q : Bool → Shared → Prop} (hT : s.TypeIs self "bytearray") (h : Q false s) : wpAny M A (Builtin.Bytes.ownRelease self) Q E s := by
  unfold Builtin.Bytes.ownRelease
  exact wpAny_bind (slotIsOwn_of hT FBA.look_release (by decide +kernel) (by decide +kernel) FBA.sub_self (wpAny_pure h))
theorem exportsOf_ba {a : Addr} {b : Array UInt8} {E : Value → Shared → Prop} {Q : Nat → Shared → Prop} (ho : s.heap.get? a = some (baOf b)) (h : Q 0 s) : wpAny M A (Builtin.Bytes.exportsOf (.ref a)) Q E s := by
  unfold Builtin.Bytes.exportsOf
  exact wpAny_bind (wpAny_load ho (wpAny_pure h))
theorem write_ba {a : Addr} {b : Array UInt8} {f : Array UInt8 → Array UInt8} {E : Value → Shared → Prop} {Q : Unit → Shared → Prop} (ho : s.heap.get? a = some (baOf b)) (hz : (f b).size ≤ sizeLine)
    (h : ∀ h', Heap.SameBut a s.heap h' → h'.get? a = some (baOf (f b)) → Q () { s with heap := h' }) : wpAny M A (Builtin.Bytes.write (.ref a) f) Q E s := by
  show wpAny M A (updateBytearray a f) Q E s
  unfold updateBytearray
  refine wpAny_bind (wpAny_load ho ?_)
  dsimp only
  refine wpAny_bind (wpAny_update ho ?_)
  have h1 : (s.heap.update a (Obj.mapBytearray f)).get? a = some (baOf (f b)) := Heap.get?_update_self _ ho rfl
  refine wpAny_lookBehind h1 ?_ (h _ (Heap.SameBut.update ..) h1)
  show (if (f b).size > sizeLine then some "bytearray:memory" else none) = none
  rw [if_neg (Nat.not_lt.mpr hz)]
theorem looked_ok {a : Addr} {b : Array UInt8} {Q : Bool → Shared → Prop} (ho : s.heap.get? a = some (baOf b)) (h : Q false s) :
    wpOk M A (Builtin.Bytes.exported (.ref a) <||> (do return decide ((← Builtin.Bytes.exportsOf (.ref a)) > 0))) Q s := by
  unfold orM
  refine wpOk_bind (exported_ok ?_)
  show wpOk M A (do return decide ((← Builtin.Bytes.exportsOf (.ref a)) > 0)) Q s
  exact wpOk_then (exportsOf_ba ho (wpOk_pure h))
end

section
variable {prog : Program} {w : World} {A : Around} {E : Value → Shared → Prop} {s : Shared}
theorem code_ba_new {Q₁ : Value → Shared → Prop} (h : Q₁ (.ref s.heap.objs.size) { s with heap := s.heap.push { cls := .type "bytearray", data := .bytearray #[] } }) :
    codeAny (model prog w) A (.call (.builtin "bytearray.__new__") ⟨[.type "bytearray"], []⟩) (wants Q₁ (fun _ _ => False)) s := by
  refine codeAny_of_tree ?_
  show wpAny _ A.in1 (do checkBuiltinCall "bytearray.__new__" ⟨[.type "bytearray"], []⟩; again (.builtin "bytearray.__new__" ⟨[.type "bytearray"], []⟩)) _ _ s
  refine wpAny_bind (wpAny_of_eq FBA.newCall_0 (wpAny_pure ⟨plainId_quiet FBA.plain_new _, codeAny_builtin_stack FBA.entry_new rfl fun p st => ?_⟩))
  rw [Around.under_plainId FBA.plain_new _]
  have hsub := FBA.sub_self
  have hown := owner_ba_new
  obtain ⟨hp, g, d, tk, os⟩ := s
  simp only [hown]
  wp_walk
  exact h

theorem ba_init {a : Addr} {Q : Value → Shared → Prop} (ho : s.heap.get? a = some (baOf #[])) (h : ∀ h', Heap.SameBut a s.heap h' → h'.get? a = some (baOf #[]) → Q .none { s with heap := h' }) :
    wpOk (model prog w) A (Builtin.«bytearray.__init__» ⟨[.ref a], []⟩) (fun fin s' => ∃ v, fin = .done (.ret v) ∧ Q v s') s := by
  have hT : s.TypeIs (.ref a) "bytearray" := ⟨_, ho, rfl⟩
  unfold Builtin.«bytearray.__init__»
  refine wpOk_then (ownRelease_ba hT ?_)
  refine ok_if_false rfl ?_
  refine wpOk_bind (m := Builtin.Bytes.bindOptional "bytearray.__init__" "bytearray" ["source", "encoding", "errors"] [] []) ?_
  rw [show Builtin.Bytes.bindOptional "bytearray.__init__" "bytearray" ["source", "encoding", "errors"] [] [] = pure [none, none, none] by kernel_rfl]
  refine wpOk_pure ?_
  refine wpOk_bind (m := Builtin.Bytes.checkCodecArg "bytearray.__init__" "bytearray" "encoding" none) (wpOk_pure ?_)
  refine wpOk_bind (m := Builtin.Bytes.checkCodecArg "bytearray.__init__" "bytearray" "errors" none) (wpOk_pure ?_)
  refine wpOk_bind (looked_ok ho ?_)
  refine ok_if_false rfl ?_
  refine wpOk_then (write_ba ho (Nat.zero_le _) fun h' hs h1 => ?_)
  exact wpOk_pure ⟨_, rfl, h _ hs h1⟩
end
end Mine
end
section -- Byt2
open PySem PySem.W PyProof.Rows PySem.Calls
set_option Elab.async false
set_option maxRecDepth 100000
namespace Mine
section
variable {prog : Program} {w : World} {A : Around} {E : Value → Shared → Prop} {s : Shared}
theorem fin_of_ret {R : Result → Shared → Prop} {A A' : Around} {M : Model} {t : Sem Fin} {Q : Value → Shared → Prop} (h : wpOk M A' t (fun fin s' => ∃ v, fin = .done (.ret v) ∧ Q v s') s) (hR : ∀ v s', Q v s' → R (.ok (.ret v)) s') : wpOk M A' t (finOk M A R) s :=
  wpOk_mono h fun fin s' h' => by obtain ⟨v, rfl, hv⟩ := h'; exact hR _ _ hv

theorem hm_of (id : String) (args : Args) (h : (Builtin.Bytes.decodersThatHold.contains id || (["bytearray.__contains__", "bytearray.__mod__", "bytearray.__rmod__", "_struct.pack_into.held", "bytearray.find.held"] : List String).contains id) = false) : holdsMem (.builtin id args) = false := h
theorem call_bytearray_ok {Q : Value → Shared → Prop} (h : ∀ h', (∀ b o, s.heap.get? b = some o → h'.get? b = some o) → h'.get? s.heap.objs.size = some (baOf #[]) → Q (.ref s.heap.objs.size) { s with heap := h' }) :
    wpOk (model prog w) A (call (.type "bytearray") []) Q s := by
  obtain ⟨c, tl, hmro⟩ := FBA.called.mro
  refine wpOk_call (codeOk_of_tree rfl ?_)
  show wpOk _ _ (callAny (.type "bytearray") _) _ _
  refine wpOk_pure ⟨Code.quiet_builtin _ (by decide +kernel), codeOk_builtin (hm_of _ _ (by decide +kernel)) F.entry_type_call ?_⟩
  rw [Around.under_plain (weight_type_call_type "bytearray" [] []) rfl]
  unfold Builtin.«type.__call__»
  refine ok_if_false (by decide) ?_
  refine ok_if_false FBA.called.canCreate ?_
  refine wpOk_bind (m := checkTypeCall "bytearray" ⟨[], []⟩) ?_
  rw [FBA.typeCall_0]
  refine wpOk_pure ?_
  refine wpOk_bind (m := mroOf (.type "bytearray")) ?_
  rw [hmro]
  refine wpOk_pure ?_
  refine ok_if_false rfl ?_
  refine wpOk_bind (m := Bind.madeBy (.type "bytearray")) ?_
  rw [FBA.called.made]
  refine wpOk_pure ?_
  refine wpOk_bind (wpOk_pure ?_)
  refine wpOk_then (wpAny_holding (wpAny_call (codeAny_mono (code_ba_new (Q₁ := fun v s₁ => v = .ref s.heap.objs.size ∧ s₁ = { s with heap := s.heap.push { cls := .type "bytearray", data := .bytearray #[] } }) ⟨rfl, rfl⟩) fun r s₁ hr => ?_)))
  cases r with
  | error e => exact hr
  | ok fl =>
    cases fl with
    | ret obj =>
      obtain ⟨rfl, rfl⟩ := hr
      have hS : (s.heap.push { cls := .type "bytearray", data := .bytearray #[] }).get? s.heap.objs.size = some (baOf #[]) := Heap.get?_push_size _ rfl
      have hT : Shared.TypeIs { s with heap := s.heap.push { cls := .type "bytearray", data := .bytearray #[] } } (.ref s.heap.objs.size) "bytearray" := ⟨_, hS, rfl⟩
      dsimp only
      refine wpOk_then (wpAny_isInstance hT FBA.sub_self ?_)
      refine ok_if_false rfl ?_
      refine wpOk_bind (wpOk_holding ?_)
      unfold callSpecial?
      refine wpOk_then (wpAny_specialOf hT FBA.slot_init.lookup ?_)
      dsimp only
      refine wpOk_holding ?_
      rw [FBA.slot_init.bind]
      refine wpOk_bind (wpOk_pure ?_)
      refine wpOk_bind (m := call (.builtin "bytearray.__init__") ([.ref s.heap.objs.size] ++ []) []) ?_
      refine wpOk_call (codeOk_call_builtin (hm_of _ _ (by decide +kernel)) FBA.slot_init.plain FBA.entry_init (FBA.slot_init.check _ _ _ _ _ _ _ _ hT (FBA.args_init_1 _) ?_))
      refine fin_of_ret (Q := fun v s' => v = .none ∧ Q (.ref s.heap.objs.size) s') (ba_init (s := { s with heap := s.heap.push { cls := .type "bytearray", data := .bytearray #[] } }) hS fun h' hs h1 => ⟨rfl, h h' (fun b o e => hs.extBut b o (Nat.ne_of_lt (Heap.lt_size e)) (Heap.get?_push_of_some _ e)) h1⟩) ?_
      rintro v s' ⟨rfl, hq⟩
      refine wpOk_pure ?_
      refine ok_if_false rfl ?_
      exact wpOk_pure hq
    | _ => exact hr

theorem append_ok {a : Addr} {b : Array UInt8} {n : Int} {t : Tok} {Q : Value → Shared → Prop} (ho : s.heap.get? a = some (baOf b)) (h0 : 0 ≤ n) (h1 : n < 256) (hz : b.size < sizeLine)
    (h : ∀ h', Heap.SameBut a s.heap h' → h'.get? a = some (baOf (b.push n.toNat.toUInt8)) → Q .none { s with heap := h' }) : wpOk (model prog w) A (call (.builtin "bytearray.append") [.ref a, .int n t]) Q s := by
  have hT : s.TypeIs (.ref a) "bytearray" := ⟨_, ho, rfl⟩
  refine wpOk_call (codeOk_call_builtin (hm_of _ _ (by decide +kernel)) FBA.slot_append.plain FBA.entry_append (FBA.slot_append.check _ _ _ _ _ _ _ _ hT (FBA.args_append_2 _ _) ?_))
  refine fin_of_ret (Q := Q) (R := okValue Q) ?_ fun v s' q => q
  unfold Builtin.«bytearray.append»
  refine wpOk_bind (m := selfAndOne "bytearray.append" ⟨[.ref a, .int n t], []⟩) (wpOk_pure ?_)
  dsimp only
  refine wpOk_bind (m := Builtin.Bytes.byteValue (.int n t)) ?_
  unfold Builtin.Bytes.byteValue
  refine wpOk_bind (m := asIndex (.int n t)) (wpOk_pure ?_)
  refine ok_if_false (by simp; omega) ?_
  refine wpOk_pure ?_
  refine wpOk_bind (m := Builtin.Bytes.checkResize (.ref a)) ?_
  unfold Builtin.Bytes.checkResize
  refine wpOk_bind (looked_ok ho ?_)
  refine ok_if_false rfl (wpOk_pure ?_)
  refine wpOk_then (write_ba ho (by rw [Array.size_push]; exact hz) fun h' hs h1 => ?_)
  exact wpOk_pure ⟨_, rfl, h _ hs h1⟩

theorem meets_bytes_same (b : Array UInt8) (t : Tok) : Meets (Builtin.«bytes.__new__» ⟨[.type "bytes", .bytes b t], []⟩) (fun _ R s => R (.ok (.ret (.bytes b t))) s) :=
  .of_wp fun prog w A R s h => by
    have hT : s.TypeIs (.bytes b t) "bytes" := typeIs_bytes s b t
    unfold Builtin.«bytes.__new__»
    refine wpAny_bind (wpAny_of_eq (a := true) rfl ?_)
    refine any_if_false rfl ?_
    refine wpAny_bind (wpAny_of_eq F.bm_sub ?_)
    refine any_if_false rfl ?_
    refine wpAny_bind (wpAny_of_eq (F.bm_bind _) ?_)
    refine wpAny_bind (wpAny_of_eq (a := ()) rfl ?_)
    refine wpAny_bind (wpAny_of_eq (a := ()) rfl ?_)
    refine any_if_false rfl ?_
    refine wpAny_bind (wpAny_specialOf hT FBA.look_bytes ?_)
    dsimp only
    refine wpAny_bind (wpAny_rule ?_)
    refine wpAny_bind (wpAny_typeOf hT ?_)
    exact wpAny_pure ⟨_, rfl, h⟩
theorem bytes_same {b : Array UInt8} {t : Tok} {Q : Value → Shared → Prop} (h : Q (.bytes b t) s) : wpAny (model prog w) A (call (.type "bytes") [.bytes b t]) Q E s :=
  callType_new F.bm_called (by decide) (F.bm_typeCall _) (F.bm_newCall _) (fun obj => F.args_object_init_2 obj _) F.bm_entry (meets_bytes_same b t) ⟨typeIs_bytes _ _ _, h⟩

theorem meets_bytes_ba (a : Addr) (b : Array UInt8) : Meets (Builtin.«bytes.__new__» ⟨[.type "bytes", .ref a], []⟩) (fun _ R s => s.heap.get? a = some (baOf b) ∧ b.size ≤ sizeLine ∧ R (.ok (.ret (.bytes b s.toks))) { s with toks := s.toks + 1 }) :=
  .of_wp fun prog w A R s h => by
    obtain ⟨ho, hz, h⟩ := h
    have hT : s.TypeIs (.ref a) "bytearray" := ⟨_, ho, rfl⟩
    unfold Builtin.«bytes.__new__»
    refine wpAny_bind (wpAny_of_eq (a := true) rfl ?_)
    refine any_if_false rfl ?_
    refine wpAny_bind (wpAny_of_eq F.bm_sub ?_)
    refine any_if_false rfl ?_
    refine wpAny_bind (wpAny_of_eq (F.bm_bind _) ?_)
    refine wpAny_bind (wpAny_of_eq (a := ()) rfl ?_)
    refine wpAny_bind (wpAny_of_eq (a := ()) rfl ?_)
    refine any_if_false rfl ?_
    refine wpAny_bind (wpAny_specialOf hT FBA.noBytes ?_)
    refine wpAny_bind (wpAny_bind ?_)
    show wpAny _ _ (load a >>= _) _ _ _
    refine wpAny_bind (wpAny_load ho ?_)
    refine wpAny_pure (wpAny_pure ?_)
    refine any_if_false rfl ?_
    refine wpAny_bind (wpAny_specialOf hT FBA.noIndex ?_)
    refine bm_if_true rfl ?_
    first
      | show wpAny _ _ (Builtin.Bytes.buffer? "bytes.__new__" (.ref a) true >>= _) _ _ _
      | (refine wpAny_bind ?_; show wpAny _ _ (Builtin.Bytes.buffer? "bytes.__new__" (.ref a) true >>= _) _ _ _)
    refine wpAny_bind ?_
    unfold Builtin.Bytes.buffer?
    refine wpAny_bind (wpAny_specialOf hT FBA.look_buffer ?_)
    refine wpAny_bind (slotIsOwn_of hT FBA.look_buffer (by decide +kernel) (by decide +kernel) FBA.sub_self ?_)
    refine any_if_false rfl ?_
    refine wpAny_bind (wpAny_specialOf hT FBA.look_buffer ?_)
    refine wpAny_bind (ownRelease_ba hT ?_)
    refine any_if_false rfl ?_
    refine wpAny_bind (m := Builtin.Bytes.payload (.ref a)) ?_
    unfold Builtin.Bytes.payload Builtin.Bytes.payload?
    refine wpAny_bind (wpAny_bind (wpAny_load ho (wpAny_pure ?_)))
    refine wpAny_pure (wpAny_pure ?_)
    refine wpAny_bind (wpAny_rule ?_)
    refine wpAny_bind (wpAny_mkBytes ?_ hz)
    exact wpAny_pure ⟨_, rfl, h⟩
theorem bytes_ba {a : Addr} {b : Array UInt8} {Q : Value → Shared → Prop} (ho : s.heap.get? a = some (baOf b)) (hz : b.size ≤ sizeLine) (h : Q (.bytes b s.toks) { s with toks := s.toks + 1 }) : wpAny (model prog w) A (call (.type "bytes") [.ref a]) Q E s :=
  callType_new F.bm_called (by decide) (F.bm_typeCall _) (F.bm_newCall _) (fun obj => F.args_object_init_2 obj _) F.bm_entry (meets_bytes_ba a b) ⟨ho, hz, typeIs_bytes _ _ _, h⟩
end
end Mine
end
section -- Byt3
open PySem PySem.W PyProof.Rows PySem.Calls
set_option Elab.async false
set_option maxRecDepth 100000
namespace Mine
section
variable {prog : Program} {w : World} {A : Around} {E : Value → Shared → Prop} {s : Shared} {value slice : PySem.Expr} {b c : Array UInt8} {t u : Tok} {h₀ : Heap} {L : Addr} {m : PySem.Str → Option Value} {news : List (Addr × Obj)} {Q : Value → Shared → Prop} {ks ls : List Int}
theorem slice_to {n : Nat} {i : Int} (F : Fr h₀ L s.heap m) (N : News h₀ L s.heap news) (hk : KBw.bInts b = ks) (hz : ks.length ≤ 100000) (hn : i = (n : Int))
    (h : ∀ h' t' k c, Fr h₀ L h' m → News h₀ L h' news → KBw.bInts c = ks.take n → (ks.take n).length = min n ks.length → Q (.bytes c t') { s with heap := h', toks := k })
    (hs : subscripted slice false (.bytes b t) (.ref s.heap.objs.size) = operate [.ref s.heap.objs.size, .bytes b t] (getItem (.bytes b t) (.ref s.heap.objs.size)) := by with_unfolding_all rfl)
    (ht : ∀ r, letTemporaryGo value (.bytes b t) r = pure () := by intro _; with_unfolding_all rfl) :
    wpAny (model prog w) A (subscriptTail value slice (.bytes b t) (.ref s.heap.objs.size)) Q E { s with heap := s.heap.push { cls := .type "slice", data := .fields #[.none, .int i u, .none] } } := by
  subst hn
  refine KBc.slice_K (lo := none) (hi := some (n : Int)) F N hk (by constructor) (by constructor) (by omega) (fun h' t' k F' N' e => h h' t' k _ F' N' ?_ (by simp)) hs ht
  rw [e]
  simp only [Option.elim, List.drop_zero, Nat.sub_zero]
  rw [clipAt_nat]
  rcases Nat.le_total n ks.length with h1 | h1
  · rw [Nat.min_eq_left h1]
  · rw [Nat.min_eq_right h1, List.take_of_length_le (Nat.le_refl _), List.take_of_length_le h1]
theorem slice_from {n : Nat} {i : Int} (F : Fr h₀ L s.heap m) (N : News h₀ L s.heap news) (hk : KBw.bInts b = ks) (hz : ks.length ≤ 100000) (hn : i = (n : Int))
    (h : ∀ h' t' k c, Fr h₀ L h' m → News h₀ L h' news → KBw.bInts c = ks.drop n → (ks.drop n).length = ks.length - n → Q (.bytes c t') { s with heap := h', toks := k })
    (hs : subscripted slice false (.bytes b t) (.ref s.heap.objs.size) = operate [.ref s.heap.objs.size, .bytes b t] (getItem (.bytes b t) (.ref s.heap.objs.size)) := by with_unfolding_all rfl)
    (ht : ∀ r, letTemporaryGo value (.bytes b t) r = pure () := by intro _; with_unfolding_all rfl) :
    wpAny (model prog w) A (subscriptTail value slice (.bytes b t) (.ref s.heap.objs.size)) Q E { s with heap := s.heap.push { cls := .type "slice", data := .fields #[.int i u, .none, .none] } } := by
  subst hn
  refine KBc.slice_K (lo := some (n : Int)) (hi := none) F N hk (by constructor) (by constructor) (by omega) (fun h' t' k F' N' e => h h' t' k _ F' N' ?_ (by simp)) hs ht
  rw [e]
  simp only [Option.elim]
  rw [clipAt_nat]
  rcases Nat.le_total n ks.length with h1 | h1
  · rw [Nat.min_eq_left h1, List.take_of_length_le (by simp)]
  · rw [Nat.min_eq_right h1, List.drop_of_length_le (Nat.le_refl _), List.drop_of_length_le h1]; simp
theorem blanks_mul {x : List UInt8} {n : Int} (hx : x = [32]) (hlo : -1048576 ≤ n) (hn : n ≤ 1048576) (h : ∀ t' k c, KBw.bInts c = List.replicate n.toNat 32 → Q (.bytes c t') { s with toks := k }) :
    wpAny (model prog w) A (binaryOp .Mult (.bytes x.toArray t) (.int n u)) Q E s := by
  subst hx
  refine bytes_mul_any (List.cons_ne_nil _ _) hlo hn (by decide) fun t' k => h t' k _ ?_
  have e : (List.replicate n.toNat [(32 : UInt8)]).flatten = List.replicate n.toNat 32 := by simp
  rw [e, KBw.ints_list, List.map_replicate]
  rfl
theorem bytes_add (hb : KBw.bInts b = ks) (hc : KBw.bInts c = ls) (hsz : ks.length + ls.length ≤ 16777216) (h : ∀ t' k d, KBw.bInts d = ks ++ ls → Q (.bytes d t') { s with toks := k }) : wpAny (model prog w) A (binaryOp .Add (.bytes b t) (.bytes c u)) Q E s :=
  KBa.add_K hb hc hsz fun t' k e => h t' k _ e
end
theorem bInts_push {b : Array UInt8} {n : Int} (h0 : 0 ≤ n) (h1 : n < 256) : KBw.bInts (b.push n.toNat.toUInt8) = KBw.bInts b ++ [n] := by
  have e := byte_back h0 h1
  show ((b.push n.toNat.toUInt8).toList.map fun c => (c.toNat : Int)) = _
  rw [Array.toList_push, List.map_append]
  show _ ++ [((n.toNat.toUInt8.toNat : Nat) : Int)] = _
  rw [e]; rfl
end Mine
end
section -- Byt4
open PySem PySem.W PyProof.Rows PySem.Calls
set_option Elab.async false
set_option maxRecDepth 100000
namespace Mine
section
variable {M : Model} {A : Around} {s : Shared} {env : Env}
theorem wpOk_spliced_cons {x : Sem Value} {rest : List (Bool × Sem Value)} {Q : List Value → Shared → Prop} (h : wpOk M A x (fun v s₁ => wpAny M A (spliced rest) (fun vs s₂ => Q (v :: vs) s₂) (fun _ _ => False) s₁) s) : wpOk M A (spliced ((false, x) :: rest)) Q s := by
  rw [spliced]
  refine wpOk_bind (wpOk_mono h fun v s₁ h₁ => ?_)
  simp only [Bool.false_eq_true, if_false]
  exact wpOk_bind (wpOk_pure (wpOk_then (wpAny_holding (wpAny_mono h₁ (fun vs s₂ h₂ => wpOk_pure h₂) fun _ _ x => x))))
theorem wpOk_Tuple {e : Expr} {rest : List Expr} {k : Nat} {pos : Pos} {Q : Value → Shared → Prop}
    (h : wpOk M A (eval e env) (fun v s₁ => wpAny M A (spliced (backTo pos (starEach rest env))) (fun vs s₂ => wpAny M A (newTuple (v :: vs)) Q (fun _ _ => False) s₂) (fun _ _ => False) s₁) s)
    (he : starEach (e :: rest) env = (false, eval e env) :: starEach rest env := by rfl) : wpOk M A (eval (.Tuple (e :: rest) k pos) env) Q s := by
  show wpOk M A (do standAt pos; newTuple (← spliced (backTo pos (starEach (e :: rest) env)))) Q s
  rw [he]
  exact wpOk_bind (wpOk_standAt (wpOk_bind (wpOk_spliced_cons (wpOk_mono h fun v s₁ h₁ => wpAny_mono h₁ (fun vs s₂ h₂ => wpOk_of_any h₂) fun _ _ x => x))))
theorem wpOk_Assign_swapped {elts : List Expr} {k : Nat} {tpos pos : Pos} {value : Expr} {names : List Str} {Q : Flow → Shared → Prop}
    (h : wpOk M A (eval value env) (fun v s₁ => wpAny M A (unpackItems v names.length none) (fun items s₂ =>
      wpAny M A (assignInOrder (names.reverse.map fun n => bindName env n) items.reverse) (fun _ => Q .next) (fun _ _ => False) s₂) (fun _ _ => False) s₁) s)
    (hs : swapsWithSole [.Tuple elts k tpos] value pos.line env = pure false := by rfl)
    (hw : swappedStores [.Tuple elts k tpos] value env = pure (some names) := by rfl) : wpOk M A (exec (.Assign [.Tuple elts k tpos] value pos) env) Q s := by
  rw [exec_Assign]
  refine wpOk_bind (wpOk_standAt ?_)
  rw [hs]
  refine wpOk_bind (wpOk_pure ?_)
  rw [if_neg (by decide)]
  refine wpOk_bind (wpOk_mono h fun v s₁ h₁ => ?_)
  rw [hw]
  refine wpOk_bind (wpOk_pure ?_)
  show wpOk M A (do rule "assign.swapped-stores"; let items ← unpackItems v names.length none; assignInOrder (names.reverse.map fun n => bindName env n) items.reverse; pure .next) Q s₁
  exact wpOk_then (wpAny_rule (wpOk_then (wpAny_mono h₁ (fun items s₂ h₂ => wpOk_then (wpAny_mono h₂ (fun _ _ x => wpOk_pure x) fun _ _ x => x)) fun _ _ x => x)))
theorem wpOk_callWith_type0 {pos : Pos} {T : String} {Q : Value → Shared → Prop} (h : wpOk M A (call (.type T) []) Q s) : wpOk M A (callWith pos (.type T) [] (backTo pos (starEach [] env)) []) Q s :=
  wpOk_callWith rfl rfl (evalArgs_nil3 h)
theorem wpOk_callWith_method1 {pos : Pos} {id : String} {first : List Value} {e : Expr} {rest : List Expr} {Q : Value → Shared → Prop}
    (h : wpAny M A (spliced (backTo pos (starEach (e :: rest) env))) (fun vs s₁ => wpOk M A (call (.builtin id) (first ++ vs)) Q s₁) (fun _ _ => False) s)
    (he : starEach (e :: rest) env = (false, eval e env) :: starEach rest env := by rfl)
    (hplain : (backTo pos (starEach rest env)).any (·.1) = false := by rfl) : wpOk M A (callWith pos (.builtin id) first (backTo pos (starEach (e :: rest) env)) []) Q s := by
  rw [he] at h ⊢
  exact wpOk_callWith rfl (by show (false || (backTo pos (starEach rest env)).any (·.1)) = false; rw [hplain]; rfl) (evalArgs_plain h)
theorem wpOk_callWith_fn {pos : Pos} {a : Addr} {o : Obj} {fd : FuncData} {e : Expr} {rest : List Expr} {Q : Value → Shared → Prop} (hdat : o.data = .func fd)
    (h : wpAny M A (spliced (backTo pos (starEach (e :: rest) env))) (fun vs s₁ => s₁.heap.get? a = some o ∧ wpOk M A (call (.ref a) vs) Q s₁) (fun _ _ => False) s)
    (he : starEach (e :: rest) env = (false, eval e env) :: starEach rest env := by rfl)
    (hplain : (backTo pos (starEach rest env)).any (·.1) = false := by rfl) : wpOk M A (callWith pos (.ref a) [] (backTo pos (starEach (e :: rest) env)) []) Q s := by
  rw [he] at h ⊢
  exact wpOk_callWith_def hdat (by show (false || (backTo pos (starEach rest env)).any (·.1)) = false; rw [hplain]; rfl) (evalArgs_plain h)
theorem wpOk_execs_nil {Q : Flow → Shared → Prop} (h : Q .next s) : wpOk M A (execs [] env) Q s := wpOk_of_any (wpAny_execs_nil h)
end
section
variable {prog : Program} {w : World} {A : Around} {s : Shared} {h₀ : Heap} {L : Addr} {m : Str → Option Value} {news news' : List (Addr × Obj)}
theorem news_upd {h h' : Heap} {D : Addr} {o o' : Obj} (N : News h₀ L h news) (U : Upd D o o' news news') (hs : Heap.SameBut D h h') (ho : h'.get? D = some o') : News h₀ L h' news' := by
  obtain ⟨pre, post, rfl, rfl, n1, n2⟩ := U.split
  intro p hp
  rcases List.mem_append.mp hp with hp | hp
  · have z := N p (List.mem_append.mpr (.inl hp))
    exact ⟨hs.extBut _ _ (n1 p hp) z.1, z.2⟩
  · rcases List.mem_cons.mp hp with rfl | hp
    · have z := N (D, o) (List.mem_append.mpr (.inr (.head _)))
      exact ⟨ho, z.2⟩
    · have z := N p (List.mem_append.mpr (.inr (.tail _ hp)))
      exact ⟨hs.extBut _ _ (n2 p hp) z.1, z.2⟩
theorem append_L {D : Addr} {b : Array UInt8} {n : Int} {t : Tok} {Q : Value → Shared → Prop} (F : Fr h₀ L s.heap m) (N : News h₀ L s.heap news) (U : Upd D (baOf b) (baOf (b.push n.toNat.toUInt8)) news news') (h0 : 0 ≤ n) (h1 : n < 256) (hz : b.size < sizeLine)
    (h : ∀ h', Fr h₀ L h' m → News h₀ L h' news' → Q .none { s with heap := h' }) : wpOk (model prog w) A (call (.builtin "bytearray.append") [.ref D, .int n t]) Q s := by
  have z : s.heap.get? D = some (baOf b) ∧ D ≠ L ∧ h₀.get? D = none := by
    obtain ⟨pre, post, rfl, _, _, _⟩ := U.split
    exact N (D, baOf b) (List.mem_append.mpr (.inr (.head _)))
  exact append_ok z.1 h0 h1 hz fun h' hs ho => h h' (F.change hs z.2.1 z.2.2) (news_upd N U hs ho)
theorem getMethod_ba {M : Model} {E : Value → Shared → Prop} {D : Addr} {b : Array UInt8} {pl : Sem Bool} {Q : Value × List Value → Shared → Prop} (ho : s.heap.get? D = some (baOf b)) (h : Q (.builtin "bytearray.append", [.ref D]) s) : wpAny M A (getMethod (.ref D) "append" pl) Q E s :=
  getMethod_builtin (T := "bytearray") ⟨_, ho, rfl⟩ FBA.plainAttrs FBA.slot_append FBA.type_append (fun a e => by cases e; exact ⟨_, ho, rfl⟩) h
end
end Mine
end
section -- Ok3
open PySem PySem.W PyProof.Rows PySem.Calls
set_option Elab.async false
set_option maxRecDepth 100000
namespace Mine
theorem call_cells_ok {prog : Program} {w : World} {A : Around} {R : Result → Shared → Prop} {s : Shared} {name : Str} {params : Arguments} {body : List Stmt} {scope : Scope}
    {pm cd doc : Value} {a : Addr} {o : Obj} {args : List Value} {binds : List (Str × Value)}
    (hroom : A.depth < recursionLimit) (ho : s.heap.get? a = some o) (hdata : o.data = .func (Calls.docDef name params body scope pm cd doc)) (hlim : s.heap.NoLimit) (hcd : s.heap.CodeRec cd name)
    (hbind : bindArgs (Calls.docDef name params body scope pm cd doc) ⟨args, []⟩ = pure binds)
    (hkind : ∀ x ∈ binds, scope.names.lookup x.1 = some .local ∨ (scope.names.lookup x.1 = some .cell ∧ ((cellsFrom (s.heap.objs.size + 1) scope.names []).lookup x.1).isSome = true))
    (hnd : ((cellsFrom 0 scope.names []).map (·.1)).Nodup)
    (h : ∀ h₁ tk cells, Fr s.heap s.heap.objs.size h₁ (bindL (envOfC name scope s.heap.objs.size a cd).kindOf binds fun _ => none) → News s.heap s.heap.objs.size h₁ cells →
      CellsAre (bindC (envOfC name scope s.heap.objs.size a cd).kindOf binds fun _ => none) (cellsFrom (s.heap.objs.size + 1) scope.names []) cells →
      wpOk (model prog w) (A.deeper (envOfC name scope s.heap.objs.size a cd)) (execs body (envOfC name scope s.heap.objs.size a cd))
        (fun f s' => R (.ok (.ret (match f with | .ret v => v | _ => .none))) s') { s with heap := h₁, toks := tk })
    (hco : scope.isCoroutine = false := by rfl) (hgen : scope.isGenerator = false := by rfl) (hk : scope.kind = .function := by rfl) :
    codeOk (model prog w) A (.call (.ref a) ⟨args, []⟩) R s := by
  refine codeOk_call_function hroom ho hdata hco hgen rfl hcd ?_
  rw [hbind]
  refine wpAny_pure (wpAny_newFunctionEnv_cells hk hkind fun env he s' x => ?_)
  subst he
  refine ⟨hlim.keeps x.toInCall.keep, codeOk_func ?_⟩
  obtain ⟨h₁, tk, rfl, _⟩ := x.done
  have X : Cl s.heap.objs.size (cellsFrom (s.heap.objs.size + 1) scope.names []) h₁ (bindC (envOfC name scope s.heap.objs.size a cd).kindOf binds fun _ => none) := ⟨x.cell, x.apart, x.above⟩
  obtain ⟨cells, N, Y⟩ := Cl.news (h₀ := s.heap) (Nat.le_refl _) fun n c hm => ⟨X.cell n c (lookup_of_mem_nodup (cellsFrom_names scope.names 0 (s.heap.objs.size + 1) [] [] rfl ▸ hnd) hm), X.above n c hm⟩
  exact h h₁ tk cells ⟨x.toInCall.ns, x.toInCall.keep, x.toInCall.fresh⟩ N Y
end Mine
end
section -- W9
open PySem PySem.W PyProof.Rows PySem.Calls
set_option Elab.async false
set_option maxRecDepth 100000
namespace Mine
theorem fill9 (w : World) : (PySem.Challenge.rw_pc0131_01 = PySem.Challenge.rw_pc0131_01) ∧ (hd.heap_39 w.params = hd.heap_39 w.params) := by
  k_fill
  exact ⟨rfl, rfl⟩
local macro_rules | `(tactic| k_room) => `(tactic| ktr_room)
def laid (c : Str) : Str := if (c == Str.ofString "B") = true then Str.ofString " " else c
set_option maxHeartbeats 8000000 in
theorem insert_text_spec (w : World) (c : Str) (tk : Tok) : Spec w 316 [.str c tk] 6 400 (fun _ => True) (fun _ v _ => ∃ t, v = .str (laid c) t) := by
  intro mean mg mb dp un gd A₀ env outer base h₀ L m s Q E H _ ret
  have hdp := H.hd
  have hu := H.hu
  refine enter [(Str.ofString "sign", .str c tk)] H ret (by k_is) (by k_is) (BindsTo.of_eq rfl) (locs rfl) (fun g L' h₁ tk₁ hst F' N' B' X' T' => ?_) rfl rfl rfl (by decide)
  clear H ret
  k_unmd
  k_fold
  k_steps
  all_goals (try dsimp only)
  · rename_i h
    refine (show Done g L' s _ _ _ from ⟨_, _, _, rfl, F', ?_⟩)
    unfold laid
    rw [if_pos h]
    exact ⟨_, rfl⟩
  · rename_i h
    refine (show Done g L' s _ _ _ from ⟨_, _, _, rfl, F', ?_⟩)
    unfold laid
    rw [if_neg (by rw [h]; exact Bool.false_ne_true)]
    exact ⟨_, rfl⟩
end Mine
end
section -- W1
open PySem PySem.W PyProof.Rows PySem.Calls PyProof.Rows.LCg
set_option Elab.async false
set_option maxRecDepth 100000
namespace Mine
local macro_rules | `(tactic| k_room) => `(tactic| ktr_room)
local macro_rules | `(tactic| walk_at "compareOp NotEq ref ref") => `(tactic| (k_here; k_dflt (refine ne_nils (News.isList (by k_asm) (by k_mem)) (News.isList (by k_asm) (by k_mem)) (by rfl) (by rfl) (by ktr_units) ?_)))
local macro_rules | `(tactic| walk_at "eval ListComp") => `(tactic| refine Mk.intro ?_)
structure SignHere (t : Str) (i : Nat) (c : Str) : Prop where
  len : t.length ≤ 1000
  lt : i < t.length
  cr : ([Str.ofString "CR", Str.ofString "DB"].any fun x => x == Txt.slice t (some ↑i) (some (↑i + 2))) = false
  item : Txt.item t ↑i = c
  ok : (Builtin.Str.occurrences (Str.ofString "ABPSVXZ90/,.+-*$") (Txt.item t ↑i) 0 (Str.ofString "ABPSVXZ90/,.+-*$").length 1).isEmpty = false

set_option maxHeartbeats 8000000 in
theorem sign_at_spec (w : World) (t c : Str) (tk tk2 : Tok) (i : Nat) (hs : SignHere t i c) : Spec w 130 [.str t tk, .int i tk2] 3 200 (fun _ => True) (fun _ v _ => ∃ tk', v = .str c tk') := by
  intro mean mg mb dp un gd A₀ env outer base h₀ L m s Q E H _ ret
  have hdp := H.hd
  have hu := H.hu
  refine enter [(Str.ofString "text", .str t tk), (Str.ofString "at", .int i tk2)] H ret (by k_is) (by k_is) (BindsTo.of_eq rfl) (locs rfl) (fun g L' h₁ tk₁ hst F' N' B' X' T' => ?_) rfl rfl rfl (by decide)
  obtain ⟨hlen, hlt, hcr, hit, hok⟩ := hs
  clear H ret
  k_unmd
  k_fold
  k_steps
  all_goals (try dsimp only)
  refine (show Done g L' s _ _ _ from ⟨_, _, _, rfl, by assumption, _, by show Value.str (Txt.item t ↑i) _ = _; rw [hit]⟩)

set_option maxHeartbeats 8000000 in
theorem count_at_1 (w : World) (t : Str) (tk tk2 : Tok) (i : Nat) (hl : t.length ≤ 1000) (hn : (Txt.slice t (some ↑i) (some (↑i + 1)) != Str.ofString "(") = true) : Spec w 135 [.str t tk, .int i tk2] 3 200 (fun _ => True) (fun h v h' => ∃ a tk1 tk2, v = .ref a ∧ h.get? a = none ∧ h'.get? a = some { cls := .type "tuple", data := .seq #[.int 1 tk1, .int i tk2] }) := by
  intro mean mg mb dp un gd A₀ env outer base h₀ L m s Q E H _ ret
  have hdp := H.hd
  have hu := H.hu
  refine enter [(Str.ofString "text", .str t tk), (Str.ofString "at", .int i tk2)] H ret (by k_is) (by k_is) (BindsTo.of_eq rfl) (locs rfl) (fun g L' h₁ tk₁ hst F' N' B' X' T' => ?_) rfl rfl rfl (by decide)
  clear H ret
  k_unmd
  k_fold
  k_steps
  all_goals (try dsimp only)
  rename_i D' h' F' N' l1
  obtain ⟨t1, t2, e⟩ : ∃ t1 t2, h'.get? D' = some { cls := .type "tuple", data := .seq #[.int 1 t1, .int i t2] } := ⟨_, _, (N' _ (List.Mem.head _)).1⟩
  exact (show Done g L' s _ _ _ from ⟨_, _, _, rfl, F', D', t1, t2, rfl, fresh_of hst (N' _ (List.Mem.head _)).2.2, e⟩)

set_option maxHeartbeats 8000000 in
theorem count_at_3 (w : World) (tk tk2 : Tok) : Spec w 135 [.str (Str.ofString "/X(3)") tk, .int 2 tk2] 3 200 (fun _ => True) (fun h v h' => ∃ a tk1 tk2, v = .ref a ∧ h.get? a = none ∧ h'.get? a = some { cls := .type "tuple", data := .seq #[.int 3 tk1, .int 5 tk2] }) := by
  intro mean mg mb dp un gd A₀ env outer base h₀ L m s Q E H _ ret
  have hdp := H.hd
  have hu := H.hu
  refine enter [(Str.ofString "text", .str (Str.ofString "/X(3)") tk), (Str.ofString "at", .int 2 tk2)] H ret (by k_is) (by k_is) (BindsTo.of_eq rfl) (locs rfl) (fun g L' h₁ tk₁ hst F' N' B' X' T' => ?_) rfl rfl rfl (by decide)
  clear H ret
  have f0 : (Txt.slice (Str.ofString "/X(3)") (some 2) (some (2 + 1)) != Str.ofString "(") = false := by decide +kernel
  have f1 : Txt.slice (Str.ofString "/X(3)") (some (2 + 1)) (some (if 2 > Txt.find3 (Str.ofString "/X(3)") (Str.ofString ")") 2 then 2 else Txt.find3 (Str.ofString "/X(3)") (Str.ofString ")") 2)) = Str.ofString "3" := by decide +kernel
  k_unmd
  k_fold
  k_steps
  all_goals (try dsimp only)
  refine Mk.of ?_
  refine comp_eval (cl := []) (by rfl) (by rfl) (by decide) ?_ (by intro _; rfl)
  k_steps
  refine comp_str (fun _ ys news => ys = [] ∧ news = []) rfl (by decide +kernel) (by decide +kernel) (by decide) (by rfl) (by rfl) (by assumption) (by assumption) ⟨rfl, rfl⟩ ?_ ?_
  · rintro i ys news I oI C oC D m₂ h tk E' ⟨rfl, rfl⟩ hoC ⟨c, u, hc, hB⟩ F' N' off ne
    have e3 : (Str.ofString "3").cps = #[51] := by decide +kernel
    rw [e3] at hc
    obtain ⟨rfl, rfl⟩ : i = 0 ∧ c = 51 := by
      match i with
      | 0 => exact ⟨rfl, (Option.some.inj hc).symm⟩
      | j + 1 => simp at hc
    have f2 : (Builtin.Str.occurrences (Str.ofString "0123456789") { cps := #[51] } 0 (Str.ofString "0123456789").length 1).isEmpty = false := by decide +kernel
    refine wpAny_tests_one ?_
    k_steps
    rename_i q
    rw [f2] at q
    cases q
  · rintro D h tk ys news' F' N' off ⟨rfl, rfl⟩
    k_steps
    rename_i D' h' F' N' l1
    obtain ⟨t1, t2, e⟩ : ∃ t1 t2, h'.get? D' = some { cls := .type "tuple", data := .seq #[.int 3 t1, .int 5 t2] } := ⟨_, _, (show Txt.find3 (Str.ofString "/X(3)") (Str.ofString ")") 2 + 1 = 5 from by decide +kernel) ▸ (N' _ (List.Mem.head _)).1⟩
    exact (show Done g L' s _ _ _ from ⟨_, _, _, rfl, F', D', t1, t2, rfl, fresh_of hst (N' _ (List.Mem.head _)).2.2, e⟩)
end Mine
end
section -- W2
open PySem PySem.W PyProof.Rows PySem.Calls PyProof.Rows.LCg
set_option Elab.async false
set_option maxRecDepth 100000
namespace Mine
local macro_rules | `(tactic| k_room) => `(tactic| ktr_room)
local macro_rules | `(tactic| walk_at "execs nil") => `(tactic| refine wpAny_execs_nil ?_)

/-- a sign of a picture's text, from i up to e -/
structure PieceAt (t : Str) (i : Nat) (c : Str) (n e : Nat) : Prop where
  here : SignHere t i c
  one : c.length = 1
  way : (n = 1 ∧ e = i + 1 ∧ (Txt.slice t (some ((i + 1 : Nat) : Int)) (some (((i + 1 : Nat) : Int) + 1)) != Str.ofString "(") = true) ∨ (t = Str.ofString "/X(3)" ∧ i = 1 ∧ n = 3 ∧ e = 5 ∧ c = Str.ofString "X")

/-- objects that a call made -/
def NewObjs (h h' : Heap) (objs : List (Addr × Obj)) : Prop := ∀ p ∈ objs, h.get? p.1 = none ∧ h'.get? p.1 = some p.2
theorem NewObjs.of {h g h' : Heap} {L : Addr} {objs : List (Addr × Obj)} (hst : h.StaysIn g) (N : News g L h' objs) : NewObjs h h' objs :=
  fun p hp => ⟨fresh_of hst (N p hp).2.2, (N p hp).1⟩
theorem NewObjs.sub {h h' : Heap} {objs objs' : List (Addr × Obj)} (O : NewObjs h h' objs) (hs : ∀ p ∈ objs', p ∈ objs) : NewObjs h h' objs' := fun p hp => O p (hs p hp)
/-- they join the ledger -/
theorem NewObjs.news {h₀ h h' : Heap} {L : Addr} {m : Str → Option Value} {news objs all : List (Addr × Obj)} (F : Fr h₀ L h m) (N : News h₀ L h' news) (O : NewObjs h h' objs) (hs : ∀ p ∈ all, p ∈ objs ∨ p ∈ news) : News h₀ L h' all := by
  intro p hp
  rcases hs p hp with hp | hp
  · obtain ⟨hn, ho⟩ := O p hp
    exact news_add F N hn ho p (.head _)
  · exact N p hp

theorem count_at_spec (w : World) {t c : Str} {tk tk2 : Tok} {i n e : Nat} {j : Int} (hP : PieceAt t i c n e) (hj : j = (i : Int) + (c.length : Int)) : Spec w 135 [.str t tk, .int j tk2] 3 200 (fun _ => True) (fun h v h' => ∃ a tk1 tk2, v = .ref a ∧ h.get? a = none ∧ h'.get? a = some { cls := .type "tuple", data := .seq #[.int n tk1, .int e tk2] }) := by
  obtain ⟨hh, h1, hw⟩ := hP
  rw [h1] at hj
  have e1 : j = ((i + 1 : Nat) : Int) := by rw [hj]; rfl
  subst e1
  rcases hw with ⟨rfl, rfl, hs⟩ | ⟨rfl, rfl, rfl, rfl, rfl⟩
  · exact count_at_1 w t tk tk2 (i + 1) hh.len hs
  · exact count_at_3 w tk tk2

inductive Pieces (t : Str) : Nat → List (Str × Nat) → Prop
  | nil : Pieces t t.length []
  | cons {i e n : Nat} {c : Str} {ps : List (Str × Nat)} : PieceAt t i c n e → i < e → Pieces t e ps → Pieces t i ((c, n) :: ps)

/-- an object of Sign, as the ledger bears it -/
def SignIn (objs : List (Addr × Obj)) (v : Value) (q : Str × Nat) : Prop :=
  ∃ (x dx : Addr) (es : List DictEntry) (ep : Nat) (t1 t2 : Tok), v = .ref x ∧ (x, instObj 119 dx) ∈ objs ∧ (dx, dictOf es ep) ∈ objs ∧ getL (Str.ofString "sign") es = some (some (.str q.1 t1)) ∧ getL (Str.ofString "count") es = some (some (.int q.2 t2))
def SignsIn (objs : List (Addr × Obj)) (xs : List Value) (qs : List (Str × Nat)) : Prop := All2 (SignIn objs) xs qs

structure SgSt where
  i : Nat
  ti : Tok
  qs : List (Str × Nat)
  ps : List (Str × Nat)
  xs : Array Value
  ep : Nat
  objs : List (Addr × Obj)

theorem Pieces.len {t : Str} {i : Nat} {ps : List (Str × Nat)} (h : Pieces t i ps) : ps.length + i ≤ t.length := by
  induction h with
  | nil => simp
  | cons _ _ _ ih => simp only [List.length_cons]; omega

/-- the same upon a heap -/
def SignOb (h : Heap) (v : Value) (q : Str × Nat) : Prop :=
  ∃ (x dx : Addr) (es : List DictEntry) (ep : Nat) (t1 t2 : Tok), v = .ref x ∧ h.get? x = some (instObj 119 dx) ∧ h.get? dx = some (dictOf es ep) ∧ getL (Str.ofString "sign") es = some (some (.str q.1 t1)) ∧ getL (Str.ofString "count") es = some (some (.int q.2 t2))
theorem SignOb.keeps {h h' : Heap} (k : h.StaysIn h') {v : Value} {q : Str × Nat} (x : SignOb h v q) : SignOb h' v q := by
  obtain ⟨x, d, es, ep, t1, t2, h1, h2, h3, h4⟩ := x
  exact ⟨x, d, es, ep, t1, t2, h1, k _ _ h2, k _ _ h3, h4⟩
theorem SignsIn.heap {g h : Heap} {L : Addr} {news objs : List (Addr × Obj)} {xs : List Value} {qs : List (Str × Nat)} (S : SignsIn objs xs qs) (N : News g L h news) (hs : ∀ p ∈ objs, p ∈ news) : All2 (SignOb h) xs qs :=
  All2.mono (fun v q hv => by
    obtain ⟨x, d, es, ep, t1, t2, h1, h2, h3, h4⟩ := hv
    exact ⟨x, d, es, ep, t1, t2, h1, (N _ (hs _ h2)).1, (N _ (hs _ h3)).1, h4⟩) S

theorem sg_turn {t : Str} {qs : List (Str × Nat)} {lf : Addr} {g h' : Heap} {L : Addr} {s₀ : Shared} {m₀ m' : Str → Option Value} {i ep e n tk : Nat} {ti te : Tok} {c : Str} {qs1 ps : List (Str × Nat)} {xs : Array Value} {objs news' : List (Addr × Obj)} {x d : Addr} {es : List DictEntry} {e2 : Nat} {t1 t2 : Tok}
    (F : Fr g L h' m') (N : News g L h' news') (hx : (x, instObj 119 d) ∈ news') (hd : (d, dictOf es e2) ∈ news') (hl : (lf, listOf (xs.push (.ref x)) (ep + 1)) ∈ news') (hob : ∀ p ∈ objs, p ∈ news') (hxl : x ≠ lf) (hdl : d ≠ lf) (hf : ∀ p ∈ objs, p.1 ≠ lf)
    (g1 : getL (Str.ofString "sign") es = some (some (.str c t1))) (g2 : getL (Str.ofString "count") es = some (some (.int n t2))) (hm : m' (Str.ofString "at") = some (.int e te))
    (hr : ∀ z, (∀ p ∈ [(Str.ofString "at", Value.int e te)], z ≠ p.1) → [Str.ofString "sign", Str.ofString "count", Str.ofString "end", Str.ofString "at"].contains z = false → m' z = m₀ z)
    (hP : Pieces t e ps) (hS : SignsIn objs xs.toList qs1) (hq : qs1 ++ (c, n) :: ps = qs) :
    KswEnd g L s₀ (fun c : SgSt => (lf, listOf c.xs c.ep) :: c.objs) (fun c => [(Str.ofString "at", .int c.i c.ti)]) (fun c => ∀ p ∈ c.objs, p.1 ≠ lf) [Str.ofString "sign", Str.ofString "count", Str.ofString "end", Str.ofString "at"] m₀
      (fun c => Pieces t c.i c.ps ∧ SignsIn c.objs c.xs.toList c.qs ∧ c.qs ++ c.ps = qs) (fun c => c.ps.length) ⟨i, ti, qs1, (c, n) :: ps, xs, ep, objs⟩ { s₀ with heap := h', toks := tk } := by
  refine ksw_end ⟨e, te, qs1 ++ [(c, n)], ps, xs.push (.ref x), ep + 1, (x, instObj 119 d) :: (d, dictOf es e2) :: objs⟩ F N ?_ ?_ ?_ hr ⟨hP, ?_, ?_⟩ (Nat.lt_succ_self _)
  · intro p hp
    rcases List.mem_cons.mp hp with rfl | hp
    · exact hl
    · rcases List.mem_cons.mp hp with rfl | hp
      · exact hx
      · rcases List.mem_cons.mp hp with rfl | hp
        · exact hd
        · exact hob p hp
  · intro p hp
    rcases List.mem_cons.mp hp with rfl | hp
    · exact hxl
    · rcases List.mem_cons.mp hp with rfl | hp
      · exact hdl
      · exact hf p hp
  · intro p hp
    cases List.mem_singleton.mp hp
    exact hm
  · show SignsIn _ (xs.push (.ref x)).toList _
    rw [Array.toList_push]
    refine All2.snoc (All2.mono (fun v q hv => ?_) hS) ⟨x, d, es, e2, t1, t2, rfl, .head _, .tail _ (.head _), g1, g2⟩
    obtain ⟨x', d', es', e', t1', t2', h1, h2, h3, h4⟩ := hv
    exact ⟨x', d', es', e', t1', t2', h1, .tail _ (.tail _ h2), .tail _ (.tail _ h3), h4⟩
  · show (qs1 ++ [(c, n)]) ++ ps = qs
    rw [List.append_assoc]; exact hq

local macro_rules | `(tactic| walk_at "call ref") => `(tactic| (k_here; k_dflt (first | (show wpAny _ _ (call (Value.ref 135) _ _) _ _ _) | (show wpAny _ _ (call (Value.ref 130) _ _) _ _ _)); refine Mk.intro ?_))
local macro_rules | `(tactic| walk_at "call ref") => `(tactic| (k_here; k_dflt (refine Spec.use (sign_at_spec _ _ _ _ _ _ (by assumption)) (by k_asm) (by k_asm) (by k_asm) (by k_asm) (by k_asm) rfl rfl rfl rfl (by ktr_room) (by ktr_units) True.intro ?_); rintro v' h' tk' F' N' hst' ⟨t', e'⟩ hne' hadd'; subst e'; clear hne' hadd' hst'; (try k_sweep)))
local macro_rules | `(tactic| walk_at "call ref") => `(tactic| (k_here; k_dflt (refine Spec.use (count_at_spec _ (by assumption) (by rfl)) (by k_asm) (by k_asm) (by k_asm) (by k_asm) (by k_asm) rfl rfl rfl rfl (by ktr_room) (by ktr_units) True.intro ?_); rintro v' h' tk' F' N' hst' ⟨a', t1', t2', e', hn', ho'⟩ hne' hadd'; subst e'; (replace hne' := hne' _ hn'); (replace N' := hadd' _ _ hn' ho'); clear hadd' hst' hn' ho'; (simp only [AllNe, and_true] at hne'); (try k_sweep)))
local macro_rules | `(tactic| k_all) => `(tactic| assumption)
local macro_rules | `(tactic| size_fits) => `(tactic| assumption)
local macro_rules | `(tactic| walk_at "exec While Compare cons nil") => `(tactic| refine Mk.intro ?_)
set_option maxHeartbeats 8000000 in
theorem signs_of_spec (w : World) (t : Str) (tk : Tok) (qs : List (Str × Nat)) (hl : t.length ≤ 1000) (hp : Pieces t 0 qs) : Spec w 142 [.str t tk] 6 400 (fun _ => True) (fun h v h' => ∃ l xs ep objs, v = .ref l ∧ NewObjs h h' ((l, listOf xs ep) :: objs) ∧ SignsIn objs xs.toList qs) := by
  intro mean mg mb dp un gd A₀ env outer base h₀ L m s Q E H _ ret
  have hdp := H.hd
  have hu := H.hu
  refine enter [(Str.ofString "text", .str t tk)] H ret (by k_is) (by k_is) (BindsTo.of_eq rfl) (locs rfl) (fun g L' h₁ tk₁ hst F' N' B' X' T' => ?_) rfl rfl rfl (by decide)
  clear H ret
  k_unmd
  k_fold
  k_steps
  all_goals (try dsimp only)
  rename_i lf _ _ D' _ _ _ _ h' F' N'
  refine Mk.of ?_
  refine ksw_while (σ := SgSt) (fun c => (lf, listOf c.xs c.ep) :: c.objs) (fun c => [(Str.ofString "at", .int c.i c.ti)]) (fun c => ∀ p ∈ c.objs, p.1 ≠ lf) [Str.ofString "sign", Str.ofString "count", Str.ofString "end", Str.ofString "at"]
    (fun c => Pieces t c.i c.ps ∧ SignsIn c.objs c.xs.toList c.qs ∧ c.qs ++ c.ps = qs) (fun c => c.ps.length) ⟨0, tk₁, [], qs, #[], 0, []⟩ F' (news_sub N' (by simp)) (by simp) (fun p hp => by cases List.mem_singleton.mp hp; with_unfolding_all rfl) ⟨hp, .nil, rfl⟩ ?_ .never
  rintro ⟨i, ti, qs1, ps1, xs, ep, objs⟩ u h tk hf ⟨hP, hS, hq⟩ F₁ N₁
  dsimp only at *
  cases hP with
  | nil =>
    k_steps
    all_goals (try dsimp only)
    rw [List.append_nil] at hq
    subst hq
    exact (show Done g L' s _ _ _ from ⟨_, _, _, rfl, F₁, lf, xs, ep, objs, rfl, NewObjs.of hst N₁, hS⟩)
  | @cons _ e n c ps hPc hie hPs =>
    have hSh := hPc.here
    have hlt := hSh.lt
    have h1 := hPc.one
    have hsz : xs.size ≤ sizeLine := by
      have h2 := hS.len
      have h3 := hp.len
      rw [← hq] at h3
      simp only [List.length_append, List.length_cons, Array.length_toList] at h2 h3
      rw [sizeLine_eq]; omega
    rcases hPc.way with ⟨hn1, he1, hs1⟩ | ⟨rfl, rfl, rfl, rfl, rfl⟩
    · clear hs1
      k_steps
      all_goals (try dsimp only)
      (rename Fr _ _ _ _ => F9); (rename News _ _ _ _ => N9)
      k_dflt (exact sg_turn F9 N9 (by k_mem) (by k_mem) (by k_mem) (fun p hp => by k_ownIn) (by k_ne) (by k_ne) hf (by k_get) (by k_get) (by with_unfolding_all rfl) (by intro z h2 h3; have h3' := h3; simp only [List.contains_cons, List.contains_nil, Bool.or_false, Bool.or_eq_false_iff, beq_eq_false_iff_ne, ne_eq] at h3'; have ha := h2 _ (.head _); dsimp only at ha ⊢; (repeat rw [if_neg (by first | exact ha | exact h3'.1 | exact h3'.2.1 | exact h3'.2.2.1 | exact h3'.2.2.2)]); exact kstB_off h3 (fun p hp => by cases List.mem_singleton.mp hp; exact ha)) hPs hS hq)
    · k_steps
      all_goals (try dsimp only)
      (rename Fr _ _ _ _ => F9); (rename News _ _ _ _ => N9)
      k_dflt (exact sg_turn F9 N9 (by k_mem) (by k_mem) (by k_mem) (fun p hp => by k_ownIn) (by k_ne) (by k_ne) hf (by k_get) (by k_get) (by with_unfolding_all rfl) (by intro z h2 h3; have h3' := h3; simp only [List.contains_cons, List.contains_nil, Bool.or_false, Bool.or_eq_false_iff, beq_eq_false_iff_ne, ne_eq] at h3'; have ha := h2 _ (.head _); dsimp only at ha ⊢; (repeat rw [if_neg (by first | exact ha | exact h3'.1 | exact h3'.2.1 | exact h3'.2.2.1 | exact h3'.2.2.2)]); exact kstB_off h3 (fun p hp => by cases List.mem_singleton.mp hp; exact ha)) hPs hS hq)
end Mine
end
section -- W3
open PySem PySem.W PyProof.Rows PySem.Calls PyProof.Rows.LCg
set_option Elab.async false
set_option maxRecDepth 100000
namespace Mine
local macro_rules | `(tactic| k_room) => `(tactic| ktr_room)

theorem All2.snoc_inv {α β : Type} {R : α → β → Prop} : ∀ {as : List α} {bs : List β} {b : β}, All2 R as (bs ++ [b]) → ∃ as' a, as = as' ++ [a] ∧ All2 R as' bs ∧ R a b
  | [], [], _, h => by cases h
  | [], _ :: _, _, h => by cases h
  | a :: as, [], b, h => by
    cases h with
    | cons x r => cases r; exact ⟨[], a, rfl, .nil, x⟩
  | a :: as, c :: bs, b, h => by
    cases h with
    | cons x r =>
      obtain ⟨as', a', e, h1, h2⟩ := r.snoc_inv
      exact ⟨a :: as', a', by rw [e]; rfl, .cons x h1, h2⟩

/-- runs of one sign as one -/
def rleStep (acc : List (Str × Nat)) (q : Str × Nat) : List (Str × Nat) := match acc.getLast? with
  | some l => if l.1 == q.1 then acc.dropLast ++ [(q.1, l.2 + q.2)] else acc ++ [q]
  | none => [q]
def rle (qs : List (Str × Nat)) : List (Str × Nat) := qs.foldl rleStep []
theorem rleStep_nil (q : Str × Nat) : rleStep [] q = [q] := rfl
theorem rleStep_snoc (acc : List (Str × Nat)) (l q : Str × Nat) : rleStep (acc ++ [l]) q = if l.1 == q.1 then acc ++ [(q.1, l.2 + q.2)] else acc ++ [l] ++ [q] := by
  unfold rleStep
  simp

theorem rle_len : ∀ (l acc : List (Str × Nat)), (l.foldl rleStep acc).length ≤ acc.length + l.length
  | [], acc => by simp
  | q :: r, acc => by
    have h := rle_len r (rleStep acc q)
    have h2 : (rleStep acc q).length ≤ acc.length + 1 := by
      unfold rleStep
      split
      · split
        · simp <;> omega
        · simp
      · simp
    simp only [List.foldl_cons, List.length_cons]
    omega

abbrev tupOf (c : Str) (t1 : Tok) (n : Int) (t2 : Tok) : Obj := { cls := .type "tuple", data := .seq #[.str c t1, .int n t2] }
def PairIn (objs : List (Addr × Obj)) (v : Value) (q : Str × Nat) : Prop := ∃ (a : Addr) (t1 t2 : Tok), v = .ref a ∧ (a, tupOf q.1 t1 q.2 t2) ∈ objs
def PairOb (h : Heap) (v : Value) (q : Str × Nat) : Prop := ∃ (a : Addr) (t1 t2 : Tok), v = .ref a ∧ h.get? a = some (tupOf q.1 t1 q.2 t2)
theorem PairOb.keeps {h h' : Heap} (k : h.StaysIn h') {v : Value} {q : Str × Nat} (x : PairOb h v q) : PairOb h' v q := by
  obtain ⟨a, t1, t2, h1, h2⟩ := x
  exact ⟨a, t1, t2, h1, k _ _ h2⟩

structure SySt where
  acc : List (Str × Nat)
  ys : Array Value
  ep : Nat
  objs : List (Addr × Obj)

abbrev syStored : List Str := [Str.ofString "one"]
theorem sy_end {qs : List (Str × Nat)} {lf I : Addr} {oI : Obj} {g h' : Heap} {L : Addr} {s₀ : Shared} {m₀ m' : Str → Option Value} {i ep tk : Nat} {acc : List (Str × Nat)} {ys : Array Value} {objs news' : List (Addr × Obj)}
    (F : Fr g L h' m') (N : News g L h' news') (hI : (I, oI) ∈ news') (hl : (lf, listOf ys ep) ∈ news') (hob : ∀ p ∈ objs, p ∈ news') (hlI : lf ≠ I) (ho : ∀ p ∈ objs, p.1 ≠ lf ∧ p.1 ≠ I)
    (hP : All2 (PairIn objs) ys.toList acc) (ha : acc = (qs.take (i + 1)).foldl rleStep []) (hr : ∀ z, syStored.contains z = false → m' z = m₀ z) :
    LoopEnd g L s₀ (fun c : SySt => (lf, listOf c.ys c.ep) :: c.objs) (fun _ => []) (fun c => (∀ p ∈ c.objs, p.1 ≠ lf) ∧ All2 (PairIn c.objs) c.ys.toList c.acc) syStored m₀ (fun c => c.acc = (qs.take (i + 1)).foldl rleStep []) I oI { s₀ with heap := h', toks := tk } := by
  refine ⟨⟨acc, ys, ep, objs⟩, h', tk, m', news', rfl, F, N, hI, ?_, ?_, ⟨fun p hp => (ho p hp).1, hP⟩, (fun p hp => nomatch hp), fun z _ h3 => hr z h3, ha⟩
  · intro p hp
    rcases List.mem_cons.mp hp with rfl | hp
    · exact hl
    · exact hob p hp
  · intro p hp
    rcases List.mem_cons.mp hp with rfl | hp
    · exact hlI
    · exact (ho p hp).2

theorem PairIn.sub {objs objs' : List (Addr × Obj)} (hs : ∀ p ∈ objs, p ∈ objs') {v : Value} {q : Str × Nat} (x : PairIn objs v q) : PairIn objs' v q := by
  obtain ⟨a, t1, t2, h1, h2⟩ := x
  exact ⟨a, t1, t2, h1, hs _ h2⟩
theorem PairIn.heap {g h : Heap} {L : Addr} {news objs : List (Addr × Obj)} {xs : List Value} {qs : List (Str × Nat)} (S : All2 (PairIn objs) xs qs) (N : News g L h news) (hs : ∀ p ∈ objs, p ∈ news) : All2 (PairOb h) xs qs :=
  All2.mono (fun v q hv => by
    obtain ⟨a, t1, t2, h1, h2⟩ := hv
    exact ⟨a, t1, t2, h1, (N _ (hs _ h2)).1⟩) S
theorem rle_step {qs : List (Str × Nat)} {i : Nat} {q : Str × Nat} {acc : List (Str × Nat)} (hq : qs[i]? = some q) (ha : acc = (qs.take i).foldl rleStep []) : rleStep acc q = (qs.take (i + 1)).foldl rleStep [] := by
  rw [List.take_add_one, hq, Option.toList_some, List.foldl_append, ← ha]
  rfl
theorem sy_end2 {qs : List (Str × Nat)} {lf I D : Addr} {oI o : Obj} {g h' : Heap} {L : Addr} {s₀ : Shared} {m₀ m' : Str → Option Value} {i ep tk : Nat} {acc : List (Str × Nat)} {ys : Array Value} {objs news' : List (Addr × Obj)}
    (F : Fr g L h' m') (N : News g L h' news') (hI : (I, oI) ∈ news') (hD : (D, o) ∈ news') (hl : (lf, listOf ys ep) ∈ news') (hob : ∀ p ∈ objs, p ∈ news') (hlI : @Ne Nat lf I) (hDl : @Ne Nat D lf) (hDI : @Ne Nat D I) (hf : ∀ p ∈ objs, p.1 ≠ lf) (hfI : ∀ p ∈ objs, p.1 ≠ I)
    (hP : All2 (PairIn ((D, o) :: objs)) ys.toList acc) (ha : acc = (qs.take (i + 1)).foldl rleStep []) (hr : ∀ z, syStored.contains z = false → m' z = m₀ z) :
    LoopEnd g L s₀ (fun c : SySt => (lf, listOf c.ys c.ep) :: c.objs) (fun _ => []) (fun c => (∀ p ∈ c.objs, p.1 ≠ lf) ∧ All2 (PairIn c.objs) c.ys.toList c.acc) syStored m₀ (fun c => c.acc = (qs.take (i + 1)).foldl rleStep []) I oI { s₀ with heap := h', toks := tk } :=
  sy_end F N hI hl (fun p hp => by
    rcases List.mem_cons.mp hp with rfl | hp
    · exact hD
    · exact hob p hp) hlI (fun p hp => by
    rcases List.mem_cons.mp hp with rfl | hp
    · exact ⟨hDl, hDI⟩
    · exact ⟨hf p hp, hfI p hp⟩) hP ha hr

local macro_rules | `(tactic| k_all) => `(tactic| assumption)
local macro_rules | `(tactic| size_fits) => `(tactic| assumption)
local macro_rules | `(tactic| k_mem) => `(tactic| k_ownIn)
local macro_rules | `(tactic| k_get) => `(tactic| assumption)
local macro_rules | `(tactic| k_inst) => `(tactic| exact instAt_base (by k_asm) (by assumption) (by assumption))
local macro_rules | `(tactic| walk_at "compareOp NotEq ref ref") => `(tactic| (k_here; k_dflt (refine ne_nils (News.isList (by k_asm) (by k_mem)) (News.isList (by k_asm) (by k_mem)) (by rfl) (by rfl) (by ktr_units) ?_)))
local macro_rules | `(tactic| walk_at "compareOp NotEq ref ref") => `(tactic| (k_here; k_dflt (refine ne_diff (News.isList (by k_asm) (by k_mem)) (News.isList (by k_asm) (by k_mem)) (by simp; done) (by ktr_units) ?_)))
local macro_rules | `(tactic| walk_at "subscriptTail Name UnaryOp ref int") => `(tactic| (k_here; k_dflt (refine sub_last (News.isList (by k_asm) (by k_mem)) ?_ (by with_unfolding_all rfl))))
local macro_rules | `(tactic| walk_at "setItem ref int ref") => `(tactic| (k_here; k_dflt (refine set_last (by k_asm) (by k_asm) (by k_upd) ?_); intro h' F' N'; (try k_sweep)))
local macro_rules | `(tactic| walk_at "exec For Name Name cons nil") => `(tactic| refine Mk.intro ?_)
local macro_rules | `(tactic| walk_at "LoopPost") => `(tactic| (dsimp only [LoopPost]))
set_option maxHeartbeats 8000000 in
theorem symbols_of_spec (w : World) (l : Addr) (xs : Array Value) (qs : List (Str × Nat)) (hsz : xs.size ≤ 1000) : Spec w 149 [.ref l] 6 400 (fun h => h.IsList l xs ∧ All2 (SignOb h) xs.toList qs)
    (fun h v h' => ∃ l ys ep objs, v = .ref l ∧ NewObjs h h' ((l, listOf ys ep) :: objs) ∧ All2 (PairIn objs) ys.toList (rle qs)) := by
  intro mean mg mb dp un gd A₀ env outer base h₀ L m s Q E H hpre ret
  have hdp := H.hd
  have hu := H.hu
  refine enter [(Str.ofString "signs", .ref l)] H ret (by k_is) (by k_is) (BindsTo.of_eq rfl) (locs rfl) (fun g L' h₁ tk₁ hst F' N' B' X' T' => ?_) rfl rfl rfl (by decide)
  obtain ⟨⟨ol, hol, hcl⟩, hS⟩ := hpre
  have hlg : g.IsList l xs := ⟨ol, hst _ _ hol, hcl⟩
  replace hS : All2 (SignOb g) xs.toList qs := hS.mono fun v q h => h.keeps hst
  have hlen := hS.len
  have holg := hst _ _ hol
  clear H ret hol
  k_unmd
  k_fold
  k_steps
  all_goals (try dsimp only)
  refine Mk.of ?_
  refine wpAny_For ?_ (by intro _; rfl)
  k_steps
  rename_i lf _ l1 h' F9 N9
  refine for_list (σ := SySt) (fun c => (lf, listOf c.ys c.ep) :: c.objs) (fun _ => []) (fun c => (∀ p ∈ c.objs, p.1 ≠ lf) ∧ All2 (PairIn c.objs) c.ys.toList c.acc) syStored (fun i c => c.acc = (qs.take i).foldl rleStep []) ⟨[], #[], 0, []⟩
    rfl (hlg.at fun o e => F9.keep _ o e) (.inl ⟨ol, holg⟩) F9 N9 ⟨(fun p hp => nomatch hp), .nil⟩ (fun p hp => nomatch hp) rfl ?_ ?_ .never
  · rintro ⟨acc, ys, ep, objs⟩ i v I oI u h tk hv ⟨hf, hP⟩ hacc hoff F₁ N₁
    dsimp only at *
    obtain ⟨q, hq, hO⟩ := hS.at (i := i) (a := v) (by simpa using hv)
    obtain ⟨x, dx, es, e2, t1, t2, rfl, hx, hdx, g1, g2⟩ := hO
    have hlI : @Ne Nat lf I := hoff _ (.head _)
    have hfI : ∀ p ∈ objs, p.1 ≠ I := fun p hp => hoff p (.tail _ hp)
    have hys : ys.size ≤ sizeLine := by
      have h1 := hP.len
      have h2 := rle_len (qs.take i) []
      rw [← hacc] at h2
      simp only [List.length_nil, List.length_take, Array.length_toList] at h1 h2 hlen
      rw [sizeLine_eq]; omega
    rcases List.eq_nil_or_concat acc with rfl | ⟨acc', q', hcc⟩
    · cases ys
      rename_i ys
      have e0 : ys = [] := by cases hP; rfl
      subst e0
      k_steps
      rename_i D' h7 l1 h8 F8 N8
      k_dflt (refine sy_end2 (D := D') (objs := objs) F8 N8 (by k_mem) (by k_mem) (by k_mem) (fun p hp => by k_ownIn) hlI (by k_ne) (by k_ne) hf hfI ?_ (rle_step hq hacc) (fun z h3 => by have h3' := h3; simp only [syStored, List.contains_cons, List.contains_nil, Bool.or_false, beq_eq_false_iff_ne, ne_eq] at h3'; (try dsimp only); (repeat rw [if_neg (by exact h3')]); exact kstB_off h3 (fun p hp => nomatch hp)))
      exact .cons ⟨D', _, _, rfl, .head _⟩ .nil
    · rw [List.concat_eq_append] at hcc
      subst hcc
      obtain ⟨ys', v', e, hP', hq'⟩ := hP.snoc_inv
      obtain ⟨ys'', rfl, e9⟩ : ∃ ys'' : Array Value, ys = ys''.push v' ∧ ys''.toList = ys' := ⟨ys'.toArray, by apply Array.toList_inj.mp; rw [e]; simp, by simp⟩
      obtain ⟨a, t3, t4, rfl, ha⟩ := hq'
      k_steps
      · rename_i hc _ D' h7 l1 h8 F8 N8
        have hrs := rle_step hq hacc
        rw [rleStep_snoc, if_pos hc] at hrs
        k_dflt (refine sy_end2 (D := D') (objs := objs) F8 N8 (by k_mem) (by k_mem) (by k_mem) (fun p hp => by k_ownIn) hlI (by k_ne) (by k_ne) hf hfI ?_ hrs (fun z h3 => by have h3' := h3; simp only [syStored, List.contains_cons, List.contains_nil, Bool.or_false, beq_eq_false_iff_ne, ne_eq] at h3'; (try dsimp only); (repeat rw [if_neg (by exact h3')]); exact kstB_off h3 (fun p hp => nomatch hp)))
        rw [Array.toList_push, e9]
        exact All2.snoc (All2.mono (fun v q x => x.sub fun p hp => .tail _ hp) hP') ⟨D', _, _, rfl, by rw [Int.natCast_add]; exact .head _⟩
      · rename_i hc _ D' h7 l1 h8 F8 N8
        have hrs := rle_step hq hacc
        rw [rleStep_snoc, if_neg (by rw [hc]; exact Bool.false_ne_true)] at hrs
        k_dflt (refine sy_end2 (D := D') (objs := objs) F8 N8 (by k_mem) (by k_mem) (by k_mem) (fun p hp => by k_ownIn) hlI (by k_ne) (by k_ne) hf hfI ?_ hrs (fun z h3 => by have h3' := h3; simp only [syStored, List.contains_cons, List.contains_nil, Bool.or_false, beq_eq_false_iff_ne, ne_eq] at h3'; (try dsimp only); (repeat rw [if_neg (by exact h3')]); exact kstB_off h3 (fun p hp => nomatch hp)))
        rw [Array.toList_push]
        exact All2.snoc (All2.mono (fun v q x => x.sub fun p hp => .tail _ hp) hP) ⟨D', _, _, rfl, .head _⟩
  · rintro ⟨acc, ys, ep, objs⟩ u h tk ⟨hf, hP⟩ hacc F₁ N₁
    dsimp only at *
    k_steps
    all_goals (try dsimp only)
    have e : acc = rle qs := by
      rw [hacc, List.take_of_length_le (by rw [← hlen, Array.length_toList]; exact Nat.le_refl _)]; rfl
    subst e
    exact (show Done g L' s _ _ _ from ⟨_, _, _, rfl, F₁, lf, ys, ep, objs, rfl, NewObjs.of hst N₁, hP⟩)
end Mine
end
section -- W4
open PySem PySem.W PyProof.Rows PySem.Calls PyProof.Rows.LCg
set_option Elab.async false
set_option maxRecDepth 100000
namespace Mine
local macro_rules | `(tactic| k_room) => `(tactic| ktr_room)
local macro_rules | `(tactic| walk_at "eval ListComp") => `(tactic| refine Mk.intro ?_)

/-- a sign that a text's picture may bear -/
def SignOk (c : Str) : Prop := c = ⟨#[88]⟩ ∨ c = ⟨#[65]⟩ ∨ c = ⟨#[57]⟩ ∨ c = ⟨#[66]⟩ ∨ c = ⟨#[48]⟩ ∨ c = ⟨#[47]⟩
theorem SignOk.len {c : Str} (h : SignOk c) : c.length = 1 := by
  rcases h with rfl | rfl | rfl | rfl | rfl | rfl <;> rfl
theorem SignOk.noP {c : Str} (h : SignOk c) : ([(⟨#[80]⟩ : Str), ⟨#[83]⟩, ⟨#[86]⟩].any fun x => x == c) = false := by
  rcases h with rfl | rfl | rfl | rfl | rfl | rfl <;> decide +kernel

set_option maxHeartbeats 8000000 in
theorem size_of_symbols_spec (w : World) (l : Addr) (xs : Array Value) (rl : List (Str × Nat)) (hsz : xs.size ≤ 1000) (hok : ∀ q ∈ rl, SignOk q.1 ∧ q.2 ≤ 10000) : Spec w 154 [.ref l] 6 400 (fun h => h.IsList l xs ∧ All2 (PairOb h) xs.toList rl)
    (fun h v h' => ∃ t, v = .int ((rl.map fun q => (q.2 : Int)).sum) t) := by
  intro mean mg mb dp un gd A₀ env outer base h₀ L m s Q E H hpre ret
  have hdp := H.hd
  have hu := H.hu
  refine enter [(Str.ofString "symbols", .ref l)] H ret (by k_is) (by k_is) (BindsTo.of_eq rfl) (locs rfl) (fun g L' h₁ tk₁ hst F' N' B' X' T' => ?_) rfl rfl rfl (by decide)
  obtain ⟨⟨ol, hol, hcl⟩, hS⟩ := hpre
  have holg := hst _ _ hol
  have hlg : g.IsList l xs := ⟨ol, hst _ _ hol, hcl⟩
  replace hS : All2 (PairOb g) xs.toList rl := hS.mono fun v q h => h.keeps hst
  have hlen := hS.len
  clear H ret hol
  k_unmd
  k_fold
  k_steps
  all_goals (try dsimp only)
  refine Mk.of ?_
  refine comp_eval (cl := []) (by rfl) (by rfl) (by decide) ?_ (by intro _; rfl)
  k_steps
  rename Fr _ _ _ _ => F9
  rename News _ _ _ _ => N9
  refine comp_pairs (fun i ys _ => IntsAre ys ((rl.take i).map fun q => (q.2 : Int))) rfl (hlg.at fun o e => F9.keep _ o e) (.inl ⟨ol, holg⟩) (by rw [sizeLine_eq]; omega)
    (fun i x y => ∃ q t1 t2, rl[i]? = some q ∧ x = .str q.1 t1 ∧ y = .int q.2 t2) ?_ (by decide) rfl (by rfl) (by rfl) (by decide) F9 N9 .nil ?_ ?_
  · intro i v hv
    obtain ⟨q, hq, a, t1, t2, rfl, ha⟩ := hS.at (i := i) (a := v) (by simpa using hv)
    exact ⟨a, _, _, rfl, ⟨_, ha, rfl, _, rfl⟩, q, t1, t2, hq, rfl, rfl⟩
  · rintro i ys news I oI C oC D m₂ h tk E' hI hoC ⟨x, y, ⟨q, t1, t2, hq, rfl, rfl⟩, hBa, hBb⟩ F' N' off ne
    obtain ⟨ho, hq2⟩ := hok q (List.mem_of_getElem? hq)
    have hln := ho.len
    have hnp := ho.noP
    have hnx : (rl.take (i + 1)).map (fun q => (q.2 : Int)) = (rl.take i).map (fun q => (q.2 : Int)) ++ [(q.2 : Int)] := by
      rw [List.take_add_one, hq]; simp
    have hmul : (q.2 : Int) * (q.1.length : Int) = (q.2 : Int) := by rw [hln]; simp
    refine wpAny_tests_one ?_
    k_steps
    rw [hnx, hmul]
    (rename Fr _ _ _ _ => F8); (rename News _ _ _ _ => N8)
    refine comp_same F8 N8 (by intro p hp; k_ownIn) off ?_
    exact IntsAre.append hI (.cons _ _ .nil)
  · rintro D h tk ys news' F' N' off hI
    k_steps
    rw [List.take_of_length_le (by rw [← hlen, Array.length_toList]; exact Nat.le_refl _)]
    exact ⟨_, _, _, rfl, by assumption, _, rfl⟩
end Mine
end
section -- W7
open PySem PySem.W PyProof.Rows PySem.Calls PyProof.Rows.LCg
set_option Elab.async false
set_option maxRecDepth 100000
namespace Mine
local macro_rules | `(tactic| walk_at "call builtin:len") => `(tactic| (k_here; k_dflt (refine len_list (News.isList (by k_asm) (by k_mem)) (by assumption) ?_)))
local macro_rules | `(tactic| k_room) => `(tactic| ktr_room)
local macro_rules | `(tactic| walk_at "eval ListComp") => `(tactic| refine Mk.intro ?_)
/-- does a sign's place take an octet -/
def isData (c : Str) : Bool := [Str.ofString "X", Str.ofString "A", Str.ofString "9"].any fun x => x == c
def dataCount (cs : List Str) : Nat := (cs.filter isData).length

set_option maxHeartbeats 8000000 in
theorem data_places_spec (w : World) (l : Addr) (xs : Array Value) (cs : List Str) (hsz : xs.size ≤ 10000) : Spec w 321 [.ref l] 6 400 (fun h => h.IsList l xs ∧ StrsAre xs.toList cs)
    (fun h v h' => ∃ t, v = .int (dataCount cs) t) := by
  intro mean mg mb dp un gd A₀ env outer base h₀ L m s Q E H hpre ret
  have hdp := H.hd
  have hu := H.hu
  refine enter [(Str.ofString "signs", .ref l)] H ret (by k_is) (by k_is) (BindsTo.of_eq rfl) (locs rfl) (fun g L' h₁ tk₁ hst F' N' B' X' T' => ?_) rfl rfl rfl (by decide)
  obtain ⟨⟨ol, hol, hcl⟩, hS⟩ := hpre
  have holg := hst _ _ hol
  have hlg : g.IsList l xs := ⟨ol, hst _ _ hol, hcl⟩
  clear H ret hol
  k_unmd
  k_fold
  k_steps
  all_goals (try dsimp only)
  refine Mk.of ?_
  refine comp_eval (cl := []) (by rfl) (by rfl) (by decide) ?_ (by intro _; rfl)
  k_steps
  rename Fr _ _ _ _ => F9
  rename News _ _ _ _ => N9
  refine comp_list (fun i ys _ => ys.length = dataCount (cs.take i)) rfl (hlg.at fun o e => F9.keep _ o e) (.inl ⟨ol, holg⟩) (by rw [sizeLine_eq]; omega)
    (by decide) rfl (by rfl) F9 N9 rfl ?_ ?_
  · rintro i ys news I oI C oC D m₂ h tk E' hI hoC ⟨v, hv, hB⟩ F' N' off ne
    obtain ⟨c, t, rfl, hc⟩ := hS.item i v (by simpa using hv)
    have hnx : dataCount (cs.take (i + 1)) = dataCount (cs.take i) + if isData c = true then 1 else 0 := by
      unfold dataCount
      rw [List.take_add_one, hc, List.filter_append, List.length_append, Option.toList_some]
      cases hd : isData c <;> simp [hd]
    refine wpAny_tests_one ?_
    k_steps
    · rename_i hq
      (rename Fr _ _ _ _ => F8); (rename News _ _ _ _ => N8)
      refine comp_same F8 N8 (by intro p hp; k_ownIn) off ?_
      rw [hnx, if_pos (show isData c = true from hq), List.length_append, hI]; rfl
    · rename_i hq
      (rename Fr _ _ _ _ => F8); (rename News _ _ _ _ => N8)
      refine comp_same F8 N8 (by intro p hp; k_ownIn) off ?_
      rw [hnx, if_neg (by rw [show isData c = false from hq]; exact Bool.false_ne_true), hI]; rfl
  · rintro D h tk ys news' F' N' off hI
    have hfit : ((ys.toArray.size : Nat) : Int) < 2 ^ 63 := by
      have h1 : dataCount (cs.take xs.size) ≤ xs.size := by
        unfold dataCount
        exact Nat.le_trans (List.length_filter_le _ _) (by rw [List.length_take]; exact Nat.min_le_left _ _)
      rw [List.size_toArray, hI]; omega
    have hall : cs.take xs.size = cs := List.take_of_length_le (by rw [← hS.length, Array.length_toList]; exact Nat.le_refl _)
    k_steps
    all_goals trace_state
    rw [hall] at hI
    exact ⟨_, _, _, rfl, F', _, by show Value.int _ _ = _; rw [List.size_toArray, hI]⟩
end Mine
end
section -- W5
open PySem PySem.W PyProof.Rows PySem.Calls PyProof.Rows.LCg
set_option Elab.async false
set_option maxRecDepth 100000
namespace Mine
local macro_rules | `(tactic| k_room) => `(tactic| ktr_room)
local macro_rules | `(tactic| walk_at "exec Assign cons ListComp") => `(tactic| refine Mk.intro ?_)

set_option maxHeartbeats 8000000 in
theorem text_category_spec (w : World) (l : Addr) (xs : Array Value) (rl : List (Str × Nat)) (hsz : xs.size ≤ 1000) (hed : ∃ q ∈ rl, q.1 = Str.ofString "B" ∨ q.1 = Str.ofString "0" ∨ q.1 = Str.ofString "/") : Spec w 290 [.ref l] 6 400 (fun h => h.IsList l xs ∧ All2 (PairOb h) xs.toList rl)
    (fun h v h' => ∃ t, v = .str (Str.ofString "alnum-edited") t) := by
  intro mean mg mb dp un gd A₀ env outer base h₀ L m s Q E H hpre ret
  have hdp := H.hd
  have hu := H.hu
  refine enter [(Str.ofString "symbols", .ref l)] H ret (by k_is) (by k_is) (BindsTo.of_eq rfl) (locs rfl) (fun g L' h₁ tk₁ hst F' N' B' X' T' => ?_) rfl rfl rfl (by decide)
  obtain ⟨⟨ol, hol, hcl⟩, hS⟩ := hpre
  have holg := hst _ _ hol
  have hlg : g.IsList l xs := ⟨ol, hst _ _ hol, hcl⟩
  replace hS : All2 (PairOb g) xs.toList rl := hS.mono fun v q h => h.keeps hst
  have hlen := hS.len
  clear H ret hol
  k_unmd
  k_fold
  k_steps
  all_goals (try dsimp only)
  refine Mk.of ?_
  refine comp_evalU (cl := []) (by with_unfolding_all rfl) (by rfl) (by rfl) (by decide) ?_ (by intro _; rfl)
  k_steps
  rename Fr _ _ _ _ => F9
  rename News _ _ _ _ => N9
  refine comp_pairsG (fun i ys _ => StrsAre ys ((rl.take i).map (·.1))) rfl (hlg.at fun o e => F9.keep _ o e) (.inl ⟨ol, holg⟩) (by rw [sizeLine_eq]; omega)
    (fun i x y => ∃ q t1 t2, rl[i]? = some q ∧ x = .str q.1 t1 ∧ y = .int q.2 t2) ?_ (by decide) rfl (by rfl) (by rfl) (by decide) F9 N9 .nil ?_ ?_
  · intro i v hv
    obtain ⟨q, hq, a, t1, t2, rfl, ha⟩ := hS.at (i := i) (a := v) (by simpa using hv)
    exact ⟨a, _, _, rfl, ⟨_, ha, rfl, _, rfl⟩, q, t1, t2, hq, rfl, rfl⟩
  · rintro i ys news I oI C oC D m₂ h tk E' hI hoC ⟨x, y, ⟨q, t1, t2, hq, rfl, rfl⟩, hBa, hBb⟩ F' N' off ne
    have hnx : (rl.take (i + 1)).map (·.1) = (rl.take i).map (·.1) ++ [q.1] := by
      rw [List.take_add_one, hq]; simp
    refine wpAny_tests_nil ?_
    k_steps
    (rename Fr _ _ _ _ => F8); (rename News _ _ _ _ => N8)
    refine comp_same F8 N8 (by intro p hp; k_ownIn) off ?_
    show StrsAre _ _
    rw [hnx]
    exact StrsAre.append' hI (.cons _ _ .nil)
  · rintro D C h tk m' ys news' F' N' o1 hn hC₀ hCL hCD offC hI
    refine comp_finU (s₂ := s) ?e1 ?e2 ?e3 F' N' o1 hn hC₀ hCL hCD offC fun h'' tk' F'' N'' _ => ?_
    case e1 => rfl
    case e2 => rfl
    case e3 => rfl
    rw [List.take_of_length_le (by rw [← hlen, Array.length_toList]; exact Nat.le_refl _)] at hI
    have hany : ((rl.map (·.1)).any fun x => x == Str.ofString "B") = true ∨ ((rl.map (·.1)).any fun x => x == Str.ofString "0") = true ∨ ((rl.map (·.1)).any fun x => x == Str.ofString "/") = true := by
      obtain ⟨q, hq, hc⟩ := hed
      have hm : q.1 ∈ rl.map (·.1) := List.mem_map_of_mem hq
      rcases hc with h | h | h
      · exact .inl (List.any_eq_true.mpr ⟨_, hm, by rw [h]; exact beq_self_eq_true _⟩)
      · exact .inr (.inl (List.any_eq_true.mpr ⟨_, hm, by rw [h]; exact beq_self_eq_true _⟩))
      · exact .inr (.inr (List.any_eq_true.mpr ⟨_, hm, by rw [h]; exact beq_self_eq_true _⟩))
    k_steps
    · exact (show Done g L' s _ _ _ from ⟨_, _, _, rfl, F'', _, rfl⟩)
    · exact (show Done g L' s _ _ _ from ⟨_, _, _, rfl, F'', _, rfl⟩)
    · exact (show Done g L' s _ _ _ from ⟨_, _, _, rfl, F'', _, rfl⟩)
    all_goals (exfalso; rcases hany with h | h | h <;> exact Bool.noConfusion (show true = false from h.symm.trans (by assumption)))
end Mine
end
section -- W6
open PySem PySem.W PyProof.Rows PySem.Calls PyProof.Rows.LCg
set_option Elab.async false
set_option maxRecDepth 100000
namespace Mine
local macro_rules | `(tactic| k_room) => `(tactic| ktr_room)

/-- a Picture upon a heap -/
def PictOb (h : Heap) (x : Addr) (ls : Addr) (cat : Str) (size : Int) : Prop :=
  ∃ (dx : Addr) (es : List DictEntry) (ep : Nat) (t1 t2 : Tok), h.get? x = some (instObj 91 dx) ∧ h.get? dx = some (dictOf es ep) ∧ getL (Str.ofString "symbols") es = some (some (.ref ls)) ∧ getL (Str.ofString "category") es = some (some (.str cat t1)) ∧ getL (Str.ofString "size") es = some (some (.int size t2))
theorem PictOb.keeps {h h' : Heap} (k : h.StaysIn h') {x ls : Addr} {cat : Str} {size : Int} (y : PictOb h x ls cat size) : PictOb h' x ls cat size := by
  obtain ⟨d, es, ep, t1, t2, h1, h2, r⟩ := y
  exact ⟨d, es, ep, t1, t2, k _ _ h1, k _ _ h2, r⟩

def expand (rl : List (Str × Nat)) : List Str := rl.flatMap fun q => List.replicate q.2 q.1

theorem expand_snoc {rl : List (Str × Nat)} {i : Nat} {q : Str × Nat} (hq : rl[i]? = some q) : expand (rl.take (i + 1)) = expand (rl.take i) ++ List.replicate q.2 q.1 := by
  unfold expand
  rw [List.take_add_one, hq, Option.toList_some, List.flatMap_append]
  simp
theorem expand_le (rl : List (Str × Nat)) (i : Nat) : (expand (rl.take i)).length ≤ (expand rl).length := by
  have e : expand rl = expand (rl.take i) ++ expand (rl.drop i) := by
    unfold expand
    rw [← List.flatMap_append, List.take_append_drop]
  rw [e, List.length_append]; omega
theorem flat_rep (n : Nat) (v : Value) : (List.replicate ((n : Int)).toNat [v]).flatten = List.replicate n v := by simp
theorem strs_rep (c : Str) (t : Tok) : ∀ n : Nat, StrsAre (List.replicate n (.str c t)) (List.replicate n c)
  | 0 => .nil
  | n + 1 => .cons c t (strs_rep c t n)
structure PlSt where
  ss : List Str
  ys : Array Value
  ep : Nat

theorem pl_end {rl : List (Str × Nat)} {lf I : Addr} {oI : Obj} {g h' : Heap} {L : Addr} {s₀ : Shared} {m₀ m' : Str → Option Value} {i ep tk : Nat} {ss : List Str} {ys : Array Value} {news' : List (Addr × Obj)} {stored : List Str} {Led : PlSt → List (Addr × Obj)}
    (F : Fr g L h' m') (N : News g L h' news') (hL : Led = fun c : PlSt => [(lf, listOf c.ys c.ep)]) (hI : (I, oI) ∈ news') (hl : (lf, listOf ys ep) ∈ news') (hlI : @Ne Nat lf I) (hS : StrsAre ys.toList ss) (ha : ss = expand (rl.take (i + 1))) (hr : ∀ z, stored.contains z = false → m' z = m₀ z) :
    LoopEnd g L s₀ Led (fun _ => []) (fun c => StrsAre c.ys.toList c.ss) stored m₀ (fun c => c.ss = expand (rl.take (i + 1))) I oI { s₀ with heap := h', toks := tk } := by
  subst hL
  exact ⟨⟨ss, ys, ep⟩, h', tk, m', news', rfl, F, N, hI, (fun p hp => by cases List.mem_singleton.mp hp; exact hl), (fun p hp => by cases List.mem_singleton.mp hp; exact hlI), hS, (fun p hp => nomatch hp), fun z _ h3 => hr z h3, ha⟩

local macro_rules | `(tactic| k_get) => `(tactic| assumption)
local macro_rules | `(tactic| k_inst) => `(tactic| exact instAt_base (by k_asm) (by assumption) (by assumption))
local macro_rules | `(tactic| walk_at "exec For Tuple Attribute cons nil") => `(tactic| refine Mk.intro ?_)
local macro_rules | `(tactic| walk_at "binaryOp Mult ref int") => `(tactic| (k_here; k_dflt (refine KMa.mul (by k_asm) (by k_asm) (News.isList (by k_asm) (by k_mem)) (by omega) (by omega) (by simp only [List.length_cons, List.length_nil]; omega) (flat_rep _ _) ?_); intro D' h' F' N' l1; (try k_lt l1); (try k_sweep)))
local macro_rules | `(tactic| walk_at "call builtin:list.extend") => `(tactic| (k_here; k_dflt (refine extend_K (by k_asm) (by k_asm) (by k_mem) (by simp only [List.size_toArray, List.length_replicate]; omega) (by k_upd) (by simp only [List.size_toArray, List.length_replicate]; omega) ?_); intro h' F' N'; (try k_sweep)))
local macro_rules | `(tactic| walk_at "LoopPost") => `(tactic| (dsimp only [LoopPost]))
set_option maxHeartbeats 8000000 in
theorem places_spec (w : World) (x ls : Addr) (cat : Str) (size : Int) (xs : Array Value) (rl : List (Str × Nat)) (hsz : xs.size ≤ 1000) (hok : ∀ q ∈ rl, 1 ≤ q.2 ∧ q.2 ≤ 200) (hsum : (expand rl).length ≤ 10000) :
    Spec w 309 [.ref x] 6 400 (fun h => PictOb h x ls cat size ∧ h.IsList ls xs ∧ All2 (PairOb h) xs.toList rl)
    (fun h v h' => ∃ l ys ep, v = .ref l ∧ h.get? l = none ∧ h'.get? l = some (listOf ys ep) ∧ StrsAre ys.toList (expand rl)) := by
  intro mean mg mb dp un gd A₀ env outer base h₀ L m s Q E H hpre ret
  have hdp := H.hd
  have hu := H.hu
  refine enter [(Str.ofString "picture", .ref x)] H ret (by k_is) (by k_is) (BindsTo.of_eq rfl) (locs rfl) (fun g L' h₁ tk₁ hst F' N' B' X' T' => ?_) rfl rfl rfl (by decide)
  obtain ⟨hPic, ⟨ol, hol, hcl⟩, hS⟩ := hpre
  have holg := hst _ _ hol
  have hlg : g.IsList ls xs := ⟨ol, hst _ _ hol, hcl⟩
  replace hS : All2 (PairOb g) xs.toList rl := hS.mono fun v q h => h.keeps hst
  have hlen := hS.len
  obtain ⟨dx, es, e2, t1, t2, hx, hdx, g1, g2, g3⟩ := hPic.keeps hst
  clear H ret hol hPic
  k_unmd
  k_fold
  k_steps
  all_goals (try dsimp only)
  refine Mk.of ?_
  refine wpAny_For ?_ (by intro _; rfl)
  k_steps
  rename_i lf _ l1 h' F9 N9
  refine for_list (σ := PlSt) (fun c => [(lf, listOf c.ys c.ep)]) (fun _ => []) (fun c => StrsAre c.ys.toList c.ss) [Str.ofString "sign", Str.ofString "count"] (fun i c => c.ss = expand (rl.take i)) ⟨[], #[], 0⟩
    rfl (hlg.at fun o e => F9.keep _ o e) (.inl ⟨ol, holg⟩) F9 N9 .nil (fun p hp => nomatch hp) rfl ?_ ?_ .never
  · rintro ⟨ss, ys, ep⟩ i v I oI u h tk hv hP hacc hoff F₁ N₁
    dsimp only at *
    obtain ⟨q, hq, a, t3, t4, rfl, ha⟩ := hS.at (i := i) (a := v) (by simpa using hv)
    have ht : IsTup g a #[.str q.1 t3, .int q.2 t4] := ⟨_, ha, rfl, _, rfl⟩
    have hlI : @Ne Nat lf I := hoff _ (.head _)
    obtain ⟨hq1, hq2⟩ := hok q (List.mem_of_getElem? hq)
    have hys : ys.size ≤ 10000 := by
      have h1 := hP.length
      have h2 := expand_le rl i
      rw [hacc] at h1
      rw [Array.length_toList] at h1
      omega
    k_steps
    (rename Fr _ _ _ _ => F8); (rename News _ _ _ _ => N8)
    k_dflt (refine pl_end (ss := ss ++ List.replicate q.2 q.1) F8 N8 rfl (by k_mem) (by k_mem) hlI ?_ ?_ ?_)
    · rw [Array.toList_append]; exact StrsAre.append' hP (strs_rep _ _ _)
    · rw [expand_snoc hq, hacc]
    · intro z h3
      have h3' := h3
      simp only [List.contains_cons, List.contains_nil, Bool.or_false, Bool.or_eq_false_iff, beq_eq_false_iff_ne, ne_eq] at h3'
      (try dsimp only)
      (repeat rw [if_neg (by first | exact h3'.1 | exact h3'.2)])
      exact kstB_off h3 (fun p hp => nomatch hp)
  · rintro ⟨ss, ys, ep⟩ u h tk hP hacc F₁ N₁
    dsimp only at *
    k_steps
    all_goals (try dsimp only)
    rw [List.take_of_length_le (by rw [← hlen, Array.length_toList]; exact Nat.le_refl _)] at hacc
    subst hacc
    exact (show Done g L' s _ _ _ from ⟨_, _, _, rfl, F₁, lf, ys, ep, rfl, fresh_of hst (N₁ _ (.head _)).2.2, (N₁ _ (.head _)).1, hP⟩)
end Mine
end
section -- W10
open PySem PySem.W PyProof.Rows PySem.Calls
set_option Elab.async false
set_option maxRecDepth 100000
namespace Mine
local macro_rules | `(tactic| k_room) => `(tactic| ktr_room)
theorem pow18 {prog : Program} {w : World} {A : Around} {E : Value → Shared → Prop} {s : Shared} {t u : Tok} {Q : Value → Shared → Prop} (h : Q (.int 1000000000000000000 s.toks) { s with toks := s.toks + 1 }) :
    wpAny (model prog w) A (binaryOp .Pow (.int 10 t) (.int 18 u)) Q E s := pow_int_small (by decide) (by decide) (by decide) (by
      have e : (10 : Int) ^ Int.toNat 18 = 1000000000000000000 := by decide
      rw [e]; exact h)
local macro_rules | `(tactic| walk_at "execs nil") => `(tactic| refine wpAny_execs_nil ?_)
local macro_rules | `(tactic| walk_at "binaryOp Pow int int") => `(tactic| refine pow18 ?_)
abbrev penOf (l : Addr) (a : Int) (ta : Tok) (b : Int) (tb : Tok) (c : Int) (tc : Tok) (n : Nat) : Obj := listOf #[.ref l, .int a ta, .int b tb, .int c tc] n

set_option maxHeartbeats 8000000 in
theorem draw_spec (w : World) (p l : Addr) (vs : List Value) (ns : List Int) (a b c many : Int) (ta tb tc tm : Tok) (n : Nat) (hi : IntsAre vs ns) (hn : ns.length ≤ 63) (ha : 0 ≤ a) (ha2 : a ≤ 1000) (hb : 0 ≤ b) (hc : 0 ≤ c) (hc2 : c ≤ 1009) (hm : 0 < many) (hm2 : many ≤ 256) (hpl : p ≠ l) :
    SpecM w 341 [.ref p, .int many tm] p (penOf l a ta b tb c tc n) 6 400 (fun h => h.IsList l vs.toArray)
      (fun v o' => ∃ d t a' ta' b' tb', v = .int d t ∧ o' = penOf l a' ta' b' tb' c tc n ∧ 0 ≤ d ∧ d < many ∧ 0 ≤ a' ∧ a' ≤ a + 1 ∧ 0 ≤ b') := by
  intro mean mg mb dp un gd A₀ env outer base h₀ L m s Q E H N hpre ret
  have hdp := H.hd
  have hu := H.hu
  refine enterM [(Str.ofString "pen", .ref p), (Str.ofString "many", .int many tm)] H N ret (by k_is) (by k_is) (BindsTo.of_eq rfl) (locs rfl) (fun g L' h₁ tk₁ hst F' N' B' X' T' => ?_) rfl rfl rfl (by decide)
  obtain ⟨ol, hol, hcl⟩ := hpre
  have holg := hst _ _ (Ne.symm hpl) hol
  have hlg : g.IsList l vs.toArray := ⟨ol, holg, hcl⟩
  clear H ret hol N
  k_unmd
  k_fold
  k_steps
  all_goals (try dsimp only)
  all_goals ((rename Fr _ _ _ _ => F8); (rename News _ _ _ _ => N8))
  all_goals refine (show DoneM g L' s p _ _ _ from ⟨_, _, _, _, rfl, F8, N8, _, _, _, _, _, _, rfl, rfl, Int.fmod_nonneg_of_pos _ hm, Int.fmod_lt_of_pos _ hm, ?_, ?_, ?_⟩)
  all_goals first | omega | (refine Int.fdiv_nonneg ?_ ?_ <;> omega)
end Mine
end
section -- W8
open PySem PySem.W PyProof.Rows PySem.Calls PyProof.Rows.LCg
set_option Elab.async false
set_option maxRecDepth 100000
namespace Mine
theorem NewObjs.news2 {h₀ h h' : Heap} {L : Addr} {news objs all : List (Addr × Obj)} (hadd : ∀ a o, h.get? a = none → h'.get? a = some o → News h₀ L h' ((a, o) :: news)) (N : News h₀ L h' news) (O : NewObjs h h' objs) (hs : ∀ p ∈ all, p ∈ objs ∨ p ∈ news) : News h₀ L h' all := by
  intro p hp
  rcases hs p hp with hp | hp
  · exact hadd _ _ (O p hp).1 (O p hp).2 p (.head _)
  · exact N p hp
theorem SignOk.text {c : Str} (h : SignOk c) : ([(⟨#[65]⟩ : Str), ⟨#[88]⟩, ⟨#[57]⟩, ⟨#[66]⟩, ⟨#[48]⟩, ⟨#[47]⟩].any fun x => x == c) = true := by
  rcases h with rfl | rfl | rfl | rfl | rfl | rfl <;> decide +kernel
/-- a Picture that a call made -/
def PictNew (h h' : Heap) (v : Value) (rl : List (Str × Nat)) (cat : Str) (size : Int) : Prop :=
  ∃ (x dx ls : Addr) (es : List DictEntry) (ep n : Nat) (ys : Array Value) (objs : List (Addr × Obj)) (t1 t2 : Tok), v = .ref x ∧ NewObjs h h' ((x, instObj 91 dx) :: (dx, dictOf es ep) :: (ls, listOf ys n) :: objs) ∧ All2 (PairIn objs) ys.toList rl ∧
    getL (Str.ofString "symbols") es = some (some (.ref ls)) ∧ getL (Str.ofString "category") es = some (some (.str cat t1)) ∧ getL (Str.ofString "size") es = some (some (.int size t2))

local macro_rules | `(tactic| k_room) => `(tactic| ktr_room)
local macro_rules | `(tactic| walk_at "execs nil") => `(tactic| refine wpAny_execs_nil ?_)
local macro_rules | `(tactic| k_mem) => `(tactic| k_ownIn)
local macro_rules | `(tactic| k_get) => `(tactic| assumption)
local macro_rules | `(tactic| k_inst) => `(tactic| exact instAt_base (by k_asm) (by assumption) (by assumption))
local macro_rules | `(tactic| walk_at "LoopPost") => `(tactic| (dsimp only [LoopPost]))
local macro_rules | `(tactic| walk_at "exec For Name Name cons nil") => `(tactic| refine Mk.intro ?_)
local macro_rules | `(tactic| walk_at "call ref") => `(tactic| (k_here; k_dflt (first | (show wpAny _ _ (call (Value.ref 149) _ _) _ _ _) | (show wpAny _ _ (call (Value.ref 154) _ _) _ _ _) | (show wpAny _ _ (call (Value.ref 290) _ _) _ _ _)); refine Mk.intro ?_))
set_option maxHeartbeats 8000000 in
theorem text_picture_spec (w : World) (t : Str) (tk : Tok) (l : Addr) (xs : Array Value) (qs : List (Str × Nat)) (hsz : xs.size ≤ 1000) (hrl : (rle qs).length ≤ 1000) (hsq : ∀ q ∈ qs, SignOk q.1) (hok : ∀ q ∈ rle qs, SignOk q.1 ∧ q.2 ≤ 10000) (hsum : ((rle qs).map fun q => (q.2 : Int)).sum ≤ 9999) (hed : ∃ q ∈ rle qs, q.1 = Str.ofString "B" ∨ q.1 = Str.ofString "0" ∨ q.1 = Str.ofString "/") :
    Spec w 297 [.str t tk, .ref l] 12 900 (fun h => h.IsList l xs ∧ All2 (SignOb h) xs.toList qs) (fun h v h' => PictNew h h' v (rle qs) (Str.ofString "alnum-edited") ((rle qs).map fun q => (q.2 : Int)).sum) := by
  intro mean mg mb dp un gd A₀ env outer base h₀ L m s Q E H hpre ret
  have hdp := H.hd
  have hu := H.hu
  refine enter [(Str.ofString "text", .str t tk), (Str.ofString "signs", .ref l)] H ret (by k_is) (by k_is) (BindsTo.of_eq rfl) (locs rfl) (fun g L' h₁ tk₁ hst F' N' B' X' T' => ?_) rfl rfl rfl (by decide)
  obtain ⟨⟨ol, hol, hcl⟩, hS⟩ := hpre
  have hlg : g.IsList l xs := ⟨ol, hst _ _ hol, hcl⟩
  replace hS : All2 (SignOb g) xs.toList qs := hS.mono fun v q h => h.keeps hst
  have hlen := hS.len
  have holg := hst _ _ hol
  clear H ret hol
  k_unmd
  k_fold
  k_steps
  all_goals (try dsimp only)
  refine Mk.of ?_
  refine wpAny_For ?_ (by intro _; rfl)
  k_steps
  (rename Fr _ _ _ _ => F9); (rename News _ _ _ _ => N9)
  refine for_list (σ := Unit) (fun _ => []) (fun _ => []) (fun _ => True) [Str.ofString "one"] (fun _ _ => True) ()
    rfl (hlg.at fun o e => F9.keep _ o e) (.inl ⟨ol, holg⟩) F9 N9 trivial (fun p hp => nomatch hp) trivial ?_ ?_ .never
  · rintro _ i v I oI u h tk2 hv _ _ hoff F₁ N₁
    dsimp only at *
    obtain ⟨q, hq, hO⟩ := hS.at (i := i) (a := v) (by simpa using hv)
    obtain ⟨x, dx, es, e2, t1, t2, rfl, hx, hdx, g1, g2⟩ := hO
    have htx := (hsq q (List.mem_of_getElem? hq)).text
    k_steps
    all_goals (try dsimp only)
    (rename Fr _ _ _ _ => F8); (rename News _ _ _ _ => N8)
    refine ⟨(), _, _, _, _, rfl, F8, N8, by k_mem, (fun p hp => nomatch hp), (fun p hp => nomatch hp), trivial, (fun p hp => nomatch hp), ?_, trivial⟩
    intro z h2 h3
    have h3' := h3
    simp only [List.contains_cons, List.contains_nil, Bool.or_false, beq_eq_false_iff_ne, ne_eq] at h3'
    (try dsimp only)
    (repeat rw [if_neg h3'])
    exact kstB_off h3 (fun p hp => nomatch hp)
  · rintro _ u h tk2 _ _ F₁ N₁
    dsimp only at *
    k_steps
    refine Mk.of ?_
    refine Spec.use (symbols_of_spec w l xs qs hsz) (by k_asm) (by k_asm) (by k_asm) (by k_asm) (by k_asm) rfl rfl rfl rfl (by ktr_room) (by ktr_units) ⟨hlg.at fun o e => F₁.keep _ o e, hS.mono fun v q h => h.keeps F₁.keep⟩ ?_
    rintro v' h' tk' F2 N2' hst' ⟨ls, ys, n, objs, rfl, hO, hP⟩ hne' hadd
    have N2 : News g L' h' ((ls, listOf ys n) :: objs) := NewObjs.news2 hadd N2' hO (fun p hp => .inl hp)
    have hys : ys.size ≤ 1000 := by have := hP.len; rw [Array.length_toList] at this; omega
    clear F₁ N₁ N2' hst' hne' hadd hO
    k_steps
    refine Mk.of ?_
    (rename Fr _ _ _ _ => F3); (rename News _ _ _ _ => N3)
    refine Spec.use (size_of_symbols_spec w ls ys (rle qs) hys hok) (by k_asm) (by k_asm) (by k_asm) (by k_asm) (by k_asm) rfl rfl rfl rfl (by ktr_room) (by ktr_units) ⟨News.isList N3 (by k_mem), PairIn.heap hP N3 (fun p hp => by k_ownIn)⟩ ?_
    rintro v' h' tk' F4 N4 hst' ⟨t4, rfl⟩ hne' hadd
    clear F3 N3 hst' hne' hadd
    k_steps
    refine Mk.of ?_
    (rename Fr _ _ _ _ => F3); (rename News _ _ _ _ => N3)
    refine Spec.use (text_category_spec w ls ys (rle qs) hys hed) (by k_asm) (by k_asm) (by k_asm) (by k_asm) (by k_asm) rfl rfl rfl rfl (by ktr_room) (by ktr_units) ⟨News.isList N3 (by k_mem), PairIn.heap hP N3 (fun p hp => by k_ownIn)⟩ ?_
    rintro v' h' tk' F4 N4 hst' ⟨t5, rfl⟩ hne' hadd
    clear F3 N3 hst' hne' hadd
    k_steps
    refine Mk.of ?_
    (rename Fr _ _ _ _ => F3); (rename News _ _ _ _ => N3)
    refine Spec.use (size_of_symbols_spec w ls ys (rle qs) hys hok) (by k_asm) (by k_asm) (by k_asm) (by k_asm) (by k_asm) rfl rfl rfl rfl (by ktr_room) (by ktr_units) ⟨News.isList N3 (by k_mem), PairIn.heap hP N3 (fun p hp => by k_ownIn)⟩ ?_
    rintro v' h' tk' F4 N4 hst' ⟨t6, rfl⟩ hne' hadd
    clear F3 N3 hst' hne' hadd
    k_steps
    all_goals (try dsimp only)
    (rename Fr _ _ _ _ => F8); (rename News _ _ _ _ => N8)
    exact (show Done g L' s _ _ _ from ⟨_, _, _, rfl, F8, _, _, ls, _, _, n, ys, objs, _, _, rfl, NewObjs.of hst N8, hP, by with_unfolding_all rfl, by with_unfolding_all rfl, by with_unfolding_all rfl⟩)
end Mine
end
section -- W12
open PySem PySem.W PyProof.Rows PySem.Calls PyProof.Rows.LCg
set_option Elab.async false
set_option maxRecDepth 100000
namespace Mine
theorem ones_sum : ∀ l : List Nat, ((l.map fun c => (⟨#[c]⟩ : Str)).map (·.length)).sum = l.length
  | [] => rfl
  | c :: r => by
    have ih := ones_sum r
    simp only [List.map_cons, List.sum_cons, ih, List.length_cons]
    show 1 + r.length = r.length + 1
    omega
theorem sjoin_ones : ∀ l : List Nat, Str.join (Str.ofString "") (l.map fun c => (⟨#[c]⟩ : Str)) = ⟨l.toArray⟩
  | [] => rfl
  | [c] => rfl
  | c :: d :: r => by
    have ih := sjoin_ones (d :: r)
    show (⟨#[c]⟩ : Str) ++ Str.ofString "" ++ Str.join (Str.ofString "") ((d :: r).map fun c => (⟨#[c]⟩ : Str)) = _
    rw [ih]
    show Str.mk ((#[c] ++ (Str.ofString "").cps) ++ (d :: r).toArray) = Str.mk _
    congr 1
    have e : (Str.ofString "").cps = #[] := by decide +kernel
    rw [e]
    apply Array.toList_inj.mp
    simp
theorem join_ones2 (l : List Nat) : Txt.join (Str.ofString "") (l.map fun c => (⟨#[c]⟩ : Str)) = ⟨l.toArray⟩ :=
  (eq_of_beq (join_closes (sep := Str.ofString "") (sep' := Str.ofString "") rfl)).trans (sjoin_ones l)
theorem instAt_news {h₀ h : Heap} {L : Addr} {news : List (Addr × Obj)} (N : News h₀ L h news) {x dx C : Addr} {od : Obj} (hx : (x, instObj C dx) ∈ news) (hd : (dx, od) ∈ news) : InstAt h x (instObj C dx) C (some od) := ⟨(N _ hx).1, rfl, rfl, (N _ hd).1⟩
theorem PictNew.up {h h1 h' : Heap} {v : Value} {rl : List (Str × Nat)} {cat : Str} {size : Int} (k : h.StaysIn h1) (P : PictNew h1 h' v rl cat size) : PictNew h h' v rl cat size := by
  obtain ⟨x, dx, ls, es, ep, n, ys, objs, t1, t2, e, O, r⟩ := P
  exact ⟨x, dx, ls, es, ep, n, ys, objs, t1, t2, e, fun p hp => ⟨fresh_of k (O p hp).1, (O p hp).2⟩, r⟩
def isAX (c : Str) : Bool := [Str.ofString "A", Str.ofString "X"].any fun x => x == c
theorem ax_pos {qs : List (Str × Nat)} (h : ∃ q ∈ qs, q.1 = Str.ofString "A" ∨ q.1 = Str.ofString "X") : 0 < (qs.filter fun q => isAX q.1).length := by
  obtain ⟨q, hq, hc⟩ := h
  refine List.length_pos_of_mem (List.mem_filter.mpr ⟨hq, ?_⟩)
  rcases hc with e | e <;> rw [e] <;> decide +kernel
local macro_rules | `(tactic| k_room) => `(tactic| ktr_room)
local macro_rules | `(tactic| walk_at "execs nil") => `(tactic| refine wpAny_execs_nil ?_)
local macro_rules | `(tactic| k_mem) => `(tactic| k_ownIn)
local macro_rules | `(tactic| k_get) => `(tactic| assumption)
local macro_rules | `(tactic| k_inst) => `(tactic| exact instAt_news (by k_asm) (by assumption) (by assumption))
local macro_rules | `(tactic| walk_at "call builtin:str.join") => `(tactic| (k_here; k_dflt (refine join_listC (News.isList (by k_asm) (by k_mem)) (by assumption) (by decide) (by assumption) ?_); intro t' k'))
local macro_rules | `(tactic| walk_at "compareOp NotEq ref ref") => `(tactic| (k_here; k_dflt (refine ne_diff (News.isList (by k_asm) (by k_mem)) (News.isList (by k_asm) (by k_mem)) (by assumption) (by ktr_units) ?_)))
local macro_rules | `(tactic| walk_at "eval ListComp") => `(tactic| refine Mk.intro ?_)
local macro_rules | `(tactic| walk_at "call ref") => `(tactic| (k_here; k_dflt (first | (show wpAny _ _ (call (Value.ref 142) _ _) _ _ _) | (show wpAny _ _ (call (Value.ref 297) _ _) _ _ _)); refine Mk.intro ?_))
set_option maxHeartbeats 8000000 in
theorem read_picture_spec (w : World) (t : Str) (tk : Tok) (qs : List (Str × Nat)) (hl : t.length ≤ 30) (hasc : ∀ c ∈ t.cps, c < 97) (hp : Pieces t 0 qs) (hrl : (rle qs).length ≤ 1000) (hsq : ∀ q ∈ qs, SignOk q.1) (hok : ∀ q ∈ rle qs, SignOk q.1 ∧ q.2 ≤ 10000) (hsum : ((rle qs).map fun q => (q.2 : Int)).sum ≤ 9999) (hed : ∃ q ∈ rle qs, q.1 = Str.ofString "B" ∨ q.1 = Str.ofString "0" ∨ q.1 = Str.ofString "/")
    (hAX : ∃ q ∈ qs, q.1 = Str.ofString "A" ∨ q.1 = Str.ofString "X") :
    Spec w 302 [.str t tk] 20 1500 (fun _ => True) (fun h v h' => PictNew h h' v (rle qs) (Str.ofString "alnum-edited") ((rle qs).map fun q => (q.2 : Int)).sum) := by
  intro mean mg mb dp un gd A₀ env outer base h₀ L m s Q E H hpre ret
  have hdp := H.hd
  have hu := H.hu
  refine enter [(Str.ofString "text", .str t tk)] H ret (by k_is) (by k_is) (BindsTo.of_eq rfl) (locs rfl) (fun g L' h₁ tk₁ hst F' N' B' X' T' => ?_) rfl rfl rfl (by decide)
  clear H ret
  k_unmd
  k_fold
  k_steps
  all_goals (try dsimp only)
  refine Mk.of ?_
  refine comp_eval (cl := []) (by rfl) (by rfl) (by decide) ?_ (by intro _; rfl)
  k_steps
  (rename Fr _ _ _ _ => F9); (rename News _ _ _ _ => N9)
  refine comp_str (fun i ys _ => StrsAre ys ((t.cps.toList.take i).map fun c => ⟨#[c]⟩)) rfl ?_ ?_ (by decide) rfl (by rfl) F9 N9 .nil ?_ ?_
  · rw [Array.all_eq_true]
    intro i hi
    exact decide_eq_true (Nat.lt_trans (hasc _ (Array.getElem_mem hi)) (by decide))
  · rw [sizeLine_eq]; exact Nat.le_trans hl (by decide)
  · rintro i ys news I oI C oC D m₂ h tk E' hI hoC ⟨c, u, hc, hB⟩ F' N' off ne
    have hlt : (⟨#[c]⟩ : Str).cps.toList < (Str.ofString "a").cps.toList := by
      have hc' := hasc c (Array.mem_of_getElem? hc)
      have e : (Str.ofString "a").cps.toList = [97] := by decide +kernel
      rw [e]
      exact List.Lex.rel hc'
    refine wpAny_tests_nil ?_
    k_steps
    all_goals first
      | (exfalso; exact absurd hlt (by assumption))
      | skip
    refine comp_same F' N' (by intro p hp; k_ownIn) off ?_
    have hc2 : t.cps.toList[i]? = some c := by simpa using hc
    rw [List.take_add_one, hc2, Option.toList_some, List.map_append]
    exact StrsAre.append' hI (.cons _ _ .nil)
  · rintro D h tk ys news' F' N' off hI
    rw [List.take_of_length_le (by simp)] at hI
    have hI' : StrsAre ys.toArray.toList (t.cps.toList.map fun c => (⟨#[c]⟩ : Str)) := by simpa using hI
    have hw : ((t.cps.toList.map fun c => (⟨#[c]⟩ : Str)).map (·.length)).sum + (t.cps.toList.map fun c => (⟨#[c]⟩ : Str)).length * 64 ≤ 16777216 := by
      have e := ones_sum t.cps.toList
      rw [e, List.length_map, Array.length_toList]
      have hl' : t.cps.size ≤ 30 := hl
      omega
    have htj : Txt.join (Str.ofString "") (t.cps.toList.map fun c => (⟨#[c]⟩ : Str)) = t := by rw [join_ones2]
    k_steps
    rw [htj] at *
    refine Mk.of ?_
    (rename Fr _ _ _ _ => F1); (rename News _ _ _ _ => N1)
    refine Spec.use (signs_of_spec w t _ qs (by omega) hp) (by k_asm) (by k_asm) (by k_asm) (by k_asm) (by k_asm) rfl rfl rfl rfl (by ktr_room) (by ktr_units) trivial ?_
    rintro v' h' tk' F2 N2' hst' ⟨l, xs, n, objs, rfl, hO, hS⟩ hne' hadd
    have N2 : News g L' h' ((l, listOf xs n) :: objs) := NewObjs.news2 hadd N2' hO (fun p hp => .inl hp)
    have hlen := hS.len
    have hlen2 := hp.len
    have hxs : xs.size ≤ 1000 := by rw [Array.length_toList] at hlen; omega
    clear F1 N1 N2' hst' hne' hadd hO off hI hI' hw
    k_steps
    refine Mk.of ?_
    refine comp_eval (cl := []) (by rfl) (by rfl) (by decide) ?_ (by intro _; rfl)
    k_steps
    (rename Fr _ _ _ _ => F3); (rename News _ _ _ _ => N3)
    refine comp_list (fun i ys news => (∀ p ∈ (l, listOf xs n) :: objs, p ∈ news) ∧ ys.length = ((qs.take i).filter fun q => isAX q.1).length) rfl (News.isList N3 (by k_mem)) (.inr ⟨listOf xs n, fun _ _ _ h => h.1 _ (.head _)⟩) (by rw [sizeLine_eq]; omega)
      (by decide) rfl (by rfl) F3 N3 ⟨fun p hp => by k_ownIn, rfl⟩ ?_ ?_
    · rintro i ys news I oI C oC D m₂ h tk E' ⟨hall, hI⟩ hoC ⟨v, hv, hB⟩ F' N' off ne
      obtain ⟨q, hq, x, dx, es, e2, t1, t2, rfl, hx, hdx, g1, g2⟩ := hS.at (i := i) (a := v) (by simpa using hv)
      have hx2 : (x, instObj 119 dx) ∈ (I, oI) :: (C, oC) :: (D, lst ys) :: news := .tail _ (.tail _ (.tail _ (hall _ (.tail _ hx))))
      have hdx2 : (dx, dictOf es e2) ∈ (I, oI) :: (C, oC) :: (D, lst ys) :: news := .tail _ (.tail _ (.tail _ (hall _ (.tail _ hdx))))
      have hnx : ((qs.take (i + 1)).filter fun q => isAX q.1).length = ((qs.take i).filter fun q => isAX q.1).length + if isAX q.1 = true then 1 else 0 := by
        rw [List.take_add_one, hq, List.filter_append, List.length_append, Option.toList_some]
        cases hd : isAX q.1 <;> simp [hd]
      refine wpAny_tests_one ?_
      k_steps
      · rename_i hc
        (rename Fr _ _ _ _ => F8); (rename News _ _ _ _ => N8)
        refine comp_same F8 N8 (by intro p hp; k_ownIn) off ⟨hall, ?_⟩
        rw [hnx, if_pos (show isAX q.1 = true from hc), List.length_append, hI]; rfl
      · rename_i hc
        (rename Fr _ _ _ _ => F8); (rename News _ _ _ _ => N8)
        refine comp_same F8 N8 (by intro p hp; k_ownIn) off ⟨hall, ?_⟩
        rw [hnx, if_neg (by rw [show isAX q.1 = false from hc]; exact Bool.false_ne_true), hI]; rfl
    · rintro D h tk ys news' F' N' off ⟨hall, hI⟩
      have hneq : (ys.toArray.size != (#[] : Array Value).size) = true := by
        have h1 := ax_pos hAX
        rw [List.take_of_length_le (by rw [← hlen, Array.length_toList]; exact Nat.le_refl _)] at hI
        rw [List.size_toArray, hI]
        rw [bne_iff_ne]
        exact Nat.ne_of_gt h1
      have hall2 : ∀ p ∈ (D, lst ys) :: (l, listOf xs n) :: objs, p ∈ (D, lst ys) :: news' := fun p hp => by
        rcases List.mem_cons.mp hp with rfl | hp
        · exact .head _
        · exact .tail _ (hall p hp)
      replace N' := news_sub N' hall2
      k_steps
      refine Mk.of ?_
      (rename Fr _ _ _ _ => F5); (rename News _ _ _ _ => N5)
      refine Spec.use (text_picture_spec w t _ l xs qs hxs hrl hsq hok hsum hed) (by k_asm) (by k_asm) (by k_asm) (by k_asm) (by k_asm) rfl rfl rfl rfl (by ktr_room) (by ktr_units) ⟨News.isList N5 (by k_mem), hS.heap N5 (fun p hp => by k_ownIn)⟩ ?_
      rintro v' h' tk' F6 N6 hst' hP hne' hadd
      refine (show Done g L' s _ _ _ from ⟨_, _, _, rfl, F6, ?_⟩)
      exact hP.up (fun b o e => F5.keep b o (hst b o e))
end Mine
end
section -- W11
open PySem PySem.W PyProof.Rows PySem.Calls PyProof.Rows.LCg
set_option Elab.async false
set_option maxRecDepth 100000
namespace Mine
/-- what a place of a text's picture lays -/
def isIns (c : Str) : Bool := !(Builtin.Str.occurrences (Str.ofString "B0/,") c 0 (Str.ofString "B0/,").length 1).isEmpty
def heldOf (n : Nat) (ks : List Int) : List Int := ks.take n ++ List.replicate (n - ks.length) 32
def insStep (hs : List Int) (st : List Int × Nat) (c : Str) : List Int × Nat := if isIns c = true then (st.1 ++ [(((laid c).cps.getD 0 0 : Nat) : Int)], st.2) else (st.1 ++ [hs.getD st.2 0], st.2 + 1)
def insInts (cs : List Str) (ks : List Int) : List Int := (cs.foldl (insStep (heldOf (dataCount cs) ks)) ([], 0)).1

theorem SignOk.ins {c : Str} (h : SignOk c) : (isIns c = true → (laid c).length = 1 ∧ (((laid c).cps.getD 0 0 : Nat) : Int) < 256 ∧ isData c = false) ∧ (isIns c = false → isData c = true) := by
  rcases h with rfl | rfl | rfl | rfl | rfl | rfl <;> decide +kernel
theorem dataCount_cons (c : Str) (cs : List Str) : dataCount (c :: cs) = (if isData c = true then 1 else 0) + dataCount cs := by
  unfold dataCount
  rw [List.filter_cons]
  cases isData c <;> simp <;> omega
theorem insStep_ins {hs : List Int} {st : List Int × Nat} {c : Str} (h : isIns c = true) : insStep hs st c = (st.1 ++ [(((laid c).cps.getD 0 0 : Nat) : Int)], st.2) := by unfold insStep; rw [if_pos h]
theorem insStep_data {hs : List Int} {st : List Int × Nat} {c : Str} (h : isIns c = false) : insStep hs st c = (st.1 ++ [hs.getD st.2 0], st.2 + 1) := by unfold insStep; rw [if_neg (by rw [h]; exact Bool.false_ne_true)]
theorem ins_state (hs : List Int) : ∀ (cs : List Str) (st : List Int × Nat), (∀ c ∈ cs, SignOk c) → (cs.foldl (insStep hs) st).1.length = st.1.length + cs.length ∧ (cs.foldl (insStep hs) st).2 = st.2 + dataCount cs
  | [], st, _ => by simp [dataCount]
  | c :: cs, st, h => by
    obtain ⟨h1, h2⟩ := ins_state hs cs (insStep hs st c) fun x hx => h x (.tail _ hx)
    have hc := (h c (.head _)).ins
    rw [List.foldl_cons, h1, h2, dataCount_cons]
    cases hi : isIns c with
    | true =>
      have hd := (hc.1 hi).2.2
      rw [insStep_ins hi, hd, List.length_append]
      simp only [List.length_cons, List.length_nil, Bool.false_eq_true, if_false]
      constructor <;> omega
    | false =>
      have hd := hc.2 hi
      rw [insStep_data hi, hd, List.length_append]
      simp only [List.length_cons, List.length_nil, if_true]
      constructor <;> omega
theorem heldOf_len (n : Nat) (ks : List Int) : (heldOf n ks).length = n := by
  unfold heldOf
  rw [List.length_append, List.length_take, List.length_replicate]; omega
theorem heldOf_in {n : Nat} {ks : List Int} {b : Array UInt8} (h : KBw.bInts b = heldOf n ks) {j : Nat} : 0 ≤ (heldOf n ks).getD j 0 ∧ (heldOf n ks).getD j 0 < 256 := KBw.getD_in fun k hk => KBw.ints_in (b := b) (by rw [h]; exact hk)
theorem data_lt {cs : List Str} {i : Nat} {c : Str} (hc : cs[i]? = some c) (hd : isData c = true) : dataCount (cs.take i) < dataCount cs := by
  have e : dataCount cs = dataCount (cs.take (i + 1)) + dataCount (cs.drop (i + 1)) := by
    unfold dataCount
    rw [← List.length_append, ← List.filter_append, List.take_append_drop]
  have e2 : dataCount (cs.take (i + 1)) = dataCount (cs.take i) + 1 := by
    unfold dataCount
    rw [List.take_add_one, hc, List.filter_append, List.length_append, Option.toList_some]
    simp [hd]
  omega
theorem expand_mem {rl : List (Str × Nat)} (h : ∀ q ∈ rl, SignOk q.1) : ∀ c ∈ expand rl, SignOk c := fun c hc => by
  unfold expand at hc
  rw [List.mem_flatMap] at hc
  obtain ⟨q, hq, hm⟩ := hc
  rw [(List.mem_replicate.mp hm).2]
  exact h q hq
structure InSt where
  fb : Array UInt8
  k : Nat
  tk : Tok
local macro_rules | `(tactic| k_room) => `(tactic| ktr_room)
local macro_rules | `(tactic| walk_at "execs nil") => `(tactic| refine wpAny_execs_nil ?_)
local macro_rules | `(tactic| walk_at "call ref") => `(tactic| (k_here; refine Mk.intro ?_))
local macro_rules | `(tactic| walk_at "call ref") => `(tactic| (k_here; k_dflt (refine Spec.use (places_spec _ _ _ _ _ _ _ (by assumption) (by assumption) (by assumption)) (by k_asm) (by k_asm) (by k_asm) (by k_asm) (by k_asm) rfl rfl rfl rfl (by ktr_room) (by ktr_units) (by assumption) ?_); rintro v' h' tk' F' N' hst' ⟨a', ys', ep', e', hn', ho', hS'⟩ hne' hadd'; subst e'; (replace hne' := hne' _ hn'); (replace N' := hadd' _ _ hn' ho'); clear hadd' hst' hn' ho'; (simp only [AllNe, and_true] at hne'); (have hlen' := hS'.length); (have hys' := Array.length_toList (xs := ys')); (try k_sweep)))
local macro_rules | `(tactic| walk_at "call ref") => `(tactic| (k_here; k_dflt (refine Spec.use (data_places_spec _ _ _ (expand _) ?hz) (by k_asm) (by k_asm) (by k_asm) (by k_asm) (by k_asm) rfl rfl rfl rfl (by ktr_room) (by ktr_units) ⟨News.isList (by k_asm) (by k_mem), by assumption⟩ ?_; (case hz => omega)); rintro v' h' tk' F' N' hst' ⟨t', e'⟩ hne' hadd'; subst e'; clear hadd' hst' hne'; (try k_sweep)))
local macro_rules | `(tactic| walk_at "subscriptTail") => `(tactic| (k_here; (with_reducible show wpAny _ _ (subscriptTail _ (PySem.Expr.Slice none _ none _) (Value.bytes _ _) (Value.ref _)) _ _ _); (with_reducible rename Fr _ _ _ _ => F'); (with_reducible rename News _ _ _ _ => N'); (refine slice_to (s := ⟨_, _, _, _, _⟩) F' N' (by assumption) (by assumption) rfl ?_); intro h' t' k c F' N' hc hcl; (try k_sweep)))
local macro_rules | `(tactic| walk_at "call type:bytes") => `(tactic| (k_here; k_dflt (refine bytes_same ?_)))
local macro_rules | `(tactic| walk_at "call builtin:len") => `(tactic| (k_here; (with_reducible show wpAny _ _ (call (Value.builtin "len") [Value.bytes _ _]) _ _ _); (refine KBw.len_K (by assumption) (by omega) ?_)))
local macro_rules | `(tactic| walk_at "binaryOp Mult bytes int") => `(tactic| (k_here; (refine blanks_mul (by rfl) (by omega) (by omega) ?_); intro t' k c hc2; (try k_sweep)))
local macro_rules | `(tactic| walk_at "binaryOp Add bytes bytes") => `(tactic| (k_here; (refine bytes_add (by assumption) (by assumption) (by simp only [List.length_replicate]; omega) ?_); intro t' k d hc3; (try k_sweep)))
theorem bytes_baL {prog : Program} {w : World} {A : Around} {E : Value → Shared → Prop} {s : Shared} {h₀ : Heap} {L a : Addr} {news : List (Addr × Obj)} {b : Array UInt8} {Q : Value → Shared → Prop} (N : News h₀ L s.heap news) (hm : (a, baOf b) ∈ news) (hz : b.size ≤ sizeLine) (h : Q (.bytes b s.toks) { s with toks := s.toks + 1 }) : wpAny (model prog w) A (call (.type "bytes") [.ref a]) Q E s := bytes_ba (N _ hm).1 hz h
theorem getMethod_baL {M : Model} {A : Around} {E : Value → Shared → Prop} {s : Shared} {h₀ : Heap} {L D : Addr} {news : List (Addr × Obj)} {b : Array UInt8} {pl : Sem Bool} {Q : Value × List Value → Shared → Prop} (N : News h₀ L s.heap news) (hm : (D, baOf b) ∈ news) (h : Q (.builtin "bytearray.append", [.ref D]) s) : wpAny M A (getMethod (.ref D) "append" pl) Q E s := getMethod_ba (N _ hm).1 h
theorem ins_end {Led : InSt → List (Addr × Obj)} {lf D I : Addr} {oI o : Obj} {g h' : Heap} {L : Addr} {s₀ : Shared} {m₀ m' : Str → Option Value} {k tk2 : Nat} {tk : Tok} {fb : Array UInt8} {news' : List (Addr × Obj)} {P : InSt → Prop} {stored : List Str}
    (F : Fr g L h' m') (N : News g L h' news') (hL : Led = fun c => [(D, baOf c.fb), (lf, o)]) (hI : (I, oI) ∈ news') (hD : (D, baOf fb) ∈ news') (hl : (lf, o) ∈ news') (hDI : @Ne Nat D I) (hlI : @Ne Nat lf I) (hat : m' (Str.ofString "at") = some (.int k tk)) (hP : P ⟨fb, k, tk⟩)
    (hr : ∀ z, (∀ p ∈ [(Str.ofString "at", Value.int k tk)], z ≠ p.1) → stored.contains z = false → m' z = m₀ z) :
    LoopEnd g L s₀ Led (fun c : InSt => [(Str.ofString "at", .int c.k c.tk)]) (fun _ => True) stored m₀ P I oI { s₀ with heap := h', toks := tk2 } := by
  subst hL
  refine ⟨⟨fb, k, tk⟩, h', tk2, m', news', rfl, F, N, hI, ?_, ?_, trivial, ?_, hr, hP⟩
  · intro p hp
    rcases List.mem_cons.mp hp with rfl | hp
    · exact hD
    · cases List.mem_singleton.mp hp; exact hl
  · intro p hp
    rcases List.mem_cons.mp hp with rfl | hp
    · exact hDI
    · cases List.mem_singleton.mp hp; exact hlI
  · intro p hp
    cases List.mem_singleton.mp hp
    exact hat
local macro_rules | `(tactic| walk_at "call ref") => `(tactic| (k_here; k_dflt (refine Spec.use (insert_text_spec _ _ _) (by k_asm) (by k_asm) (by k_asm) (by k_asm) (by k_asm) rfl rfl rfl rfl (by ktr_room) (by ktr_units) True.intro ?_); rintro v' h' tk' F' N' hst' ⟨t', e'⟩ hne' hadd'; subst e'; clear hadd' hst' hne'; (try k_sweep)))
local macro_rules | `(tactic| walk_at "call type:bytes") => `(tactic| (k_here; k_dflt (refine bytes_baL (by k_asm) (by k_mem) (by assumption) ?_)))
local macro_rules | `(tactic| walk_at "call builtin:ord") => `(tactic| (k_here; (refine ord_of_one (by assumption) ?_)))
local macro_rules | `(tactic| walk_at "getMethod ref") => `(tactic| (k_here; k_dflt (refine getMethod_baL (by k_asm) (by k_mem) ?_)))
local macro_rules | `(tactic| walk_at "subscriptTail") => `(tactic| (k_here; (with_reducible show wpAny _ _ (subscriptTail _ _ (Value.bytes _ _) (Value.int _ _)) _ _ _); (refine KBw.item_K (by assumption) (by omega) (by omega) (by omega) ?_); intro t' k' lo' hi'))
local macro_rules | `(tactic| walk_at "LoopPost") => `(tactic| (dsimp only [LoopPost]))
set_option maxHeartbeats 8000000 in
theorem inserted_ok (w : World) (x ls : Addr) (cat : Str) (size : Int) (xs : Array Value) (rl : List (Str × Nat)) (ob : Array UInt8) (ks : List Int) (tk : Tok) (hsz : xs.size ≤ 1000) (hok : ∀ q ∈ rl, 1 ≤ q.2 ∧ q.2 ≤ 200) (hsg : ∀ q ∈ rl, SignOk q.1) (hsum : (expand rl).length ≤ 10000) (hks : KBw.bInts ob = ks) (hkl : ks.length ≤ 100000) :
    SpecOk w 328 [.ref x, .bytes ob tk] 20 2000 (fun h => PictOb h x ls cat size ∧ h.IsList ls xs ∧ All2 (PairOb h) xs.toList rl)
    (fun h v h' => ∃ b t, v = .bytes b t ∧ KBw.bInts b = insInts (expand rl) ks) := by
  intro mean mg mb dp un gd A₀ env outer base h₀ L m s Q H hpre ret
  have hdp := H.hd
  have hu := H.hu
  refine enterOk [(Str.ofString "picture", .ref x), (Str.ofString "octets", .bytes ob tk)] H ret (by k_is) (by k_is) (BindsTo.of_eq rfl) (locs rfl) (fun g L' h₁ tk₁ hst F' N' B' X' T' => ?_) rfl rfl rfl (by decide)
  obtain ⟨hPic, ⟨ol, hol, hcl⟩, hS⟩ := hpre
  have holg := hst _ _ hol
  have hpre1 : PictOb h₁ x ls cat size ∧ h₁.IsList ls xs ∧ All2 (PairOb h₁) xs.toList rl :=
    ⟨(hPic.keeps hst).keeps F'.keep, ⟨ol, F'.keep _ _ holg, hcl⟩, hS.mono fun v q h => (h.keeps hst).keeps F'.keep⟩
  have hdc : dataCount (expand rl) ≤ (expand rl).length := by unfold dataCount; exact List.length_filter_le _ _
  clear H ret hol hPic hS
  refine wpOk_execs_any (pre := [_, _, _]) (rest := [_, _, _]) ?_
  k_unmd
  k_fold
  k_steps
  all_goals (try dsimp only)
  rename_i a ys ep hS _ hlen hys _ _ _ _ tm _ _ _ _ _ _ hcl _ _ _ _ _ _ _ _ _ hc2 td _ d hc3 h' F2 N2
  generalize hcs : expand rl = cs at *
  have hlen2 : cs.length ≤ 10000 := hsum
  have hd : KBw.bInts d = heldOf (dataCount cs) ks := by
    rw [hc3]
    unfold heldOf
    congr 2
    omega
  clear hc3 hc2
  show wpOk _ _ (execs [_, _, _] _) _ _
  refine wpOk_execs_cons ?_
  refine wpOk_Assign_swapped ?_
  refine wpOk_Tuple ?_
  refine wpOk_Call ?_
  k_steps
  (rename Fr _ _ _ _ => F2); (rename News _ _ _ _ => N2)
  refine wpOk_callWith_type0 ?_
  refine call_bytearray_ok ?_
  intro h2 hk2 hb2
  dsimp only at hk2 hb2 ⊢
  have hfr : h'.get? h'.objs.size = none := Heap.get?_none_of_le (Nat.le_refl _)
  have F3 := fr_stays F2 hk2
  have N3 := news_add F2 (news_stays N2 hk2) hfr hb2
  have hne3 : @Ne Nat a h'.objs.size := news_ne N2 hfr _ (.head _)
  clear F2 N2 hk2 hb2 hfr
  generalize h'.objs.size = D at *
  clear h'
  k_steps
  all_goals (try dsimp only)
  (rename Fr _ _ _ _ => F4); (rename News _ _ _ _ => N4)
  show wpOk _ _ (execs [_, _] _) _ _
  refine wpOk_execs_cons ?_
  refine wpOk_For ?_ (by intro _; rfl)
  k_steps
  (rename Fr _ _ _ _ => F5); (rename News _ _ _ _ => N5)
  refine for_listOk (σ := InSt) (fun c => [(D, baOf c.fb), (a, listOf ys ep)]) (fun c => [(Str.ofString "at", .int c.k c.tk)]) (fun _ => True) [Str.ofString "sign"]
    (fun i c => (KBw.bInts c.fb, c.k) = (cs.take i).foldl (insStep (heldOf (dataCount cs) ks)) ([], 0)) ⟨#[], 0, _⟩
    rfl (News.isList N5 (by k_mem)) (.inr ⟨listOf ys ep, fun c _ => .tail _ (.head _)⟩) F5 (news_sub N5 (fun p hp => by k_ownIn)) trivial (fun p hp => by cases List.mem_singleton.mp hp; with_unfolding_all rfl) rfl ?_ ?_
  · rintro ⟨fb, k, tk⟩ i v I oI u h tk2 hv _ hP hoff F6 N6
    dsimp only at *
    obtain ⟨c, t, rfl, hc⟩ := hS.item i v (by simpa using hv)
    have hcm : c ∈ cs := List.mem_of_getElem? hc
    have hsc : SignOk c := expand_mem hsg c (by rw [hcs]; exact hcm)
    have hst1 := ins_state (heldOf (dataCount cs) ks) (cs.take i) ([], 0) (fun c hc => expand_mem hsg c (by rw [hcs]; exact List.mem_of_mem_take hc))
    rw [← hP] at hst1
    have hil : i < cs.length := List.getElem?_eq_some_iff.mp hc |>.1
    have hfs : fb.size < sizeLine := by
      have h1 := hst1.1
      rw [KBw.ints_length] at h1
      simp only [List.length_nil, List.length_take] at h1
      rw [sizeLine_eq]; omega
    have hk : k = dataCount (cs.take i) := by have h2 := hst1.2; simp only [Nat.zero_add] at h2; exact h2
    have hhl := heldOf_len (dataCount cs) ks
    have hDI : @Ne Nat D I := hoff _ (.head _)
    have haI : @Ne Nat a I := hoff _ (.tail _ (.head _))
    k_steps
    refine wpOk_execs_cons ?_
    refine wpOk_If ?_
    refine wpOk_of_any ?_
    k_steps
    · rename_i hem
      have hins : isIns c = false := by unfold isIns; rw [hem]; rfl
      have hdata := hsc.ins.2 hins
      have hkl2 : k < dataCount cs := by rw [hk]; exact data_lt hc hdata
      have hg := heldOf_in (j := k) hd
      refine wpOk_execs_cons ?_
      refine wpOk_Expr ?_
      refine wpOk_MethodCall (pl := _) ?_
      k_steps
      dsimp only
      refine wpOk_callWith_method1 ?_
      k_steps
      (rename Fr _ _ _ _ => F7); (rename News _ _ _ _ => N7)
      refine append_L F7 N7 (by k_upd) (by omega) (by omega) (by omega) ?_
      intro h7 F8 N8
      refine ⟨fun a e => (by cases e), ?_⟩
      show wpOk _ _ (execs [_] _) _ _
      refine wpOk_of_any ?_
      clear F7 N7
      k_steps
      (rename Fr _ _ _ _ => F9); (rename News _ _ _ _ => N9)
      show wpOk _ _ (execs [] _) _ _
      refine wpOk_execs_nil ?_
      refine ins_end (fb := fb.push _) (k := k + 1) F9 N9 rfl (by k_mem) (by k_mem) (by k_mem) hDI haI (by with_unfolding_all rfl) ?_ ?_
      · rw [List.take_add_one, hc, Option.toList_some, List.foldl_append, ← hP, List.foldl_cons, List.foldl_nil, insStep_data hins]
        dsimp only
        rw [bInts_push (by omega) (by omega)]
        rfl
      · intro z h2 h3
        have h3' := h3
        simp only [List.contains_cons, List.contains_nil, Bool.or_false, beq_eq_false_iff_ne, ne_eq] at h3'
        have ha := h2 _ (.head _)
        dsimp only at ha ⊢
        (repeat rw [if_neg (by first | exact ha | exact h3')])
        exact kstB_off h3 (fun p hp => by cases List.mem_singleton.mp hp; exact ha)
    · rename_i hem
      have hins : isIns c = true := by unfold isIns; rw [hem]; rfl
      obtain ⟨hl1, hl2, hnd⟩ := hsc.ins.1 hins
      refine wpOk_execs_cons ?_
      refine wpOk_Expr ?_
      refine wpOk_MethodCall (pl := _) ?_
      k_steps
      dsimp only
      refine wpOk_callWith_method1 ?_
      k_steps
      (rename Fr _ _ _ _ => F7); (rename News _ _ _ _ => N7)
      refine append_L F7 N7 (by k_upd) (by omega) (by omega) (by omega) ?_
      intro h7 F8 N8
      refine ⟨fun a e => (by cases e), ?_⟩
      show wpOk _ _ (execs [] _) _ _
      refine wpOk_execs_nil ?_
      show wpOk _ _ (execs [] _) _ _
      refine wpOk_execs_nil ?_
      refine ins_end (fb := fb.push _) (k := k) F8 N8 rfl (by k_mem) (by k_mem) (by k_mem) hDI haI (by with_unfolding_all rfl) ?_ ?_
      · rw [List.take_add_one, hc, Option.toList_some, List.foldl_append, ← hP, List.foldl_cons, List.foldl_nil, insStep_ins hins]
        dsimp only
        rw [bInts_push (by omega) (by omega)]
      · intro z h2 h3
        have h3' := h3
        simp only [List.contains_cons, List.contains_nil, Bool.or_false, beq_eq_false_iff_ne, ne_eq] at h3'
        have ha := h2 _ (.head _)
        dsimp only at ha ⊢
        (repeat rw [if_neg (by first | exact ha | exact h3')])
        exact kstB_off h3 (fun p hp => by cases List.mem_singleton.mp hp; exact ha)
  · rintro ⟨fb, k, tk⟩ u h tk2 _ hP F6 N6
    dsimp only at *
    have hst1 := ins_state (heldOf (dataCount cs) ks) (cs.take ys.size) ([], 0) (fun c hc => expand_mem hsg c (by rw [hcs]; exact List.mem_of_mem_take hc))
    rw [← hP] at hst1
    have hfs : fb.size ≤ sizeLine := by
      have h1 := hst1.1
      rw [KBw.ints_length] at h1
      simp only [List.length_nil, List.length_take] at h1
      rw [sizeLine_eq]; omega
    show wpOk _ _ (execs [_] _) _ _
    refine wpOk_of_any ?_
    k_steps
    refine (show Done g L' s _ _ _ from ⟨_, _, _, rfl, F6, fb, _, rfl, ?_⟩)
    have e : cs.take ys.size = cs := List.take_of_length_le (by omega)
    rw [e] at hP
    show KBw.bInts fb = insInts cs ks
    unfold insInts
    rw [← hP]
end Mine
end
section -- P1
open PySem PySem.W PyProof.Rows PySem.Calls
set_option Elab.async false
set_option maxRecDepth 100000
namespace Mine
/-! plain laws: no program in sight -/
theorem mem_slice {t : Str} {a b : Option Int} {c : Nat} (h : c ∈ (Txt.slice t a b).cps.toList) : c ∈ t.cps.toList := by
  change c ∈ (StrLaws.sliceText t a b).cps.toList at h
  unfold StrLaws.sliceText at h
  split at h
  · exact h
  · simp only [List.mem_filterMap] at h
    obtain ⟨i, _, hi⟩ := h
    exact Array.mem_toList_iff.mpr (Array.mem_of_getElem? hi)
def okCps : List Nat := [88, 65, 57, 66, 48, 47]
theorem ok_of_cp {c : Nat} (h : c ∈ okCps) : SignOk ⟨#[c]⟩ := by
  simp only [okCps, List.mem_cons, List.not_mem_nil, or_false] at h
  rcases h with rfl | rfl | rfl | rfl | rfl | rfl <;> simp [SignOk]
theorem cp_in_signs {c : Nat} (h : c ∈ okCps) : (Builtin.Str.occurrences (Str.ofString "ABPSVXZ90/,.+-*$") ⟨#[c]⟩ 0 (Str.ofString "ABPSVXZ90/,.+-*$").length 1).isEmpty = false := by
  simp only [okCps, List.mem_cons, List.not_mem_nil, or_false] at h
  rcases h with rfl | rfl | rfl | rfl | rfl | rfl <;> decide +kernel
theorem slice_ne {t : Str} (hall : ∀ c ∈ t.cps.toList, c ∈ okCps) {a b : Option Int} {y : Str} {c : Nat} (hc : c ∈ y.cps.toList) (hn : c ∉ okCps) : (Txt.slice t a b == y) = false := by
  rw [beq_eq_false_iff_ne]
  intro e
  exact hn (hall _ (mem_slice (by rw [e]; exact hc)))
theorem item_at {t : Str} {i : Nat} {c : Nat} (h : t.cps[i]? = some c) : Txt.item t (i : Int) = ⟨#[c]⟩ := by
  have hi : i < t.cps.size := (Array.getElem?_eq_some_iff.mp h).1
  have e : seqIndex? (i : Int) t.length = some i := by
    have hn : ¬ ((i : Int) < 0) := by omega
    have h1 : i < t.length := hi
    simp [seqIndex?, hn, h1]
  unfold Txt.item Txt.charAt
  rw [e, Option.bind_some, h]
  rfl
theorem sign_here {t : Str} (hl : t.length ≤ 1000) (hall : ∀ c ∈ t.cps.toList, c ∈ okCps) {i c : Nat} (h : t.cps[i]? = some c) : SignHere t i ⟨#[c]⟩ := by
  have hi : i < t.cps.size := (Array.getElem?_eq_some_iff.mp h).1
  have hm : c ∈ okCps := hall c (Array.mem_toList_iff.mpr (Array.mem_of_getElem? h))
  refine ⟨hl, hi, ?_, item_at h, ?_⟩
  · simp only [List.any_cons, List.any_nil, Bool.or_false, Bool.or_eq_false_iff]
    have e1 : (Txt.slice t (some ↑i) (some (↑i + 2)) == Str.ofString "CR") = false := slice_ne hall (c := 67) (by decide +kernel) (by decide)
    have e2 : (Txt.slice t (some ↑i) (some (↑i + 2)) == Str.ofString "DB") = false := slice_ne hall (c := 68) (by decide +kernel) (by decide)
    rw [beq_eq_false_iff_ne] at e1 e2
    exact ⟨beq_eq_false_iff_ne.mpr (Ne.symm e1), beq_eq_false_iff_ne.mpr (Ne.symm e2)⟩
  · rw [item_at h]; exact cp_in_signs hm
theorem piece_plain {t : Str} (hl : t.length ≤ 1000) (hall : ∀ c ∈ t.cps.toList, c ∈ okCps) {i c : Nat} (h : t.cps[i]? = some c) : PieceAt t i ⟨#[c]⟩ 1 (i + 1) :=
  ⟨sign_here hl hall h, rfl, .inl ⟨rfl, rfl, by
    have e := slice_ne hall (a := some ((i + 1 : Nat) : Int)) (b := some (((i + 1 : Nat) : Int) + 1)) (y := Str.ofString "(") (c := 40) (by decide +kernel) (by decide)
    rw [bne, e]; rfl⟩⟩
theorem pieces_plain {t : Str} (hl : t.length ≤ 1000) (hall : ∀ c ∈ t.cps.toList, c ∈ okCps) : ∀ (r : List Nat) (i : Nat), t.cps.toList.drop i = r → i ≤ t.length → Pieces t i (r.map fun c => ((⟨#[c]⟩ : Str), 1))
  | [], i, h, hi => by
    have e : i = t.length := by
      have := congrArg List.length h
      simp only [List.length_drop, List.length_nil, Array.length_toList] at this
      have : t.cps.size - i = 0 := this
      have h2 : t.length = t.cps.size := rfl
      omega
    rw [e]; exact .nil
  | c :: r, i, h, hi => by
    have hc : t.cps[i]? = some c := by
      have := congrArg (·[0]?) h
      simpa using this
    have hlt : i < t.cps.size := (Array.getElem?_eq_some_iff.mp hc).1
    refine .cons (piece_plain hl hall hc) (Nat.lt_succ_self _) (pieces_plain hl hall r (i + 1) ?_ hlt)
    rw [← List.drop_drop, h]; rfl

/-- a text that the law draws: what the contracts of read_picture and inserted want -/
structure TextOk (t : Str) (qs : List (Str × Nat)) : Prop where
  len : t.length ≤ 30
  low : ∀ c ∈ t.cps, c < 97
  pieces : Pieces t 0 qs
  signs : ∀ q ∈ qs, SignOk q.1
  few : ∀ q ∈ qs, 1 ≤ q.2 ∧ q.2 ≤ 3
  edited : ∃ q ∈ qs, q.1 = Str.ofString "B" ∨ q.1 = Str.ofString "0" ∨ q.1 = Str.ofString "/"
  data : ∃ q ∈ qs, q.1 = Str.ofString "A" ∨ q.1 = Str.ofString "X"

theorem expand_app (a b : List (Str × Nat)) : expand (a ++ b) = expand a ++ expand b := by unfold expand; rw [List.flatMap_append]
theorem expand_one (q : Str × Nat) : expand [q] = List.replicate q.2 q.1 := by simp [expand]
theorem expand_step (acc : List (Str × Nat)) (q : Str × Nat) : expand (rleStep acc q) = expand acc ++ List.replicate q.2 q.1 := by
  rcases List.eq_nil_or_concat acc with rfl | ⟨a, l, rfl⟩
  · rw [rleStep_nil, expand_one]; rfl
  · rw [List.concat_eq_append, rleStep_snoc]
    split
    · rename_i h
      have h' : l.1 = q.1 := eq_of_beq h
      rw [expand_app, expand_app, expand_one, expand_one, List.append_assoc, h', List.replicate_append_replicate]
    · rw [expand_app _ [q], expand_one]
theorem expand_fold : ∀ (qs acc : List (Str × Nat)), expand (qs.foldl rleStep acc) = expand acc ++ expand qs
  | [], acc => by simp [expand]
  | q :: r, acc => by
    rw [List.foldl_cons, expand_fold r, expand_step, List.append_assoc, show expand (q :: r) = expand ([q] ++ r) from rfl, expand_app, expand_one]
theorem expand_rle (qs : List (Str × Nat)) : expand (rle qs) = expand qs := by unfold rle; rw [expand_fold]; simp [expand]
theorem pos_step {acc : List (Str × Nat)} {q : Str × Nat} (ha : ∀ x ∈ acc, 1 ≤ x.2) (hq : 1 ≤ q.2) : ∀ x ∈ rleStep acc q, 1 ≤ x.2 := by
  rcases List.eq_nil_or_concat acc with rfl | ⟨a, l, rfl⟩
  · rw [rleStep_nil]; intro x hx; cases List.mem_singleton.mp hx; exact hq
  · rw [List.concat_eq_append] at ha ⊢
    rw [rleStep_snoc]
    split
    · intro x hx
      rcases List.mem_append.mp hx with hx | hx
      · exact ha x (List.mem_append.mpr (.inl hx))
      · cases List.mem_singleton.mp hx; show 1 ≤ l.2 + q.2; omega
    · intro x hx
      rcases List.mem_append.mp hx with hx | hx
      · exact ha x hx
      · cases List.mem_singleton.mp hx; exact hq
theorem pos_fold : ∀ (qs acc : List (Str × Nat)), (∀ x ∈ acc, 1 ≤ x.2) → (∀ x ∈ qs, 1 ≤ x.2) → ∀ x ∈ qs.foldl rleStep acc, 1 ≤ x.2
  | [], acc, ha, _ => ha
  | q :: r, acc, ha, hq => by
    rw [List.foldl_cons]
    exact pos_fold r _ (pos_step ha (hq q (.head _))) fun x hx => hq x (.tail _ hx)
theorem sum_expand : ∀ qs : List (Str × Nat), (qs.map fun q => (q.2 : Int)).sum = ((expand qs).length : Int)
  | [] => rfl
  | q :: r => by
    have ih := sum_expand r
    rw [List.map_cons, List.sum_cons, ih, show expand (q :: r) = expand ([q] ++ r) from rfl, expand_app, expand_one, List.length_append, List.length_replicate]
    omega
theorem count_le {qs : List (Str × Nat)} {q : Str × Nat} (h : q ∈ qs) : q.2 ≤ (expand qs).length := by
  obtain ⟨a, b, rfl⟩ := List.append_of_mem h
  rw [show a ++ q :: b = a ++ ([q] ++ b) from rfl, expand_app, expand_app, expand_one, List.length_append, List.length_append, List.length_replicate]
  omega
theorem expand_le3 : ∀ {qs : List (Str × Nat)}, (∀ q ∈ qs, q.2 ≤ 3) → (expand qs).length ≤ 3 * qs.length
  | [], _ => by simp [expand]
  | q :: r, h => by
    have ih := expand_le3 fun x hx => h x (.tail _ hx)
    have hq := h q (.head _)
    rw [show expand (q :: r) = expand ([q] ++ r) from rfl, expand_app, expand_one, List.length_append, List.length_replicate, List.length_cons]
    omega
theorem TextOk.all {t : Str} {qs : List (Str × Nat)} (h : TextOk t qs) : (rle qs).length ≤ 1000 ∧ (∀ q ∈ rle qs, SignOk q.1 ∧ 1 ≤ q.2 ∧ q.2 ≤ 90) ∧ (expand qs).length ≤ 90 ∧ (∃ q ∈ rle qs, q.1 = Str.ofString "B" ∨ q.1 = Str.ofString "0" ∨ q.1 = Str.ofString "/") := by
  have h1 := h.pieces.len
  have h2 := h.len
  have h3 : (expand qs).length ≤ 3 * qs.length := expand_le3 fun q hq => (h.few q hq).2
  have h4 : (rle qs).length ≤ qs.length := by have := rle_len qs []; rw [List.length_nil, Nat.zero_add] at this; exact this
  have hpos : ∀ x ∈ rle qs, 1 ≤ x.2 := pos_fold qs [] (fun _ hx => nomatch hx) fun q hq => (h.few q hq).1
  refine ⟨by omega, fun q hq => ⟨?_, hpos q hq, ?_⟩, by omega, ?_⟩
  · refine expand_mem h.signs q.1 ?_
    rw [← expand_rle]
    unfold expand
    rw [List.mem_flatMap]
    exact ⟨q, hq, List.mem_replicate.mpr ⟨by have := hpos q hq; omega, rfl⟩⟩
  · have := count_le hq
    rw [expand_rle] at this
    omega
  · obtain ⟨q, hq, hc⟩ := h.edited
    have hm : q.1 ∈ expand (rle qs) := by
      rw [expand_rle]
      unfold expand
      rw [List.mem_flatMap]
      exact ⟨q, hq, List.mem_replicate.mpr ⟨by have := (h.few q hq).1; omega, rfl⟩⟩
    unfold expand at hm
    rw [List.mem_flatMap] at hm
    obtain ⟨p, hp, hm⟩ := hm
    have e := (List.mem_replicate.mp hm).2
    exact ⟨p, hp, by rw [← e]; exact hc⟩
end Mine
end
section -- P2
open PySem PySem.W PyProof.Rows PySem.Calls
set_option Elab.async false
set_option maxRecDepth 100000
namespace Mine
theorem pieces_lit {t : Str} (hl : t.length ≤ 1000) (hall : ∀ c ∈ t.cps.toList, c ∈ okCps) : Pieces t 0 (t.cps.toList.map fun c => ((⟨#[c]⟩ : Str), 1)) := pieces_plain hl hall _ 0 rfl (Nat.zero_le _)
theorem textOk_plain {t : Str} (hl : t.length ≤ 30) (hall : ∀ c ∈ t.cps.toList, c ∈ okCps) (he : ∃ c ∈ t.cps.toList, c = 66 ∨ c = 48 ∨ c = 47) (hd : ∃ c ∈ t.cps.toList, c = 65 ∨ c = 88) : TextOk t (t.cps.toList.map fun c => ((⟨#[c]⟩ : Str), 1)) where
  len := hl
  low := fun c hc => by
    have h := hall c (Array.mem_toList_iff.mpr hc)
    simp only [okCps, List.mem_cons, List.not_mem_nil, or_false] at h
    omega
  pieces := pieces_lit (by omega) hall
  signs := fun q hq => by
    obtain ⟨c, hc, rfl⟩ := List.mem_map.mp hq
    exact ok_of_cp (hall c hc)
  few := fun q hq => by
    obtain ⟨c, hc, rfl⟩ := List.mem_map.mp hq
    exact ⟨Nat.le_refl _, (show 1 ≤ 3 by decide)⟩
  edited := by
    obtain ⟨c, hc, h⟩ := he
    refine ⟨_, List.mem_map.mpr ⟨c, hc, rfl⟩, ?_⟩
    rcases h with rfl | rfl | rfl <;> decide +kernel
  data := by
    obtain ⟨c, hc, h⟩ := hd
    refine ⟨_, List.mem_map.mpr ⟨c, hc, rfl⟩, ?_⟩
    rcases h with rfl | rfl <;> decide +kernel
theorem expand_plain (l : List Nat) : expand (l.map fun c => ((⟨#[c]⟩ : Str), 1)) = l.map fun c => (⟨#[c]⟩ : Str) := by
  induction l with
  | nil => rfl
  | cons c r ih =>
    rw [List.map_cons, List.map_cons, show expand (((⟨#[c]⟩ : Str), 1) :: r.map fun c => ((⟨#[c]⟩ : Str), 1)) = expand ([((⟨#[c]⟩ : Str), 1)] ++ r.map fun c => ((⟨#[c]⟩ : Str), 1)) from rfl, expand_app, ih, expand_one]
    rfl
theorem textOk_three : TextOk (Str.ofString "/X(3)") [(Str.ofString "/", 1), (Str.ofString "X", 3)] where
  len := by decide +kernel
  low := by decide +kernel
  pieces := by
    refine .cons (i := 0) (e := 1) ⟨⟨by decide +kernel, by decide +kernel, by decide +kernel, by decide +kernel, by decide +kernel⟩, by decide +kernel, .inl ⟨rfl, rfl, by decide +kernel⟩⟩ (by decide) ?_
    refine .cons (i := 1) (e := 5) ⟨⟨by decide +kernel, by decide +kernel, by decide +kernel, by decide +kernel, by decide +kernel⟩, by decide +kernel, .inr ⟨rfl, rfl, rfl, rfl, rfl⟩⟩ (by decide) ?_
    exact .nil
  signs := fun q hq => by
    rcases List.mem_cons.mp hq with rfl | hq
    · unfold SignOk; decide +kernel
    · cases List.mem_singleton.mp hq; unfold SignOk; decide +kernel
  few := by decide +kernel
  edited := ⟨_, .head _, .inr (.inr rfl)⟩
  data := ⟨_, .tail _ (.head _), .inr rfl⟩
theorem table_rows {w : World} {h : Heap} (X : (hd.heap_39 w.params).In h) : h.IsTuple 334 #[Value.ref 329, Value.ref 330, Value.ref 331, Value.ref 332, Value.ref 333] ∧ ∀ (i : Nat) (v : Value), (#[Value.ref 329, Value.ref 330, Value.ref 331, Value.ref 332, Value.ref 333] : Array Value)[i]? = some v →
    ∃ (T : Addr) (tx : Str) (tt : Tok) (ob : Array UInt8) (tb : Tok) (du : Array UInt8) (td : Tok) (qs : List (Str × Nat)), v = .ref T ∧ h.IsTuple T #[Value.str tx tt, Value.bytes ob tb, Value.bytes du td] ∧ TextOk tx qs ∧ insInts (expand qs) (KBw.bInts ob) = KBw.bInts du ∧ ob.size ≤ 100 ∧ du.size ≤ 100 := by
  refine ⟨⟨_, X _ _ rfl, rfl, _, rfl⟩, fun i v hv => ?_⟩
  rcases i with _ | _ | _ | _ | _ | i
  · cases hv
    exact ⟨329, _, _, _, _, _, _, _, rfl, ⟨_, X _ _ rfl, rfl, _, rfl⟩, textOk_plain (by decide +kernel) (by decide +kernel) (by decide +kernel) (by decide +kernel), by decide +kernel, by decide +kernel, by decide +kernel⟩
  · cases hv
    exact ⟨330, _, _, _, _, _, _, _, rfl, ⟨_, X _ _ rfl, rfl, _, rfl⟩, textOk_plain (by decide +kernel) (by decide +kernel) (by decide +kernel) (by decide +kernel), by decide +kernel, by decide +kernel, by decide +kernel⟩
  · cases hv
    exact ⟨331, _, _, _, _, _, _, _, rfl, ⟨_, X _ _ rfl, rfl, _, rfl⟩, textOk_three, by decide +kernel, by decide +kernel, by decide +kernel⟩
  · cases hv
    exact ⟨332, _, _, _, _, _, _, _, rfl, ⟨_, X _ _ rfl, rfl, _, rfl⟩, textOk_plain (by decide +kernel) (by decide +kernel) (by decide +kernel) (by decide +kernel), by decide +kernel, by decide +kernel, by decide +kernel⟩
  · cases hv
    exact ⟨333, _, _, _, _, _, _, _, rfl, ⟨_, X _ _ rfl, rfl, _, rfl⟩, textOk_plain (by decide +kernel) (by decide +kernel) (by decide +kernel) (by decide +kernel), by decide +kernel, by decide +kernel, by decide +kernel⟩
  · simp at hv
end Mine
end
section -- LawB
open PySem PySem.W PyProof.Rows PySem.Calls PyProof.Rows.LCg
set_option Elab.async false
set_option maxRecDepth 100000
namespace Mine
theorem bInts_inj {b c : Array UInt8} (h : KBw.bInts b = KBw.bInts c) : b = c := by
  apply Array.toList_inj.mp
  have key : ∀ l r : List UInt8, l.map (fun c => (c.toNat : Int)) = r.map (fun c => (c.toNat : Int)) → l = r := by
    intro l
    induction l with
    | nil => intro r h; cases r with
      | nil => rfl
      | cons _ _ => cases h
    | cons x l ih => intro r h; cases r with
      | nil => cases h
      | cons y r =>
        rw [List.map_cons, List.map_cons, List.cons.injEq] at h
        have e : x.toNat = y.toNat := by omega
        rw [UInt8.toNat_inj.mp e, ih r h.2]
  exact key _ _ h
section
variable {prog : Program} {w : World} {A : Around} {E : Value → Shared → Prop} {s : Shared}
theorem ne_same {b c : Array UInt8} {t u : Tok} {Q : Value → Shared → Prop} (e : KBw.bInts b = KBw.bInts c) (h : Q (.bool false) s) : wpAny (model prog w) A (compareOp .NotEq (.bytes b t) (.bytes c u)) Q E s := by
  refine ne_bytes ?_
  rw [bInts_inj e, bne_self_eq_false]
  exact h
theorem eq_same {b c : Array UInt8} {t u : Tok} {Q : Value → Shared → Prop} (e : KBw.bInts b = KBw.bInts c) (h : Q (.bool true) s) : wpAny (model prog w) A (compareOp .Eq (.bytes b t) (.bytes c u)) Q E s := by
  refine eq_bytes ?_
  rw [bInts_inj e, beq_self_eq_true]
  exact h
end
theorem PictNew.pre {h h' : Heap} {v : Value} {rl : List (Str × Nat)} {cat : Str} {size : Int} (P : PictNew h h' v rl cat size) :
    ∃ (x ls : Addr) (ys : Array Value), v = .ref x ∧ ys.size = rl.length ∧ (PictOb h' x ls cat size ∧ h'.IsList ls ys ∧ All2 (PairOb h') ys.toList rl) := by
  obtain ⟨x, dx, ls, es, ep, n, ys, objs, t1, t2, e, O, hP, g1, g2, g3⟩ := P
  refine ⟨x, ls, ys, e, by rw [← hP.len, Array.length_toList], ⟨dx, es, ep, t1, t2, (O _ (.head _)).2, (O _ (.tail _ (.head _))).2, g1, g2, g3⟩, ⟨_, (O _ (.tail _ (.tail _ (.head _)))).2, rfl, n, rfl⟩, hP.mono fun v q hv => ?_⟩
  obtain ⟨a, u1, u2, h1, h2⟩ := hv
  exact ⟨a, u1, u2, h1, (O _ (.tail _ (.tail _ (.tail _ h2)))).2⟩
/-- read_picture at a text of the law's -/
theorem TextOk.read {t : Str} {qs : List (Str × Nat)} (h : TextOk t qs) (w : World) (tk : Tok) : Spec w 302 [.str t tk] 20 1500 (fun _ => True) (fun h v h' => PictNew h h' v (rle qs) (Str.ofString "alnum-edited") ((expand qs).length : Int)) := by
  obtain ⟨h1, h2, h3, h4⟩ := h.all
  have hs : ((rle qs).map fun q => (q.2 : Int)).sum = ((expand qs).length : Int) := by rw [sum_expand, expand_rle]
  have z := read_picture_spec w t tk qs h.len h.low h.pieces h1 h.signs (fun q hq => ⟨(h2 q hq).1, by have := (h2 q hq).2.2; omega⟩) (by rw [hs]; omega) h4 h.data
  rw [hs] at z
  exact z
theorem TextOk.ins {t : Str} {qs : List (Str × Nat)} (h : TextOk t qs) (w : World) (x ls : Addr) (ys : Array Value) (hys : ys.size = (rle qs).length) (cat : Str) (size : Int) (ob : Array UInt8) (tk : Tok) (hob : ob.size ≤ 100) :
    SpecOk w 328 [.ref x, .bytes ob tk] 20 2000 (fun h => PictOb h x ls cat size ∧ h.IsList ls ys ∧ All2 (PairOb h) ys.toList (rle qs)) (fun h v h' => ∃ b t, v = .bytes b t ∧ KBw.bInts b = insInts (expand qs) (KBw.bInts ob)) := by
  obtain ⟨h1, h2, h3, h4⟩ := h.all
  have z := inserted_ok w x ls cat size ys (rle qs) ob (KBw.bInts ob) tk (by omega) (fun q hq => ⟨(h2 q hq).2.1, by have := (h2 q hq).2.2; omega⟩) (fun q hq => (h2 q hq).1) (by rw [expand_rle]; omega) rfl (by rw [KBw.ints_length]; omega)
  rw [expand_rle] at z
  exact z
end Mine
end
section -- LawC
open PySem PySem.W PyProof.Rows PySem.Calls PyProof.Rows.LCg
set_option Elab.async false
set_option maxRecDepth 100000
namespace Mine
theorem range_ok {d : Int} (h0 : 0 ≤ d) (h1 : d < 16) : Builtin.Range.small 0 d 1 = true ∧ Builtin.Range.rangeSize 0 d 1 = ((d.toNat : Nat) : Int) := by
  have h : d = 0 ∨ d = 1 ∨ d = 2 ∨ d = 3 ∨ d = 4 ∨ d = 5 ∨ d = 6 ∨ d = 7 ∨ d = 8 ∨ d = 9 ∨ d = 10 ∨ d = 11 ∨ d = 12 ∨ d = 13 ∨ d = 14 ∨ d = 15 := by omega
  rcases h with rfl | rfl | rfl | rfl | rfl | rfl | rfl | rfl | rfl | rfl | rfl | rfl | rfl | rfl | rfl | rfl <;> decide +kernel
def isEd (c : Str) : Prop := c = Str.ofString "/" ∨ c = Str.ofString "B" ∨ c = Str.ofString "0"
theorem isEd.ok {c : Str} (h : isEd c) : SignOk c := by
  rcases h with rfl | rfl | rfl <;> (unfold SignOk; decide +kernel)
section
variable {prog : Program} {w : World} {A : Around} {E : Value → Shared → Prop} {s : Shared} {h₀ : Heap} {L T : Addr} {news : List (Addr × Obj)} {Q : Value → Shared → Prop} {value slice : PySem.Expr} {d : Int} {td t1 t2 t3 t4 t5 t6 t7 : Tok}
theorem sub7 (N : News h₀ L s.heap news) (hm : (T, { cls := .type "tuple", data := .seq #[.str (Str.ofString "X") t1, .str (Str.ofString "A") t2, .str (Str.ofString "9") t3, .str (Str.ofString "B") t4, .str (Str.ofString "0") t5, .str (Str.ofString "/") t6, .str (Str.ofString "X") t7] }) ∈ news)
    (h0 : 0 ≤ d) (h1 : d < 7) (h : ∀ c t, SignOk c → Q (.str c t) s)
    (hs : subscripted slice false (.ref T) (.int d td) = operate [.ref T, .int d td] (getItem (.ref T) (.int d td)) := by with_unfolding_all rfl) : wpAny (model prog w) A (subscriptTail value slice (.ref T) (.int d td)) Q E s := by
  have hT : IsTup s.heap T ([.str (Str.ofString "X") t1, .str (Str.ofString "A") t2, .str (Str.ofString "9") t3, .str (Str.ofString "B") t4, .str (Str.ofString "0") t5, .str (Str.ofString "/") t6, .str (Str.ofString "X") t7] : List Value).toArray := ⟨_, (N _ hm).1, rfl, _, rfl⟩
  have hd : d = 0 ∨ d = 1 ∨ d = 2 ∨ d = 3 ∨ d = 4 ∨ d = 5 ∨ d = 6 := by omega
  rcases hd with rfl | rfl | rfl | rfl | rfl | rfl | rfl
  · exact item_tupleT hT (j := 0) (by decide) (by decide) rfl rfl (h _ _ (by unfold SignOk; decide +kernel)) hs
  · exact item_tupleT hT (j := 1) (by decide) (by decide) rfl rfl (h _ _ (by unfold SignOk; decide +kernel)) hs
  · exact item_tupleT hT (j := 2) (by decide) (by decide) rfl rfl (h _ _ (by unfold SignOk; decide +kernel)) hs
  · exact item_tupleT hT (j := 3) (by decide) (by decide) rfl rfl (h _ _ (by unfold SignOk; decide +kernel)) hs
  · exact item_tupleT hT (j := 4) (by decide) (by decide) rfl rfl (h _ _ (by unfold SignOk; decide +kernel)) hs
  · exact item_tupleT hT (j := 5) (by decide) (by decide) rfl rfl (h _ _ (by unfold SignOk; decide +kernel)) hs
  · exact item_tupleT hT (j := 6) (by decide) (by decide) rfl rfl (h _ _ (by unfold SignOk; decide +kernel)) hs
theorem sub3 (N : News h₀ L s.heap news) (hm : (T, { cls := .type "tuple", data := .seq #[.str (Str.ofString "/") t1, .str (Str.ofString "B") t2, .str (Str.ofString "0") t3] }) ∈ news)
    (h0 : 0 ≤ d) (h1 : d < 3) (h : ∀ c t, isEd c → Q (.str c t) s)
    (hs : subscripted slice false (.ref T) (.int d td) = operate [.ref T, .int d td] (getItem (.ref T) (.int d td)) := by with_unfolding_all rfl) : wpAny (model prog w) A (subscriptTail value slice (.ref T) (.int d td)) Q E s := by
  have hT : IsTup s.heap T ([.str (Str.ofString "/") t1, .str (Str.ofString "B") t2, .str (Str.ofString "0") t3] : List Value).toArray := ⟨_, (N _ hm).1, rfl, _, rfl⟩
  have hd : d = 0 ∨ d = 1 ∨ d = 2 := by omega
  rcases hd with rfl | rfl | rfl
  · exact item_tupleT hT (j := 0) (by decide) (by decide) rfl rfl (h _ _ (.inl rfl)) hs
  · exact item_tupleT hT (j := 1) (by decide) (by decide) rfl rfl (h _ _ (.inr (.inl rfl))) hs
  · exact item_tupleT hT (j := 2) (by decide) (by decide) rfl rfl (h _ _ (.inr (.inr rfl))) hs
end
theorem strs_take : ∀ {vs : List Value} {ss : List Str}, StrsAre vs ss → ∀ k, StrsAre (vs.take k) (ss.take k)
  | _, _, .nil, k => by simp; exact .nil
  | _, _, .cons x t r, 0 => .nil
  | _, _, .cons x t r, k + 1 => .cons x t (strs_take r k)
theorem strs_drop : ∀ {vs : List Value} {ss : List Str}, StrsAre vs ss → ∀ k, StrsAre (vs.drop k) (ss.drop k)
  | _, _, .nil, k => by simp; exact .nil
  | _, _, .cons x t r, 0 => .cons x t r
  | _, _, .cons x t r, k + 1 => strs_drop r k
section
variable {prog : Program} {w : World} {A : Around} {E : Value → Shared → Prop} {s : Shared} {h₀ : Heap} {L l b : Addr} {m : Str → Option Value} {news : List (Addr × Obj)} {Q : Value → Shared → Prop} {value slice : PySem.Expr} {its its2 : Array Value} {ss ss2 : List Str} {d : Int} {td : Tok}
theorem pick_upto (items : Array Value) (k : Nat) (hk : k ≤ items.size) : slicePick items none (some (k : Int)) none = (items.toList.take k).toArray := by
  have e : slicePick items none (some (k : Int)) none = slicePick items (some ((0 : Nat) : Int)) (some (k : Int)) none := by
    unfold slicePick
    have e2 : sliceBounds none (some (k : Int)) none items.size = sliceBounds (some ((0 : Nat) : Int)) (some (k : Int)) none items.size := by
      have e0 : (0 : Int) = max 0 (min 0 (items.size : Int)) := by omega
      simp [sliceBounds, ← e0]
    rw [e2]
  rw [e, slicePick_run items 0 k hk (Nat.zero_le _)]
  simp
theorem texts_upto (F : Fr h₀ L s.heap m) (N : News h₀ L s.heap news) (hm : ∃ n, (l, listOf its n) ∈ news) (hS : StrsAre its.toList ss) (hsz : its.size ≤ 10000) (h0 : 0 ≤ d) (h1 : d ≤ its.size)
    (h : ∀ D h' zs, Fr h₀ L h' m → News h₀ L h' ((D, listOf zs 0) :: news) → AllLt D news → StrsAre zs.toList (ss.take d.toNat) → zs.size ≤ 10000 → Q (.ref D) { s with heap := h' })
    (hs : subscripted slice false (.ref l) (.ref s.heap.objs.size) = operate [.ref s.heap.objs.size, .ref l] (getItem (.ref l) (.ref s.heap.objs.size)) := by with_unfolding_all rfl)
    (ht : ∀ r, letTemporaryGo value (.ref l) r = pure () := by intro _; with_unfolding_all rfl) :
    wpAny (model prog w) A (subscriptTail value slice (.ref l) (.ref s.heap.objs.size)) Q E { s with heap := s.heap.push { cls := .type "slice", data := .fields #[.none, .int d td, .none] } } := by
  obtain ⟨n, hm⟩ := hm
  have e : slicePick its none (some d) none = (its.toList.take d.toNat).toArray := by
    obtain ⟨k, rfl⟩ := Int.eq_ofNat_of_zero_le h0
    exact pick_upto its k (by omega)
  refine slice_list F N (News.isList N hm) .none (.int d td) (fun h' F' N' => ?_) hs ht (by rw [sizeLine_eq]; omega)
  rw [e] at N'
  exact h _ h' _ F' N' (allLt_of fun p hp => Nat.lt_succ_of_lt (Heap.lt_size (N p hp).1)) (strs_take hS _) (by simp; omega)
theorem texts_from (F : Fr h₀ L s.heap m) (N : News h₀ L s.heap news) (hm : ∃ n, (l, listOf its n) ∈ news) (hS : StrsAre its.toList ss) (hsz : its.size ≤ 10000) (h0 : 0 ≤ d) (h1 : d ≤ its.size)
    (h : ∀ D h' zs, Fr h₀ L h' m → News h₀ L h' ((D, listOf zs 0) :: news) → AllLt D news → StrsAre zs.toList (ss.drop d.toNat) → zs.size ≤ 10000 → Q (.ref D) { s with heap := h' })
    (hs : subscripted slice false (.ref l) (.ref s.heap.objs.size) = operate [.ref s.heap.objs.size, .ref l] (getItem (.ref l) (.ref s.heap.objs.size)) := by with_unfolding_all rfl)
    (ht : ∀ r, letTemporaryGo value (.ref l) r = pure () := by intro _; with_unfolding_all rfl) :
    wpAny (model prog w) A (subscriptTail value slice (.ref l) (.ref s.heap.objs.size)) Q E { s with heap := s.heap.push { cls := .type "slice", data := .fields #[.int d td, .none, .none] } } := by
  obtain ⟨n, hm⟩ := hm
  have e : slicePick its (some d) none none = (its.toList.drop d.toNat).toArray := by
    obtain ⟨k, rfl⟩ := Int.eq_ofNat_of_zero_le h0
    exact slicePick_from its k (by omega)
  refine slice_list F N (News.isList N hm) (.int d td) .none (fun h' F' N' => ?_) hs ht (by rw [sizeLine_eq]; omega)
  rw [e] at N'
  exact h _ h' _ F' N' (allLt_of fun p hp => Nat.lt_succ_of_lt (Heap.lt_size (N p hp).1)) (strs_drop hS _) (by simp; omega)
theorem texts_add {n1 n2 : Nat} (F : Fr h₀ L s.heap m) (N : News h₀ L s.heap news) (hm : (l, listOf its n1) ∈ news) (hm2 : (b, listOf its2 n2) ∈ news) (hS : StrsAre its.toList ss) (hS2 : StrsAre its2.toList ss2) (hsz : its.size ≤ 20000) (hsz2 : its2.size ≤ 20000)
    (h : ∀ D h' zs, Fr h₀ L h' m → News h₀ L h' ((D, listOf zs 0) :: news) → AllLt D news → StrsAre zs.toList (ss ++ ss2) → zs.size = its.size + its2.size → Q (.ref D) { s with heap := h' }) :
    wpAny (model prog w) A (binaryOp .Add (.ref l) (.ref b)) Q E s := by
  have hl : s.heap.IsList l its.toList.toArray := by rw [Array.toArray_toList]; exact News.isList N hm
  have hb : s.heap.IsList b its2.toList.toArray := by rw [Array.toArray_toList]; exact News.isList N hm2
  refine add_lists F N hl hb (fun h' F' N' => ?_) (by rw [sizeLine_eq, Array.length_toList, Array.length_toList]; omega)
  exact h _ h' _ F' N' (allLt_of fun p hp => Heap.lt_size (N p hp).1) (by simpa using StrsAre.append' hS hS2) (by simp)
end
structure DrSt where
  cs : List Str
  ys : Array Value
  ep : Nat
  a : Int
  ta : Tok
  b : Int
  tb : Tok
end Mine
end
section -- LawD
open PySem PySem.W PyProof.Rows PySem.Calls PyProof.Rows.LCg
set_option Elab.async false
set_option maxRecDepth 100000
namespace Mine
section
variable {prog : Program} {w : World} {A : Around} {E : Value → Shared → Prop} {s : Shared} {h₀ : Heap} {L : Addr} {m : Str → Option Value} {env : Env}
/-- a comprehension over a range by ones -/
theorem comp_range {elt iter : Expr} {ifs : List Expr} {x : Str} {px : Pos} {scope : Scope} {cl : List (Str × Addr)} {pos : Pos} {Q : Value → Shared → Prop} {r : Addr} {a b : Int} {tt uu vv : Tok} {n : Nat} {news : List (Addr × Obj)}
    (J : Nat → List Value → List (Addr × Obj) → Prop) (hh : A.handled = none) (hr : IsRange s.heap r a b 1 tt uu vv) (hsm : Builtin.Range.small a b 1 = true) (hn : Builtin.Range.rangeSize a b 1 = ((n : Nat) : Int)) (hsz : n ≤ sizeLine)
    (hcell : ∀ y ∈ scope.names, y.2 ≠ .cell) (hkind : scope.kind = .function) (hx : scope.names.lookup x = some .local)
    (F : Fr h₀ L s.heap m) (N : News h₀ L s.heap news) (hJ : J 0 [] news)
    (turn : TurnC prog w A h₀ L m env elt ifs scope cl s J (fun i m₂ => i < n ∧ ∃ u, m₂ x = some (.int (a + (i : Int)) u)))
    (fin : ∀ D h tk ys news', Fr h₀ L h m → News h₀ L h ((D, lst ys) :: news') → Off1 D news' → J n ys news' → Q (.ref D) { s with heap := h, toks := tk }) :
    wpAny (model prog w) A (pyIter (.ref r)) (CompAt prog w A env elt (.Name x px) iter ifs scope cl pos Q E) E s := by
  refine wpAny_pyIter_range hr hsm ?_
  refine comp_block (h₀ := h₀) (L := L) (m := m) (news := news) J (fun i v m₂ => m₂ x = some v) (LCg.range_walks hh a n) hsz (fun i h st => ⟨_, st⟩) (fun _ _ _ _ _ _ h => go_name h) (fun b hb => .inl (List.mem_singleton.mp hb)) hcell hkind
    (fun i v s' C m' Q' E' _ _ _ hn' k => asg_name hx hkind hn' k) (by show IsRangeIter _ _ _ _ _; rw [hn]; simpa using Heap.get?_push_size _ rfl) (fun b hb => by rw [List.mem_singleton.mp hb]; show _ < (s.heap.push _).objs.size; rw [Heap.size_push]; exact Nat.lt_succ_self _)
    (F.push _) (fun p hp => ⟨Heap.get?_push_of_some _ (N p hp).1, (N p hp).2⟩) (Nat.ne_of_lt F.ns.lt) (next_is_new F) (fun p hp => Nat.ne_of_lt (Heap.lt_size (N p hp).1)) hJ ?_ ?_
  · rintro i ys news' v oI C oC D m₂ h tk E' hi ⟨t, rfl⟩ hJ' hoC hB F' N' off ne
    exact turn i ys news' _ oI C oC D m₂ h tk E' hJ' hoC ⟨hi, t, hB⟩ F' N' off ne
  · intro D C h tk m' ys news' F' N' o1 hn hC₀ _ hCL _ hCD offC hJ'
    exact comp_fin (s₂ := { s with heap := s.heap.push _ }) F' N' o1 hn hC₀ hCL hCD offC fun h'' F'' N'' o1' => fin D h'' tk ys news' F'' N'' o1' hJ'
end
end Mine
end
section -- LawE
open PySem PySem.W PyProof.Rows PySem.Calls
set_option Elab.async false
set_option maxRecDepth 100000
namespace Mine
/-! the plain law: what the picture lays is what the law reckons -/
def dueStep (st : List Int × List Int) (c : Str) : List Int × List Int := if isIns c = true then (st.1 ++ [(((laid c).cps.getD 0 0 : Nat) : Int)], st.2) else (st.1 ++ [st.2.headD 32], st.2.drop 1)
def dueInts (cs : List Str) (ks : List Int) : List Int := (cs.foldl dueStep ([], ks)).1
theorem held_at {n j : Nat} {ks : List Int} (h : j < n) : (heldOf n ks).getD j 0 = (ks.drop j).headD 32 := by
  unfold heldOf
  rw [List.getD_eq_getElem?_getD, List.getElem?_append, List.length_take]
  rcases Nat.lt_or_ge j ks.length with h1 | h1
  · rw [if_pos (by omega), List.getElem?_take_of_lt h, List.getElem?_eq_getElem h1, List.drop_eq_getElem_cons h1]
    rfl
  · rw [if_neg (by omega), List.drop_of_length_le h1, List.getElem?_replicate, if_pos (by omega)]
    rfl
theorem dueStep_ins {st : List Int × List Int} {c : Str} (h : isIns c = true) : dueStep st c = (st.1 ++ [(((laid c).cps.getD 0 0 : Nat) : Int)], st.2) := by unfold dueStep; rw [if_pos h]
theorem dueStep_data {st : List Int × List Int} {c : Str} (h : isIns c = false) : dueStep st c = (st.1 ++ [st.2.headD 32], st.2.drop 1) := by unfold dueStep; rw [if_neg (by rw [h]; exact Bool.false_ne_true)]
theorem due_fold {n : Nat} {ks : List Int} : ∀ (cs : List Str) (acc : List Int) (j : Nat), (∀ c ∈ cs, SignOk c) → j + dataCount cs ≤ n → (cs.foldl (insStep (heldOf n ks)) (acc, j)).1 = (cs.foldl dueStep (acc, ks.drop j)).1
  | [], _, _, _, _ => rfl
  | c :: cs, acc, j, h, hn => by
    have hc := (h c (.head _)).ins
    rw [dataCount_cons] at hn
    rw [List.foldl_cons, List.foldl_cons]
    cases hi : isIns c with
    | true =>
      have hd := (hc.1 hi).2.2
      rw [insStep_ins hi, dueStep_ins hi]
      rw [hd] at hn
      exact due_fold cs _ j (fun x hx => h x (.tail _ hx)) (by simpa using hn)
    | false =>
      have hd := hc.2 hi
      rw [insStep_data hi, dueStep_data hi]
      rw [hd, if_pos rfl] at hn
      dsimp only
      rw [held_at (by omega), List.drop_drop]
      exact due_fold cs _ (j + 1) (fun x hx => h x (.tail _ hx)) (by omega)
theorem ins_due {cs : List Str} {ks : List Int} (h : ∀ c ∈ cs, SignOk c) : insInts cs ks = dueInts cs ks := due_fold cs [] 0 h (by omega)
theorem due_len {cs : List Str} {ks : List Int} (h : ∀ c ∈ cs, SignOk c) : (dueInts cs ks).length = cs.length := by
  rw [← ins_due h]
  unfold insInts
  rw [(ins_state _ cs ([], 0) h).1]
  simp
theorem dueInts_snoc {cs : List Str} {i : Nat} {c : Str} (hc : cs[i]? = some c) (st : List Int × List Int) : (cs.take (i + 1)).foldl dueStep st = dueStep ((cs.take i).foldl dueStep st) c := by
  rw [List.take_add_one, hc, Option.toList_some, List.foldl_append]
  rfl
/-- the joined text of one-sign texts -/
theorem signs_codes : ∀ {cs : List Str}, (∀ c ∈ cs, SignOk c) → ∃ l : List Nat, cs = l.map (fun c => (⟨#[c]⟩ : Str)) ∧ ∀ k ∈ l, k ∈ okCps
  | [], _ => ⟨[], rfl, fun _ h => nomatch h⟩
  | c :: cs, h => by
    obtain ⟨l, rfl, hl⟩ := signs_codes fun x hx => h x (.tail _ hx)
    have hc : ∃ k, c = ⟨#[k]⟩ ∧ k ∈ okCps := by
      rcases h c (.head _) with rfl | rfl | rfl | rfl | rfl | rfl
      · exact ⟨_, rfl, by decide⟩
      · exact ⟨_, rfl, by decide⟩
      · exact ⟨_, rfl, by decide⟩
      · exact ⟨_, rfl, by decide⟩
      · exact ⟨_, rfl, by decide⟩
      · exact ⟨_, rfl, by decide⟩
    obtain ⟨k, rfl, hk⟩ := hc
    refine ⟨k :: l, rfl, fun x hx => ?_⟩
    rcases List.mem_cons.mp hx with rfl | hx
    · exact hk
    · exact hl x hx
end Mine
end
section -- LawF
open PySem PySem.W PyProof.Rows PySem.Calls PyProof.Rows.LCg
set_option Elab.async false
set_option maxRecDepth 100000
namespace Mine
theorem cut_in {cs : List Str} {k : Nat} {e : Str} (hs : ∀ x ∈ cs, SignOk x) (he : isEd e) (hX : Str.ofString "X" ∈ cs) (hl : cs.length ≤ 12) :
    (∀ x ∈ cs.take k ++ [e] ++ cs.drop k, SignOk x) ∧ Str.ofString "X" ∈ cs.take k ++ [e] ++ cs.drop k ∧ (∃ x ∈ cs.take k ++ [e] ++ cs.drop k, isEd x) ∧ (cs.take k ++ [e] ++ cs.drop k).length ≤ 13 := by
  refine ⟨fun x hx => ?_, ?_, ⟨e, by simp, he⟩, ?_⟩
  · rcases List.mem_append.mp hx with hx | hx
    · rcases List.mem_append.mp hx with hx | hx
      · exact hs x (List.mem_of_mem_take hx)
      · cases List.mem_singleton.mp hx; exact he.ok
    · exact hs x (List.mem_of_mem_drop hx)
  · rw [← List.take_append_drop k cs] at hX
    rcases List.mem_append.mp hX with hx | hx
    · exact List.mem_append.mpr (.inl (List.mem_append.mpr (.inl hx)))
    · exact List.mem_append.mpr (.inr hx)
  · simp only [List.length_append, List.length_take, List.length_drop, List.length_singleton]
    omega
theorem dueFold_len : ∀ (cs : List Str) (st : List Int × List Int), (cs.foldl dueStep st).1.length = st.1.length + cs.length ∧ (cs.foldl dueStep st).2.length ≤ st.2.length
  | [], st => ⟨rfl, Nat.le_refl _⟩
  | c :: cs, st => by
    obtain ⟨h1, h2⟩ := dueFold_len cs (dueStep st c)
    rw [List.foldl_cons, h1, List.length_cons]
    cases hi : isIns c with
    | true =>
      rw [dueStep_ins hi] at h2 ⊢
      refine ⟨?_, h2⟩
      simp only [List.length_append, List.length_singleton]; omega
    | false =>
      rw [dueStep_data hi] at h2 ⊢
      simp only [List.length_append, List.length_singleton, List.length_drop] at h2 ⊢
      refine ⟨by omega, by omega⟩
structure DuSt where
  d : Array UInt8
  td : Tok
  l : Array UInt8
  tl : Tok
abbrev duStored : List Str := [Str.ofString "sign"]
theorem du_end {cs : List Str} {ks : List Int} {SG I : Addr} {oI oS : Obj} {g h' : Heap} {L : Addr} {s₀ : Shared} {m₀ m' : Str → Option Value} {i tk : Nat} {d l : Array UInt8} {td tl : Tok} {news' : List (Addr × Obj)}
    (F : Fr g L h' m') (N : News g L h' news') (hI : (I, oI) ∈ news') (hS : (SG, oS) ∈ news') (hSI : @Ne Nat SG I) (hd : m' (Str.ofString "due") = some (.bytes d td)) (hl : m' (Str.ofString "left") = some (.bytes l tl))
    (hP : (KBw.bInts d, KBw.bInts l) = (cs.take (i + 1)).foldl dueStep ([], ks)) (hr : ∀ z, (∀ p ∈ [(Str.ofString "due", Value.bytes d td), (Str.ofString "left", Value.bytes l tl)], z ≠ p.1) → duStored.contains z = false → m' z = m₀ z) :
    LoopEnd g L s₀ (fun _ : DuSt => [(SG, oS)]) (fun c => [(Str.ofString "due", .bytes c.d c.td), (Str.ofString "left", .bytes c.l c.tl)]) (fun _ => True) duStored m₀ (fun c => (KBw.bInts c.d, KBw.bInts c.l) = (cs.take (i + 1)).foldl dueStep ([], ks)) I oI { s₀ with heap := h', toks := tk } := by
  refine ⟨⟨d, td, l, tl⟩, h', tk, m', news', rfl, F, N, hI, ?_, ?_, trivial, ?_, hr, hP⟩
  · intro p hp; cases List.mem_singleton.mp hp; exact hS
  · intro p hp; cases List.mem_singleton.mp hp; exact hSI
  · intro p hp
    rcases List.mem_cons.mp hp with rfl | hp
    · exact hd
    · cases List.mem_singleton.mp hp; exact hl
end Mine
end
section -- LawG
open PySem PySem.W PyProof.Rows PySem.Calls PyProof.Rows.LCg
set_option Elab.async false
set_option maxRecDepth 100000
namespace Mine
theorem du_one {cs : List Str} {i : Nat} {c : Str} {ks dk lk : List Int} {d l : Array UInt8} (hs : (cs.take (i + 1)).foldl dueStep ([], ks) = dueStep (dk, lk) c) (hc : isIns c = false) (hd : KBw.bInts d = dk ++ lk.take 1) (hl : KBw.bInts l = lk.drop 1) (h : 0 < lk.length) :
    (KBw.bInts d, KBw.bInts l) = (cs.take (i + 1)).foldl dueStep ([], ks) := by
  rw [hs, dueStep_data hc, hd, hl]
  cases lk with
  | nil => exact absurd h (Nat.lt_irrefl 0)
  | cons x r => rfl
theorem du_none {cs : List Str} {i : Nat} {c : Str} {ks dk lk : List Int} {d l : Array UInt8} (hs : (cs.take (i + 1)).foldl dueStep ([], ks) = dueStep (dk, lk) c) (hc : isIns c = false) (hd : KBw.bInts d = dk ++ [32]) (hl : KBw.bInts l = lk.drop 1) (h : ¬ 0 < lk.length) :
    (KBw.bInts d, KBw.bInts l) = (cs.take (i + 1)).foldl dueStep ([], ks) := by
  rw [hs, dueStep_data hc, hd, hl]
  cases lk with
  | nil => rfl
  | cons x r => exact absurd (Nat.succ_pos _) h
theorem du_ed {cs : List Str} {i : Nat} {c : Str} {ks dk lk : List Int} {n : Int} {d l : Array UInt8} (hs : (cs.take (i + 1)).foldl dueStep ([], ks) = dueStep (dk, lk) c) (hc : isIns c = true) (hd : KBw.bInts d = dk ++ [n]) (hl : KBw.bInts l = lk) (hn : (((laid c).cps.getD 0 0 : Nat) : Int) = n) :
    (KBw.bInts d, KBw.bInts l) = (cs.take (i + 1)).foldl dueStep ([], ks) := by
  rw [hs, dueStep_ins hc, hd, hl, hn]
theorem drawn_ok {cs : List Str} (hs : ∀ x ∈ cs, SignOk x) (hX : Str.ofString "X" ∈ cs) (he : ∃ x ∈ cs, isEd x) (hl : cs.length ≤ 13) :
    ∃ t qs, Txt.join (Str.ofString "") cs = t ∧ TextOk t qs ∧ expand qs = cs ∧ (cs.map (·.length)).sum + cs.length * 64 ≤ 16777216 := by
  obtain ⟨l, rfl, hk⟩ := signs_codes hs
  rw [List.length_map] at hl
  refine ⟨⟨l.toArray⟩, _, join_ones2 l, textOk_plain (t := ⟨l.toArray⟩) ?_ hk ?_ ?_, expand_plain l, ?_⟩
  · show l.toArray.size ≤ 30
    rw [List.size_toArray]; omega
  · obtain ⟨x, hx, hex⟩ := he
    obtain ⟨c, hc, rfl⟩ := List.mem_map.mp hx
    refine ⟨c, hc, ?_⟩
    have key : ∀ {y : Nat}, (⟨#[c]⟩ : Str) = ⟨#[y]⟩ → c = y := fun e => by
      injection e with e; injection e with e; injection e
    rcases hex with e | e | e
    · exact .inr (.inr (key (e.trans (by decide +kernel : Str.ofString "/" = ⟨#[47]⟩))))
    · exact .inl (key (e.trans (by decide +kernel : Str.ofString "B" = ⟨#[66]⟩)))
    · exact .inr (.inl (key (e.trans (by decide +kernel : Str.ofString "0" = ⟨#[48]⟩))))
  · obtain ⟨c, hc, e⟩ := List.mem_map.mp hX
    refine ⟨c, hc, .inr ?_⟩
    have e2 := e.trans (by decide +kernel : Str.ofString "X" = ⟨#[88]⟩)
    injection e2 with e2; injection e2 with e2; injection e2
  · rw [ones_sum, List.length_map]; omega
theorem PictNew.all {h₀ h h' : Heap} {L : Addr} {v : Value} {rl : List (Str × Nat)} {cat : Str} {size : Int} {news : List (Addr × Obj)} (P : PictNew h h' v rl cat size) (N : News h₀ L h' news) (hadd : ∀ a o, h.get? a = none → h'.get? a = some o → News h₀ L h' ((a, o) :: news)) :
    ∃ (x dx ls : Addr) (es : List DictEntry) (ep n : Nat) (ys : Array Value) (objs : List (Addr × Obj)) (t1 t2 : Tok), v = .ref x ∧ ys.size = rl.length ∧ News h₀ L h' ((x, instObj 91 dx) :: (dx, dictOf es ep) :: (ls, listOf ys n) :: objs) ∧ All2 (PairIn objs) ys.toList rl ∧
      getL (Str.ofString "symbols") es = some (some (.ref ls)) ∧ getL (Str.ofString "category") es = some (some (.str cat t1)) ∧ getL (Str.ofString "size") es = some (some (.int size t2)) := by
  obtain ⟨x, dx, ls, es, ep, n, ys, objs, t1, t2, e, O, hP, g⟩ := P
  exact ⟨x, dx, ls, es, ep, n, ys, objs, t1, t2, e, by rw [← hP.len, Array.length_toList], NewObjs.news2 hadd N O (fun p hp => .inl hp), hP, g⟩
theorem pict_pre {h₀ h : Heap} {L x dx ls : Addr} {es : List DictEntry} {ep n : Nat} {ys : Array Value} {objs all : List (Addr × Obj)} {t1 t2 : Tok} {rl : List (Str × Nat)} {cat : Str} {size : Int} (N : News h₀ L h all) (hs : ∀ p ∈ (x, instObj 91 dx) :: (dx, dictOf es ep) :: (ls, listOf ys n) :: objs, p ∈ all) (hP : All2 (PairIn objs) ys.toList rl)
    (g1 : getL (Str.ofString "symbols") es = some (some (.ref ls))) (g2 : getL (Str.ofString "category") es = some (some (.str cat t1))) (g3 : getL (Str.ofString "size") es = some (some (.int size t2))) :
    PictOb h x ls cat size ∧ h.IsList ls ys ∧ All2 (PairOb h) ys.toList rl :=
  have N' := news_sub N hs
  ⟨⟨dx, es, ep, t1, t2, (N' _ (.head _)).1, (N' _ (.tail _ (.head _))).1, g1, g2, g3⟩, News.isList N' (.tail _ (.tail _ (.head _))), PairIn.heap hP N' (fun p hp => .tail _ (.tail _ (.tail _ hp)))⟩
end Mine
end
section -- Law1
open PySem PySem.W PyProof.Rows PySem.Calls PyProof.Rows.LCg
set_option Elab.async false
set_option maxRecDepth 100000
namespace Mine
local macro_rules | `(tactic| k_room) => `(tactic| ktr_room)
local macro_rules | `(tactic| walk_at "execs nil") => `(tactic| refine wpAny_execs_nil ?_)
local macro_rules | `(tactic| walk_at "call ref") => `(tactic| (k_here; k_dflt (show wpAny _ _ (call (Value.ref 302) _ _) _ _ _); refine Mk.intro ?_))
local macro_rules | `(tactic| walk_at "call ref") => `(tactic| (k_here; k_dflt (show wpAny _ _ (call (Value.ref 341) _ _) _ _ _); refine Mk.intro ?_))
local macro_rules | `(tactic| k_all) => `(tactic| assumption)
local macro_rules | `(tactic| size_fits) => `(tactic| assumption)
local macro_rules | `(tactic| walk_at "subscriptTail") => `(tactic| (k_here; (with_reducible show wpAny _ _ (subscriptTail _ _ (Value.ref _) (Value.int _ _)) _ _ _); k_dflt (first | refine sub7 (by k_asm) (by k_mem) (by assumption) (by assumption) ?_ | refine sub3 (by k_asm) (by k_mem) (by assumption) (by assumption) ?_); intro c' t' hc'))
local macro_rules | `(tactic| walk_at "subscriptTail Name Slice ref ref") => `(tactic| (k_here; (with_reducible show wpAny _ _ (subscriptTail _ (PySem.Expr.Slice none _ none _) (Value.ref _) (Value.ref _)) _ _ _); (with_reducible rename Fr _ _ _ _ => F'); (with_reducible rename News _ _ _ _ => N'); k_dflt (refine texts_upto (s := ⟨_, _, _, _, _⟩) F' N' ⟨_, by k_mem⟩ (by assumption) (by omega) (by omega) (by omega) ?_); intro D' h' zs' F' N' l1' hS' hz'; (try simp only [AllLt, and_true] at l1'); (try simp only [List.size_toArray, List.length_cons, List.length_nil] at hz'); (try k_sweep)))
local macro_rules | `(tactic| walk_at "subscriptTail Name Slice ref ref") => `(tactic| (k_here; (with_reducible show wpAny _ _ (subscriptTail _ (PySem.Expr.Slice _ none none _) (Value.ref _) (Value.ref _)) _ _ _); (with_reducible rename Fr _ _ _ _ => F'); (with_reducible rename News _ _ _ _ => N'); k_dflt (refine texts_from (s := ⟨_, _, _, _, _⟩) F' N' ⟨_, by k_mem⟩ (by assumption) (by omega) (by omega) (by omega) ?_); intro D' h' zs' F' N' l1' hS' hz'; (try simp only [AllLt, and_true] at l1'); (try simp only [List.size_toArray, List.length_cons, List.length_nil] at hz'); (try k_sweep)))
local macro_rules | `(tactic| walk_at "binaryOp Add ref ref") => `(tactic| (k_here; k_dflt (refine texts_add (by k_asm) (by k_asm) (by k_mem) (by k_mem) (by first | assumption | exact .cons _ _ .nil) (by first | assumption | exact .cons _ _ .nil) (by first | omega | (simp; done) | (simp only [List.size_toArray, List.length_cons, List.length_nil]; omega)) (by first | omega | (simp; done) | (simp only [List.size_toArray, List.length_cons, List.length_nil]; omega)) ?_); intro D' h' zs' F' N' l1' hS' hz'; (try simp only [AllLt, and_true] at l1'); (try simp only [List.size_toArray, List.length_cons, List.length_nil] at hz'); (try k_sweep)))
local macro_rules | `(tactic| walk_at "eval ListComp") => `(tactic| refine Mk.intro ?_)
local macro_rules | `(tactic| walk_at "LoopPost") => `(tactic| (dsimp only [LoopPost]))
local macro_rules | `(tactic| walk_at "pyIter ref") => `(tactic| refine Mk.intro ?_)
local macro_rules | `(tactic| walk_at "exec For Name Call cons nil") => `(tactic| refine Mk.intro ?_)
local macro_rules | `(tactic| walk_at "exec For Name Name cons nil") => `(tactic| refine Mk.intro ?_)
local macro_rules | `(tactic| walk_at "compareOp NotEq bytes bytes") => `(tactic| (k_here; (refine ne_same (by assumption) ?_)))
local macro_rules | `(tactic| walk_at "call type:bytes") => `(tactic| refine Mk.intro ?_)
local macro_rules | `(tactic| walk_at "subscriptTail") => `(tactic| (k_here; (with_reducible show wpAny _ _ (subscriptTail _ (PySem.Expr.Slice none _ none _) (Value.bytes _ _) (Value.ref _)) _ _ _); (with_reducible rename Fr _ _ _ _ => F'); (with_reducible rename News _ _ _ _ => N'); (refine slice_to (s := ⟨_, _, _, _, _⟩) (n := 1) F' N' (by assumption) (by assumption) rfl ?_); intro h' t' k c F' N' hc hcl; (try k_sweep)))
local macro_rules | `(tactic| walk_at "subscriptTail") => `(tactic| (k_here; (with_reducible show wpAny _ _ (subscriptTail _ (PySem.Expr.Slice _ none none _) (Value.bytes _ _) (Value.ref _)) _ _ _); (with_reducible rename Fr _ _ _ _ => F'); (with_reducible rename News _ _ _ _ => N'); (refine slice_from (s := ⟨_, _, _, _, _⟩) (n := 1) F' N' (by assumption) (by assumption) rfl ?_); intro h' t' k c F' N' hc hcl; (try k_sweep)))
local macro_rules | `(tactic| walk_at "call builtin:len") => `(tactic| (k_here; (with_reducible show wpAny _ _ (call (Value.builtin "len") [Value.bytes _ _]) _ _ _); (refine KBw.len_K (by assumption) (by omega) ?_)))
local macro_rules | `(tactic| walk_at "binaryOp Add bytes bytes") => `(tactic| (k_here; (refine bytes_add (by assumption) (by assumption) (by simp only [List.length_take, List.length_cons, List.length_nil]; omega) ?_); intro t' k d hc3; (try k_sweep)))
local macro_rules | `(tactic| walk_at "call builtin:str.join") => `(tactic| (k_here; k_dflt (refine join_listC (News.isList (by k_asm) (by k_mem)) (by assumption) (by decide) (by assumption) ?_); intro t' k'))
local macro_rules | `(tactic| k_get) => `(tactic| assumption)
local macro_rules | `(tactic| walk_at "compareOp Eq bytes bytes") => `(tactic| (k_here; (refine eq_same (by assumption) ?_)))
set_option maxHeartbeats 8000000 in
theorem law_holds : PySem.Challenge.rw_pc0131_01.Holds := by
  refine hd (by rfl) (by rfl) (by rfl) ?_
  intro w s₀ s₁ mg mb G Y fa o pm cd doc dV kV ho hdat hcd hD hmg hg args vals as hpre hlay hrd hwl hlo
  have KX := kIn_of Y
  refine Ground.open G ?_
  intro T B D TE TW
  clear B D TE TW
  clear hmg
  wrow_args hpre hlay hrd hwl hlo
  rename_i ns _ _ _ _ _ _ _ l vs _ hL _ _ _ hI _ hc63 _
  have he := Dflts.none hD rfl; subst he; have he := Dflts.noKw hD; subst he
  have hlen63 : ns.length ≤ 63 := by omega
  refine wpOk_mono (Q := fun v s' => v = .bool true ∧ ∃ h' tk' L m', s' = { s₁ with heap := h', toks := tk' } ∧ Fr s₁.heap L h' m') ?_ (by
    rintro v s' ⟨rfl, h', tk', L, m', rfl, F⟩
    exact (goodW_bool (s' := { s₁ with heap := h', toks := tk' }) F hg (law_raises _) (law_post _) rfl).toG)
  refine wpOk_call (call_cells_ok (by decide) ho (fd_plain hdat) (Top.nolimit T) hcd rfl (kinds_of (by kinds_ok)) (by decide) fun h₁ tk₁ cells F N0 X0 => ?_)
  cells_open X0
  have K0 : Below callerA s₁.heap [] s₁.heap := below_caller s₁.heap
  clear ho hdat hcd hD hg G Y
  refine wpOk_execs_any (pre := [_]) (rest := [_, _, _, _, _, _, _, _, _, _]) ?_
  k_unmd
  k_fold
  k_steps
  all_goals (try dsimp only)
  rename_i vs0 _ hI0 hC0 hL0 l3 PL c0 _ l2 D3 _ _ _ _ _ l1 _ _ tp1 tp2 _ P _ l0 h' oc F1 N1 hoc
  have hPL : @Ne Nat P PL := by intro e; omega
  have hPC : @Ne Nat P (s₁.heap.objs.size + 1) := by intro e; omega
  have hLC : @Ne Nat PL (s₁.heap.objs.size + 1) := by intro e; omega
  replace N1 := news_sub (l' := [(P, _), (PL, listOf vs0.toArray c0), (s₁.heap.objs.size + 1, oc)]) N1 (fun p hp => by
    rcases List.mem_cons.mp hp with rfl | hp
    · exact .head _
    · rcases List.mem_cons.mp hp with rfl | hp
      · exact .tail _ (.tail _ (.head _))
      · cases List.mem_singleton.mp hp
        exact .tail _ (.tail _ (.tail _ (.tail _ (.head _)))))
  have hns0 : (ns.take 63).length ≤ 63 := by omega
  generalize hcc : Int.fmod (if (List.take 63 ns).sum < 0 then -(List.take 63 ns).sum else (List.take 63 ns).sum) 1009 = cc at N1
  have hcc0 : 0 ≤ cc := by rw [← hcc]; exact Int.fmod_nonneg_of_pos _ (by decide)
  have hcc1 : cc < 1009 := by rw [← hcc]; exact Int.fmod_lt_of_pos _ (by decide)
  clear hcc
  clear l0 l1 l2 l3 hC0 hL0
  show wpOk _ _ (execs [_, _, _, _, _, _, _, _, _, _] _) _ _
  refine wpOk_execs_cons ?_
  refine wpOk_For ?_ (by intro _; rfl)
  k_steps
  (rename Fr _ _ _ _ => F2); (rename News _ _ _ _ => N2)
  obtain ⟨⟨ot, hot, hotr⟩, hrows⟩ := table_rows KX
  obtain ⟨of, hof, fdf, hfd⟩ : ∃ o : Obj, s₁.heap.get? 328 = some o ∧ ∃ fd, o.data = .func fd := ⟨_, KX _ _ rfl, _, rfl⟩
  refine for_tupleOk (σ := Unit) (fun _ => [(P, _), (PL, listOf vs0.toArray c0), (s₁.heap.objs.size + 1, oc)]) (fun _ => []) (fun _ => True) [Str.ofString "text", Str.ofString "octets", Str.ofString "due"] (fun _ _ => True) ()
    rfl ⟨ot, F2.keep _ _ hot, hotr⟩ ⟨ot, hot⟩ F2 N2 trivial (fun p hp => nomatch hp) trivial ?_ ?_
  · rintro _ i v I oI u h tk hv _ _ hoff F3 N3
    dsimp only at *
    obtain ⟨T1, tx, tt, ob, tb, du, td, qs, rfl, hT, hok, hins, hob, hdu⟩ := hrows i v hv
    have ht : IsTup s₁.heap T1 #[.str tx tt, .bytes ob tb, .bytes du td] := hT
    k_steps
    refine wpOk_execs_cons ?_
    refine wpOk_If ?_
    refine wpOk_isTrue_Compare ?_
    refine wpOk_Call ?_
    k_steps
    refine wpOk_callWith_fn hfd ?_
    k_steps
    refine Mk.of ?_
    (rename Fr _ _ _ _ => F4); (rename News _ _ _ _ => N4)
    refine Spec.use (hok.read w _) (by k_asm) (by k_asm) (by k_asm) (by k_asm) (by k_asm) rfl rfl rfl rfl (by ktr_room) (by ktr_units) trivial ?_
    rintro v' h' tk' F5 N5 hst' hP hne' hadd
    obtain ⟨x, ls, ys, rfl, hys, hpre⟩ := hP.pre
    clear F4 N4 hst' hne' hadd hP
    (try dsimp only at hpre)
    k_steps
    (rename Fr _ _ _ _ => F6); (rename News _ _ _ _ => N6)
    refine SpecOk.use (hok.ins w x ls ys hys _ _ ob _ hob) (by k_asm) (by k_asm) (by k_asm) (by k_asm) (by k_asm) rfl rfl rfl rfl (by ktr_room) (by ktr_units) hpre ?_
    rintro v' h' tk' F7 N7 hst' ⟨b, t, rfl, hb⟩
    have hbd : KBw.bInts b = KBw.bInts du := hb.trans hins
    clear F6 N6 hst' hpre
    k_steps
    refine wpOk_execs_nil ?_
    show wpOk _ _ (execs [] _) _ _
    refine wpOk_execs_nil ?_
    (rename Fr _ _ _ _ => F8); (rename News _ _ _ _ => N8)
    refine ⟨(), _, _, _, _, rfl, F8, N8, .head _, (fun p hp => .tail _ hp), hoff, trivial, (fun p hp => nomatch hp), ?_, trivial⟩
    intro z h2 h3
    have h3' := h3
    simp only [List.contains_cons, List.contains_nil, Bool.or_false, Bool.or_eq_false_iff, beq_eq_false_iff_ne, ne_eq] at h3'
    (try dsimp only)
    (repeat rw [if_neg (by first | exact h3'.1 | exact h3'.2.1 | exact h3'.2.2)])
    exact kstB_off h3 (fun p hp => nomatch hp)
  · rintro _ u h tk _ _ F3 N3
    dsimp only at *
    show wpOk _ _ (execs [_, _, _, _, _, _, _, _, _] _) _ _
    refine wpOk_execs_any (pre := [_, _, _, _, _, _, _, _]) (rest := [_]) ?_
    k_steps
    refine Mk.of ?_
    refine wpAny_For ?_ (by intro _; rfl)
    k_steps
    refine Mk.of ?_
    (rename Fr _ _ _ _ => F4); (rename News _ _ _ _ => N4)
    rename_i SL _ l1 _
    have hSP : @Ne Nat SL P := by omega
    have hSL : @Ne Nat SL PL := by omega
    have hSC : @Ne Nat SL (s₁.heap.objs.size + 1) := by omega
    clear l1
    refine SpecM.use (draw_spec w P PL vs0 (ns.take 63) 0 0 cc 12 _ _ _ _ 0 hI0 hns0 (by omega) (by omega) (by omega) (by omega) (by omega) (by omega) (by omega) hPL) (f' := fun o' => [_, (P, o'), _, _]) (by k_asm) (by k_asm) (by k_asm) (by k_asm) (by k_asm) (fun o' => by k_upd) rfl rfl rfl rfl (by ktr_room) (by ktr_units) (News.isList N4 (by k_mem)) ?_
    rintro v' h' tk' o' F5 N5 hst' ⟨d, td, a', ta', b', tb', rfl, rfl, hd0, hd1, ha0, ha1, hb0⟩
    clear F4 N4 hst'
    k_steps
    refine Mk.of ?_
    (rename Fr _ _ _ _ => F6); (rename News _ _ _ _ => N6); (rename IsRange _ _ _ _ _ _ _ _ => hR)
    obtain ⟨hsm, hrs⟩ := range_ok hd0 (by omega)
    refine for_range (σ := DrSt) (fun c => [(SL, listOf c.ys c.ep), (P, penOf PL c.a c.ta c.b c.tb cc _ 0), (PL, listOf vs0.toArray c0), (s₁.heap.objs.size + 1, oc)]) (fun _ => [])
      (fun c => StrsAre c.ys.toList c.cs ∧ (∀ x ∈ c.cs, SignOk x) ∧ (Str.ofString "X") ∈ c.cs ∧ 0 ≤ c.a ∧ 0 ≤ c.b) [Str.ofString "turn"] (fun i c => c.cs.length = i + 1 ∧ c.a ≤ (i : Int) + 1) ⟨[Str.ofString "X"], _, 0, a', ta', b', tb'⟩
      rfl hR hsm hrs ⟨_, _, rfl⟩ F6 N6 ⟨.cons _ _ .nil, (fun x hx => by cases List.mem_singleton.mp hx; unfold SignOk; decide +kernel), .head _, ha0, hb0⟩ (fun p hp => nomatch hp) ⟨rfl, by omega⟩ ?_ ?_ .never
    · rintro ⟨cs, ys, ep, a, ta, b, tb⟩ i t I oI u h tk hi ⟨hS, hsg, hX, haa, hbb⟩ ⟨hlc, hal⟩ hoff F7 N7
      dsimp only at *
      have hys : ys.size ≤ sizeLine := by
        have := hS.length
        rw [Array.length_toList] at this
        rw [sizeLine_eq]; omega
      k_steps
      refine Mk.of ?_
      (rename Fr _ _ _ _ => F8); (rename News _ _ _ _ => N8)
      have hSI : @Ne Nat SL I := hoff _ (.head _)
      have hPI : @Ne Nat P I := hoff _ (.tail _ (.head _))
      have hLI : @Ne Nat PL I := hoff _ (.tail _ (.tail _ (.head _)))
      have hCI : @Ne Nat (s₁.heap.objs.size + 1) I := hoff _ (.tail _ (.tail _ (.tail _ (.head _))))
      refine SpecM.use (draw_spec w P PL vs0 (ns.take 63) a b cc 7 _ _ _ _ 0 hI0 hns0 (by omega) (by omega) (by omega) (by omega) (by omega) (by omega) (by omega) hPL) (f' := fun o' => [_, _, _, (P, o'), _, _]) (by k_asm) (by k_asm) (by k_asm) (by k_asm) (by k_asm) (fun o' => by k_upd) rfl rfl rfl rfl (by ktr_room) (by ktr_units) (News.isList N8 (by k_mem)) ?_
      rintro v' h' tk' o' F9 N9 hst' ⟨d2, td2, a2, ta2, b2, tb2, rfl, rfl, he0, he1, hf0, hf1, hg0⟩
      clear F8 N8 hst'
      k_steps
      (rename Fr _ _ _ _ => F10); (rename News _ _ _ _ => N10); (rename SignOk _ => hcn)
      rename_i cn tn _
      refine ⟨⟨cs ++ [cn], ys.push (.str cn tn), ep + 1, a2, ta2, b2, tb2⟩, _, _, _, _, rfl, F10, N10, by k_mem, (fun p hp => by k_ownIn), ?_, ⟨?_, ?_, ?_, hf0, hg0⟩, (fun p hp => nomatch hp), ?_, ?_⟩
      · intro p hp
        rcases List.mem_cons.mp hp with rfl | hp
        · exact hSI
        · rcases List.mem_cons.mp hp with rfl | hp
          · exact hPI
          · exact hoff p (.tail _ (.tail _ hp))
      · show StrsAre (ys.push (.str cn tn)).toList _
        rw [Array.toList_push]
        exact StrsAre.append' hS (.cons _ _ .nil)
      · intro x hx
        rcases List.mem_append.mp hx with hx | hx
        · exact hsg x hx
        · cases List.mem_singleton.mp hx; exact hcn
      · exact List.mem_append.mpr (.inl hX)
      · intro z h2 h3
        have h3' := h3
        simp only [List.contains_cons, List.contains_nil, Bool.or_false, beq_eq_false_iff_ne, ne_eq] at h3'
        (try dsimp only)
        (repeat rw [if_neg h3'])
        exact kstB_off h3 (fun p hp => nomatch hp)
      · refine ⟨?_, ?_⟩
        · show (cs ++ [cn]).length = i + 1 + 1
          rw [List.length_append, hlc]; rfl
        · show a2 ≤ ((i + 1 : Nat) : Int) + 1
          omega
    · rintro ⟨cs, ys, ep, a, ta, b, tb⟩ u h tk ⟨hS, hsg, hX, haa, hbb⟩ ⟨hlc, hal⟩ F7 N7
      dsimp only at *
      have hcl : cs.length ≤ 12 := by omega
      have hal2 : a ≤ 12 := by omega
      have hys : ys.size = cs.length := by
        have := hS.length
        rw [Array.length_toList] at this
        exact this
      clear F6 N6 hR hsm hrs
      k_steps
      refine Mk.of ?_
      (rename Fr _ _ _ _ => F8); (rename News _ _ _ _ => N8)
      refine SpecM.use (draw_spec w P PL vs0 (ns.take 63) a b cc _ _ _ _ _ 0 hI0 hns0 (by omega) (by omega) (by omega) (by omega) (by omega) ?hm1 ?hm2 hPL) (f' := fun o' => [_, (P, o'), _, _]) (by k_asm) (by k_asm) (by k_asm) (by k_asm) (by k_asm) (fun o' => by k_upd) rfl rfl rfl rfl (by ktr_room) (by ktr_units) (News.isList N8 (by k_mem)) ?_
      case hm1 => omega
      case hm2 => omega
      rintro v' h' tk' o' F9 N9 hst' ⟨d2, td2, a2, ta2, b2, tb2, rfl, rfl, he0, he1, hf0, hf1, hg0⟩
      clear F8 N8 hst'
      k_steps
      refine Mk.of ?_
      (rename Fr _ _ _ _ => F10); (rename News _ _ _ _ => N10)
      refine SpecM.use (draw_spec w P PL vs0 (ns.take 63) a2 b2 cc 3 _ _ _ _ 0 hI0 hns0 (by omega) (by omega) (by omega) (by omega) (by omega) (by omega) (by omega) hPL) (f' := fun o' => [_, _, _, (P, o'), _, _]) (by k_asm) (by k_asm) (by k_asm) (by k_asm) (by k_asm) (fun o' => by k_upd) rfl rfl rfl rfl (by ktr_room) (by ktr_units) (News.isList N10 (by k_mem)) ?_
      rintro v' h' tk' o' F11 N11 hst' ⟨d3, td3, a3, ta3, b3, tb3, rfl, rfl, hi0, hi1, hj0, hj1, hk0⟩
      clear F10 N10 hst'
      k_steps
      (rename Fr _ _ _ _ => F12); (rename News _ _ _ _ => N12); (rename isEd _ => hed)
      rename_i SG _ zs hS2 hz2 l1s _
      have hSGP : @Ne Nat SG P := by omega
      have hSGL : @Ne Nat SG PL := by omega
      have hSGC : @Ne Nat SG (s₁.heap.objs.size + 1) := by omega
      replace N12 := news_sub (l' := [(SG, listOf zs 0), (P, _), (PL, listOf vs0.toArray c0), (s₁.heap.objs.size + 1, oc)]) N12 (fun p hp => by
        rcases List.mem_cons.mp hp with rfl | hp
        · exact .head _
        · rcases List.mem_cons.mp hp with rfl | hp
          · exact .tail _ (.tail _ (.tail _ (.tail _ (.tail _ (.tail _ (.tail _ (.head _)))))))
          · rcases List.mem_cons.mp hp with rfl | hp
            · exact .tail _ (.tail _ (.tail _ (.tail _ (.tail _ (.tail _ (.tail _ (.tail _ (.head _))))))))
            · cases List.mem_singleton.mp hp
              exact .tail _ (.tail _ (.tail _ (.tail _ (.tail _ (.tail _ (.tail _ (.tail _ (.tail _ (.head _))))))))))
      obtain ⟨tcc, N12⟩ : ∃ tcc, News s₁.heap s₁.heap.objs.size _ [(SG, listOf zs 0), (P, penOf PL a3 ta3 b3 tb3 cc tcc 0), (PL, listOf vs0.toArray c0), (s₁.heap.objs.size + 1, oc)] := ⟨_, N12⟩
      obtain ⟨cs2, hS3, hsg2, hX2, hed2, hlen2⟩ : ∃ cs2, StrsAre zs.toList cs2 ∧ (∀ x ∈ cs2, SignOk x) ∧ Str.ofString "X" ∈ cs2 ∧ (∃ x ∈ cs2, isEd x) ∧ cs2.length ≤ 13 := ⟨_, hS2, cut_in hsg hed hX hcl⟩
      have hzl : zs.size = cs2.length := by have := hS3.length; rw [Array.length_toList] at this; exact this
      have ha13 : a3 ≤ 20 := by omega
      clear hS2 hz2 l1s hed hS hsg hX hlc hal hys
      refine Mk.of ?_
      refine comp_eval (cl := [(Str.ofString "pen", s₁.heap.objs.size + 1)]) (by rfl) (by rfl) (by decide) ?_ (by intro _; rfl)
      k_steps
      refine Mk.of ?_
      (rename Fr _ _ _ _ => F13); (rename News _ _ _ _ => N13)
      refine SpecM.use (draw_spec w P PL vs0 (ns.take 63) a3 b3 cc 16 _ _ _ _ 0 hI0 hns0 (by omega) (by omega) (by omega) (by omega) (by omega) (by omega) (by omega) hPL) (f' := fun o' => [_, (P, o'), _, _]) (by k_asm) (by k_asm) (by k_asm) (by k_asm) (by k_asm) (fun o' => by k_upd) rfl rfl rfl rfl (by ktr_room) (by ktr_units) (News.isList N13 (by k_mem)) ?_
      rintro v' h' tk' o' F14 N14 hst' ⟨d4, td4, a4, ta4, b4, tb4, rfl, rfl, hm0, hm1, hn0, hn1, hp0⟩
      clear F13 N13 hst'
      k_steps
      refine Mk.of ?_
      (rename Fr _ _ _ _ => F15); (rename News _ _ _ _ => N15); (rename IsRange _ _ _ _ _ _ _ _ => hR2)
      obtain ⟨hsm2, hrs2⟩ := range_ok hm0 hm1
      refine comp_range (fun i ys news => ∃ a ta b tb ks, IntsAre ys ks ∧ ks.length = i ∧ KBa.In ks ∧ 0 ≤ a ∧ a ≤ 30 + (i : Int) ∧ 0 ≤ b ∧ news = [(SG, listOf zs 0), (P, penOf PL a ta b tb cc tcc 0), (PL, listOf vs0.toArray c0), (s₁.heap.objs.size + 1, oc)]) rfl hR2 hsm2 hrs2 (by rw [sizeLine_eq]; omega) (by decide) rfl (by rfl) F15 N15
        ⟨a4, ta4, b4, tb4, [], .nil, rfl, (fun _ h => nomatch h), hn0, (by omega), hp0, rfl⟩ ?_ ?_
      · rintro i ys news I oI C oC D m₂ h tk E' ⟨a, ta, b, tb, ks, hI, hl, hin, hq0, hq1, hq2, rfl⟩ hoC ⟨hi, u, hB⟩ F' N' off ne
        refine wpAny_tests_nil ?_
        have oSG := off.mem _ (.head _)
        have oP := off.mem _ (.tail _ (.head _))
        k_steps
        refine Mk.of ?_
        (rename Fr _ _ _ _ => F8); (rename News _ _ _ _ => N8)
        have hU : ∀ o', Upd P (penOf PL a ta b tb cc tcc 0) o' [(I, oI), (C, oC), (D, lst ys), (SG, listOf zs 0), (P, penOf PL a ta b tb cc tcc 0), (PL, listOf vs0.toArray c0), (s₁.heap.objs.size + 1, oc)] [(I, oI), (C, oC), (D, lst ys), (SG, listOf zs 0), (P, o'), (PL, listOf vs0.toArray c0), (s₁.heap.objs.size + 1, oc)] := fun o' =>
          .tail (Ne.symm oP.1) (.tail (Ne.symm oP.2.1) (.tail (Ne.symm oP.2.2) (.tail hSGP (.head (List.forall_mem_cons.mpr ⟨Ne.symm hPL, List.forall_mem_cons.mpr ⟨Ne.symm hPC, List.forall_mem_nil _⟩⟩)))))
        refine SpecM.use (draw_spec w P PL vs0 (ns.take 63) a b cc 256 _ _ _ _ 0 hI0 hns0 (by omega) (by omega) (by omega) (by omega) (by omega) (by omega) (by omega) hPL) (f' := fun o' => [_, _, _, _, (P, o'), _, _]) (by k_asm) (by k_asm) (by k_asm) (by k_asm) (by k_asm) hU rfl rfl rfl rfl (by ktr_room) (by ktr_units) (News.isList N8 (by k_mem)) ?_
        rintro v' h' tk' o' F9 N9 hst' ⟨d5, td5, a5, ta5, b5, tb5, rfl, rfl, hr0, hr1, hs0, hs1, ht0⟩
        refine comp_same F9 N9 (fun p hp => hp) off ⟨a5, ta5, b5, tb5, ks ++ [d5], IntsAre.append hI (.cons _ _ .nil), by rw [List.length_append, hl]; rfl, ?_, hs0, by omega, ht0, rfl⟩
        intro x hx
        rcases List.mem_append.mp hx with hx | hx
        · exact hin x hx
        · cases List.mem_singleton.mp hx; exact ⟨hr0, hr1⟩
      · rintro D h tk ys news' F' N' off ⟨a, ta, b, tb, ks, hI, hl, hin, hq0, hq1, hq2, rfl⟩
        k_steps
        refine Mk.of ?_
        (rename Fr _ _ _ _ => F16); (rename News _ _ _ _ => N16)
        refine KBa.make_K F16 N16 rfl (News.isList N16 (by k_mem)) hI hin (by omega) ?_
        intro h17 t17 k17 F17 N17 _
        have hob := KBa.ints_make hin
        generalize byteArr ks = ob at hob ⊢
        have hkl : ks.length < 16 := by omega
        replace N17 := news_sub (l' := [(SG, listOf zs 0)]) N17 (fun p hp => by
          cases List.mem_singleton.mp hp
          exact .tail _ (.head _))
        clear F16 N16 off F15 N15 hR2 hsm2 hrs2
        k_steps
        refine Mk.of ?_
        refine wpAny_For ?_ (by intro _; rfl)
        k_steps
        refine Mk.of ?_
        (rename Fr _ _ _ _ => F18); (rename News _ _ _ _ => N18)
        replace N18 := news_sub (l' := [(SG, listOf zs 0)]) N18 (fun p hp => by
          cases List.mem_singleton.mp hp
          exact .tail _ (.head _))
        have hks0 : ks.length ≤ 16 := by omega
        refine for_list (σ := DuSt) (fun _ => [(SG, listOf zs 0)]) (fun c => [(Str.ofString "due", .bytes c.d c.td), (Str.ofString "left", .bytes c.l c.tl)]) (fun _ => True) duStored
          (fun i c => (KBw.bInts c.d, KBw.bInts c.l) = (cs2.take i).foldl dueStep ([], ks)) ⟨#[], _, ob, t17⟩
          rfl (News.isList N18 (by k_mem)) (.inr ⟨_, fun _ _ => .head _⟩) F18 N18 trivial (fun p hp => by
            rcases List.mem_cons.mp hp with rfl | hp
            · with_unfolding_all rfl
            · cases List.mem_singleton.mp hp
              with_unfolding_all rfl) (by rw [List.take_zero, List.foldl_nil, ← hob]; rfl) ?_ ?_ .never
        · rintro ⟨d, td, l, tl⟩ i v I oI u h tk hv _ hP hoff F' N'
          dsimp only at *
          obtain ⟨c, t, rfl, hc⟩ := hS3.item i v (by simpa using hv)
          have hsc := hsg2 c (List.mem_of_getElem? hc)
          have hstep := dueInts_snoc hc ([], ks)
          have hlen := dueFold_len (cs2.take i) ([], ks)
          rw [← hP] at hstep hlen
          generalize hd : KBw.bInts d = dk at *
          generalize hll : KBw.bInts l = lk at *
          replace hlen : dk.length = 0 + (cs2.take i).length ∧ lk.length ≤ ks.length := hlen
          have hdl : dk.length ≤ 100000 := by
            have h9 := hlen.1
            rw [List.length_take] at h9
            omega
          have hl1 : lk.length ≤ 100000 := by have := hlen.2; omega
          have hSI : @Ne Nat SG I := hoff _ (.head _)
          have e32 : KBw.bInts #[32] = [32] := rfl
          have e48 : KBw.bInts #[48] = [48] := rfl
          have e47 : KBw.bInts #[47] = [47] := rfl
          clear hv hlen hP hsg2 hS3 hX2 hed2 F18 N18 hoff
          rcases hsc with rfl | rfl | rfl | rfl | rfl | rfl
          all_goals k_steps
          all_goals ((rename Fr _ _ _ _ => F19); (rename News _ _ _ _ => N19))
          all_goals refine du_end F19 N19 (by k_mem) (by k_mem) hSI (by with_unfolding_all rfl) (by with_unfolding_all rfl) ?_ ?_
          all_goals first
            | exact du_one hstep (by decide +kernel) (by assumption) (by assumption) (by omega)
            | exact du_none hstep (by decide +kernel) (by assumption) (by assumption) (by omega)
            | exact du_ed hstep (by decide +kernel) (by assumption) (by assumption) (by decide +kernel)
            | skip
          all_goals (
            intro z h2 h3
            have h3' := h3
            simp only [List.contains_cons, List.contains_nil, Bool.or_false, beq_eq_false_iff_ne, ne_eq] at h3'
            have ha := h2 _ (.head _)
            have hb := h2 _ (.tail _ (.head _))
            dsimp only at ha hb ⊢
            (conv => lhs; repeat rw [if_neg (by first | exact ha | exact hb | exact h3')])
            exact kstB_off h3 (fun p hp => by
              rcases List.mem_cons.mp hp with rfl | hp
              · exact ha
              · cases List.mem_singleton.mp hp
                exact hb))
        · rintro ⟨d, td, l, tl⟩ u h tk _ hP F' N'
          dsimp only at *
          rw [List.take_of_length_le (by omega)] at hP
          have hd : KBw.bInts d = dueInts cs2 ks := congrArg Prod.fst hP
          have hdl : (dueInts cs2 ks).length = cs2.length := due_len hsg2
          obtain ⟨jt, qs, hjt, hok, hex, hjw⟩ := drawn_ok hsg2 hX2 hed2 hlen2
          have hins := ins_due (ks := ks) hsg2
          have hobs : ob.size ≤ 100 := by rw [← KBw.ints_length, hob]; omega
          have hz1 : zs.size ≤ sizeLine := by rw [sizeLine_eq]; omega
          clear hP F18 N18
          k_steps
          rw [hjt]
          refine Mk.of ?_
          (rename Fr _ _ _ _ => F21); (rename News _ _ _ _ => N21)
          refine Spec.use (hok.read w _) (by k_asm) (by k_asm) (by k_asm) (by k_asm) (by k_asm) rfl rfl rfl rfl (by ktr_room) (by ktr_units) trivial ?_
          rintro v' h' tk' F22 N22 hst' hPN hne' hadd
          obtain ⟨x, dx, ls, es, ep9, n9, ys9, objs, t1, t2, rfl, hys9, N23, hPI, g1, g2, g3⟩ := hPN.all N22 hadd
          clear F21 N21 N22 hst' hne' hadd hPN
          k_steps
          show wpOk _ _ (execs [_] _) _ _
          refine wpOk_execs_cons ?_
          refine wpOk_Return ?_
          refine wpOk_And ?_
          refine wpOk_Compare ?_
          refine wpOk_Call ?_
          k_steps
          refine wpOk_callWith_fn hfd ?_
          k_steps
          (try dsimp only)
          (rename Fr _ _ _ _ => F24); (rename News _ _ _ _ => N24)
          have hpre9 := pict_pre N24 (fun p hp => hp) hPI g1 g2 g3
          refine SpecOk.use (hok.ins w x ls ys9 hys9 _ _ ob _ hobs) (by k_asm) (by k_asm) (by k_asm) (by k_asm) (by k_asm) rfl rfl rfl rfl (by ktr_room) (by ktr_units) hpre9 ?_
          rintro v' h' tk' F25 N25 hst' ⟨b9, t9, rfl, hb9⟩
          have hbd : KBw.bInts b9 = KBw.bInts d := by rw [hb9, hex, hob, hins, hd]
          rw [hex] at g3
          generalize dueInts cs2 ks = dd at hd hdl
          clear F24 N24 hst' hpre9 hb9 hins
          k_steps
          · (rename Fr _ _ _ _ => F26)
            exact (show (_ = _ ∧ _) from ⟨congrArg Value.bool (beq_self_eq_true _), _, _, _, _, rfl, F26⟩)
          · exfalso; omega
end Mine
end
set_option maxRecDepth 100000 in
set_option maxHeartbeats 8000000 in
theorem PySem.Challenge.cw_pc0131_01_holds : PySem.Challenge.rw_pc0131_01.Holds := by
  exact Mine.law_holds
