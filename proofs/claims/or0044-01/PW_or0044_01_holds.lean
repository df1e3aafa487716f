import PyProof.Rows.All
import Wide.All
import OpenK.AllK
import Wide.FinOn
import Lean
import PySem.Challenge.RW_or0044_01
set_option compiler.extract_closed false
open PySem PySem.W PySem.Calls PyProof.Rows
set_option hygiene false in
local macro_rules | `(tactic| walk_at "m_kind") => `(tactic| first | exact kind_of (by assumption) (by rfl) | exact CompEnv.loc (by assumption) _ (by rfl) | exact CompEnv.glb (by assumption) _ (by rfl) | exact CompEnv.cell (by assumption) _ (by rfl) (kind_of (by assumption) (by rfl)))
set_option hygiene false in
local macro_rules | `(tactic| walk_at "m_sk") => `(tactic| first | exact Or.inl (kind_of (by assumption) (by rfl)) | exact Or.inl (CompEnv.loc (by assumption) _ (by rfl)) | exact Or.inr ⟨kind_of (by assumption) (by rfl), by assumption⟩)
set_option hygiene false in
local macro_rules | `(tactic| walk_at "m_glb") => `(tactic| first | exact Sys.glb (by assumption) (by walk_at "m_kind") (by rfl) (by rfl) | exact Sys.blt (by assumption) (by walk_at "m_kind") (by rfl) (by rfl))
set_option hygiene false in
local macro_rules | `(tactic| walk_at "m") => `(tactic| first
  | with_reducible refine' SX_cons ?_
  | with_reducible refine' SX_nil ?_
  | with_reducible refine' S1_return ?_
  | ((with_reducible refine' S1_assign (hs := ?hs) ?hx ?_); (case hs => rfl); (case hx => walk_at "m_sk"))
  | ((with_reducible refine' S1_unpack (hs := ?hs) (hw := ?hw) ?hx ?hy ?_); (case hs => rfl); (case hw => first | rfl | exact (sw_eq (by assumption)).trans (by rfl)); (case hx => walk_at "m_sk"); (case hy => walk_at "m_sk"))
  | ((with_reducible refine' S1_swapped (hs := ?hs) (hw := ?hw) ?hx ?hy ?_); (case hs => rfl); (case hw => exact (sw_eq (by assumption)).trans (by rfl)); (case hx => walk_at "m_sk"); (case hy => walk_at "m_sk"))
  | ((with_reducible refine' S1_setitem (hs := ?hs) ?_); (case hs => rfl))
  | with_reducible refine' S1_if ?_
  | with_reducible refine' OP_some ?_
  | with_reducible refine' OP_none ?_
  | ((with_reducible refine' S1_expr (hs := ?hs) ?_ ?hi); (case hs => rfl); (case hi => exact interactive_fn (fn_kind (by assumption) (by rfl))))
  | with_reducible refine' SE_int ?_
  | with_reducible refine' SE_str ?_
  | with_reducible refine' SE_bytes ?_
  | with_reducible refine' SE_none ?_
  | with_reducible refine' SE_bool ?_
  | ((with_reducible refine' SE_local (hd := ?hd) ?hx ?hk ?_); (case hx => rfl); (case hk => walk_at "m_kind"); (case hd => rfl))
  | ((with_reducible refine' SE_cell (hd := ?hd) ?hx ?hk ?_); (case hx => rfl); (case hk => walk_at "m_kind"); (case hd => rfl))
  | ((with_reducible refine' SE_glb ?hg ?hv ?_); (case hg => walk_at "m_glb"); (case hv => first | exact fun _ _ => int_vr | exact fun _ _ => ty_vr))
  | with_reducible refine' SE_binop ?_
  | ((with_reducible refine' SE_cmp (hm := ?hm) ?_); (case hm => with_unfolding_all rfl))
  | ((with_reducible refine' SB_cmp (hm := ?hm) ?_); (case hm => with_unfolding_all rfl))
  | with_reducible refine' SB_not ?_
  | with_reducible refine' SB_bool ?_
  | with_reducible refine' SA_nil ?_
  | with_reducible refine' SA_or ?_
  | with_reducible refine' SA_and ?_
  | with_reducible refine' SE_ifexp ?_
  | with_reducible refine' SE_and ?_
  | with_reducible refine' SE_and_one ?_
  | with_reducible refine' SE_neg ?_
  | ((with_reducible refine' SL_cons (he := ?he) ?_); (case he => rfl))
  | with_reducible refine' SL_nil ?_
  | with_reducible refine' SE_tuple ?_
  | with_reducible refine' SE_list ?_
  | ((with_reducible refine' SE_call0 ?hg ?_); (case hg => walk_at "m_glb"))
  | ((with_reducible refine' SE_call (he := ?he) (hp := ?hp) ?hg ?hc ?_); (case he => rfl); (case hp => rfl); (case hg => walk_at "m_glb"); (case hc => first | exact trivial | exact Sys.callee (by assumption) (by rfl)))
  | with_reducible refine' SE_slice ?_
  | with_reducible refine' SE_sub ?_
  | ((with_reducible refine' SI_bytesN ?hs ?h1 ?hz ?_); (case hs => exact fun _ _ => rfl); (case h1 => omega); (case hz => omega))
  | ((with_reducible refine' CC_len_bytes ?hz ?_); (case hz => omega))
  | with_reducible refine' BO_add ?_
  | with_reducible refine' BO_sub ?_
  | ((with_reducible refine' BO_mul ?hm ?_); (case hm => first | exact IntMulOk.of_left (by decide) | exact IntMulOk.of_right (by decide)))
  | ((with_reducible refine' BO_shr ?hn ?_); (case hn => decide))
  | with_reducible refine' BO_and255 ?_
  | ((with_reducible refine' BO_mod ?hb ?_); (case hb => decide))
  | ((with_reducible refine' BO_div ?hb ?hp ?_); (case hb => decide); (case hp => exact PyProof.noPylong_small (by decide)))
  | with_reducible refine' CO_lt ?_
  | with_reducible refine' CO_gt ?_
  | with_reducible refine' CO_le ?_
  | with_reducible refine' CO_ge ?_
  | with_reducible refine' CO_eq ?_
  | with_reducible refine' CO_ne ?_
  | with_reducible refine' CO_eqB ?_
  | with_reducible refine' CO_neB ?_
  | with_reducible refine' TR_bool ?_
  | ((with_reducible refine' SB_val (he := ?he) ?_); (case he => intro _; rfl)))
set_option hygiene false in
local macro_rules | `(tactic| walk_at "m_meth") => `(tactic| first
  | refine SE_meth plainAttrs_ba ba_slot_append ba_ty_append ?_
  | refine SE_meth plainAttrs_ba ba_slot_extend ba_ty_extend ?_
  | refine SE_meth PySem.F.plainAttrs_str PySem.F.slot_str_join PySem.F.type_str_join ?_)
set_option hygiene false in
local macro_rules | `(tactic| walk_at "m_appl") => `(tactic| refine SE_meth PySem.F.plainAttrs_list PySem.F.slot_list_append PySem.F.type_list_append ?_)
set_option hygiene false in
local macro_rules | `(tactic| walk_at "m_joinb") => `(tactic| refine SE_meth FB.plainAttrs_bytes b_slot_join b_ty_join ?_)
set_option hygiene false in
local macro_rules | `(tactic| walk_at "ms") => `(tactic| repeat walk_at "m")
set_option hygiene false in
local macro_rules | `(tactic| walk_at "m_sub") => `(tactic| repeat (first | exact Sub.nil | exact Sub.refl | refine Sub.cons (by rfl) ?_))
set_option hygiene false in
local macro_rules | `(tactic| walk_at "m_raise") => `(tactic| ((refine' S1_raise (he := ?he) (hp := ?hp) ?hf ?hg ?_); (case he => rfl); (case hp => rfl); (case hf => assumption); (case hg => walk_at "m_glb"); walk_at "ms"))

open PySem PySem.W PySem.Calls PyProof.Rows
set_option Elab.async false
set_option maxRecDepth 100000
namespace Mine

/-- codes that lend a bytearray's memory out are none of ours -/
def okc : Code → Bool
  | .builtin id _ => !(Builtin.Bytes.decodersThatHold.contains id)
  | _ => true
def Cln (Γ : Ctx) : Prop := okc Γ.code = true ∧ ∀ x ∈ Γ.below, okc x.1 = true
theorem Cln.enter {Γ : Ctx} (x : Cln Γ) {c : Code} (hc : okc c = true) (h : Option Value) (p : Pos) : Cln (Γ.enter c h p) :=
  ⟨hc, fun y m => (List.mem_cons.mp m).elim (fun e => e ▸ x.1) (x.2 y)⟩

/-- wpAny, where no such code stands below -/
def wpC {α : Type} (M : Model) (A : Around) (t : Sem α) (Q : α → Shared → Prop) (E : Value → Shared → Prop) (s : Shared) : Prop :=
  ∀ Γ p, Γ.In A → Cln Γ → Sem.wp M Γ t (fun a _ s' => Q a s') (fun e _ s' => E e s') p s
def codeC (M : Model) (A : Around) (c : Code) (R : Result → Shared → Prop) (s : Shared) : Prop :=
  ∀ Γ p, Γ.code = c → Γ.Below A → Cln Γ → wpCode M Γ R p s

section
variable {α β : Type} {M : Model} {A : Around} {E : Value → Shared → Prop} {s : Shared} {R : Result → Shared → Prop}

theorem wpC_of {t : Sem α} {Q : α → Shared → Prop} (h : wpAny M A t Q E s) : wpC M A t Q E s := fun Γ p i _ => h Γ p i
theorem wpC_pure {a : α} {Q : α → Shared → Prop} (h : Q a s) : wpC M A (pure a) Q E s := wpC_of (wpAny_pure h)
theorem wpC_mono {t : Sem α} {Q Q' : α → Shared → Prop} {E' : Value → Shared → Prop} (h : wpC M A t Q E s) (hQ : ∀ a s, Q a s → Q' a s) (hE : ∀ e s, E e s → E' e s) : wpC M A t Q' E' s :=
  fun Γ p i k => Sem.wp_mono M Γ t (fun a _ s => hQ a s) (fun e _ s => hE e s) p s (h Γ p i k)
theorem wpC_bind {m : Sem α} {f : α → Sem β} {Q : β → Shared → Prop} (h : wpC M A m (fun a s' => wpC M A (f a) Q E s') E s) : wpC M A (m >>= f) Q E s := fun Γ p i k => by
  rw [Sem.wp_bind']
  exact Sem.wp_mono M Γ m (fun a p' s' q => q Γ p' i k) (fun _ _ _ q => q) p s (h Γ p i k)
/-- the first part sees nothing of ours -/
theorem wpC_then {m : Sem α} {f : α → Sem β} {Q : β → Shared → Prop} (h : wpAny M A m (fun a s' => wpC M A (f a) Q E s') E s) : wpC M A (m >>= f) Q E s := wpC_bind (wpC_of h)
theorem wpC_holding {vs : List Value} {m : Sem α} {Q : α → Shared → Prop} (h : wpC M A m Q E s) : wpC M A (holding vs m) Q E s := fun Γ p i k => by rw [Sem.wp_holding]; exact h Γ p i k
theorem wpC_operate {vs : List Value} {m : Sem Value} {Q : Value → Shared → Prop} (h : wpC M A m Q E s) : wpC M A (operate vs m) Q E s := fun Γ p i k => by rw [Sem.wp_operate]; exact h Γ p i k
theorem wpC_keep {vs : List Value} {m : Sem α} {Q : α → Shared → Prop} (h : wpC M A m Q E s) : wpC M A (m.keep vs) Q E s := fun Γ p i k => by rw [Sem.wp_keep]; exact h Γ p i k
theorem wpC_at {pos : Pos} {f : Unit → Sem β} {Q : β → Shared → Prop} (h : wpC M A (f ()) Q E s) : wpC M A (standAt pos >>= f) Q E s := wpC_then (wpAny_standAt h)
theorem wpC_eq {m : Sem α} {f : α → Sem β} {a : α} {Q : β → Shared → Prop} (e : m = pure a) (h : wpC M A (f a) Q E s) : wpC M A (m >>= f) Q E s := by subst e; exact wpC_bind (wpC_pure h)
theorem wpC_onRaise {m : Sem α} {k : Value → Sem Unit} {Q : α → Shared → Prop} (h : wpC M A m Q (fun e s' => wpAny M A (k e) (fun _ s'' => E e s'') E s') s) : wpC M A (m.onRaise k) Q E s := fun Γ p i c => by
  rw [Sem.wp_onRaise]
  exact Sem.wp_mono M Γ m (fun _ _ _ q => q) (fun e p' s' q => q Γ p' i) p s (h Γ p i c)
theorem wpC_attempt {m : Sem α} {Q : Except Value α → Shared → Prop} (h : wpC M A m (fun a => Q (.ok a)) (fun e => Q (.error e)) s) : wpC M A m.attempt Q E s := fun Γ p i k => by
  rw [Sem.wp_attempt]; exact h Γ p i k
theorem wpC_stack {Q : List (Code × Pos) → Shared → Prop} (h : ∀ st : List (Code × Pos), (∀ x ∈ st, okc x.1 = true) → (∀ g, A.guards = some g → guardsOf st = g) → Q st s) : wpC M A stack Q E s := fun Γ p i k => by
  show Q ((Γ.code, p) :: Γ.below) s
  exact h _ (fun x m => (List.mem_cons.mp m).elim (fun e => e ▸ k.1) (k.2 x)) fun g e => by rw [guardsOf_cons]; exact i.2.2.2.1 g e
theorem wpC_run {c : Code} {h : Option Value} {Q : Flow → Shared → Prop} (hc : codeC M (A.mark h) c (fun r s' => match r with | .ok f => Q f s' | .error e => E e s') s) (ok : okc c = true) (hnb : h ≠ some byPass) :
    wpC M A (run c h) Q E s := fun Γ p i k => by
  rw [Sem.wp_run]; exact hc _ p rfl (i.enter c h p hnb) (k.enter ok h p)
theorem wpC_call {f : Value} {pos : List Value} {Q : Value → Shared → Prop} (hc : codeC M A (.call f ⟨pos, []⟩) (fun r s' => match r with | .ok (.ret v) => Q v s' | .ok _ => False | .error e => E e s') s) :
    wpC M A (call f pos) Q E s := fun Γ p i k => by
  show Sem.wp M Γ (runValue _) _ _ p s
  rw [Sem.wp_runValue]; exact hc _ p rfl (i.enter _ none p (by intro x; cases x)) (k.enter rfl none p)
theorem codeC_tree {c : Code} (h : wpC M (A.under c) (M.den c) (fun fin s' => match fin with | .done f => R (.ok f) s' | .again c' => c'.quiet = true ∧ okc c' = true ∧ codeC M A c' R s') (fun e s' => R (.error e) s') s) :
    codeC M A c R s := fun Γ p hc i k => by
  rw [wpCode_iff_wp, hc]
  refine Sem.wp_mono M Γ _ (fun fin p' s' q => ?_) (fun _ _ _ q => q) p s (h Γ p (hc ▸ i.in) k)
  cases fin with
  | done f => exact q
  | again c' => exact ⟨q.1, q.2.2 (Γ.goto c') p' rfl (i.goto c') ⟨q.2.1, k.2⟩⟩
theorem codeC_loop {c : Code} (hq : c.quiet = true) (ok : okc c = true) (I : Nat → Shared → Prop)
    (turn : ∀ n s, I n s → wpC M (A.under c) (M.den c) (fun fin s' => match fin with
      | .done f => R (.ok f) s'
      | .again c' => (c' = c ∧ ∃ m, m < n ∧ I m s') ∨ (c'.quiet = true ∧ okc c' = true ∧ codeC M A c' R s')) (fun e s' => R (.error e) s') s)
    (n : Nat) (h : I n s) : codeC M A c R s := by
  induction n using Nat.strongRecOn generalizing s with
  | ind n ih =>
    refine codeC_tree (wpC_mono (turn n s h) (fun fin s' q => ?_) fun _ _ q => q)
    cases fin with
    | done f => exact q
    | again c' => exact q.elim (fun ⟨e, m, hm, i⟩ => e ▸ ⟨hq, ok, ih m hm i⟩) id
theorem wpC_runOwn {c : Code} {env : Env} {Q : Flow → Shared → Prop} (hc : codeC M A c (fun r s' => match r with | .ok f => Q f s' | .error e => cameBackBy M A env E e s') s) (ok : okc c = true) :
    wpC M A (runOwn c env none) Q E s := by
  unfold runOwn
  exact wpC_onRaise (wpC_run (h := none) (by cases A; exact hc) ok (by intro x; cases x))
theorem wpC_noted {env : Env} {m : Sem α} {Q : α → Shared → Prop} (h : wpC M A m Q (notedBy M A env E) s) : wpC M A (m.onRaise fun x => do noteFrame x env; theTreesLotGoes x) Q E s :=
  wpC_onRaise (wpC_mono h (fun _ _ q => q) fun _ _ q => wpAny_bind (wpAny_mono q (fun _ _ e => wpAny_theTreesLotGoes e) fun _ _ e => e))
end

section
variable {M : Model} {A : Around} {E : Value → Shared → Prop} {s : Shared} {env : Env} {Q : Value → Shared → Prop} {QF : Flow → Shared → Prop} {QB : Bool → Shared → Prop}

theorem C_BinOp {l op r pos} (h : wpC M A (eval l env) (fun a s₁ => wpC M A (eval r env) (fun b s₂ => wpC M A (binaryOp op a b) Q E s₂) E s₁) E s) : wpC M A (eval (.BinOp l op r pos) env) Q E s := by
  rw [eval_BinOp]
  exact wpC_bind (wpC_mono h (fun a s₁ q => wpC_bind (wpC_holding (wpC_mono q (fun b s₂ q => wpC_at (wpC_operate q)) fun _ _ q => q))) fun _ _ q => q)
theorem C_Compare1 {l op r pos} (h : wpC M A (eval l env) (fun a s₁ => wpC M A (eval r env) (fun b s₂ => wpC M A (compareOp op a b) Q E s₂) E s₁) E s)
    (hm : behindInMarks op r = false) : wpC M A (eval (.Compare l [op] [r] pos) env) Q E s := by
  rw [eval_Compare1, markedBehindIn_of_false hm]
  exact wpC_bind (wpC_mono h (fun a s₁ q => wpC_bind (wpC_holding (wpC_mono q (fun b s₂ q => wpC_at (wpC_operate q)) fun _ _ q => q))) fun _ _ q => q)
theorem C_isTrue_Compare1 {l op r pos whole} (h : wpC M A (eval l env) (fun a s₁ => wpC M A (eval r env) (fun b s₂ => wpC M A (compareOp op a b) (fun c s₃ => wpC M A (truthy c) QB E s₃) E s₂) E s₁) E s)
    (hm : behindInMarks op r = false) : wpC M A (isTrue (.Compare l [op] [r] pos) env whole) QB E s := by
  rw [isTrue_Compare1, markedBehindIn_of_false hm]
  exact wpC_bind (wpC_mono h (fun a s₁ q => wpC_bind (wpC_holding (wpC_mono q (fun b s₂ q => wpC_at (wpC_bind (wpC_operate (wpC_mono q (fun c s₃ q => wpC_holding q) fun _ _ q => q)))) fun _ _ q => q))) fun _ _ q => q)
theorem C_execs_cons {st rest} (h : wpC M A (exec st env) (fun f s' => match f with | .next => wpC M A (execs rest env) QF E s' | f => QF f s') E s) : wpC M A (execs (st :: rest) env) QF E s := by
  rw [execs_cons]
  refine wpC_bind (wpC_mono h (fun f s₁ q => ?_) fun _ _ q => q)
  cases f <;> first | exact q | exact wpC_pure q
theorem C_Return {e pos} (h : wpC M A (eval e env) (fun v => QF (.ret v)) E s) : wpC M A (exec (.Return (some e) pos) env) QF E s := by
  rw [exec_Return_some]
  exact wpC_at (wpC_bind (wpC_mono h (fun _ _ q => wpC_pure q) fun _ _ q => q))
theorem C_Assign_Name {x pos' value pos} (h : wpC M A (eval value env) (fun v s₁ => wpAny M A (storeName env x v) (fun _ => QF .next) E s₁) E s)
    (hs : swapsWith value (some (.Name x pos')) pos.line env = pure false) : wpC M A (exec (.Assign [.Name x pos'] value pos) env) QF E s := by
  rw [exec_Assign_Name env x pos' value pos hs]
  exact wpC_at (wpC_bind (wpC_mono h (fun v s₁ q => wpC_at (wpC_then (wpAny_bindName (wpAny_mono q (fun _ _ q => wpC_pure q) fun _ _ q => q)))) fun _ _ q => q))
theorem C_If {test body orelse pos} (h : wpC M A (isTrue test env (eval test env)) (fun b s₂ => if b then wpC M A (execs body env) QF E s₂ else wpC M A (execs orelse env) QF E s₂) E s) :
    wpC M A (exec (.If test body orelse pos) env) QF E s := by
  rw [exec_If]
  refine wpC_at (wpC_bind (wpC_mono h (fun b s₁ q => ?_) fun _ _ q => q))
  cases b <;> exact q
theorem C_While {test body orelse pos} (h : codeC M A (.whileLoop test body orelse env) (fun r s' => match r with | .ok f => QF f s' | .error e => cameBackBy M A env E e s') s) : wpC M A (exec (.While test body orelse pos) env) QF E s := by
  rw [exec_While]; exact wpC_at (wpC_runOwn h rfl)
theorem C_For {target iter body orelse pos} (h : wpC M A (eval iter env) (fun x s₁ => wpAny M A (pyIter x) (fun it s₂ => codeC M A (.forLoop target it body orelse env) (fun r s' => match r with | .ok f => QF f s' | .error e => cameBackBy M A env E e s') s₂) E s₁) E s)
    (hs : ∀ x, foldedSetIterable iter env x = pure x) : wpC M A (exec (.For target iter body orelse pos) env) QF E s := by
  rw [exec_For]
  exact wpC_at (wpC_bind (wpC_mono h (fun x s₁ q => wpC_eq (hs x) (wpC_at (wpC_then (wpAny_holding (wpAny_mono q (fun it s₂ q => wpC_runOwn q rfl) fun _ _ q => q))))) fun _ _ q => q))
theorem C_Assign_Tuple {elts k tpos value pos} (h : wpC M A (eval value env) (fun v s₁ => wpAny M A (assign (.Tuple elts k tpos) env v) (fun _ => QF .next) E s₁) E s)
    (hs : swapsWithSole [.Tuple elts k tpos] value pos.line env = pure false) (hw : swappedStores [.Tuple elts k tpos] value env = pure none) : wpC M A (exec (.Assign [.Tuple elts k tpos] value pos) env) QF E s := by
  rw [exec_Assign]
  refine wpC_at (wpC_eq hs ?_)
  rw [if_neg (by decide)]
  refine wpC_bind (wpC_mono h (fun v s₁ q => wpC_eq hw ?_) fun _ _ q => q)
  show wpC M A (assignAll v [assign (.Tuple elts k tpos) env] >>= fun _ => pure .next) QF E s₁
  exact wpC_then (wpAny_mono q (fun _ _ q => wpC_pure q) fun _ _ q => q)
theorem C_Assign_swapped {elts k tpos value pos} {names : List Str} (h : wpC M A (eval value env) (fun v s₁ => wpAny M A (unpackItems v names.length none) (fun items s₂ => wpAny M A (assignInOrder (names.reverse.map fun n => bindName env n) items.reverse) (fun _ => QF .next) E s₂) E s₁) E s)
    (hs : swapsWithSole [.Tuple elts k tpos] value pos.line env = pure false) (hw : swappedStores [.Tuple elts k tpos] value env = pure (some names)) : wpC M A (exec (.Assign [.Tuple elts k tpos] value pos) env) QF E s := by
  rw [exec_Assign]
  refine wpC_at (wpC_eq hs ?_)
  rw [if_neg (by decide)]
  refine wpC_bind (wpC_mono h (fun v s₁ q => wpC_eq hw ?_) fun _ _ q => q)
  show wpC M A (rule "assign.swapped-stores" >>= fun _ => unpackItems v names.length none >>= fun items => assignInOrder (names.reverse.map fun n => bindName env n) items.reverse >>= fun _ => pure .next) QF E s₁
  exact wpC_then (wpAny_rule (wpC_then (wpAny_mono q (fun items s₂ q => wpC_then (wpAny_mono q (fun _ _ q => wpC_pure q) fun _ _ q => q)) fun _ _ q => q)))
theorem C_Assign_Subscript {o i pos' value pos} (h : wpC M A (eval value env) (fun v s₁ => wpC M A (eval o env) (fun ov s₂ => wpC M A (eval i env) (fun iv s₃ => wpAny M A (setItem ov iv v) (fun _ => QF .next) E s₃) E s₂) E s₁) E s)
    (hs : swapsWith value (some (.Subscript o i pos')) pos.line env = pure false) : wpC M A (exec (.Assign [.Subscript o i pos'] value pos) env) QF E s := by
  rw [exec_Assign_Subscript o i pos' value pos hs]
  refine wpC_at (wpC_bind (wpC_mono h (fun v s₁ q => ?_) fun _ _ q => q))
  rw [assign_Subscript]
  refine wpC_bind (wpC_bind (wpC_holding (wpC_mono q (fun ov s₂ q => wpC_bind (wpC_holding (wpC_mono q (fun iv s₃ q => wpC_at (wpC_then (wpAny_holding (wpAny_mono q (fun _ s₄ q => ?_) fun _ _ q => q)))) fun _ _ q => q))) fun _ _ q => q)))
  intro Γ p i k
  rw [Sem.wp_release]
  exact wpC_pure q
theorem C_spliced_cons {x : Sem Value} {rest : List (Bool × Sem Value)} {QL : List Value → Shared → Prop} (h : wpC M A x (fun v s₁ => wpC M A (spliced rest) (fun vs s₂ => QL (v :: vs) s₂) E s₁) E s) : wpC M A (spliced ((false, x) :: rest)) QL E s := by
  rw [spliced]
  refine wpC_bind (wpC_mono h (fun v s₁ q => ?_) fun _ _ q => q)
  simp only [Bool.false_eq_true, if_false]
  exact wpC_eq rfl (wpC_bind (wpC_holding (wpC_mono q (fun vs s₂ q => wpC_pure q) fun _ _ q => q)))
theorem C_evalArgs {f : Value} {x : Sem Value} {rest : List (Bool × Sem Value)} {QA : Args → Shared → Prop} (h : wpC M A (spliced ((false, x) :: rest)) (fun vs s' => QA ⟨vs, []⟩ s') E s) : wpC M A (evalArgs f true ((false, x) :: rest) []) QA E s := by
  unfold evalArgs
  show wpC M A (spliced ((false, x) :: rest) >>= _) QA E s
  exact wpC_bind (wpC_mono h (fun vs s' q => wpC_holding (wpC_eq rfl (wpC_eq rfl (wpC_pure q)))) fun _ _ q => q)
/-- a call: the arguments, then the callee -/
theorem C_callWith {pos : Pos} {f : Value} {first : List Value} {args : List (Bool × Sem Value)} (hplain : args.any (·.1) = false)
    (h : wpC M A (evalArgs f true args []) (fun a s₁ => (∃ k, (k = Keeper.frame ∨ k = Keeper.machine ∨ k = Keeper.boundFrame) ∧ Looks M s₁.heap (keeperOf f) k) ∧ a.kw = [] ∧ wpC M A (call f (first ++ a.pos)) Q E s₁) E s) :
    wpC M A (callWith pos f first args []) Q E s := by
  unfold callWith
  refine wpC_bind (wpC_holding (wpC_mono h (fun a s₁ q => wpC_at ?_) fun _ _ q => q))
  obtain ⟨⟨k, hk, L⟩, hw, q⟩ := q
  simp only [hplain, List.any_nil, Bool.or_false, hw]
  refine wpC_then (L.here ?_)
  have tail : ∀ {t : Sem Value}, wpC M A t Q E s₁ → wpC M A (t >>= fun r => holding [r] point >>= fun _ => pure r) Q E s₁ :=
    fun ht => wpC_bind (wpC_mono ht (fun r s₂ hr => wpC_then (wpAny_holding (wpAny_point (wpC_pure hr)))) fun _ _ q => q)
  have marked (mk : Value) : wpC M A (callMarked mk f (first ++ a.pos) []) Q E s₁ := by unfold callMarked; exact wpC_keep q
  rcases hk with rfl | rfl | rfl <;> dsimp only <;> first | exact tail q | (split <;> first | exact tail q | exact tail (marked _))
theorem C_Call_Name {id : Str} {p pos : Pos} {args : List Expr} (h : wpC M A (eval (.Name id p) env) (fun f s₁ => wpC M A (callWith pos f [] (backTo pos (starEach args env)) []) Q E s₁) E s) :
    wpC M A (eval (.Call (.Name id p) args [] pos) env) Q E s := by
  show wpC M A (do callWith pos (← eval (.Name id p) env) [] (backTo pos (starEach args env)) (backToKw pos (keywordEach [] env))) Q E s
  exact wpC_bind h
theorem C_Subscript {value slice pos} (h : wpC M A (eval value env) (fun o s₁ => wpC M A (eval slice env) (fun i s₂ => wpC M A (subscriptTail value slice o i) Q E s₂) E s₁) E s) : wpC M A (eval (.Subscript value slice pos) env) Q E s := by
  rw [eval_Subscript]
  exact wpC_bind (wpC_mono h (fun o s₁ q => wpC_bind (wpC_holding (wpC_mono q (fun i s₂ q => wpC_at q) fun _ _ q => q))) fun _ _ q => q)
end

section
variable {prog : Program} {w : World} {A : Around} {E : Value → Shared → Prop} {s : Shared} {env : Env} {Q : Value → Shared → Prop} {QF : Flow → Shared → Prop} {QB : Bool → Shared → Prop} {R : Result → Shared → Prop}
theorem C_Tuple {elts : List Expr} {x1} {pos : Pos}
    (h : wpC (model prog w) A (spliced (backTo pos (starEach elts env))) (fun vs s₁ => vs.length ≤ sizeLine ∧ Q (.ref s₁.heap.objs.size) { s₁ with heap := s₁.heap.push { cls := .type "tuple", data := .seq vs.toArray } }) E s) :
    wpC (model prog w) A (eval (.Tuple elts x1 pos) env) Q E s := by
  rw [arm_eval_Tuple]
  exact wpC_at (wpC_bind (wpC_mono h (fun vs s₁ q => wpC_of (wpAny_newTuple q.2 q.1)) fun _ _ q => q))
theorem C_List {elts : List Expr} {pos : Pos}
    (h : wpC (model prog w) A (spliced (backTo pos (starEach elts env))) (fun vs s₁ => vs.length ≤ sizeLine ∧ Q (.ref s₁.heap.objs.size) { s₁ with heap := s₁.heap.push { cls := .type "list", data := .seq vs.toArray } }) E s) :
    wpC (model prog w) A (eval (.List elts pos) env) Q E s := by
  rw [arm_eval_List]
  exact wpC_at (wpC_bind (wpC_mono h (fun vs s₁ q => wpC_of (wpAny_newList q.2 q.1)) fun _ _ q => q))
theorem C_Expr {e pos} (h : wpC (model prog w) A (eval e env) (fun _ => QF .next) E s) (hi : interactive env = false) (hs : swapsWith e none pos.line env = pure false) : wpC (model prog w) A (exec (.Expr e pos) env) QF E s := by
  rw [exec_Expr env e pos hi hs]
  exact wpC_at (wpC_bind (wpC_mono h (fun v s' q => wpC_of (wpAny_dropValue q)) fun _ _ q => q))

theorem C_block {stmts : List Stmt} (h : wpC (model prog w) A (execs stmts env) (fun f s' => R (.ok f) s') (notedBy (model prog w) A env fun e s' => R (.error e) s') s) : codeC (model prog w) A (.block stmts env) R s := by
  refine codeC_tree ?_
  show wpC _ _ (do return Fin.done (← (execs stmts env).onRaise (fun x => do noteFrame x env; theTreesLotGoes x))) _ _ s
  exact wpC_bind (wpC_noted (wpC_mono h (fun f s' q => wpC_pure q) fun _ _ q => q))

theorem C_whileLoop {test body orelse} (I : Nat → Shared → Prop)
    (turn : ∀ n s, I n s → wpC (model prog w) A (isTrue test env (eval test env)) (fun b s₂ =>
        if b then wpC (model prog w) A (execs body env) (fun f s₃ => match f with
            | .next | .cont => ∃ m, m < n ∧ I m s₃
            | .brk => R (.ok .next) s₃
            | .ret v => R (.ok (.ret v)) s₃) (notedBy (model prog w) A env fun e s' => R (.error e) s') s₂
        else wpC (model prog w) A (execs orelse env) (fun f s₃ => R (.ok f) s₃) (notedBy (model prog w) A env fun e s' => R (.error e) s') s₂)
        (notedBy (model prog w) A env fun e s' => R (.error e) s') s)
    (n : Nat) (h : I n s) : codeC (model prog w) A (.whileLoop test body orelse env) R s := by
  refine codeC_loop rfl rfl I (fun n s hI => ?_) n h
  show wpC _ A ((whileTurn test body orelse env).onRaise (fun x => do noteFrame x env; theTreesLotGoes x)) _ _ s
  refine wpC_noted ?_
  simp only [whileTurn]
  refine wpC_bind (wpC_mono (turn n s hI) (fun b s₂ q => ?_) fun _ _ q => q)
  cases b with
  | false =>
    simp only [Bool.false_eq_true, if_false] at q ⊢
    exact wpC_bind (wpC_mono q (fun f s₃ q => wpC_pure q) fun _ _ q => q)
  | true =>
    simp only [if_true] at q ⊢
    refine wpC_bind (wpC_mono q (fun f s₃ q => ?_) fun _ _ q => q)
    cases f with
    | next => exact wpC_pure (.inl ⟨rfl, q⟩)
    | cont => exact wpC_pure (.inl ⟨rfl, q⟩)
    | brk => exact wpC_pure q
    | ret v => exact wpC_pure q

theorem C_forLoop {target it body orelse} (I : Nat → Shared → Prop)
    (turn : ∀ n s, I n s → wpAny (model prog w) A (pyNext it) (fun r s₁ => match r with
      | none => wpC (model prog w) A (execs orelse env) (fun f s₃ => R (.ok f) s₃) (notedBy (model prog w) A env fun e s' => R (.error e) s') s₁
      | some v => wpAny (model prog w) A (assign target env v) (fun _ s₂ => wpC (model prog w) A (execs body env) (fun f s₃ => match f with
          | .next | .cont => ∃ m, m < n ∧ I m s₃
          | .brk => R (.ok .next) s₃
          | .ret v => R (.ok (.ret v)) s₃) (notedBy (model prog w) A env fun e s' => R (.error e) s') s₂) (notedBy (model prog w) A env fun e s' => R (.error e) s') s₁) (notedBy (model prog w) A env fun e s' => R (.error e) s') s)
    (n : Nat) (h : I n s) (ht : ∀ v, letOwnedTupleGo target it v = pure () := by intro _; rfl) : codeC (model prog w) A (.forLoop target it body orelse env) R s := by
  refine codeC_loop rfl rfl I (fun n s hI => ?_) n h
  show wpC _ _ ((forTurn target it body orelse env).onRaise (fun x => do noteFrame x env; theTreesLotGoes x)) _ _ s
  refine wpC_noted ?_
  simp only [forTurn]
  refine wpC_at (wpC_then (wpAny_onRaise (wpAny_mono (turn n s hI) (fun r s₁ q => ?_) fun _ _ q => wpAny_standAt q)))
  cases r with
  | none => exact wpC_pure (.inr ⟨rfl, rfl, C_block q⟩)
  | some v =>
    refine wpC_eq (ht v) ?_
    refine wpC_then (wpAny_mono q (fun _ s₂ q => wpC_bind (wpC_mono q (fun f s₃ q => ?_) fun _ _ q => q)) fun _ _ q => q)
    cases f with
    | next => exact wpC_pure (.inl ⟨rfl, q⟩)
    | cont => exact wpC_pure (.inl ⟨rfl, q⟩)
    | brk => exact wpC_pure q
    | ret v => exact wpC_pure q

theorem C_compStart {elt target iter ifs rest scope pos it acc}
    (h0 : codeC (model prog w) A (.compLoop (.ListComp elt (⟨target, iter, ifs, 0⟩ :: rest) scope pos) 0 it acc env) R s)
    (h : wpAny (model prog w) A (pyIter it) (fun it' s' => codeC (model prog w) A (.compLoop (.ListComp elt (⟨target, iter, ifs, 0⟩ :: rest) scope pos) 0 it' acc env) R s') (notedBy (model prog w) A env fun x s' => R (.error x) s') s) :
    codeC (model prog w) A (.compStart (.ListComp elt (⟨target, iter, ifs, 0⟩ :: rest) scope pos) 0 it acc env) R s := by
  refine codeC_tree ?_
  show wpC _ _ ((compStart (.ListComp elt (⟨target, iter, ifs, 0⟩ :: rest) scope pos) 0 it acc env).onRaise (fun x => do noteFrame x env; standAt theWindowsPlace)) _ _ s
  refine wpC_onRaise (wpC_mono (Q := fun fin s' => match fin with | .done f => R (.ok f) s' | .again c' => c'.quiet = true ∧ okc c' = true ∧ codeC (model prog w) A c' R s') (E := notedBy (model prog w) A env fun x s' => R (.error x) s') ?_ (fun _ _ q => q) fun _ _ q => wpAny_bind (wpAny_mono q (fun _ _ e => wpAny_standAt e) fun _ _ e => e))
  unfold compStart
  show wpC _ _ (ask >>= _) _ _ s
  refine wpC_then (wpAny_askSetting ?_)
  split
  · exact wpC_pure ⟨rfl, rfl, h0⟩
  · exact wpC_then (wpAny_rule (wpC_at (wpC_then (wpAny_mono h (fun it' s' q => wpC_pure ⟨rfl, rfl, q⟩) fun _ _ q => q))))

theorem C_func {body : List Stmt} (h : wpC (model prog w) (A.deeper env) (execs body env) (fun f s' => R (.ok (.ret (match f with | .ret v => v | _ => .none))) s')
      (fun e s' => wpAny (model prog w) (A.deeper env) (leaving env e) (fun _ s'' => R (.error e) s'') (fun e' s'' => R (.error e') s'') s') s) : codeC (model prog w) A (.func body env) R s := by
  refine codeC_tree ?_
  show wpC _ (A.deeper env) (do point; match ← (execs body env).onRaise (leaving env) with | .ret v => ret v | _ => ret .none) _ _ s
  refine wpC_then (wpAny_point (wpC_bind (fun Γ p i c => ?_)))
  rw [Sem.wp_onRaise]
  refine Sem.wp_mono _ Γ _ (fun f _ s' q => ?_) (fun e p' s' q => q Γ p' i) p s (h Γ p i c)
  cases f <;> exact wpC_pure q

theorem C_call_cells {a : Addr} {o : Obj} {fd : FuncData} {body : List Stmt} {vals : List Value} {binds : List (Str × Value)}
    (hroom : A.depth < recursionLimit) (ho : s.heap.get? a = some o) (hdata : o.data = .func fd) (hlim : s.heap.NoLimit) (hcd : s.heap.CodeRec fd.code fd.qualname)
    (hbody : fd.body = .stmts body) (hbind : bindArgs fd ⟨vals, []⟩ = pure binds) (hclo : fd.closure = [])
    (hkind : ∀ x ∈ binds, fd.scope.names.lookup x.1 = some .local ∨ (fd.scope.names.lookup x.1 = some .cell ∧ ((cellsFrom (s.heap.objs.size + 1) fd.scope.names []).lookup x.1).isSome = true))
    (h : ∀ s₁, InCallC s (callEnvC fd s.heap.objs.size a).locals (bindL (callEnvC fd s.heap.objs.size a).kindOf binds fun _ => none) (callEnvC fd s.heap.objs.size a).cells
        (bindC (callEnvC fd s.heap.objs.size a).kindOf binds fun _ => none) s₁ →
      wpC (model prog w) (A.deeper (callEnvC fd s.heap.objs.size a)) (execs body (callEnvC fd s.heap.objs.size a)) (fun f s' => R (.ok (.ret (match f with | .ret v => v | _ => .none))) s')
        (fun e s' => wpAny (model prog w) (A.deeper (callEnvC fd s.heap.objs.size a)) (leaving (callEnvC fd s.heap.objs.size a) e) (fun _ s'' => R (.error e) s'') (fun e' s'' => R (.error e') s'') s') s₁)
    (hco : fd.scope.isCoroutine = false) (hgen : fd.scope.isGenerator = false) (hk : fd.scope.kind = .function) :
    codeC (model prog w) A (.call (.ref a) ⟨vals, []⟩) R s := by
  refine codeC_tree ?_
  show wpC _ A.in1 (callAny (.ref a) ⟨vals, []⟩) _ _ s
  simp only [callAny]
  refine wpC_then (wpAny_load ho ?_)
  obtain ⟨c, oc, vs, tq, hc, hoc, hdc, hq⟩ := hcd
  simp only [hdata, callFunction, hco, hgen, hbody, hc]
  refine wpC_then (m := field (.ref c) 1) (wpAny_field hoc hdc hq (wpC_eq rfl ?_))
  refine wpC_eq hbind ?_
  rw [hclo]
  refine wpC_then (wpAny_newFunctionEnv_cells hk hkind fun env he s' x => ?_)
  rw [← hc] at he
  subst he
  exact wpC_then (wpAny_enterFrame (hlim.keeps x.toInCall.keep) hroom (wpC_pure ⟨rfl, rfl, C_func (h s' x)⟩))

/-- a comprehension that raises nothing -/
theorem C_comprehension {e : Expr} {scope : Scope} {pos : Pos} {newAcc first : Sem Value} {g : Comprehension} {gs : List Comprehension} {cl : List (Str × Addr)}
    (hcl : clausesOf e = g :: gs) (hs : ∀ x, foldedSetIterable g.iter env x = pure x) (hclos : closureFor scope env = pure cl)
    (hkind : scope.kind = .function) (hnames : ∀ x ∈ scope.names, x.2 = .local → scope.names.lookup x.1 = some .local)
    (h : wpC (model prog w) A first (fun x s₁ => wpAny (model prog w) A (pyIter x) (fun it s₂ => wpAny (model prog w) A newAcc (fun acc s₃ =>
      wpAny (model prog w) A (newFunctionEnv scope env.globals cl [] env.qual none .none (some env)) (fun cenv s₄ =>
        codeC (model prog w) A (.compStart e 0 it acc { cenv with scope := relabel scope env }) (fun r s' => match r with
          | .ok _ => ∃ m, s'.heap.Ns cenv.locals m ∧ ∀ h', Heap.SameBut cenv.locals s'.heap h' → Q acc { s' with heap := h' }
          | .error _ => False) s₄) E s₃) E s₂) E s₁) E s) :
    wpC (model prog w) A (comprehension e scope env pos newAcc false first none) Q E s := by
  unfold comprehension
  rw [hclos, hcl]
  refine wpC_bind (wpC_mono h (fun x s₁ q => wpC_at (wpC_eq (hs x) (wpC_then (wpAny_holding (wpAny_mono q (fun it s₂ q => ?_) fun _ _ q => q))))) fun _ _ q => q)
  refine wpC_then (wpAny_mono q (fun acc s₃ q => wpC_eq rfl (wpC_then (wpAny_mono q (fun cenv s₄ q => ?_) fun _ _ q => q))) fun _ _ q => q)
  dsimp only
  have hv : ∀ x ∈ (scope.names.filter fun x => (x.2 == .local || x.2 == .cell) && x.1 != (".0" : Str)).reverse, x.2 = .local →
      Env.kindOf { cenv with scope := relabel scope env } x.1 = some .local := fun x hx hl => lookup_relabel_local (hnames x (List.mem_filter.mp (List.mem_reverse.mp hx)).1 hl)
  refine wpC_holding (wpC_bind (wpC_attempt (wpC_holding (wpC_run (h := none) ?_ rfl (by intro x; cases x)))))
  have q' : codeC (model prog w) (A.mark none) (.compStart e 0 it acc { cenv with scope := relabel scope env }) (fun r s' => match r with
          | .ok _ => ∃ m, s'.heap.Ns cenv.locals m ∧ ∀ h', Heap.SameBut cenv.locals s'.heap h' → Q acc { s' with heap := h' }
          | .error _ => False) s₄ := by cases A; exact q
  intro Γ p a b c
  refine wpCode_mono (fun r s' hr => ?_) (q' Γ p a b c)
  cases r with
  | error x => exact hr.elim
  | ok f =>
    obtain ⟨m, hn, hr⟩ := hr
    exact wpC_then (wpAny_holding (wpAny_comp_letGo (cenv := { cenv with scope := relabel scope env }) hkind _ s' m hv hn fun h' m' _ hs' => wpC_pure (hr h' hs')))

/-- a built-in whose tree looks at the stack -/
theorem C_call_entry {T : String} {name : Str} {id : String} {b : Builtin} {self : Value} {rest : List Value} (h : Slot T name id) (hT : s.TypeIs self T) (hb : entryFor table id = some b)
    (hc : wpC (model prog w) A.in1 (b ⟨self :: rest, []⟩) (fun fin s' => ∃ v, fin = .done (.ret v) ∧ Q v s') E s) (ok : okc (.builtin id ⟨self :: rest, []⟩) = true) (ha : argsOk id ⟨self :: rest, []⟩) :
    wpC (model prog w) A (call (.builtin id) (self :: rest)) Q E s := by
  refine wpC_call (codeC_tree ?_)
  show wpC _ A.in1 (do checkBuiltinCall id ⟨self :: rest, []⟩; again (.builtin id ⟨self :: rest, []⟩)) _ _ s
  refine wpC_then (h.check _ _ _ _ _ _ _ _ hT ha (wpC_pure ⟨plainId_quiet h.plain _, ok, codeC_tree ?_⟩))
  rw [Around.under_plainId h.plain]
  show wpC _ _ (match entryFor table id with | some b => b ⟨self :: rest, []⟩ | none => unsupported ((withoutEnding? id "#data").getD id)) _ _ s
  rw [hb]
  refine wpC_mono hc (fun fin s' q => ?_) fun _ _ q => q
  obtain ⟨v, rfl, q⟩ := q
  exact q
end
end Mine

open PySem PySem.W PySem.Calls PyProof.Rows
set_option Elab.async false
set_option maxRecDepth 100000
namespace Mine

/-- the claim's own run stands alone: nothing lies below it -/
abbrev own : Ctx := ⟨.builtin "claim.caller" {}, none, none, [], none⟩
theorem own_cln : Cln own := ⟨by decide +kernel, fun _ m => (nomatch m)⟩

theorem wp_of_C {M : Model} {t : Sem Fin} {R : Result → Shared → Prop} {s : Shared}
    (h : wpC M callerA t (fun fin s' => ∃ f, fin = .done f ∧ R (.ok f) s') (fun e s' => R (.error e) s') s) :
    Sem.wp M own t (Sem.finPost M own R) (fun e _ s' => R (.error e) s') default s := by
  refine Sem.wp_mono M own t (fun fin p' s' h' => ?_) (fun _ _ _ h' => h') default s (h _ default caller_in own_cln)
  obtain ⟨f, rfl, hf⟩ := h'
  exact hf

theorem thread_C {prog : Program} {w : World} {t : Sem Fin} {s : Shared} {R : Result → Shared → Prop} (hreg : s.asleep)
    (h : wpC (model prog w) callerA t (fun fin s' => ∃ f, fin = .done f ∧ (R (.ok f) s' ∧ AllBare s'.gens)) (fun e s' => R (.error e) s' ∧ AllBare s'.gens) s) :
    ∃ n r s' s'', runN (denote table) prog w n s ⟨t, .builtin "claim.caller" {}, default, []⟩ = .halted (outcomeOf r) s' ∧
      schedN (denote table) prog w n (.single s ⟨t, .builtin "claim.caller" {}, default, []⟩) = .halted (outcomeOf r) s' ∧ s'.forget = s''.forget ∧ R r s'' := by
  have h' := wp_of_C (R := fun r s' => R r s' ∧ leftWithCleanup s'.gens = false)
    (wpC_mono h (fun fin s' ⟨f, e, a, b⟩ => ⟨f, e, a, leftWithCleanup_false_of_bare b⟩) fun e s' ⟨a, b⟩ => ⟨a, leftWithCleanup_false_of_bare b⟩)
  obtain ⟨n, r, s₁, s₂, hs, hn, hfo, hR⟩ := wp_halts_full (M := model prog w) (R := R) hreg h'
  exact ⟨n, r, s₂, s₁, hn, hs, hfo, hR⟩

theorem callFrom_C {c : ClaimW} {tree : List Value → Sem Fin} {w : World} {s : Shared} {free : Addr → Prop} {gens : Prop} {kept : Heap → Prop} (hz : s.asleep) (hgens : s.gens = #[])
    (spec : ∀ args, c.pre args = true → WData.layableAll args = true → ∀ ord : List DictEntry → List DictEntry, (∀ l, (ord l).Perm l) →
      ∃ vs s₁, layAllW c.records (classAt s.heap) w.params ord args s = some (vs, s₁) ∧
        wpC (model c.prog w) callerA (tree vs) (fun fin s' => ∃ f, fin = .done f ∧ ((c.Ends s args vs s₁ (.ok f) s' ∧ s'.os = s.os ∧ kept s'.heap) ∧ AllBare s'.gens))
          (fun e s' => (c.Ends s args vs s₁ (.error e) s' ∧ s'.os = s.os ∧ kept s'.heap) ∧ AllBare s'.gens) s₁) :
    c.CallFrom (fun vs => ⟨tree vs, .builtin "claim.caller" {}, default, []⟩) w free gens kept s := by
  intro args hpre hlay ord hord
  obtain ⟨vs, s₁, hlaid, hcode⟩ := spec args hpre hlay ord hord
  have hal := layAllW_rest _ _ _ hlaid
  obtain ⟨k, r, s', s'', hrun, hsched, hfo, hcase, hos, hkp⟩ := thread_C (R := fun r s' => c.Ends s args vs s₁ r s' ∧ s'.os = s.os ∧ kept s'.heap) (Shared.asleep_of_life hal.2.2.2 hz) hcode
  obtain ⟨eh, _, _, eo, _⟩ := Shared.forget_eq hfo
  have hcase := hcase.congr eh
  rw [← eh] at hkp
  rw [← eo] at hos
  have hlife : s'.heap.life = s.heap.life := (runN_life _ _ _ hrun).trans hal.2.2.2
  refine ⟨vs, s₁, hlaid, k, _, s', hsched, ?_, (fun _ i x hx => by rw [hgens] at hx; simp at hx), hkp, by rw [hlife], Shared.rest_eq hos⟩
  rcases hcase with ⟨v, rfl, d1, d2, d3, d4, d5⟩ | ⟨e, ob, cls, rfl, d1, d2, d3, d4, d5⟩
  · exact .inl ⟨v, rfl, d1, d2, d3, fun b o y _ => d4 b o y, d5⟩
  · exact .inr ⟨e, ob, cls, rfl, d1, d2, d3, d4, fun b o y _ => d5 b o y⟩

/-- what a walk must bring, in contexts that are clean -/
abbrev Walk (q : Program) (loose : List Str) (XP : (Str → Option Value) → Heap → Prop) (YP : World → Heap → Prop) (r : RowW) (d : DefRec) (kwd : List (Str × Expr)) : Prop :=
  ∀ (w : World) (s₀ s₁ : Shared) (mg mb : Str → Option Value), Ground q loose r.records XP w s₀ mg mb s₁.heap → YP w s₁.heap → ∀ (a : Addr) (o : Obj) (pm cd doc dV kV : Value), s₁.heap.get? a = some o →
    o.data = .func { docDef d.name d.params d.body d.scope pm cd doc with defaults := dV, kwdefaults := kV } → s₁.heap.CodeRec cd d.name → Dflts mg s₁.heap d.params kwd dV kV → mg d.name = some (.ref a) → s₁.gens = #[] →
    ∀ (args : List WData) (vals : List Value) (as : List Addr), r.claim.pre args = true → WData.layableAll args = true → ReadsAllW r.records (classAt s₀.heap) s₁.heap vals args as → WellAll w.params s₁.heap vals args → (∀ a ∈ as, (a == sysModules) = false) →
      wpC (model r.prog w) callerA (call (.ref a) vals) (fun v s' => GoodWG r.claim (classAt s₀.heap) (ExcName.means s₀.heap) args s₁ (.ok (.ret v)) s')
        (fun e s' => GoodWG r.claim (classAt s₀.heap) (ExcName.means s₀.heap) args s₁ (.error e) s') s₁

theorem PySem.W.holds_open {r : OpenRow} {q : Program} {loose : List Str} {Xt : Shared → Bool} {XP : (Str → Option Value) → Heap → Prop} {α : Type} {Yf : Shared → α} {Ya : World → α} {YP : World → Heap → Prop} {d : DefRec} {kwd : List (Str × Expr)} {N : Nat}
    (left : LeftO r.prog q loose Xt Yf Ya N) (hY : ∀ w s, Yf s = Ya w → YP w s.heap) (hYk : ∀ w h h', YP w h → (∀ b o, h.get? b = some o → h'.get? b = some o) → YP w h')
    (hX : ∀ s, Xt s = true → XP (s.heap.nsMap mainGlobals) s.heap) (hXk : ∀ mg h h', XP mg h → (∀ b o, h.get? b = some o → h'.get? b = some o) → XP mg h')
    (hdef : defOf q r.name = some (d, kwd)) (hp : r.prog.theDef r.name = some (d.params, d.body, d.scope)) (hk : kwWritten? d.params.kwonlyargs d.params.kw_defaults = some kwd) (hRf : ∀ s, Xt s = true → RecFacts r.records s.heap) (hwr : (!r.writes || r.records.isEmpty) = true)
    (k1 : r.wellSaid = true) (ok : (chainsOk q && opensWell r.prog && (frees r.toRowW && r.within.isEmpty)) = true) (hb : r.prog.bare) (hw : r.toRowW.promised)
    (walk : Walk q loose XP YP r.toRowW d kwd) : r.Holds := by
  obtain ⟨ok', frs⟩ := Bool.and_eq_true_iff.mp ok
  obtain ⟨hch, opens⟩ := Bool.and_eq_true_iff.mp ok'
  obtain ⟨frs, wi⟩ := Bool.and_eq_true_iff.mp frs
  obtain ⟨hsame, hu, ha, hap, hm⟩ := frees_parts frs
  have B := left.behind (XP := fun mg h => XP mg h ∧ RecFacts r.records h) (fun s hs => ⟨hX s hs, hRf s hs⟩) hch
  refine ⟨k1, hw, ⟨hb, opens, by show r.makers.map _ = []; rw [hm]; rfl⟩, hw.witness, fun w => ⟨(left.behind hX hch w).1, fun s' hs' => ?_⟩⟩
  obtain ⟨s₀, hf, hg0, s, hT, hz, hgens, hg, G00, y⟩ := (B w).2 s' hs'
  have RF := G00.X.2
  have G0 : Ground q loose [] XP w s (s.heap.nsMap mainGlobals) (s.heap.nsMap builtinsNs) s.heap := { G00 with X := G00.X.1 }
  have G : Ground q loose r.records XP w s _ _ s.heap := RF.ground G0
  have none_left : s.gens = #[] := Array.eq_empty_of_size_eq_zero (beq_iff_eq.mp hgens)
  refine ⟨s₀, hf, hg0, s, hT, fun n hn => ?_, RF.1, RF.2.1, callFrom_C (c := r.claim) hz none_left fun args hpre hlay ord hord => ?_⟩
  · obtain rfl : n = r.name := by split at hn <;> simp_all
    exact pinned_of_view hg G0 hdef hp hk
  obtain ⟨⟨vs, s₁⟩, hlaid⟩ := Option.isSome_iff_exists.mp (layAllW_isSome (P := w.params) (ord := ord) G.has args r.args s (pre_splitW hpre).1)
  have keeps := layAllW_keeps _ _ _ hlaid
  have hal := layAllW_rest _ _ _ hlaid
  obtain ⟨as, hrd, hin, hold⟩ := reads_layAllW hord _ _ _ hlaid hlay s₁.heap (fun _ _ e => e)
  have L : Laid r.records w s s₁ args vs as := ⟨⟨ord, hord, hlaid⟩, hrd, hin, hold, keeps, hal.1.trans none_left, hal.2.2.1⟩
  have G₁ := G.keeps hXk keeps
  obtain ⟨a, o, pm, cd, doc, dV, kV, h1, h2, h3, h4, h5⟩ := G₁.fn hdef
  have walked := walk w s s₁ _ _ G₁ (hYk _ _ _ (hY w s y) keeps) a o pm cd doc dV kV h2 h3 h4 h5 (defOf_name hdef ▸ h1) L.gens args vs as hpre hlay L.reads L.well (L.low G.low)
  have hi := ident_freeW hu ha hap
  have hwi : r.claim.within = [] := List.isEmpty_iff.mp wi
  refine ⟨vs, s₁, hlaid, wpC_then (wpAny_nsGet G₁.T.g ?_)⟩
  rw [h1]
  refine wpC_bind (wpC_mono walked (fun v s' g => wpC_pure ⟨_, rfl, ?_⟩) fun e s' g => ?_)
  · have z := g.laid (c := r.claim) hsame hwi hi L
    exact ⟨⟨z.1, z.2.1, fun q => ⟨namesKept_of hT hg _ keeps g.2.1.old, noTable hwr q⟩⟩, z.2.2⟩
  · have z := g.laid (c := r.claim) hsame hwi hi L
    exact ⟨⟨z.1, z.2.1, fun q => ⟨namesKept_of hT hg _ keeps g.2.1.old, noTable hwr q⟩⟩, z.2.2⟩
end Mine

open PySem PySem.W PySem.Calls PyProof.Rows
set_option Elab.async false
set_option maxRecDepth 100000
namespace Mine
/-- a premise that no one has: under it the head's constants are laid, nothing else is taken from there -/
class Nay : Prop where
  any : ∀ p : Prop, p
namespace Pre
theorem PySem.W.holds_open [Nay] {r : OpenRow} {q : Program} {loose : List Str} {Xt : Shared → Bool} {XP : (Str → Option Value) → Heap → Prop} {α : Type} {Yf : Shared → α} {Ya : World → α} {YP : World → Heap → Prop} {N : Nat}
    (_left : ∀ _ : World, (0 : Nat) = N - N) (_hY : ∀ w s, Yf s = Ya w → YP w s.heap) (_hYk : ∀ w h h', YP w h → (∀ b o, h.get? b = some o → h'.get? b = some o) → YP w h')
    (_hX : ∀ s, Xt s = true → XP (s.heap.nsMap mainGlobals) s.heap) (_hXk : ∀ mg h h', XP mg h → (∀ b o, h.get? b = some o → h'.get? b = some o) → XP mg h')
    (_hdef : (0 : Nat) = 0) (_hp : (0 : Nat) = 0) (_hk : (0 : Nat) = 0) (_hRf : ∀ s, Xt s = true → RecFacts r.records s.heap) (_hwr : (0 : Nat) = 0)
    (_k1 : True) (_ok : True) (_hb : r.prog.bare) (_hw : True)
    (_hc : True) : r.Holds := Nay.any _
end Pre
end Mine

open PySem PySem.W PyProof.Rows
set_option maxRecDepth 100000
set_option maxHeartbeats 8000000
namespace Mine.Pre
set_option Elab.async true in
theorem h1 [Nay] : PySem.Challenge.rw_or0044_01.row.Holds := by
  w_on; k_head
  case hw => trivial
  trivial
end Mine.Pre

open PySem PySem.W PySem.Calls PyProof.Rows
set_option Elab.async false
set_option maxRecDepth 100000
namespace Mine

/-- values as trees; obj n is the n-th mutable object, src the script -/
inductive V where
  | none | bool (b : Bool) | int (i : Int) | str (s : Str) | bytes (b : List UInt8) | tup (l : List V) | obj (n : Nat) | src | ty (T : String)

inductive MO where
  | list (l : List V) | barr (b : List UInt8)

abbrev Store := List MO
abbrev LEnv := List (String × V)

structure Wk where
  prog : Program
  w : World
  K : Frag
  base : Heap
  p : Program
  loose : List Str
  mg : Str → Option Value
  mb : Str → Option Value
  scr : Addr
  ns : List Int
  lf : Addr
  hK : K.In base
  hT : TopRead p loose mg mb base
  hsrc : ∃ vs, base.IsList scr vs.toArray ∧ IntsAre vs ns

structure Fm where
  env : Env
  l : List Env
  own : List Addr

abbrev frs (l : List Env) : List Addr := l.filterMap (·.frame)

mutual
def VR (scr : Addr) (β : List Addr) (h : Heap) : V → Value → Prop
  | .none, v => v = .none
  | .bool b, v => v = .bool b
  | .int i, v => ∃ t, v = .int i t
  | .str s, v => ∃ t, v = .str s t
  | .bytes l, v => ∃ t, v = .bytes l.toArray t
  | .tup ds, v => ∃ a xs, v = .ref a ∧ IsTup h a (List.toArray xs) ∧ VRs scr β h ds xs
  | .obj n, v => ∃ a, v = .ref a ∧ β[n]? = some a
  | .src, v => v = .ref scr
  | .ty T, v => v = .type T
def VRs (scr : Addr) (β : List Addr) (h : Heap) : List V → List Value → Prop
  | [], xs => xs = []
  | d :: ds, xs => ∃ x r, xs = x :: r ∧ VR scr β h d x ∧ VRs scr β h ds r
end

mutual
theorem VR.mono {scr : Addr} {β β' : List Addr} {h h' : Heap} (ht : ∀ a xs, IsTup h a xs → IsTup h' a xs) (hb : ∀ (n : Nat) a, β[n]? = some a → β'[n]? = some a) :
    ∀ d v, VR scr β h d v → VR scr β' h' d v
  | .none, _, x => by simpa only [VR] using x
  | .bool _, _, x => by simpa only [VR] using x
  | .int _, _, x => by simpa only [VR] using x
  | .str _, _, x => by simpa only [VR] using x
  | .bytes _, _, x => by simpa only [VR] using x
  | .tup ds, _, x => by
    simp only [VR] at x ⊢
    obtain ⟨a, xs, e, t, r⟩ := x
    exact ⟨a, xs, e, ht _ _ t, VRs.mono ht hb ds xs r⟩
  | .obj _, _, x => by
    simp only [VR] at x ⊢
    obtain ⟨a, e, r⟩ := x
    exact ⟨a, e, hb _ _ r⟩
  | .src, _, x => by simpa only [VR] using x
  | .ty _, _, x => by simpa only [VR] using x
theorem VRs.mono {scr : Addr} {β β' : List Addr} {h h' : Heap} (ht : ∀ a xs, IsTup h a xs → IsTup h' a xs) (hb : ∀ (n : Nat) a, β[n]? = some a → β'[n]? = some a) :
    ∀ ds vs, VRs scr β h ds vs → VRs scr β' h' ds vs
  | [], _, x => by simpa only [VRs] using x
  | d :: ds, _, x => by
    simp only [VRs] at x ⊢
    obtain ⟨y, r, e, q, z⟩ := x
    exact ⟨y, r, e, VR.mono ht hb d y q, VRs.mono ht hb ds r z⟩
end

theorem VRs.length {scr : Addr} {β : List Addr} {h : Heap} : ∀ {ds : List V} {vs : List Value}, VRs scr β h ds vs → ds.length = vs.length
  | [], _, x => by simp only [VRs] at x; subst x; rfl
  | d :: ds, _, x => by
    simp only [VRs] at x
    obtain ⟨y, r, rfl, _, z⟩ := x
    simp [VRs.length z]
theorem VRs.get {scr : Addr} {β : List Addr} {h : Heap} : ∀ {ds : List V} {vs : List Value}, VRs scr β h ds vs → ∀ (n : Nat) d, ds[n]? = some d → ∃ v, vs[n]? = some v ∧ VR scr β h d v
  | [], _, _, n, d, e => by simp at e
  | d :: ds, _, x, n, d', e => by
    simp only [VRs] at x
    obtain ⟨y, r, rfl, q, z⟩ := x
    cases n with
    | zero => simp only [List.getElem?_cons_zero, Option.some.injEq] at e ⊢; subst e; exact ⟨y, rfl, q⟩
    | succ n => simp only [List.getElem?_cons_succ] at e ⊢; exact VRs.get z n d' e
theorem VRs.append {scr : Addr} {β : List Addr} {h : Heap} : ∀ {ds es : List V} {vs ws : List Value}, VRs scr β h ds vs → VRs scr β h es ws → VRs scr β h (ds ++ es) (vs ++ ws)
  | [], _, _, _, x, y => by simp only [VRs] at x; subst x; exact y
  | d :: ds, _, _, _, x, y => by
    simp only [VRs, List.cons_append] at x ⊢
    obtain ⟨a, r, rfl, q, z⟩ := x
    exact ⟨a, r ++ _, rfl, q, VRs.append z y⟩
theorem VRs.one {scr : Addr} {β : List Addr} {h : Heap} {d : V} {v : Value} (x : VR scr β h d v) : VRs scr β h [d] [v] := by
  simp only [VRs]; exact ⟨v, [], rfl, x, rfl⟩
theorem VRs.nil {scr : Addr} {β : List Addr} {h : Heap} : VRs scr β h [] [] := by simp only [VRs]
theorem VRs.cons {scr : Addr} {β : List Addr} {h : Heap} {d : V} {v : Value} {ds vs} (x : VR scr β h d v) (y : VRs scr β h ds vs) : VRs scr β h (d :: ds) (v :: vs) := by
  simp only [VRs]; exact ⟨v, vs, rfl, x, y⟩
theorem VRs.uncons {scr : Addr} {β : List Addr} {h : Heap} {d : V} {ds vs} (x : VRs scr β h (d :: ds) vs) : ∃ v r, vs = v :: r ∧ VR scr β h d v ∧ VRs scr β h ds r := by
  simpa only [VRs] using x

/-- a plain list -/
def ListAt (h : Heap) (a : Addr) (xs : List Value) : Prop := ∃ o n, h.get? a = some o ∧ o.cls = .type "list" ∧ (o.dict = none ∧ o.slots = #[]) ∧ o.data = .seq xs.toArray n
theorem ListAt.plain {h : Heap} {a : Addr} {xs : List Value} (x : ListAt h a xs) : h.PlainList a xs.toArray := by
  obtain ⟨o, n, e, c, ⟨d, s⟩, q⟩ := x
  obtain ⟨c', d', q', s'⟩ := o
  simp only at c d s q
  subst c d s q
  exact ⟨n, e⟩
theorem ListAt.of_plain {h : Heap} {a : Addr} {xs : Array Value} (x : h.PlainList a xs) : ListAt h a xs.toList := by
  obtain ⟨n, e⟩ := x
  exact ⟨_, n, e, rfl, ⟨rfl, rfl⟩, by simp⟩
theorem ListAt.isList {h : Heap} {a : Addr} {xs : List Value} (x : ListAt h a xs) : h.IsList a xs.toArray := let ⟨o, n, e, c, _, d⟩ := x; ⟨o, e, c, n, d⟩
/-- a bytearray that nothing holds -/
def BarrAt (h : Heap) (a : Addr) (b : List UInt8) : Prop := ∃ o, h.get? a = some o ∧ o.cls = .type "bytearray" ∧ o.dict = none ∧ o.data = .bytearray b.toArray 0

def MR (scr : Addr) (β : List Addr) (h : Heap) : MO → Addr → Prop
  | .list ds, a => ∃ xs, ListAt h a xs ∧ VRs scr β h ds xs
  | .barr bs, a => BarrAt h a bs

/-- what may have happened between h and h' -/
structure Go (l : List Env) (own : List Addr) (β : List Addr) (h : Heap) (β' : List Addr) (h' : Heap) : Prop where
  pre : β <+: β'
  new : ∀ a ∈ β', a ∈ β ∨ h.get? a = none
  live : ∀ a, h'.get? a = none → h.get? a = none
  keep : ∀ a o, h.get? a = some o → a ∉ own → a ∉ β → a ∉ frs l → h'.get? a = some o
  slot : ∀ a o, h.get? a = some o → a ∉ own → a ∉ β → ∃ sl, h'.get? a = some { o with slots := sl }

theorem Go.refl (l : List Env) (own β : List Addr) (h : Heap) : Go l own β h β h :=
  ⟨List.prefix_rfl, fun _ m => .inl m, fun _ e => e, fun _ _ e _ _ _ => e, fun _ o e _ _ => ⟨o.slots, e⟩⟩

theorem Go.trans {l : List Env} {own β₁ β₂ β₃ : List Addr} {h₁ h₂ h₃ : Heap} (x : Go l own β₁ h₁ β₂ h₂) (y : Go l own β₂ h₂ β₃ h₃) : Go l own β₁ h₁ β₃ h₃ where
  pre := x.pre.trans y.pre
  new := fun a m => (y.new a m).elim (x.new a) fun e => .inr (x.live a e)
  live := fun a e => x.live a (y.live a e)
  keep := fun a o e n1 n2 n3 => y.keep a o (x.keep a o e n1 n2 n3) n1 (fun m => (x.new a m).elim n2 fun q => by rw [e] at q; cases q) n3
  slot := fun a o e n1 n2 => by
    obtain ⟨sl, e1⟩ := x.slot a o e n1 n2
    obtain ⟨sl', e2⟩ := y.slot a _ e1 n1 (fun m => (x.new a m).elim n2 fun q => by rw [e] at q; cases q)
    exact ⟨sl', e2⟩

theorem Go.more {l : List Env} {own own' β β' : List Addr} {h h' : Heap} (x : Go l own β h β' h') (hs : ∀ a ∈ own, a ∈ own') : Go l own' β h β' h' where
  pre := x.pre
  new := x.new
  live := x.live
  keep := fun a o e n1 n2 n3 => x.keep a o e (fun m => n1 (hs a m)) n2 n3
  slot := fun a o e n1 n2 => x.slot a o e (fun m => n1 (hs a m)) n2

/-- nothing but new objects -/
theorem Go.ext {l : List Env} {own β : List Addr} {h h' : Heap} (k : ∀ a o, h.get? a = some o → h'.get? a = some o) : Go l own β h β h' where
  pre := List.prefix_rfl
  new := fun _ m => .inl m
  live := fun a e => by
    cases q : h.get? a with
    | none => rfl
    | some o => rw [k a o q] at e; cases e
  keep := fun a o e _ _ _ => k a o e
  slot := fun a o e _ _ => ⟨o.slots, k a o e⟩

/-- one own object changed -/
theorem Go.own {l : List Env} {own β : List Addr} {h h' : Heap} {c : Addr} (hc : c ∈ own) (hs : Heap.SameBut c h h') (hl : ∃ o, h'.get? c = some o) : Go l own β h β h' where
  pre := List.prefix_rfl
  new := fun _ m => .inl m
  live := fun a e => by
    by_cases q : a = c
    · subst q; obtain ⟨o, ho⟩ := hl; rw [ho] at e; cases e
    · rw [← hs.2 a q]; exact e
  keep := fun a o e n1 _ _ => (hs.2 a fun q => n1 (q ▸ hc)).trans e
  slot := fun a o e n1 _ => ⟨o.slots, (hs.2 a fun q => n1 (q ▸ hc)).trans e⟩

/-- one mutable object changed -/
theorem Go.mut {l : List Env} {own β : List Addr} {h h' : Heap} {c : Addr} (hc : c ∈ β) (hs : Heap.SameBut c h h') (hl : ∃ o, h'.get? c = some o) : Go l own β h β h' where
  pre := List.prefix_rfl
  new := fun _ m => .inl m
  live := fun a e => by
    by_cases q : a = c
    · subst q; obtain ⟨o, ho⟩ := hl; rw [ho] at e; cases e
    · rw [← hs.2 a q]; exact e
  keep := fun a o e _ n2 _ => (hs.2 a fun q => n2 (q ▸ hc)).trans e
  slot := fun a o e _ n2 => ⟨o.slots, (hs.2 a fun q => n2 (q ▸ hc)).trans e⟩

/-- one mutable object more -/
theorem Go.grow {l : List Env} {own β : List Addr} {h h' : Heap} {a₀ : Addr} (k : ∀ a o, h.get? a = some o → h'.get? a = some o) (hn : h.get? a₀ = none) : Go l own β h (β ++ [a₀]) h' where
  pre := List.prefix_append _ _
  new := fun a m => (List.mem_append.mp m).imp_right fun q => by rw [List.mem_singleton.mp q]; exact hn
  live := (Go.ext (l := l) (own := own) (β := β) k).live
  keep := fun a o e _ _ _ => k a o e
  slot := fun a o e _ _ => ⟨o.slots, k a o e⟩

structure Wd (W : Wk) (l : List Env) (σ : Store) (β : List Addr) (h : Heap) : Prop where
  base : W.base.StaysIn h
  fr : ∀ env ∈ l, env.scope.kind ≠ .module ∧ ∃ L o es n, env.frame = some L ∧ W.base.get? L = none ∧ h.get? L = some o ∧ o.data = .dict es n
  len : σ.length = β.length
  sto : ∀ (n : Nat) m a, σ[n]? = some m → β[n]? = some a → MR W.scr β h m a
  nd : β.Nodup
  new : ∀ a ∈ β, W.base.get? a = none

theorem MR.noTup {scr : Addr} {β : List Addr} {h : Heap} {m : MO} {a : Addr} (x : MR scr β h m a) {xs : Array Value} (t : IsTup h a xs) : False := by
  obtain ⟨o, ho, hc, _⟩ := t
  cases m with
  | list ds =>
    obtain ⟨_, ⟨o', n, e, c, _⟩, _⟩ := x
    rw [ho] at e; cases e; rw [hc] at c; exact absurd c (by decide)
  | barr b =>
    obtain ⟨o', e, c, _⟩ := x
    rw [ho] at e; cases e; rw [hc] at c; exact absurd c (by decide)
theorem Wd.mr {W : Wk} {l : List Env} {σ : Store} {β : List Addr} {h : Heap} (x : Wd W l σ β h) {a : Addr} (m : a ∈ β) : ∃ (n : Nat) (mo : MO), σ[n]? = some mo ∧ β[n]? = some a ∧ MR W.scr β h mo a := by
  obtain ⟨n, hn, e⟩ := List.getElem_of_mem m
  have hn' : n < σ.length := by rw [x.len]; exact hn
  have e1 : σ[n]? = some σ[n] := List.getElem?_eq_getElem hn'
  have e2 : β[n]? = some a := by rw [List.getElem?_eq_getElem hn, e]
  exact ⟨n, _, e1, e2, x.sto n _ a e1 e2⟩
theorem Wd.noTup {W : Wk} {l : List Env} {σ : Store} {β : List Addr} {h : Heap} (x : Wd W l σ β h) {a : Addr} {xs : Array Value} (t : IsTup h a xs) : a ∉ β := fun m =>
  let ⟨_, _, _, _, r⟩ := x.mr m; r.noTup t

/-- tuples stay -/
theorem Go.tup {W : Wk} {l : List Env} {own β β' : List Addr} {σ : Store} {h h' : Heap} (g : Go l own β h β' h') (x : Wd W l σ β h)
    (ho : ∀ a ∈ own, ∃ o, h.get? a = some o ∧ ((∃ es n, o.data = .dict es n) ∨ ∃ v, o.data = .cell v)) {a : Addr} {xs : Array Value} (t : IsTup h a xs) : IsTup h' a xs := by
  have n1 : a ∉ own := fun m => by
    obtain ⟨o, e, q⟩ := ho a m
    obtain ⟨o', e', _, n, q'⟩ := t
    rw [e] at e'; cases e'
    rcases q with ⟨es, n, q⟩ | ⟨v, q⟩ <;> rw [q'] at q <;> cases q
  obtain ⟨o, e, c, n, d⟩ := t
  obtain ⟨sl, e'⟩ := g.slot a o e n1 (x.noTup ⟨o, e, c, n, d⟩)
  exact ⟨_, e', c, n, d⟩
theorem Go.at {l : List Env} {own β β' : List Addr} {h h' : Heap} (g : Go l own β h β' h') (n : Nat) (a : Addr) (e : β[n]? = some a) : β'[n]? = some a := by
  obtain ⟨t, rfl⟩ := g.pre
  rw [List.getElem?_append_left (List.getElem?_eq_some_iff.mp e).1]; exact e
theorem Go.vr {W : Wk} {l : List Env} {β β' : List Addr} {σ : Store} {h h' : Heap} (g : Go l [] β h β' h') (x : Wd W l σ β h) {d : V} {v : Value} (r : VR W.scr β h d v) : VR W.scr β' h' d v :=
  VR.mono (fun _ _ t => g.tup x (fun _ m => nomatch m) t) g.at d v r
theorem Go.vrs {W : Wk} {l : List Env} {β β' : List Addr} {σ : Store} {h h' : Heap} (g : Go l [] β h β' h') (x : Wd W l σ β h) {d : List V} {v : List Value} (r : VRs W.scr β h d v) : VRs W.scr β' h' d v :=
  VRs.mono (fun _ _ t => g.tup x (fun _ m => nomatch m) t) g.at d v r

theorem Wd.fun {W : Wk} {l : List Env} {σ : Store} {β : List Addr} {h : Heap} (x : Wd W l σ β h) : h.FunFrames W.base l := by
  have := x.fr
  clear x
  induction l with
  | nil => trivial
  | cons env r ih =>
    obtain ⟨k, L, o, es, n, e1, e2, e3, e4⟩ := this env (.head _)
    exact ⟨k, ⟨L, o, e1, e2, e3, fun vs q => by rw [e4] at q; cases q⟩, ih fun e m => this e (.tail _ m)⟩

/-- new objects alone -/
theorem Wd.ext {W : Wk} {l : List Env} {σ : Store} {β : List Addr} {h h' : Heap} (x : Wd W l σ β h) (k : ∀ a o, h.get? a = some o → h'.get? a = some o) : Wd W l σ β h' where
  base := fun a o e => k a o (x.base a o e)
  fr := fun env m => let ⟨q, L, o, es, n, e1, e2, e3, e4⟩ := x.fr env m; ⟨q, L, o, es, n, e1, e2, k _ _ e3, e4⟩
  len := x.len
  sto := fun n m a e1 e2 => by
    have r := x.sto n m a e1 e2
    cases m with
    | list ds =>
      obtain ⟨xs, ⟨o, n, e, c, dd, q⟩, z⟩ := r
      exact ⟨xs, ⟨o, n, k _ _ e, c, dd, q⟩, VRs.mono (fun _ _ t => t.keeps k) (fun _ _ e => e) _ _ z⟩
    | barr b =>
      obtain ⟨o, e, r⟩ := r
      exact ⟨o, k _ _ e, r⟩
  nd := x.nd
  new := x.new

/-- one more mutable object -/
theorem Wd.grow {W : Wk} {l : List Env} {σ : Store} {β : List Addr} {h h' : Heap} {a₀ : Addr} {m₀ : MO} (x : Wd W l σ β h) (k : ∀ a o, h.get? a = some o → h'.get? a = some o) (hn : h.get? a₀ = none)
    (hm : MR W.scr (β ++ [a₀]) h' m₀ a₀) : Wd W l (σ ++ [m₀]) (β ++ [a₀]) h' where
  base := fun a o e => k a o (x.base a o e)
  fr := (x.ext k).fr
  len := by simp [x.len]
  sto := fun n m a e1 e2 => by
    by_cases q : n < σ.length
    · rw [List.getElem?_append_left q] at e1
      rw [List.getElem?_append_left (by rw [← x.len]; exact q)] at e2
      have r := (x.ext k).sto n m a e1 e2
      cases m with
      | list ds =>
        obtain ⟨xs, y, z⟩ := r
        exact ⟨xs, y, VRs.mono (fun _ _ t => t) (fun n' a' e => by rw [List.getElem?_append_left (List.getElem?_eq_some_iff.mp e).1]; exact e) _ _ z⟩
      | barr b => exact r
    · have hl : n = σ.length := by
        have := (List.getElem?_eq_some_iff.mp e1).1
        simp at this; omega
      subst hl
      rw [List.getElem?_append_right (Nat.le_refl _)] at e1
      rw [x.len, List.getElem?_append_right (Nat.le_refl _)] at e2
      simp at e1 e2
      subst e1 e2
      exact hm
  nd := by
    refine List.nodup_append.mpr ⟨x.nd, by simp, fun a ha b hb => ?_⟩
    simp at hb; subst hb
    intro q; subst q
    obtain ⟨_, mo, _, _, r⟩ := x.mr ha
    cases mo with
    | list ds => obtain ⟨_, ⟨o, _, e, _⟩, _⟩ := r; rw [hn] at e; cases e
    | barr b => obtain ⟨o, e, _⟩ := r; rw [hn] at e; cases e
  new := fun a m => by
    rcases List.mem_append.mp m with q | q
    · exact x.new a q
    · rw [List.mem_singleton.mp q]
      cases z : W.base.get? a₀ with
      | none => rfl
      | some o => rw [x.base _ _ z] at hn; cases hn

/-- one mutable object changed -/
theorem Wd.mut {W : Wk} {l : List Env} {σ : Store} {β : List Addr} {h h' : Heap} {c : Addr} {j : Nat} {m₀ : MO} (x : Wd W l σ β h) (hj : β[j]? = some c) (hs : Heap.SameBut c h h')
    (hm : MR W.scr β h' m₀ c) : Wd W l (σ.set j m₀) β h' where
  base := fun a o e => by
    have : a ≠ c := fun q => by
      have := x.new c (List.mem_of_getElem? hj)
      rw [← q, e] at this; cases this
    exact (hs.2 a this).trans (x.base a o e)
  fr := fun env m => by
    obtain ⟨q, L, o, es, n, e1, e2, e3, e4⟩ := x.fr env m
    refine ⟨q, L, o, es, n, e1, e2, (hs.2 L fun z => ?_).trans e3, e4⟩
    obtain ⟨_, mo, _, _, r⟩ := x.mr (List.mem_of_getElem? hj)
    rw [← z] at r
    cases mo with
    | list ds => obtain ⟨_, ⟨o', _, e, _, _, d⟩, _⟩ := r; rw [e3] at e; cases e; rw [e4] at d; cases d
    | barr b => obtain ⟨o', e, _, _, d⟩ := r; rw [e3] at e; cases e; rw [e4] at d; cases d
  len := by simp [x.len]
  sto := fun n m a e1 e2 => by
    have tt : ∀ a xs, IsTup h a xs → IsTup h' a xs := fun a xs t => by
      obtain ⟨o, e, r⟩ := t
      exact ⟨o, (hs.2 a fun z => x.noTup ⟨o, e, r⟩ (z ▸ List.mem_of_getElem? hj)).trans e, r⟩
    by_cases q : n = j
    · subst q
      rw [hj] at e2; cases e2
      rw [List.getElem?_set_self (by have := (List.getElem?_eq_some_iff.mp hj).1; rw [x.len]; exact this)] at e1
      cases e1
      exact hm
    · rw [List.getElem?_set_ne (Ne.symm q)] at e1
      have r := x.sto n m a e1 e2
      have na : a ≠ c := fun z => by
        subst z
        have h1 := List.getElem?_eq_some_iff.mp hj
        have h2 := List.getElem?_eq_some_iff.mp e2
        exact q ((List.getElem_inj x.nd).mp (h2.2.trans h1.2.symm))
      cases m with
      | list ds =>
        obtain ⟨xs, ⟨o, n, e, rr⟩, z⟩ := r
        exact ⟨xs, ⟨o, n, (hs.2 a na).trans e, rr⟩, VRs.mono tt (fun _ _ e => e) _ _ z⟩
      | barr b =>
        obtain ⟨o, e, rr⟩ := r
        exact ⟨o, (hs.2 a na).trans e, rr⟩
  nd := x.nd
  new := x.new

end Mine

open PySem PySem.W PySem.Calls PyProof.Rows
set_option Elab.async false
set_option maxRecDepth 100000
namespace Mine

/-- room: k levels of calls, no exception is being handled -/
structure AOK (k : Nat) (A : Around) (l : List Env) : Prop where
  fr : A.frames = some l
  hd : A.handled = none
  dp : A.depth + 2 * k ≤ 990
  un : A.units + 20 * k ≤ 9800
  gd : A.guards = some []
theorem AOK.le {k j : Nat} {A : Around} {l : List Env} (x : AOK k A l) (h : j ≤ k) : AOK j A l := ⟨x.fr, x.hd, by have := x.dp; omega, by have := x.un; omega, x.gd⟩
theorem AOK.rl {k : Nat} {A : Around} {l : List Env} (x : AOK k A l) : A.depth < recursionLimit := by have := x.dp; show A.depth < 1000; omega
theorem AOK.cl {k : Nat} {A : Around} {l : List Env} (x : AOK k A l) : A.units < cLine := by have := x.un; show A.units < 9900; omega

structure EnvOK (F : Fm) : Prop where
  glob : F.env.globals = mainGlobals
  blt : F.env.builtins = builtinsNs
  kind : F.env.scope.kind = .function
  fr : ∃ f0 rest, F.l = f0 :: rest ∧ F.env.frame = f0.frame
  ownL : F.env.locals ∈ F.own
  ne : F.env.locals ≠ F.env.globals

structure Loc (W : Wk) (F : Fm) (ρ : LEnv) (β : List Addr) (h : Heap) : Prop where
  ns : ∃ m, h.Ns F.env.locals m ∧ ∀ x d, ρ.lookup x = some d → F.env.kindOf (Str.ofString x) = some .local → ∃ v, m (Str.ofString x) = some v ∧ VR W.scr β h d v
  cells : ∀ x c, F.env.cells.lookup x = some c → ∃ v0, h.IsCell c v0
  has : ∀ x, F.env.kindOf (Str.ofString x) = some .cell → ∃ c, F.env.cells.lookup (Str.ofString x) = some c
  cell : ∀ x d, F.env.kindOf (Str.ofString x) = some .cell → ρ.lookup x = some d → ∃ c v, F.env.cells.lookup (Str.ofString x) = some c ∧ h.IsCell c (some v) ∧ VR W.scr β h d v
  one : ∀ x y c, F.env.cells.lookup x = some c → F.env.cells.lookup y = some c → x = y
  ownk : ∀ a ∈ F.own, W.base.get? a = none ∧ ∃ o, h.get? a = some o ∧ ((∃ es n, o.data = .dict es n) ∨ ∃ v, o.data = .cell v)

structure St (W : Wk) (F : Fm) (ρ : LEnv) (σ : Store) (β : List Addr) (h : Heap) : Prop where
  env : EnvOK F
  wd : Wd W F.l σ β h
  loc : Loc W F ρ β h

theorem St.tup {W : Wk} {F : Fm} {ρ : LEnv} {σ : Store} {β β' : List Addr} {h h' : Heap} (x : St W F ρ σ β h) (g : Go F.l F.own β h β' h') {a : Addr} {xs : Array Value} (t : IsTup h a xs) : IsTup h' a xs :=
  g.tup x.wd (fun a m => (x.loc.ownk a m).2) t
theorem St.vr {W : Wk} {F : Fm} {ρ : LEnv} {σ : Store} {β β' : List Addr} {h h' : Heap} (x : St W F ρ σ β h) (g : Go F.l F.own β h β' h') {d : V} {v : Value} (r : VR W.scr β h d v) : VR W.scr β' h' d v :=
  VR.mono (fun _ _ t => x.tup g t) g.at d v r
theorem St.vrs {W : Wk} {F : Fm} {ρ : LEnv} {σ : Store} {β β' : List Addr} {h h' : Heap} (x : St W F ρ σ β h) (g : Go F.l F.own β h β' h') {d : List V} {v : List Value} (r : VRs W.scr β h d v) : VRs W.scr β' h' d v :=
  VRs.mono (fun _ _ t => x.tup g t) g.at d v r

theorem Wd.noOwn {W : Wk} {F : Fm} {ρ : LEnv} {σ : Store} {β : List Addr} {h : Heap} (x : Wd W F.l σ β h) (y : Loc W F ρ β h) {a : Addr} (m : a ∈ F.own) : a ∉ β := fun q => by
  obtain ⟨_, mo, _, _, r⟩ := x.mr q
  obtain ⟨_, o, e, z⟩ := y.ownk a m
  cases mo with
  | list ds =>
    obtain ⟨_, ⟨o', _, e', _, _, d⟩, _⟩ := r
    rw [e] at e'; cases e'
    rcases z with ⟨_, _, z⟩ | ⟨_, z⟩ <;> rw [z] at d <;> cases d
  | barr b =>
    obtain ⟨o', e', _, _, d⟩ := r
    rw [e] at e'; cases e'
    rcases z with ⟨_, _, z⟩ | ⟨_, z⟩ <;> rw [z] at d <;> cases d

theorem Wd.noCell {W : Wk} {l : List Env} {σ : Store} {β : List Addr} {h : Heap} (x : Wd W l σ β h) {c : Addr} {v : Option Value} (y : h.IsCell c v) : c ∉ β := fun q => by
  obtain ⟨_, mo, _, _, r⟩ := x.mr q
  obtain ⟨o, e, z⟩ := y
  cases mo with
  | list ds =>
    obtain ⟨_, ⟨o', _, e', _, _, d⟩, _⟩ := r
    rw [e] at e'; cases e'; rw [z] at d; cases d
  | barr b =>
    obtain ⟨o', e', _, _, d⟩ := r
    rw [e] at e'; cases e'; rw [z] at d; cases d

theorem Go.isCell {W : Wk} {l : List Env} {σ : Store} {β β' : List Addr} {h h' : Heap} (g : Go l [] β h β' h') (x : Wd W l σ β h) {c : Addr} {v : Option Value} (y : h.IsCell c v) : h'.IsCell c v := by
  obtain ⟨o, e, d⟩ := y
  obtain ⟨sl, e'⟩ := g.slot _ o e (fun m => nomatch m) (x.noCell ⟨o, e, d⟩)
  exact ⟨_, e', d⟩

/-- the locals stay through what does not own them -/
theorem Loc.goX {W : Wk} {F : Fm} {ρ : LEnv} {σ : Store} {β β' : List Addr} {h h' : Heap} {own' : List Addr} (y : Loc W F ρ β h) (x : Wd W F.l σ β h) (en : EnvOK F)
    (hat : ∀ (n : Nat) a, β[n]? = some a → β'[n]? = some a) (hsl : ∀ a o, h.get? a = some o → a ∉ own' → a ∉ β → ∃ sl, h'.get? a = some { o with slots := sl })
    (hk : ∀ a ∈ own', ∃ o, h.get? a = some o ∧ ((∃ es n, o.data = .dict es n) ∨ ∃ v, o.data = .cell v))
    (hn : ∀ a ∈ own', a ∉ F.own ∧ ∀ x c, F.env.cells.lookup x = some c → c ≠ a) : Loc W F ρ β' h' := by
  have tt : ∀ a xs, IsTup h a xs → IsTup h' a xs := fun a xs t => by
    have n1 : a ∉ own' := fun m => by
      obtain ⟨o, e, q⟩ := hk a m
      obtain ⟨o', e', _, n, q'⟩ := t
      rw [e] at e'; cases e'
      rcases q with ⟨es, n, q⟩ | ⟨v, q⟩ <;> rw [q'] at q <;> cases q
    obtain ⟨o, e, c, n, d⟩ := t
    obtain ⟨sl, e'⟩ := hsl a o e n1 (x.noTup ⟨o, e, c, n, d⟩)
    exact ⟨_, e', c, n, d⟩
  have vv : ∀ d v, VR W.scr β h d v → VR W.scr β' h' d v := fun d v r => VR.mono tt hat d v r
  have cc : ∀ {c : Addr} {v : Option Value} {nm : Str}, F.env.cells.lookup nm = some c → h.IsCell c v → h'.IsCell c v := fun {c v nm} ec y' => by
    obtain ⟨o, e, d⟩ := y'
    obtain ⟨sl, e'⟩ := hsl c o e (fun m => (hn c m).2 nm c ec rfl) (x.noCell ⟨o, e, d⟩)
    exact ⟨_, e', d⟩
  exact {
    ns := by
      obtain ⟨m, ⟨o, es, ep, e, d, sk, f⟩, q⟩ := y.ns
      obtain ⟨sl, e'⟩ := hsl _ o e (fun m => (hn _ m).1 en.ownL) (x.noOwn y en.ownL)
      refine ⟨m, ⟨_, es, ep, e', d, sk, f⟩, fun x d' e1 e2 => ?_⟩
      obtain ⟨v, e3, e4⟩ := q x d' e1 e2
      exact ⟨v, e3, vv _ _ e4⟩
    cells := fun n c e => let ⟨v0, q⟩ := y.cells n c e; ⟨v0, cc e q⟩
    has := y.has
    cell := fun n d' k e2 => by
      obtain ⟨c, v, e, q, r⟩ := y.cell n d' k e2
      exact ⟨c, v, e, cc e q, vv _ _ r⟩
    one := y.one
    ownk := fun a m => by
      obtain ⟨q, o, e, z⟩ := y.ownk a m
      obtain ⟨sl, e'⟩ := hsl _ o e (fun m' => (hn _ m').1 m) (x.noOwn y m)
      exact ⟨q, _, e', z⟩ }
theorem Loc.go {W : Wk} {F : Fm} {ρ : LEnv} {σ : Store} {β β' : List Addr} {h h' : Heap} (y : Loc W F ρ β h) (x : Wd W F.l σ β h) (en : EnvOK F) (g : Go F.l [] β h β' h') : Loc W F ρ β' h' :=
  y.goX x en g.at g.slot (fun _ m => nomatch m) fun _ m => nomatch m

theorem St.lift {W : Wk} {F : Fm} {ρ : LEnv} {σ σ' : Store} {β β' : List Addr} {h h' : Heap} (x : St W F ρ σ β h) (g : Go F.l [] β h β' h') (y : Wd W F.l σ' β' h') : St W F ρ σ' β' h' :=
  ⟨x.env, y, x.loc.go x.wd x.env g⟩

/-- all but some records stay (frames up to their slots) -/
structure Nt (l : List Env) (ex : List Addr) (h h' : Heap) : Prop where
  keep : ∀ b o, h.get? b = some o → b ∉ ex → b ∉ frs l → h'.get? b = some o
  slot : ∀ b o, h.get? b = some o → b ∉ ex → ∃ sl, h'.get? b = some { o with slots := sl }
def Recs (W : Wk) (ex : List Addr) (h : Heap) : Prop := ∀ a ∈ ex, W.base.get? a = none ∧ ∃ o vs, h.get? a = some o ∧ o.data = .fields vs
theorem Nt.one {l : List Env} {I : Addr} {h h' : Heap} (k : ∀ b o, b ≠ I → h.get? b = some o → h'.get? b = some o) : Nt l [I] h h' :=
  ⟨fun b o e n _ => k b o (fun q => n (by simp [q])) e, fun b o e n => ⟨o.slots, k b o (fun q => n (by simp [q])) e⟩⟩
theorem Nt.tup {W : Wk} {l : List Env} {ex : List Addr} {h h' : Heap} (g : Nt l ex h h') (r : Recs W ex h) {a : Addr} {xs : Array Value} (t : IsTup h a xs) : IsTup h' a xs := by
  obtain ⟨o, e, c, n, d⟩ := t
  obtain ⟨sl, e'⟩ := g.slot a o e fun m => by
    obtain ⟨_, o', vs, e', d'⟩ := r a m
    rw [e] at e'; cases e'; rw [d] at d'; cases d'
  exact ⟨_, e', c, n, d⟩
theorem Nt.vr {W : Wk} {l : List Env} {ex : List Addr} {h h' : Heap} (g : Nt l ex h h') (r : Recs W ex h) {β : List Addr} {d : V} {v : Value} (x : VR W.scr β h d v) : VR W.scr β h' d v :=
  VR.mono (fun _ _ t => g.tup r t) (fun _ _ e => e) d v x
theorem Nt.vrs {W : Wk} {l : List Env} {ex : List Addr} {h h' : Heap} (g : Nt l ex h h') (r : Recs W ex h) {β : List Addr} {d : List V} {v : List Value} (x : VRs W.scr β h d v) : VRs W.scr β h' d v :=
  VRs.mono (fun _ _ t => g.tup r t) (fun _ _ e => e) d v x
theorem Nt.get {W : Wk} {l : List Env} {ex : List Addr} {h h' : Heap} (g : Nt l ex h h') (r : Recs W ex h) {a : Addr} {o : Obj} (e : h.get? a = some o) (hd : ∀ vs, o.data ≠ .fields vs) : ∃ sl, h'.get? a = some { o with slots := sl } :=
  g.slot a o e fun m => by
    obtain ⟨_, o', vs, e', d'⟩ := r a m
    rw [e] at e'; cases e'; exact hd vs d'
theorem Wd.nt {W : Wk} {l : List Env} {ex : List Addr} {σ : Store} {β : List Addr} {h h' : Heap} (x : Wd W l σ β h) (r : Recs W ex h) (g : Nt l ex h h') : Wd W l σ β h' where
  base := fun a o e => g.keep a o (x.base a o e) (fun m => by rw [(r a m).1] at e; cases e) fun m => by
    obtain ⟨env, he, hf⟩ := List.mem_filterMap.mp m
    obtain ⟨_, L, _, _, _, e1, e2, _⟩ := x.fr env he
    rw [e1] at hf; cases hf; rw [e2] at e; cases e
  fr := fun env m => by
    obtain ⟨q, L, o, es, n, e1, e2, e3, e4⟩ := x.fr env m
    obtain ⟨sl, e'⟩ := g.get r e3 fun vs z => by rw [e4] at z; cases z
    exact ⟨q, L, _, es, n, e1, e2, e', e4⟩
  len := x.len
  sto := fun n m a e1 e2 => by
    have y := x.sto n m a e1 e2
    cases m with
    | list ds =>
      obtain ⟨xs, ⟨o, n, e, c, dd, q⟩, z⟩ := y
      have e' := g.keep a o e (fun m => by
        obtain ⟨_, o', vs, e', d'⟩ := r a m
        rw [e] at e'; cases e'; rw [q] at d'; cases d') fun m => by
        obtain ⟨env, he, hf⟩ := List.mem_filterMap.mp m
        obtain ⟨_, L, o', es, n', e1, e2, e3, e4⟩ := x.fr env he
        rw [e1] at hf; cases hf; rw [e] at e3; cases e3; rw [q] at e4; cases e4
      exact ⟨xs, ⟨_, n, e', c, dd, q⟩, g.vrs r z⟩
    | barr b =>
      obtain ⟨o, e, c, dd, q⟩ := y
      obtain ⟨sl, e'⟩ := g.get r e fun vs z => by rw [q] at z; cases z
      exact ⟨_, e', c, dd, q⟩
  nd := x.nd
  new := x.new
theorem Nt.isCell {W : Wk} {l : List Env} {ex : List Addr} {h h' : Heap} (g : Nt l ex h h') (r : Recs W ex h) {c : Addr} {v : Option Value} (y : h.IsCell c v) : h'.IsCell c v := by
  obtain ⟨o, e, d⟩ := y
  obtain ⟨sl, e'⟩ := g.get r e fun vs z => by rw [d] at z; cases z
  exact ⟨_, e', d⟩
theorem St.nt {W : Wk} {F : Fm} {ρ : LEnv} {ex : List Addr} {σ : Store} {β : List Addr} {h h' : Heap} (x : St W F ρ σ β h) (r : Recs W ex h) (g : Nt F.l ex h h') : St W F ρ σ β h' :=
  ⟨x.env, x.wd.nt r g, {
    ns := by
      obtain ⟨m, ⟨o, es, ep, e, d, sk, f⟩, q⟩ := x.loc.ns
      obtain ⟨sl, e'⟩ := g.get r e fun vs z => by rw [d] at z; cases z
      refine ⟨m, ⟨_, es, ep, e', d, sk, f⟩, fun x d' e1 e2 => ?_⟩
      obtain ⟨v, e3, e4⟩ := q x d' e1 e2
      exact ⟨v, e3, g.vr r e4⟩
    cells := fun n c e => let ⟨v0, q⟩ := x.loc.cells n c e; ⟨v0, g.isCell r q⟩
    has := x.loc.has
    cell := fun n d' k e2 => by
      obtain ⟨c, v, e, q, z⟩ := x.loc.cell n d' k e2
      exact ⟨c, v, e, g.isCell r q, g.vr r z⟩
    one := x.loc.one
    ownk := fun a m => by
      obtain ⟨q, o, e, z⟩ := x.loc.ownk a m
      obtain ⟨sl, e'⟩ := g.get r e fun vs y => by rcases z with ⟨_, _, z⟩ | ⟨_, z⟩ <;> rw [z] at y <;> cases y
      exact ⟨q, _, e', z⟩ }⟩
theorem Go.nt {l : List Env} {own β₀ β : List Addr} {ex : List Addr} {h₀ h h' : Heap} (x : Go l own β₀ h₀ β h) (n : ∀ a ∈ ex, h₀.get? a = none) (g : Nt l ex h h') : Go l own β₀ h₀ β h' where
  pre := x.pre
  new := x.new
  live := fun a e => by
    by_cases m : a ∈ ex
    · exact n a m
    · refine x.live a ?_
      cases q : h.get? a with
      | none => rfl
      | some o => obtain ⟨sl, e'⟩ := g.slot a o q m; rw [e] at e'; cases e'
  keep := fun a o e n1 n2 n3 => g.keep a o (x.keep a o e n1 n2 n3) (fun m => by rw [n a m] at e; cases e) n3
  slot := fun a o e n1 n2 => by
    obtain ⟨sl, e1⟩ := x.slot a o e n1 n2
    obtain ⟨sl', e2⟩ := g.slot a _ e1 (fun m => by rw [n a m] at e; cases e)
    exact ⟨sl', e2⟩

/-- fewer locals -/
def Sub (ρ ρ' : LEnv) : Prop := ∀ x d, ρ.lookup x = some d → ρ'.lookup x = some d
theorem St.sub {W : Wk} {F : Fm} {ρ ρ' : LEnv} {σ : Store} {β : List Addr} {h : Heap} (x : St W F ρ' σ β h) (s : Sub ρ ρ') : St W F ρ σ β h :=
  ⟨x.env, x.wd, ⟨let ⟨m, a, b⟩ := x.loc.ns; ⟨m, a, fun n d e => b n d (s n d e)⟩, x.loc.cells, x.loc.has, fun n d k e => x.loc.cell n d k (s n d e), x.loc.one, x.loc.ownk⟩⟩

/-- the exception e, with its traceback (none: none yet) -/
def InFl (W : Wk) (e : Addr) : Option (Addr × Value) → Heap → Prop
  | none, h => ∃ oe vs a0, h.get? e = some oe ∧ oe.cls = .ref W.lf ∧ oe.data = .fields vs ∧ vs[0]? = some a0 ∧ vs[1]? = some .none
  | some (T, f), h => ∃ oe vs a0 oT ts, h.get? e = some oe ∧ oe.cls = .ref W.lf ∧ oe.data = .fields vs ∧ vs[0]? = some a0 ∧ vs[1]? = some (.ref T) ∧ T ≠ e ∧ h.get? T = some oT ∧ oT.data = .fields ts ∧ ts[3]? = some f

/-- e leaves a frame (or a built-in): its traceback's head is not in flight -/
structure FltV (W : Wk) (l : List Env) (β : List Addr) (h : Heap) (e : Addr) (σ' : Store) (β' : List Addr) (h' : Heap) : Prop where
  wd : Wd W l σ' β' h'
  go : Go l [] β h β' h'
  fl : ∃ T, InFl W e (some (T, .none)) h' ∧ h.get? T = none ∧ W.base.get? T = none
  new : h.get? e = none
  nb : W.base.get? e = none

/-- e within a frame -/
structure Flt (W : Wk) (F : Fm) (β : List Addr) (h : Heap) (e : Addr) (σ' : Store) (β' : List Addr) (h' : Heap) : Prop where
  st : St W F [] σ' β' h'
  go : Go F.l F.own β h β' h'
  fl : InFl W e none h' ∨ (∃ T, InFl W e (some (T, .none)) h' ∧ h.get? T = none ∧ W.base.get? T = none) ∨ (∃ T L, F.env.frame = some L ∧ InFl W e (some (T, rawInt L)) h' ∧ h.get? T = none ∧ W.base.get? T = none)
  new : h.get? e = none
  nb : W.base.get? e = none

theorem Flt.back {W : Wk} {F : Fm} {β₁ β₂ β₃ : List Addr} {h₁ h₂ h₃ : Heap} {e : Addr} {σ : Store} (g : Go F.l F.own β₁ h₁ β₂ h₂) (x : Flt W F β₂ h₂ e σ β₃ h₃) : Flt W F β₁ h₁ e σ β₃ h₃ :=
  ⟨x.st, g.trans x.go, x.fl.imp id (Or.imp (fun ⟨T, a, b, c⟩ => ⟨T, a, g.live _ b, c⟩) fun ⟨T, L, a, b, c, d⟩ => ⟨T, L, a, b, g.live _ c, d⟩), g.live _ x.new, x.nb⟩

/-- a tree within a frame -/
def ST {δ α : Type} (rel : Addr → List Addr → Heap → δ → α → Prop) (W : Wk) (k : Nat) (F : Fm) (ρ : LEnv) (σ : Store) (t : Sem α) (Q : δ → Store → Prop) (X : Store → Prop) : Prop :=
  ∀ (A : Around) (β : List Addr) (s : Shared) (QC : α → Shared → Prop) (EC : Value → Shared → Prop), AOK k A F.l → St W F ρ σ β s.heap →
    (∀ a d σ' β' h' tk, St W F ρ σ' β' h' → Go F.l F.own β s.heap β' h' → rel W.scr β' h' d a → Q d σ' → QC a { s with heap := h', toks := tk }) →
    (∀ e σ' β' h' tk, Flt W F β s.heap e σ' β' h' → X σ' → EC (.ref e) { s with heap := h', toks := tk }) →
    wpC (model W.prog W.w) A t QC EC s

abbrev SE (W : Wk) (k : Nat) (F : Fm) (ρ : LEnv) (σ : Store) (e : Expr) (Q : V → Store → Prop) (X : Store → Prop) : Prop := ST VR W k F ρ σ (eval e F.env) Q X
abbrev SB (W : Wk) (k : Nat) (F : Fm) (ρ : LEnv) (σ : Store) (e : Expr) (Q : Bool → Store → Prop) (X : Store → Prop) : Prop := ST (fun _ _ _ d a => a = d) W k F ρ σ (isTrue e F.env (eval e F.env)) Q X
abbrev SL (W : Wk) (k : Nat) (F : Fm) (ρ : LEnv) (σ : Store) (pos : Pos) (es : List Expr) (Q : List V → Store → Prop) (X : Store → Prop) : Prop := ST VRs W k F ρ σ (spliced (backTo pos (starEach es F.env))) Q X

/-- a tree that sees no locals, at one state -/
def WT {δ α : Type} (rel : Addr → List Addr → Heap → δ → α → Prop) (W : Wk) (l : List Env) (β : List Addr) (s : Shared) (A : Around) (t : Sem α) (Q : δ → Store → Prop) (X : Store → Prop) : Prop :=
  ∀ (QC : α → Shared → Prop) (EC : Value → Shared → Prop),
    (∀ a d σ' β' h' tk, Wd W l σ' β' h' → Go l [] β s.heap β' h' → rel W.scr β' h' d a → Q d σ' → QC a { s with heap := h', toks := tk }) →
    (∀ e σ' β' h' tk, FltV W l β s.heap e σ' β' h' → X σ' → EC (.ref e) { s with heap := h', toks := tk }) →
    wpC (model W.prog W.w) A t QC EC s

/-- the state within a frame takes the outcome of what sees no locals -/
theorem WT.run {δ α : Type} {rel : Addr → List Addr → Heap → δ → α → Prop} {W : Wk} {F : Fm} {ρ : LEnv} {σ : Store} {β₀ β : List Addr} {s₀ s : Shared} {A : Around} {t : Sem α} {Q : δ → Store → Prop} {X : Store → Prop}
    {QC : α → Shared → Prop} {EC : Value → Shared → Prop}
    (w : WT rel W F.l β s A t Q X) (st : St W F ρ σ β s.heap) (g : Go F.l F.own β₀ s₀.heap β s.heap) (hs : ∀ h tk, ({ s with heap := h, toks := tk } : Shared) = { s₀ with heap := h, toks := tk })
    (hQ : ∀ a d σ' β' h' tk, St W F ρ σ' β' h' → Go F.l F.own β₀ s₀.heap β' h' → rel W.scr β' h' d a → Q d σ' → QC a { s₀ with heap := h', toks := tk })
    (hX : ∀ e σ' β' h' tk, Flt W F β₀ s₀.heap e σ' β' h' → X σ' → EC (.ref e) { s₀ with heap := h', toks := tk }) :
    wpC (model W.prog W.w) A t QC EC s := by
  refine w QC EC (fun a d σ' β' h' tk w1 g1 r q => ?_) fun e σ' β' h' tk f x => ?_
  · rw [hs]
    exact hQ a d σ' β' h' tk (st.lift g1 w1) (g.trans (g1.more fun _ m => nomatch m)) r q
  · rw [hs]
    refine hX e σ' β' h' tk (Flt.back g ⟨(st.lift f.go f.wd).sub (fun _ _ e => by cases e), f.go.more (fun _ m => nomatch m), .inr (.inl f.fl), f.new, f.nb⟩) x

theorem ST.le {δ α : Type} {rel : Addr → List Addr → Heap → δ → α → Prop} {W : Wk} {k j : Nat} {F : Fm} {ρ : LEnv} {σ : Store} {t : Sem α} {Q : δ → Store → Prop} {X : Store → Prop} (x : ST rel W j F ρ σ t Q X) (h : j ≤ k) : ST rel W k F ρ σ t Q X :=
  fun A β s QC EC a st => x A β s QC EC (a.le h) st
theorem ST.mono {δ α : Type} {rel : Addr → List Addr → Heap → δ → α → Prop} {W : Wk} {k : Nat} {F : Fm} {ρ : LEnv} {σ : Store} {t : Sem α} {Q Q' : δ → Store → Prop} {X X' : Store → Prop} (x : ST rel W k F ρ σ t Q X)
    (hQ : ∀ d σ', Q d σ' → Q' d σ') (hX : ∀ σ', X σ' → X' σ') : ST rel W k F ρ σ t Q' X' :=
  fun A β s QC EC a st h1 h2 => x A β s QC EC a st (fun a d σ' β' h' tk y1 y2 y3 y4 => h1 a d σ' β' h' tk y1 y2 y3 (hQ _ _ y4)) fun e σ' β' h' tk y1 y2 => h2 e σ' β' h' tk y1 (hX _ y2)

end Mine

open PySem PySem.W PySem.Calls PyProof.Rows
set_option Elab.async false
set_option maxRecDepth 100000
namespace Mine
section
variable {W : Wk} {k : Nat} {F : Fm} {ρ : LEnv} {σ : Store} {X : Store → Prop}

/-- what a value-level step is, for all states -/
abbrev BO (W : Wk) (k : Nat) (l : List Env) (σ : Store) (op : Operator) (d₁ d₂ : V) (Q : V → Store → Prop) (X : Store → Prop) : Prop :=
  ∀ (A : Around) (β : List Addr) (s : Shared) (a b : Value), AOK k A l → Wd W l σ β s.heap → VR W.scr β s.heap d₁ a → VR W.scr β s.heap d₂ b → WT VR W l β s A (binaryOp op a b) Q X
abbrev CO (W : Wk) (k : Nat) (l : List Env) (σ : Store) (op : CmpOp) (d₁ d₂ : V) (Q : Bool → Store → Prop) (X : Store → Prop) : Prop :=
  ∀ (A : Around) (β : List Addr) (s : Shared) (a b : Value), AOK k A l → Wd W l σ β s.heap → VR W.scr β s.heap d₁ a → VR W.scr β s.heap d₂ b → WT (fun _ _ _ (d : Bool) v => v = Value.bool d) W l β s A (compareOp op a b) Q X
abbrev TR (W : Wk) (k : Nat) (l : List Env) (σ : Store) (d : V) (Q : Bool → Store → Prop) (X : Store → Prop) : Prop :=
  ∀ (A : Around) (β : List Addr) (s : Shared) (a : Value), AOK k A l → Wd W l σ β s.heap → VR W.scr β s.heap d a → WT (fun _ _ _ (d : Bool) v => v = d) W l β s A (truthy a) Q X

/-- a leaf: the state stays but for the tokens -/
theorem ST.leaf {δ α : Type} {rel : Addr → List Addr → Heap → δ → α → Prop} {t : Sem α} {Q : δ → Store → Prop} {d : δ} (hq : Q d σ)
    (h : ∀ (A : Around) (β : List Addr) (s : Shared) (QC : α → Shared → Prop) (EC : Value → Shared → Prop), AOK k A F.l → St W F ρ σ β s.heap →
      (∀ a tk, rel W.scr β s.heap d a → QC a { s with toks := tk }) → wpAny (model W.prog W.w) A t QC EC s) : ST rel W k F ρ σ t Q X :=
  fun A β s QC EC ao st hQ _ => wpC_of (h A β s QC EC ao st fun a tk r => hQ a d σ β s.heap tk st (.refl ..) r hq)

theorem SE_int {i : Int} {n : Nat} {pos : Pos} {Q : V → Store → Prop} (h : Q (.int i) σ) : SE W k F ρ σ (.Constant (.int i) n pos) Q X :=
  ST.leaf h fun _ _ _ _ _ _ _ hq => wpAny_Constant_int (hq _ _ (by simp only [VR]; exact ⟨_, rfl⟩))
theorem SE_str {x : Str} {n : Nat} {pos : Pos} {Q : V → Store → Prop} (h : Q (.str x) σ) : SE W k F ρ σ (.Constant (.str x) n pos) Q X :=
  ST.leaf h fun _ _ _ _ _ _ _ hq => Constant_str (hq _ _ (by simp only [VR]; exact ⟨_, rfl⟩))
theorem SE_bytes {x : List UInt8} {n : Nat} {pos : Pos} {Q : V → Store → Prop} (h : Q (.bytes x) σ) : SE W k F ρ σ (.Constant (.bytes x) n pos) Q X :=
  ST.leaf h fun _ _ _ _ _ _ _ hq => Constant_bytes (hq _ _ (by simp only [VR]; exact ⟨_, rfl⟩))
theorem SE_none {n : Nat} {pos : Pos} {Q : V → Store → Prop} (h : Q .none σ) : SE W k F ρ σ (.Constant .none n pos) Q X :=
  ST.leaf h fun _ _ s _ _ _ _ hq => wpAny_pure (hq _ s.toks (by simp only [VR]))
theorem SE_local {x : String} {pos : Pos} {d : V} {Q : V → Store → Prop} (hx : ρ.lookup x = some d) (hk : F.env.kindOf (Str.ofString x) = some .local) (h : Q d σ)
    (hd : (Str.ofString x == ("__debug__" : Str)) = false := by decide) : SE W k F ρ σ (.Name (Str.ofString x) pos) Q X :=
  ST.leaf h fun _ _ s _ _ _ st hq => by
    obtain ⟨m, hn, hm⟩ := st.loc.ns
    obtain ⟨v, e, r⟩ := hm x d hx hk
    exact wpAny_Name (wpAny_loadName_local st.env.kind hk hn e (hq _ s.toks r)) hd
theorem SE_cell {x : String} {pos : Pos} {d : V} {Q : V → Store → Prop} (hx : ρ.lookup x = some d) (hk : F.env.kindOf (Str.ofString x) = some .cell) (h : Q d σ)
    (hd : (Str.ofString x == ("__debug__" : Str)) = false := by decide) : SE W k F ρ σ (.Name (Str.ofString x) pos) Q X :=
  ST.leaf h fun _ _ s _ _ _ st hq => by
    obtain ⟨c, v, e, hc, r⟩ := st.loc.cell x d hk hx
    exact wpAny_Name (wpAny_loadName_cell st.env.kind hk e hc (hq _ s.toks r)) hd

/-- a global name -/
structure Glb (W : Wk) (F : Fm) (x : String) (v : Value) : Prop where
  kind : F.env.kindOf (Str.ofString x) = some .globalImplicit
  here : W.mg (Str.ofString x) = some v ∨ (W.mg (Str.ofString x) = none ∧ W.mb (Str.ofString x) = some v)
  nd : (Str.ofString x == ("__debug__" : Str)) = false
theorem Glb.ev {x : String} {v : Value} {pos : Pos} (g : Glb W F x v) {A : Around} {β : List Addr} {s : Shared} {QC : Value → Shared → Prop} {EC : Value → Shared → Prop} (st : St W F ρ σ β s.heap)
    (h : QC v s) : wpAny (model W.prog W.w) A (eval (.Name (Str.ofString x) pos) F.env) QC EC s := by
  refine Name_function_global st.env.kind g.kind ?_ g.nd
  rcases g.here with e | ⟨e1, e2⟩
  · exact loadGlobal_global (st.env.glob ▸ W.hT.g.keeps st.wd.base) e h
  · exact loadGlobal_builtin (st.env.glob ▸ W.hT.g.keeps st.wd.base) e1 (st.env.blt ▸ W.hT.b.keeps st.wd.base) e2 h
theorem SE_glb {x : String} {v : Value} {pos : Pos} {d : V} {Q : V → Store → Prop} (g : Glb W F x v) (hv : ∀ β h, VR W.scr β h d v) (h : Q d σ) : SE W k F ρ σ (.Name (Str.ofString x) pos) Q X :=
  ST.leaf h fun _ _ s _ _ _ st hq => g.ev st (hq _ s.toks (hv _ _))

theorem SE_binop {l r : Expr} {op : Operator} {pos : Pos} {Q : V → Store → Prop} (h : SE W k F ρ σ l (fun a σ₁ => SE W k F ρ σ₁ r (fun b σ₂ => BO W k F.l σ₂ op a b Q X) X) X) :
    SE W k F ρ σ (.BinOp l op r pos) Q X := by
  intro A β s QC EC ao st hQ hX
  refine C_BinOp (h A β s _ EC ao st (fun a d σ₁ β₁ h₁ t₁ st₁ g₁ r₁ q₁ => ?_) hX)
  refine q₁ A β₁ _ _ EC ao st₁ (fun b d' σ₂ β₂ h₂ t₂ st₂ g₂ r₂ q₂ => ?_) (fun e σ' β' h' tk f x => hX e σ' β' h' tk (f.back g₁) x)
  exact (q₂ A β₂ { s with heap := h₂, toks := t₂ } a b ao st₂.wd (st₁.vr g₂ r₁) r₂).run st₂ (g₁.trans g₂) (fun _ _ => rfl) hQ hX

/-- a comparison's value -/
theorem SE_cmp {l r : Expr} {op : CmpOp} {pos : Pos} {Q : V → Store → Prop} (h : SE W k F ρ σ l (fun a σ₁ => SE W k F ρ σ₁ r (fun b σ₂ => CO W k F.l σ₂ op a b (fun c => Q (.bool c)) X) X) X)
    (hm : behindInMarks op r = false := by with_unfolding_all rfl) : SE W k F ρ σ (.Compare l [op] [r] pos) Q X := by
  intro A β s QC EC ao st hQ hX
  refine C_Compare1 (h A β s _ EC ao st (fun a d σ₁ β₁ h₁ t₁ st₁ g₁ r₁ q₁ => ?_) hX) hm
  refine q₁ A β₁ _ _ EC ao st₁ (fun b d' σ₂ β₂ h₂ t₂ st₂ g₂ r₂ q₂ => ?_) (fun e σ' β' h' tk f x => hX e σ' β' h' tk (f.back g₁) x)
  exact (q₂ A β₂ { s with heap := h₂, toks := t₂ } a b ao st₂.wd (st₁.vr g₂ r₁) r₂).run st₂ (g₁.trans g₂) (fun _ _ => rfl)
    (fun v c σ' β' h' tk y1 y2 y3 y4 => hQ v (.bool c) σ' β' h' tk y1 y2 (by simp only [VR]; exact y3) y4) hX
theorem SB_cmp {l r : Expr} {op : CmpOp} {pos : Pos} {Q : Bool → Store → Prop} (h : SE W k F ρ σ l (fun a σ₁ => SE W k F ρ σ₁ r (fun b σ₂ => CO W k F.l σ₂ op a b Q X) X) X)
    (hm : behindInMarks op r = false := by with_unfolding_all rfl) : SB W k F ρ σ (.Compare l [op] [r] pos) Q X := by
  intro A β s QC EC ao st hQ hX
  refine C_isTrue_Compare1 (h A β s _ EC ao st (fun a d σ₁ β₁ h₁ t₁ st₁ g₁ r₁ q₁ => ?_) hX) hm
  refine q₁ A β₁ _ _ EC ao st₁ (fun b d' σ₂ β₂ h₂ t₂ st₂ g₂ r₂ q₂ => ?_) (fun e σ' β' h' tk f x => hX e σ' β' h' tk (f.back g₁) x)
  refine (q₂ A β₂ { s with heap := h₂, toks := t₂ } a b ao st₂.wd (st₁.vr g₂ r₁) r₂).run (s₀ := s) st₂ (g₁.trans g₂) (fun _ _ => rfl) (fun v c σ' β' h' tk y1 y2 y3 y4 => ?_) hX
  subst y3
  exact wpC_of (wpAny_truthy_bool (hQ c c σ' β' h' tk y1 y2 rfl y4))

theorem SB_not {x : Expr} {pos : Pos} {Q : Bool → Store → Prop} (h : SB W k F ρ σ x (fun b σ' => Q (!b) σ') X) : SB W k F ρ σ (.UnaryOp .Not x pos) Q X := by
  intro A β s QC EC ao st hQ hX
  show wpC _ A (isTrue (.UnaryOp .Not x pos) F.env _) QC EC s
  rw [arm_isTrue_UnaryOp]
  exact wpC_bind (h A β s _ EC ao st (fun a d σ₁ β₁ h₁ t₁ st₁ g₁ r₁ q₁ => wpC_pure (hQ _ (!d) σ₁ β₁ h₁ t₁ st₁ g₁ (by rw [r₁]) q₁)) hX)

abbrev SA (W : Wk) (k : Nat) (F : Fm) (ρ : LEnv) (σ : Store) (op : BoolOp) (es : List Expr) (Q : Bool → Store → Prop) (X : Store → Prop) : Prop :=
  ST (fun _ _ _ d a => a = d) W k F ρ σ (allTrue op es F.env) Q X
theorem SB_bool {op : BoolOp} {es : List Expr} {pos : Pos} {Q : Bool → Store → Prop} (h : SA W k F ρ σ op es Q X) : SB W k F ρ σ (.BoolOp op es pos) Q X := by
  intro A β s QC EC ao st hQ hX
  show wpC _ A (isTrue (.BoolOp op es pos) F.env _) QC EC s
  rw [arm_isTrue_BoolOp]
  exact h A β s QC EC ao st hQ hX
theorem SA_nil {op : BoolOp} {Q : Bool → Store → Prop} (h : Q (op == .And) σ) : SA W k F ρ σ op [] Q X :=
  ST.leaf h fun _ _ s _ _ _ _ hq => by rw [arm_allTrue_nil]; exact wpAny_pure (hq _ s.toks rfl)
theorem SA_or {x : Expr} {r : List Expr} {Q : Bool → Store → Prop} (h : SB W k F ρ σ x (fun b σ' => if b then Q true σ' else SA W k F ρ σ' .Or r Q X) X) : SA W k F ρ σ .Or (x :: r) Q X := by
  intro A β s QC EC ao st hQ hX
  rw [arm_allTrue_cons]
  refine wpC_bind (h A β s _ EC ao st (fun a d σ₁ β₁ h₁ t₁ st₁ g₁ r₁ q₁ => ?_) hX)
  subst r₁
  cases a with
  | true => exact wpC_pure (hQ _ true σ₁ β₁ h₁ t₁ st₁ g₁ rfl (by simpa using q₁))
  | false =>
    have q₁ : SA W k F ρ σ₁ .Or r Q X := by simpa using q₁
    exact q₁ A β₁ _ _ EC ao st₁ (fun b d' σ₂ β₂ h₂ t₂ st₂ g₂ r₂ q₂ => hQ b d' σ₂ β₂ h₂ t₂ st₂ (g₁.trans g₂) r₂ q₂) fun e σ' β' h' tk f x => hX e σ' β' h' tk (f.back g₁) x
theorem SA_and {x : Expr} {r : List Expr} {Q : Bool → Store → Prop} (h : SB W k F ρ σ x (fun b σ' => if b then SA W k F ρ σ' .And r Q X else Q false σ') X) : SA W k F ρ σ .And (x :: r) Q X := by
  intro A β s QC EC ao st hQ hX
  rw [arm_allTrue_cons]
  refine wpC_bind (h A β s _ EC ao st (fun a d σ₁ β₁ h₁ t₁ st₁ g₁ r₁ q₁ => ?_) hX)
  subst r₁
  cases a with
  | false => exact wpC_pure (hQ _ false σ₁ β₁ h₁ t₁ st₁ g₁ rfl (by simpa using q₁))
  | true =>
    have q₁ : SA W k F ρ σ₁ .And r Q X := by simpa using q₁
    exact q₁ A β₁ _ _ EC ao st₁ (fun b d' σ₂ β₂ h₂ t₂ st₂ g₂ r₂ q₂ => hQ b d' σ₂ β₂ h₂ t₂ st₂ (g₁.trans g₂) r₂ q₂) fun e σ' β' h' tk f x => hX e σ' β' h' tk (f.back g₁) x

/-- the truth of any other expression -/
theorem SB_val {e : Expr} {Q : Bool → Store → Prop} (h : SE W k F ρ σ e (fun d σ₁ => TR W k F.l σ₁ d Q X) X)
    (he : ∀ whole : Sem Value, isTrue e F.env whole = (do let v ← whole; standAt e.pos; holding [v] (truthy v)) := by intro _; rfl) : SB W k F ρ σ e Q X := by
  intro A β s QC EC ao st hQ hX
  show wpC _ A (isTrue e F.env _) QC EC s
  rw [he]
  refine wpC_bind (h A β s _ EC ao st (fun a d σ₁ β₁ h₁ t₁ st₁ g₁ r₁ q₁ => ?_) hX)
  refine wpC_at (wpC_holding ?_)
  exact (q₁ A β₁ { s with heap := h₁, toks := t₁ } a ao st₁.wd r₁).run st₁ g₁ (fun _ _ => rfl) hQ hX

theorem SE_ifexp {t b o : Expr} {pos : Pos} {Q : V → Store → Prop} (h : SB W k F ρ σ t (fun c σ₁ => if c then SE W k F ρ σ₁ b Q X else SE W k F ρ σ₁ o Q X) X) : SE W k F ρ σ (.IfExp t b o pos) Q X := by
  intro A β s QC EC ao st hQ hX
  show wpC _ A (eval (.IfExp t b o pos) F.env) QC EC s
  rw [arm_eval_IfExp]
  refine wpC_bind (h A β s _ EC ao st (fun a d σ₁ β₁ h₁ t₁ st₁ g₁ r₁ q₁ => ?_) hX)
  subst r₁
  cases a with
  | true =>
    have q₁ : SE W k F ρ σ₁ b Q X := by simpa using q₁
    exact q₁ A β₁ _ _ EC ao st₁ (fun b d' σ₂ β₂ h₂ t₂ st₂ g₂ r₂ q₂ => hQ b d' σ₂ β₂ h₂ t₂ st₂ (g₁.trans g₂) r₂ q₂) fun e σ' β' h' tk f x => hX e σ' β' h' tk (f.back g₁) x
  | false =>
    have q₁ : SE W k F ρ σ₁ o Q X := by simpa using q₁
    exact q₁ A β₁ _ _ EC ao st₁ (fun b d' σ₂ β₂ h₂ t₂ st₂ g₂ r₂ q₂ => hQ b d' σ₂ β₂ h₂ t₂ st₂ (g₁.trans g₂) r₂ q₂) fun e σ' β' h' tk f x => hX e σ' β' h' tk (f.back g₁) x

/-- «and» of values, bools all -/
theorem SE_and_one {x : Expr} {pos : Pos} {Q : V → Store → Prop} (h : SE W k F ρ σ x Q X) : SE W k F ρ σ (.BoolOp .And [x] pos) Q X := h
theorem SE_and {x y : Expr} {r : List Expr} {pos : Pos} {Q : V → Store → Prop}
    (h : SE W k F ρ σ x (fun d σ₁ => ∃ b, d = .bool b ∧ if b then SE W k F ρ σ₁ (.BoolOp .And (y :: r) pos) Q X else Q (.bool false) σ₁) X) : SE W k F ρ σ (.BoolOp .And (x :: y :: r) pos) Q X := by
  intro A β s QC EC ao st hQ hX
  show wpC _ A (do
    let v ← eval x F.env
    standAt pos
    let t ← holding [v] (truthy v)
    match BoolOp.And, t with
    | .And, false | .Or, true => pure v
    | _, _ => boolOp pos .And (evalEach (y :: r) F.env)) QC EC s
  refine wpC_bind (h A β s _ EC ao st (fun a d σ₁ β₁ h₁ t₁ st₁ g₁ r₁ q₁ => ?_) hX)
  obtain ⟨b, rfl, q₁⟩ := q₁
  simp only [VR] at r₁
  subst r₁
  refine wpC_at (wpC_bind (wpC_holding (wpC_of (wpAny_truthy_bool ?_))))
  cases b with
  | false => exact wpC_pure (hQ _ (.bool false) σ₁ β₁ h₁ t₁ st₁ g₁ (by simp only [VR]) (by simpa using q₁))
  | true =>
    have q₁ : SE W k F ρ σ₁ (.BoolOp .And (y :: r) pos) Q X := by simpa using q₁
    exact q₁ A β₁ _ _ EC ao st₁ (fun b d' σ₂ β₂ h₂ t₂ st₂ g₂ r₂ q₂ => hQ b d' σ₂ β₂ h₂ t₂ st₂ (g₁.trans g₂) r₂ q₂) fun e σ' β' h' tk f x => hX e σ' β' h' tk (f.back g₁) x

theorem SL_nil {pos : Pos} {Q : List V → Store → Prop} (h : Q [] σ) : SL W k F ρ σ pos [] Q X :=
  ST.leaf h fun _ _ s _ _ _ _ hq => Calls.spliced_nil (hq _ s.toks VRs.nil)
theorem SL_cons {pos : Pos} {e : Expr} {r : List Expr} {Q : List V → Store → Prop} (h : SE W k F ρ σ e (fun d σ₁ => SL W k F ρ σ₁ pos r (fun ds => Q (d :: ds)) X) X)
    (he : starEach (e :: r) F.env = (false, eval e F.env) :: starEach r F.env := by rfl) : SL W k F ρ σ pos (e :: r) Q X := by
  intro A β s QC EC ao st hQ hX
  show wpC _ A (spliced (backTo pos (starEach (e :: r) F.env))) QC EC s
  rw [he]
  show wpC _ A (spliced ((false, eval e F.env) :: backTo pos (starEach r F.env))) QC EC s
  refine C_spliced_cons (h A β s _ EC ao st (fun a d σ₁ β₁ h₁ t₁ st₁ g₁ r₁ q₁ => ?_) hX)
  refine q₁ A β₁ _ _ EC ao st₁ (fun vs ds σ₂ β₂ h₂ t₂ st₂ g₂ r₂ q₂ => ?_) (fun e σ' β' h' tk f x => hX e σ' β' h' tk (f.back g₁) x)
  exact hQ (a :: vs) (d :: ds) σ₂ β₂ h₂ t₂ st₂ (g₁.trans g₂) (VRs.cons (st₁.vr g₂ r₁) r₂) q₂

theorem SE_tuple {es : List Expr} {n : Nat} {pos : Pos} {Q : V → Store → Prop} (h : SL W k F ρ σ pos es (fun ds σ₁ => ds.length ≤ 16777216 ∧ Q (.tup ds) σ₁) X) : SE W k F ρ σ (.Tuple es n pos) Q X := by
  intro A β s QC EC ao st hQ hX
  refine C_Tuple (h A β s _ EC ao st (fun vs ds σ₁ β₁ h₁ t₁ st₁ g₁ r₁ q₁ => ?_) hX)
  refine ⟨by rw [← r₁.length, sizeLine_eq]; exact q₁.1, ?_⟩
  have k : ∀ b o, h₁.get? b = some o → (h₁.push { cls := .type "tuple", data := .seq vs.toArray }).get? b = some o := fun _ _ e => Heap.get?_push_of_some _ e
  refine hQ _ (.tup ds) σ₁ β₁ _ t₁ (st₁.lift (.ext k) (st₁.wd.ext k)) (g₁.trans (.ext k)) ?_ q₁.2
  simp only [VR]
  exact ⟨_, vs, rfl, .new _ _, VRs.mono (fun _ _ t => t.keeps k) (fun _ _ e => e) _ _ r₁⟩
theorem SE_list {es : List Expr} {pos : Pos} {Q : V → Store → Prop} (h : SL W k F ρ σ pos es (fun ds σ₁ => ds.length ≤ 16777216 ∧ Q (.obj σ₁.length) (σ₁ ++ [.list ds])) X) : SE W k F ρ σ (.List es pos) Q X := by
  intro A β s QC EC ao st hQ hX
  refine C_List (h A β s _ EC ao st (fun vs ds σ₁ β₁ h₁ t₁ st₁ g₁ r₁ q₁ => ?_) hX)
  refine ⟨by rw [← r₁.length, sizeLine_eq]; exact q₁.1, ?_⟩
  have k : ∀ b o, h₁.get? b = some o → (h₁.push { cls := .type "list", data := .seq vs.toArray }).get? b = some o := fun _ _ e => Heap.get?_push_of_some _ e
  have hn : h₁.get? h₁.objs.size = none := by
    cases q : h₁.get? h₁.objs.size with
    | none => rfl
    | some o => exact absurd (Heap.lt_size q) (Nat.lt_irrefl _)
  have w : Wd W F.l (σ₁ ++ [.list ds]) (β₁ ++ [h₁.objs.size]) (h₁.push { cls := .type "list", data := .seq vs.toArray }) :=
    st₁.wd.grow k hn ⟨vs, ⟨_, 0, Heap.get?_push_size _ rfl, rfl, ⟨rfl, rfl⟩, rfl⟩, VRs.mono (fun _ _ t => t.keeps k) (fun n a e => by rw [List.getElem?_append_left (List.getElem?_eq_some_iff.mp e).1]; exact e) _ _ r₁⟩
  refine hQ _ (.obj σ₁.length) _ _ _ t₁ (st₁.lift (.grow k hn) w) (g₁.trans (.grow k hn)) ?_ q₁.2
  simp only [VR]
  exact ⟨_, rfl, by rw [st₁.wd.len, List.getElem?_append_right (Nat.le_refl _)]; simp⟩
end
end Mine

open PySem PySem.W PySem.Calls PyProof.Rows
set_option Elab.async false
set_option maxRecDepth 100000
namespace Mine

theorem ofString_inj {a b : String} (h : Str.ofString a = Str.ofString b) : a = b := by
  rw [Str.ofString_eq_toList, Str.ofString_eq_toList] at h
  have h1 := congrArg Str.cps h
  have h2 : a.toList.map Char.toNat = b.toList.map Char.toNat := by simpa using h1
  have h3 : a.toList = b.toList := by
    have inj : ∀ x y : Char, x.toNat = y.toNat → x = y := fun x y e => Char.ext (UInt32.toNat_inj.mp e)
    exact List.map_inj_right inj |>.mp h2
  exact String.toList_inj.mp h3

def upd : LEnv → String → V → LEnv
  | [], x, d => [(x, d)]
  | (y, e) :: r, x, d => if y = x then (x, d) :: r else (y, e) :: upd r x d
theorem upd_lookup : ∀ (ρ : LEnv) (x y : String) (d : V), (upd ρ x d).lookup y = if y = x then some d else ρ.lookup y
  | [], x, y, d => by
    unfold upd
    simp only [List.lookup_cons, List.lookup_nil]
    by_cases h : y = x
    · simp [h]
    · have : (y == x) = false := beq_eq_false_iff_ne.mpr h
      simp [h, this]
  | (z, e) :: r, x, y, d => by
    unfold upd
    by_cases hz : z = x
    · simp only [hz, if_true, List.lookup_cons]
      by_cases h : y = x
      · simp [h]
      · have : (y == x) = false := beq_eq_false_iff_ne.mpr h
        simp [h, this]
    · simp only [hz, if_false, List.lookup_cons, upd_lookup r x y d]
      by_cases h : y = z
      · subst h; simp [hz]
      · have : (y == z) = false := beq_eq_false_iff_ne.mpr h
        simp [this]

/-- a frame of a def: the innermost one, its cells its own -/
structure FnEnv (F : Fm) : Prop where
  top : ∃ r, F.l = F.env :: r
  cells : ∀ x c, F.env.cells.lookup x = some c → c ∈ F.own

section
variable {W : Wk} {k : Nat} {F : Fm} {ρ : LEnv} {σ : Store} {X : Store → Prop}

theorem st_store_local {A : Around} {β : List Addr} {s : Shared} {x : String} {d : V} {v : Value} {Q : Unit → Shared → Prop} {E : Value → Shared → Prop} (st : St W F ρ σ β s.heap) (r : VR W.scr β s.heap d v)
    (hk : F.env.kindOf (Str.ofString x) = some .local)
    (h : ∀ h' tk, St W F (upd ρ x d) σ β h' → Go F.l F.own β s.heap β h' → Q () { s with heap := h', toks := tk }) : wpAny (model W.prog W.w) A (storeName F.env (Str.ofString x) v) Q E s := by
  obtain ⟨m, hn, hm⟩ := st.loc.ns
  have hp : (F.env.scope.kind == .class || (F.env.scope.kind == .module && F.env.locals != F.env.globals)) = false := by rw [st.env.kind]; rfl
  refine wpAny_storeName_local hk hn (fun h' hn' hs => ?_) hp
  have hl : ∃ o, h'.get? F.env.locals = some o := let ⟨o, _, _, e, _⟩ := hn'; ⟨o, e⟩
  have g : Go F.l F.own β s.heap β h' := .own st.env.ownL hs hl
  have tt : ∀ a xs, IsTup s.heap a xs → IsTup h' a xs := fun a xs t => st.tup g t
  have nb : ∀ a ∈ β, a ≠ F.env.locals := fun a ha q => st.wd.noOwn st.loc st.env.ownL (q ▸ ha)
  obtain ⟨qL, oL, eL, zL⟩ := st.loc.ownk _ st.env.ownL
  refine h h' _ ⟨st.env, ⟨fun a o e => ?_, fun env me => ?_, st.wd.len, fun n mo a e1 e2 => ?_, st.wd.nd, st.wd.new⟩, ⟨⟨_, hn', fun y d' e1 e2 => ?_⟩, fun y c e => ?_, st.loc.has, fun y d' e1 e2 => ?_, st.loc.one, fun a ha => ?_⟩⟩ g
  · exact (hs.2 a fun q => by rw [q, qL] at e; cases e).trans (st.wd.base a o e)
  · obtain ⟨q, L, o, es, n, e1, e2, e3, e4⟩ := st.wd.fr env me
    by_cases z : L = F.env.locals
    · subst z
      obtain ⟨o', es', ep', e', d', _⟩ := hn'
      exact ⟨q, _, o', es', ep', e1, e2, e', d'⟩
    · exact ⟨q, L, o, es, n, e1, e2, (hs.2 L z).trans e3, e4⟩
  · have y := st.wd.sto n mo a e1 e2
    have na := nb a (List.mem_of_getElem? e2)
    cases mo with
    | list ds =>
      obtain ⟨xs, ⟨o, n, e, rr⟩, z⟩ := y
      exact ⟨xs, ⟨o, n, (hs.2 a na).trans e, rr⟩, VRs.mono tt (fun _ _ e => e) _ _ z⟩
    | barr b =>
      obtain ⟨o, e, rr⟩ := y
      exact ⟨o, (hs.2 a na).trans e, rr⟩
  · rw [upd_lookup] at e1
    by_cases q : y = x
    · subst q
      simp only [if_true, Option.some.injEq] at e1
      subst e1
      exact ⟨v, by simp, VR.mono tt (fun _ _ e => e) _ _ r⟩
    · simp only [q, if_false] at e1
      obtain ⟨v', e3, e4⟩ := hm y d' e1 e2
      exact ⟨v', (if_neg fun z => q (ofString_inj z)).trans e3, VR.mono tt (fun _ _ e => e) _ _ e4⟩
  · obtain ⟨v0, o, e', d'⟩ := st.loc.cells y c e
    have nc : c ≠ F.env.locals := fun q => by
      obtain ⟨oo, es, ep, e1, e2, _⟩ := hn
      rw [q, e1] at e'; cases e'; rw [e2] at d'; cases d'
    exact ⟨v0, o, (hs.2 c nc).trans e', d'⟩
  · rw [upd_lookup] at e2
    by_cases q : y = x
    · subst q; rw [hk] at e1; cases e1
    · simp only [q, if_false] at e2
      obtain ⟨c, v', e3, ⟨o, e', d'⟩, e4⟩ := st.loc.cell y d' e1 e2
      have nc : c ≠ F.env.locals := fun q => by
        obtain ⟨oo, es, ep, e1, e2, _⟩ := hn
        rw [q, e1] at e'; cases e'; rw [e2] at d'; cases d'
      exact ⟨c, v', e3, ⟨o, (hs.2 c nc).trans e', d'⟩, VR.mono tt (fun _ _ e => e) _ _ e4⟩
  · obtain ⟨q, o, e, z⟩ := st.loc.ownk a ha
    by_cases y : a = F.env.locals
    · subst y
      obtain ⟨o', es', ep', e', d', _⟩ := hn'
      exact ⟨q, o', e', .inl ⟨es', ep', d'⟩⟩
    · exact ⟨q, o, (hs.2 a y).trans e, z⟩

theorem st_store_cell {A : Around} {β : List Addr} {s : Shared} {x : String} {d : V} {v : Value} {Q : Unit → Shared → Prop} {E : Value → Shared → Prop} (st : St W F ρ σ β s.heap) (fn : FnEnv F) (r : VR W.scr β s.heap d v)
    (hk : F.env.kindOf (Str.ofString x) = some .cell)
    (h : ∀ h' tk, St W F (upd ρ x d) σ β h' → Go F.l F.own β s.heap β h' → Q () { s with heap := h', toks := tk }) : wpAny (model W.prog W.w) A (storeName F.env (Str.ofString x) v) Q E s := by
  obtain ⟨c, hc⟩ := st.loc.has _ hk
  obtain ⟨v0, hv0⟩ := st.loc.cells _ _ hc
  have hc0 := hv0
  refine wpAny_storeName_cell st.env.kind hk hc hv0 fun h' hv hs => ?_
  have co := fn.cells _ _ hc
  have hl : ∃ o, h'.get? c = some o := let ⟨o, e, _⟩ := hv; ⟨o, e⟩
  have g : Go F.l F.own β s.heap β h' := .own co hs hl
  have tt : ∀ a xs, IsTup s.heap a xs → IsTup h' a xs := fun a xs t => st.tup g t
  have nb : ∀ a ∈ β, a ≠ c := fun a ha q => st.wd.noOwn st.loc co (q ▸ ha)
  obtain ⟨qL, _⟩ := st.loc.ownk _ co
  obtain ⟨oc, ec, dc⟩ := hc0
  refine h h' _ ⟨st.env, ⟨fun a o e => ?_, fun env me => ?_, st.wd.len, fun n mo a e1 e2 => ?_, st.wd.nd, st.wd.new⟩, ⟨?_, fun y c' e => ?_, st.loc.has, fun y d' e1 e2 => ?_, st.loc.one, fun a ha => ?_⟩⟩ g
  · exact (hs.2 a fun q => by rw [q, qL] at e; cases e).trans (st.wd.base a o e)
  · obtain ⟨q, L, o, es, n, e1, e2, e3, e4⟩ := st.wd.fr env me
    exact ⟨q, L, o, es, n, e1, e2, (hs.2 L fun z => by rw [z, ec] at e3; cases e3; rw [dc] at e4; cases e4).trans e3, e4⟩
  · have y := st.wd.sto n mo a e1 e2
    have na := nb a (List.mem_of_getElem? e2)
    cases mo with
    | list ds =>
      obtain ⟨xs, ⟨o, n, e, rr⟩, z⟩ := y
      exact ⟨xs, ⟨o, n, (hs.2 a na).trans e, rr⟩, VRs.mono tt (fun _ _ e => e) _ _ z⟩
    | barr b =>
      obtain ⟨o, e, rr⟩ := y
      exact ⟨o, (hs.2 a na).trans e, rr⟩
  · obtain ⟨m, ⟨o, es, ep, e, dd, sk, f⟩, q⟩ := st.loc.ns
    refine ⟨m, ⟨o, es, ep, (hs.2 _ fun z => by rw [z, ec] at e; cases e; rw [dc] at dd; cases dd).trans e, dd, sk, f⟩, fun y d' e1 e2 => ?_⟩
    rw [upd_lookup] at e1
    by_cases z : y = x
    · subst z; rw [hk] at e2; cases e2
    · simp only [z, if_false] at e1
      obtain ⟨v', e3, e4⟩ := q y d' e1 e2
      exact ⟨v', e3, VR.mono tt (fun _ _ e => e) _ _ e4⟩
  · by_cases z : c' = c
    · subst z; exact ⟨_, hv⟩
    · obtain ⟨v0, o, e', d'⟩ := st.loc.cells y c' e
      exact ⟨v0, o, (hs.2 c' z).trans e', d'⟩
  · rw [upd_lookup] at e2
    by_cases q : y = x
    · subst q
      simp only [if_true, Option.some.injEq] at e2
      subst e2
      exact ⟨c, v, hc, hv, VR.mono tt (fun _ _ e => e) _ _ r⟩
    · simp only [q, if_false] at e2
      obtain ⟨c', v', e3, ⟨o, e', d'⟩, e4⟩ := st.loc.cell y d' e1 e2
      have nc : c' ≠ c := fun z => q (ofString_inj (st.loc.one _ _ c (z ▸ e3) hc))
      exact ⟨c', v', e3, ⟨o, (hs.2 c' nc).trans e', d'⟩, VR.mono tt (fun _ _ e => e) _ _ e4⟩
  · obtain ⟨q, o, e, z⟩ := st.loc.ownk a ha
    by_cases y : a = c
    · subst y
      obtain ⟨o', e', d'⟩ := hv
      exact ⟨q, o', e', .inr ⟨_, d'⟩⟩
    · exact ⟨q, o, (hs.2 a y).trans e, z⟩
end
end Mine

open PySem PySem.W PySem.Calls PyProof.Rows
set_option Elab.async false
set_option maxRecDepth 100000
namespace Mine

/-- a name that may be stored -/
def SK (F : Fm) (x : String) : Prop := F.env.kindOf (Str.ofString x) = some .local ∨ (F.env.kindOf (Str.ofString x) = some .cell ∧ FnEnv F)

section
variable {W : Wk} {k : Nat} {F : Fm} {ρ : LEnv} {σ : Store} {X : Store → Prop}

theorem st_store {A : Around} {β : List Addr} {s : Shared} {x : String} {d : V} {v : Value} {Q : Unit → Shared → Prop} {E : Value → Shared → Prop} (st : St W F ρ σ β s.heap) (r : VR W.scr β s.heap d v)
    (hk : SK F x)
    (h : ∀ h' tk, St W F (upd ρ x d) σ β h' → Go F.l F.own β s.heap β h' → Q () { s with heap := h', toks := tk }) : wpAny (model W.prog W.w) A (storeName F.env (Str.ofString x) v) Q E s :=
  hk.elim (fun e => st_store_local st r e h) fun e => st_store_cell st e.2 r e.1 h

def SS (W : Wk) (k : Nat) (F : Fm) (ρ : LEnv) (σ : Store) (t : Sem Flow) (Qn : LEnv → Store → Prop) (Qr : V → Store → Prop) (X : Store → Prop) : Prop :=
  ∀ (A : Around) (β : List Addr) (s : Shared) (QC : Flow → Shared → Prop) (EC : Value → Shared → Prop), AOK k A F.l → St W F ρ σ β s.heap →
    (∀ ρ' σ' β' h' tk, St W F ρ' σ' β' h' → Go F.l F.own β s.heap β' h' → Qn ρ' σ' → QC .next { s with heap := h', toks := tk }) →
    (∀ v d σ' β' h' tk, St W F [] σ' β' h' → Go F.l F.own β s.heap β' h' → VR W.scr β' h' d v → Qr d σ' → QC (.ret v) { s with heap := h', toks := tk }) →
    (∀ e σ' β' h' tk, Flt W F β s.heap e σ' β' h' → X σ' → EC (.ref e) { s with heap := h', toks := tk }) →
    wpC (model W.prog W.w) A t QC EC s
abbrev SX (W : Wk) (k : Nat) (F : Fm) (ρ : LEnv) (σ : Store) (sts : List Stmt) (Qn : LEnv → Store → Prop) (Qr : V → Store → Prop) (X : Store → Prop) : Prop := SS W k F ρ σ (execs sts F.env) Qn Qr X
abbrev S1 (W : Wk) (k : Nat) (F : Fm) (ρ : LEnv) (σ : Store) (st : Stmt) (Qn : LEnv → Store → Prop) (Qr : V → Store → Prop) (X : Store → Prop) : Prop := SS W k F ρ σ (exec st F.env) Qn Qr X

variable {Qn : LEnv → Store → Prop} {Qr : V → Store → Prop}

theorem SS.le {j : Nat} {t : Sem Flow} (x : SS W j F ρ σ t Qn Qr X) (h : j ≤ k) : SS W k F ρ σ t Qn Qr X :=
  fun A β s QC EC a st => x A β s QC EC (a.le h) st
theorem SS.mono {t : Sem Flow} {Qn' : LEnv → Store → Prop} {Qr' : V → Store → Prop} {X' : Store → Prop} (x : SS W k F ρ σ t Qn Qr X)
    (hn : ∀ ρ' σ', Qn ρ' σ' → Qn' ρ' σ') (hr : ∀ d σ', Qr d σ' → Qr' d σ') (hX : ∀ σ', X σ' → X' σ') : SS W k F ρ σ t Qn' Qr' X' :=
  fun A β s QC EC a st h1 h2 h3 => x A β s QC EC a st (fun ρ' σ' β' h' tk y1 y2 y3 => h1 ρ' σ' β' h' tk y1 y2 (hn _ _ y3))
    (fun v d σ' β' h' tk y1 y2 y3 y4 => h2 v d σ' β' h' tk y1 y2 y3 (hr _ _ y4)) fun e σ' β' h' tk y1 y2 => h3 e σ' β' h' tk y1 (hX _ y2)
/-- fewer locals known -/
theorem SS.sub {ρ' : LEnv} {t : Sem Flow} (x : SS W k F ρ' σ t Qn Qr X) (h : Sub ρ' ρ) : SS W k F ρ σ t Qn Qr X :=
  fun A β s QC EC a st => x A β s QC EC a (st.sub h)

theorem SX_nil (h : Qn ρ σ) : SX W k F ρ σ [] Qn Qr X := fun _ β s _ _ _ st h1 _ _ => wpC_of <| wpAny_execs_nil (h1 ρ σ β s.heap s.toks st (.refl ..) h)
theorem SX_cons {st : Stmt} {r : List Stmt} (h : S1 W k F ρ σ st (fun ρ' σ' => SX W k F ρ' σ' r Qn Qr X) Qr X) : SX W k F ρ σ (st :: r) Qn Qr X := by
  intro A β s QC EC ao s0 h1 h2 h3
  refine C_execs_cons (h A β s _ EC ao s0 (fun ρ₁ σ₁ β₁ h₁ t₁ st₁ g₁ q₁ => ?_) (fun v d σ₁ β₁ h₁ t₁ st₁ g₁ r₁ q₁ => h2 v d σ₁ β₁ h₁ t₁ st₁ g₁ r₁ q₁) h3)
  exact q₁ A β₁ _ QC EC ao st₁ (fun ρ₂ σ₂ β₂ h₂ t₂ st₂ g₂ q₂ => h1 ρ₂ σ₂ β₂ h₂ t₂ st₂ (g₁.trans g₂) q₂) (fun v d σ₂ β₂ h₂ t₂ st₂ g₂ r₂ q₂ => h2 v d σ₂ β₂ h₂ t₂ st₂ (g₁.trans g₂) r₂ q₂)
    fun e σ' β' h' tk f x => h3 e σ' β' h' tk (f.back g₁) x

theorem S1_return {e : Expr} {pos : Pos} (h : SE W k F ρ σ e Qr X) : S1 W k F ρ σ (.Return (some e) pos) Qn Qr X := by
  intro A β s QC EC ao s0 h1 h2 h3
  exact C_Return (h A β s _ EC ao s0 (fun v d σ₁ β₁ h₁ t₁ st₁ g₁ r₁ q₁ => h2 v d σ₁ β₁ h₁ t₁ (st₁.sub fun _ _ e => by cases e) g₁ r₁ q₁) h3)

theorem S1_assign {x : String} {p pos : Pos} {value : Expr} (hx : SK F x) (h : SE W k F ρ σ value (fun d σ' => Qn (upd ρ x d) σ') X)
    (hs : swapsWith value (some (.Name (Str.ofString x) p)) pos.line F.env = pure false := by rfl) : S1 W k F ρ σ (.Assign [.Name (Str.ofString x) p] value pos) Qn Qr X := by
  intro A β s QC EC ao s0 h1 h2 h3
  refine C_Assign_Name (h A β s _ EC ao s0 (fun v d σ₁ β₁ h₁ t₁ st₁ g₁ r₁ q₁ => ?_) h3) hs
  exact st_store (s := { s with heap := h₁, toks := t₁ }) st₁ r₁ hx fun h' tk st₂ g₂ => h1 _ _ _ _ _ st₂ (g₁.trans g₂) q₁

theorem S1_if {t : Expr} {b o : List Stmt} {pos : Pos} (h : SB W k F ρ σ t (fun c σ₁ => if c then SX W k F ρ σ₁ b Qn Qr X else SX W k F ρ σ₁ o Qn Qr X) X) : S1 W k F ρ σ (.If t b o pos) Qn Qr X := by
  intro A β s QC EC ao s0 h1 h2 h3
  refine C_If (h A β s _ EC ao s0 (fun c d σ₁ β₁ h₁ t₁ st₁ g₁ r₁ q₁ => ?_) h3)
  subst r₁
  cases c with
  | true =>
    have q₁ : SX W k F ρ σ₁ b Qn Qr X := by simpa using q₁
    exact q₁ A β₁ _ QC EC ao st₁ (fun ρ₂ σ₂ β₂ h₂ t₂ st₂ g₂ q₂ => h1 ρ₂ σ₂ β₂ h₂ t₂ st₂ (g₁.trans g₂) q₂) (fun v d σ₂ β₂ h₂ t₂ st₂ g₂ r₂ q₂ => h2 v d σ₂ β₂ h₂ t₂ st₂ (g₁.trans g₂) r₂ q₂)
      fun e σ' β' h' tk f x => h3 e σ' β' h' tk (f.back g₁) x
  | false =>
    have q₁ : SX W k F ρ σ₁ o Qn Qr X := by simpa using q₁
    exact q₁ A β₁ _ QC EC ao st₁ (fun ρ₂ σ₂ β₂ h₂ t₂ st₂ g₂ q₂ => h1 ρ₂ σ₂ β₂ h₂ t₂ st₂ (g₁.trans g₂) q₂) (fun v d σ₂ β₂ h₂ t₂ st₂ g₂ r₂ q₂ => h2 v d σ₂ β₂ h₂ t₂ st₂ (g₁.trans g₂) r₂ q₂)
      fun e σ' β' h' tk f x => h3 e σ' β' h' tk (f.back g₁) x

/-- an expression for its effect -/
theorem S1_expr {e : Expr} {pos : Pos} (h : SE W k F ρ σ e (fun _ σ' => Qn ρ σ') X) (hi : interactive F.env = false) (hs : swapsWith e none pos.line F.env = pure false := by rfl) :
    S1 W k F ρ σ (.Expr e pos) Qn Qr X := by
  intro A β s QC EC ao s0 h1 h2 h3
  exact C_Expr (h A β s _ EC ao s0 (fun v d σ₁ β₁ h₁ t₁ st₁ g₁ r₁ q₁ => h1 _ _ _ _ _ st₁ g₁ q₁) h3) hi hs

theorem S1_while {test : Expr} {body : List Stmt} {pos : Pos} (I : Nat → LEnv → Store → Prop) (n : Nat) (h0 : I n ρ σ)
    (step : ∀ n ρ σ, I n ρ σ → SB W k F ρ σ test (fun b σ₁ => if b then SX W k F ρ σ₁ body (fun ρ' σ' => ∃ m, m < n ∧ I m ρ' σ') Qr (fun _ => False) else Qn ρ σ₁) (fun _ => False)) :
    S1 W k F ρ σ (.While test body [] pos) Qn Qr X := by
  intro A β s QC EC ao s0 h1 h2 h3
  refine C_While (C_whileLoop (fun n s' => ∃ ρ' σ' β' h' tk, s' = { s with heap := h', toks := tk } ∧ St W F ρ' σ' β' h' ∧ Go F.l F.own β s.heap β' h' ∧ I n ρ' σ')
    (fun n s' hI => ?_) n ⟨ρ, σ, β, s.heap, s.toks, rfl, s0, .refl .., h0⟩)
  obtain ⟨ρ₁, σ₁, β₁, h₁, t₁, rfl, st₁, g₁, i₁⟩ := hI
  refine step n ρ₁ σ₁ i₁ A β₁ _ _ _ ao st₁ (fun b d σ₂ β₂ h₂ t₂ st₂ g₂ r₂ q₂ => ?_) fun _ _ _ _ _ _ x => x.elim
  subst r₂
  cases b with
  | true =>
    have q₂ : SX W k F ρ₁ σ₂ body (fun ρ' σ' => ∃ m, m < n ∧ I m ρ' σ') Qr (fun _ => False) := by simpa using q₂
    refine q₂ A β₂ _ _ _ ao st₂ (fun ρ₃ σ₃ β₃ h₃ t₃ st₃ g₃ q₃ => ?_) (fun v d σ₃ β₃ h₃ t₃ st₃ g₃ r₃ q₃ => ?_) fun _ _ _ _ _ _ x => x.elim
    · obtain ⟨m, hm, i₃⟩ := q₃
      exact ⟨m, hm, ρ₃, σ₃, β₃, h₃, t₃, rfl, st₃, (g₁.trans g₂).trans g₃, i₃⟩
    · exact h2 v d σ₃ β₃ h₃ t₃ st₃ ((g₁.trans g₂).trans g₃) r₃ q₃
  | false =>
    have q₂ : Qn ρ₁ σ₂ := by simpa using q₂
    exact wpC_of <| wpAny_execs_nil (h1 ρ₁ σ₂ β₂ h₂ t₂ st₂ (g₁.trans g₂) q₂)
end
end Mine

open PySem PySem.W PySem.Calls PyProof.Rows
set_option Elab.async false
set_option maxRecDepth 100000
namespace Mine

/-- the heap without some records and without the frames -/
abbrev hid (l : List Env) (ex : List Addr) (h : Heap) : Heap := hideAll h (ex ++ frs l)
theorem hid_ex {l : List Env} {ex : List Addr} {h : Heap} {a : Addr} (m : a ∈ ex) : (hid l ex h).get? a = none := hideAll_none _ (List.mem_append_left _ m)
theorem hid_get {l : List Env} {ex : List Addr} {h : Heap} {a : Addr} {o : Obj} (e : h.get? a = some o) (n1 : a ∉ ex) (n2 : a ∉ frs l) : (hid l ex h).get? a = some o :=
  hideAll_get _ e fun m => (List.mem_append.mp m).elim n1 n2
theorem hid_stays {l : List Env} {ex : List Addr} {h : Heap} : (hid l ex h).StaysIn h := fun _ _ e => of_hideAll _ e
theorem hid_fun {W : Wk} {l : List Env} {ex : List Addr} {σ : Store} {β : List Addr} {h : Heap} (x : Wd W l σ β h) : h.FunFrames (hid l ex h) l := by
  have k : ∀ env ∈ l, env.scope.kind ≠ .module ∧ ∃ L o, env.frame = some L ∧ (hid l ex h).get? L = none ∧ h.get? L = some o ∧ ∀ vs, o.data ≠ .fields vs := fun env m => by
    obtain ⟨q, L, o, es, n, e1, e2, e3, e4⟩ := x.fr env m
    exact ⟨q, L, o, e1, hideAll_none _ (List.mem_append_right _ (List.mem_filterMap.mpr ⟨env, m, e1⟩)), e3, fun vs z => by rw [e4] at z; cases z⟩
  revert k
  generalize hid l ex h = B
  clear x
  induction l with
  | nil => intro _; trivial
  | cons env r ih => intro k; exact ⟨(k env (.head _)).1, (k env (.head _)).2, ih fun e m => k e (.tail _ m)⟩
theorem frs_dict {W : Wk} {l : List Env} {σ : Store} {β : List Addr} {h : Heap} (x : Wd W l σ β h) {a : Addr} (m : a ∈ frs l) : ∃ o es n, h.get? a = some o ∧ o.data = .dict es n ∧ W.base.get? a = none := by
  obtain ⟨env, he, hf⟩ := List.mem_filterMap.mp m
  obtain ⟨_, L, o, es, n, e1, e2, e3, e4⟩ := x.fr env he
  rw [e1] at hf; cases hf
  exact ⟨o, es, n, e3, e4, e2⟩
theorem nt_of {W : Wk} {l : List Env} {ex : List Addr} {σ : Store} {β : List Addr} {h h' : Heap} (x : Wd W l σ β h) (k : (hid l ex h).StaysIn h') (u : h.UpToSlots h') : Nt l ex h h' where
  keep := fun b o e n1 n2 => k b o (hid_get e n1 n2)
  slot := fun b o e n1 => by
    by_cases m : b ∈ frs l
    · obtain ⟨o', es, n, e', d, _⟩ := frs_dict x m
      rw [e] at e'; cases e'
      exact u b o e fun vs z => by rw [d] at z; cases z
    · exact ⟨o.slots, k b o (hid_get e n1 m)⟩
/-- a record that the hidden heap does not know is new, or was hidden as one -/
theorem hid_new {l : List Env} {ex : List Addr} {h h' : Heap} {T : Addr} {oT : Obj} {ts : Array Value} (hn : (hid l ex h).get? T = none) (ht : h'.get? T = some oT) (hd : oT.data = .fields ts)
    (ff : h'.FunFrames (hid l ex h) l) : h.get? T = none ∨ T ∈ ex := by
  by_cases m : T ∈ ex
  · exact .inr m
  · refine .inl ?_
    cases q : h.get? T with
    | none => rfl
    | some o =>
      by_cases m2 : T ∈ frs l
      · obtain ⟨_, o', e', z⟩ := ff.mem m2
        rw [ht] at e'; cases e'
        exact absurd hd (z ts)
      · rw [hid_get q m m2] at hn; cases hn

/-- the records of an exception -/
def exOf (e : Addr) : Option (Addr × Value) → List Addr
  | none => [e]
  | some (T, _) => [e, T]
theorem InFl.recs {W : Wk} {e : Addr} : ∀ {fl : Option (Addr × Value)} {h : Heap}, InFl W e fl h → ∀ a ∈ exOf e fl, ∃ o vs, h.get? a = some o ∧ o.data = .fields vs
  | none, h, x, a, m => by
    obtain ⟨oe, vs, a0, h1, h2, h3, _⟩ := x
    rw [List.mem_singleton.mp m]; exact ⟨oe, vs, h1, h3⟩
  | some (T, f), h, x, a, m => by
    obtain ⟨oe, vs, a0, oT, ts, h1, h2, h3, h4, h5, h6, h7, h8, h9⟩ := x
    rcases List.mem_cons.mp m with rfl | m
    · exact ⟨oe, vs, h1, h3⟩
    · rw [List.mem_singleton.mp m]; exact ⟨oT, ts, h7, h8⟩

/-- an exception in a frame: what it was before the step, told by one fact -/
structure Fx (W : Wk) (F : Fm) (β₀ : List Addr) (h₀ : Heap) (e : Addr) (w : Option (Addr × Value)) (σ : Store) (β : List Addr) (h : Heap) : Prop where
  st : St W F [] σ β h
  go : Go F.l F.own β₀ h₀ β h
  fl : InFl W e w h
  new : ∀ a ∈ exOf e w, h₀.get? a = none ∧ W.base.get? a = none

theorem Fx.recs {W : Wk} {F : Fm} {β₀ β : List Addr} {h₀ h : Heap} {e : Addr} {fl : Option (Addr × Value)} {σ : Store} (x : Fx W F β₀ h₀ e fl σ β h) : Recs W (exOf e fl) h := fun a m =>
  ⟨(x.new a m).2, x.fl.recs a m⟩
theorem Fx.e_mem {e : Addr} : ∀ {fl : Option (Addr × Value)}, e ∈ exOf e fl
  | none => .head _
  | some _ => .head _

/-- the step: the records turned, all else up to slots -/
theorem Fx.step {W : Wk} {F : Fm} {β₀ β : List Addr} {h₀ h h' : Heap} {e T : Addr} {fl : Option (Addr × Value)} {f : Value} {σ : Store} (x : Fx W F β₀ h₀ e fl σ β h)
    (k : (hid F.l (exOf e fl) h).StaysIn h') (u : h.UpToSlots h') (ff : h'.FunFrames (hid F.l (exOf e fl) h) F.l) (y : InFl W e (some (T, f)) h') (hT : (hid F.l (exOf e fl) h).get? T = none) :
    Fx W F β₀ h₀ e (some (T, f)) σ β h' := by
  have g := nt_of x.st.wd k u
  refine ⟨x.st.nt x.recs g, x.go.nt (fun a m => (x.new a m).1) g, y, fun a m => ?_⟩
  have ne := x.new e Fx.e_mem
  rcases List.mem_cons.mp m with rfl | m
  · exact ne
  · rw [List.mem_singleton.mp m]
    obtain ⟨oe, vs, a0, oT, ts, h1, h2, h3, h4, h5, h6, h7, h8, h9⟩ := y
    rcases hid_new hT h7 h8 ff with q | q
    · exact ⟨x.go.live _ q, by
        cases z : W.base.get? T with
        | none => rfl
        | some o => rw [x.st.wd.base _ _ z] at q; cases q⟩
    · exact x.new T q

theorem InFl.tracedAt {W : Wk} {e T : Addr} {f : Value} {h B : Heap} (x : InFl W e (some (T, f)) h) (hT : B.get? T = none) : ∃ a0, h.TracedAtW B e (.ref W.lf) a0 f := by
  obtain ⟨oe, vs, a0, oT, ts, h1, h2, h3, h4, h5, h6, h7, h8, h9⟩ := x
  exact ⟨a0, oe, vs, T, oT, ts, h1, ⟨h2, h4⟩, h3, h5, hT, h6, h7, h8, h9⟩
theorem InFl.of_tracedAt {W : Wk} {e : Addr} {a0 f : Value} {h B : Heap} (x : h.TracedAtW B e (.ref W.lf) a0 f) : ∃ T, InFl W e (some (T, f)) h ∧ B.get? T = none := by
  obtain ⟨oe, vs, T, oT, ts, h1, ⟨h2, h4⟩, h3, h5, hT, h6, h7, h8, h9⟩ := x
  exact ⟨T, ⟨oe, vs, a0, oT, ts, h1, h2, h3, h4, h5, h6, h7, h8, h9⟩, hT⟩

section
variable {W : Wk} {F : Fm} {M : Model} {A : Around} {s : Shared} {β₀ β : List Addr} {h₀ : Heap} {e : Addr} {σ : Store} {outer : List Env} {L : Addr} {Q : Unit → Shared → Prop} {E : Value → Shared → Prop}

theorem Flt.fx {h : Heap} (x : Flt W F β₀ h₀ e σ β h) : Fx W F β₀ h₀ e none σ β h ∨ (∃ T, Fx W F β₀ h₀ e (some (T, .none)) σ β h) ∨ ∃ T L, F.env.frame = some L ∧ Fx W F β₀ h₀ e (some (T, rawInt L)) σ β h := by
  rcases x.fl with q | ⟨T, q, r, z⟩ | ⟨T, L, hL, q, r, z⟩
  · exact .inl ⟨x.st, x.go, q, fun a m => by rw [List.mem_singleton.mp m]; exact ⟨x.new, x.nb⟩⟩
  · refine .inr (.inl ⟨T, x.st, x.go, q, fun a m => ?_⟩)
    rcases List.mem_cons.mp m with rfl | m
    · exact ⟨x.new, x.nb⟩
    · rw [List.mem_singleton.mp m]; exact ⟨r, z⟩
  · refine .inr (.inr ⟨T, L, hL, x.st, x.go, q, fun a m => ?_⟩)
    rcases List.mem_cons.mp m with rfl | m
    · exact ⟨x.new, x.nb⟩
    · rw [List.mem_singleton.mp m]; exact ⟨r, z⟩
theorem Fx.flt_held {h : Heap} {T : Addr} (hL : F.env.frame = some L) (x : Fx W F β₀ h₀ e (some (T, rawInt L)) σ β h) : Flt W F β₀ h₀ e σ β h :=
  ⟨x.st, x.go, .inr (.inr ⟨T, L, hL, x.fl, (x.new T (by simp [exOf])).1, (x.new T (by simp [exOf])).2⟩), (x.new e (by simp [exOf])).1, (x.new e (by simp [exOf])).2⟩
/-- noteFrame in the frame itself -/
theorem Flt.noted (x : Flt W F β₀ h₀ e σ β s.heap) (hfr : A.frames = some F.l) (hl : F.l = F.env :: outer) (hL : F.env.frame = some L)
    (h : ∀ h' T, Fx W F β₀ h₀ e (some (T, rawInt L)) σ β h' → Q () { s with heap := h' }) : wpAny M A (noteFrame (.ref e) F.env) Q E s := by
  have hfr' : A.frames = some (F.env :: outer) := hfr.trans (congrArg some hl)
  rcases x.fx with x | ⟨T, x⟩ | ⟨T, L', hL', x⟩
  · obtain ⟨oe, vs, a0, h1, h2, h3, h4, h5⟩ := x.fl
    unfold noteFrame
    simp only [hL]
    refine wpAny_bind (wpAny_field h1 h3 h5 ?_)
    rw [if_neg (by decide)]
    refine wpAny_entryW (base := hid F.l (exOf e none) s.heap) hfr' (hl ▸ hid_fun x.st.wd) hL h1 hid_stays (hid_ex (.head _)) h3 (Array.getElem?_eq_some_iff.mp h5).1 h4 fun h' hN => ?_
    obtain ⟨k1, k2, k3, k4⟩ := hN
    rw [h2] at k3
    obtain ⟨T, y, hT⟩ := InFl.of_tracedAt k3
    exact h h' T (x.step k1 k4 (by rw [hl] at k2 ⊢; exact k2) y hT)
  · obtain ⟨a0, tr⟩ := x.fl.tracedAt (B := hid F.l (exOf e (some (T, .none))) s.heap) (hid_ex (by simp [exOf]))
    refine wpAny_noteFrame_onW (base := hid F.l (exOf e (some (T, .none))) s.heap) hfr' (hl ▸ hid_fun x.st.wd) hL tr hid_stays (hid_ex (.head _)) fun h' hN => ?_
    obtain ⟨k1, k2, k3, k4⟩ := hN
    obtain ⟨T', y, hT⟩ := InFl.of_tracedAt k3
    exact h h' T' (x.step k1 k4 (by rw [hl] at k2 ⊢; exact k2) y hT)
  · rw [hL] at hL'; cases hL'
    obtain ⟨a0, tr⟩ := x.fl.tracedAt (B := hid F.l (exOf e (some (T, rawInt L))) s.heap) (hid_ex (by simp [exOf]))
    exact wpAny_noteFrame_againW hL tr (h _ T x)

/-- its flight is taken note of, or struck -/
theorem Fx.flown {T : Addr} {f : Value} (x : Fx W F β₀ h₀ e (some (T, f)) σ β s.heap) (fr : Option Addr)
    (h : ∀ h', Fx W F β₀ h₀ e (some (T, fr.elim .none fun f => rawInt f)) σ β h' → Q () { s with heap := h' }) : wpAny M A (setFlight (.ref e) fr) Q E s := by
  obtain ⟨oe, vs, a0, oT, ts, h1, h2, h3, h4, h5, h6, h7, h8, h9⟩ := x.fl
  unfold setFlight
  refine wpAny_bind (wpAny_field h1 h3 h5 ?_)
  rw [if_pos (show (Value.ref T != Value.none) = true from by simp)]
  have h3' : 3 < ts.size := (Array.getElem?_eq_some_iff.mp h9).1
  refine wpAny_setField h7 h8 h3' (h _ ?_)
  have g : Nt F.l [T] s.heap (s.heap.update T (Obj.mapFields (·.setIfInBounds 3 (fr.elim Value.none fun f => rawInt f)))) :=
    Nt.one fun b o n q => (Heap.get?_update_other s.heap _ (Ne.symm n)).trans q
  have r : Recs W [T] s.heap := fun a m => by rw [List.mem_singleton.mp m]; exact ⟨(x.new T (by simp [exOf])).2, oT, ts, h7, h8⟩
  refine ⟨x.st.nt r g, x.go.nt (fun a m => by rw [List.mem_singleton.mp m]; exact (x.new T (by simp [exOf])).1) g, ⟨oe, vs, a0, _, _, (Heap.get?_update_other s.heap _ h6).trans h1, h2, h3, h4, h5, h6,
    Heap.get?_update_self _ h7 (Obj.isFreed_of_fields (Obj.data_mapFields h8 _)), Obj.data_mapFields h8 _, by simp [h3']⟩, x.new⟩

/-- an exception comes through a loop -/
theorem Flt.loop (x : Flt W F β₀ h₀ e σ β s.heap) (hfr : A.frames = some F.l) (hl : F.l = F.env :: outer) (hL : F.env.frame = some L)
    (h : ∀ h', Flt W F β₀ h₀ e σ β h' → E (.ref e) { s with heap := h' }) : notedBy M A F.env (fun e s' => cameBackBy M A F.env E e s') (.ref e) s := by
  refine x.noted hfr hl hL fun h₁ T x₁ => ?_
  obtain ⟨oe, vs, a0, oT, ts, h1, h2, h3, h4, h5, h6, h7, h8, h9⟩ := x₁.fl
  unfold cameBackBy
  refine wpAny_bind (wpAny_field h1 h3 h5 ?_)
  rw [if_neg (by simp)]
  show wpAny M A (setFlight (.ref e) F.env.frame) _ _ _
  rw [hL]
  exact Fx.flown (s := { s with heap := h₁ }) x₁ (some L) fun h' x₂ => h h' (x₂.flt_held hL)

/-- an exception leaves the frame -/
theorem Flt.leave (x : Flt W F β₀ h₀ e σ β s.heap) (hfr : A.frames = some F.l) (hl : F.l = F.env :: outer) (hL : F.env.frame = some L)
    (h : ∀ h' T, Fx W F β₀ h₀ e (some (T, .none)) σ β h' → Q () { s with heap := h' }) : wpAny M A (leaving F.env (.ref e)) Q E s := by
  unfold leaving
  refine wpAny_bind (x.noted hfr hl hL fun h₁ T x₁ => ?_)
  exact Fx.flown (s := { s with heap := h₁ }) x₁ none fun h' x₂ => h h' T x₂
end
end Mine

open PySem PySem.W PySem.Calls PyProof.Rows
set_option Elab.async false
set_option maxRecDepth 100000
namespace Mine

/-- a call of a value -/
abbrev CC (W : Wk) (k : Nat) (l : List Env) (σ : Store) (cv : Value) (ds : List V) (Q : V → Store → Prop) (X : Store → Prop) : Prop :=
  ∀ (A : Around) (β : List Addr) (s : Shared) (vs : List Value), AOK k A l → Wd W l σ β s.heap → VRs W.scr β s.heap ds vs → WT VR W l β s A (call cv vs) Q X

theorem CC.le {W : Wk} {k j : Nat} {l : List Env} {σ : Store} {cv : Value} {ds : List V} {Q : V → Store → Prop} {X : Store → Prop} (x : CC W j l σ cv ds Q X) (h : j ≤ k) : CC W k l σ cv ds Q X :=
  fun A β s vs a w r => x A β s vs (a.le h) w r
theorem CC.mono {W : Wk} {k : Nat} {l : List Env} {σ : Store} {cv : Value} {ds : List V} {Q Q' : V → Store → Prop} {X X' : Store → Prop} (x : CC W k l σ cv ds Q X) (hQ : ∀ d σ', Q d σ' → Q' d σ') (hX : ∀ σ', X σ' → X' σ') : CC W k l σ cv ds Q' X' :=
  fun A β s vs a w r QC EC h1 h2 => x A β s vs a w r QC EC (fun a d σ' β' h' tk y1 y2 y3 y4 => h1 a d σ' β' h' tk y1 y2 y3 (hQ _ _ y4)) fun e σ' β' h' tk y1 y2 => h2 e σ' β' h' tk y1 (hX _ y2)

theorem Go.ret {l : List Env} {env : Env} {own β β' : List Addr} {h h₁ h' : Heap} {L : Addr} (k : ∀ a o, h.get? a = some o → h₁.get? a = some o) (ho : ∀ a ∈ own, h.get? a = none) (hL : env.frame = some L) (hn : h.get? L = none)
    (g : Go (env :: l) own β h₁ β' h') : Go l [] β h β' h' where
  pre := g.pre
  new := fun a m => (g.new a m).imp_right fun e => by
    cases q : h.get? a with
    | none => rfl
    | some o => rw [k a o q] at e; cases e
  live := fun a e => by
    cases q : h.get? a with
    | none => rfl
    | some o => have := g.live a e; rw [k a o q] at this; cases this
  keep := fun a o e _ n2 n3 => g.keep a o (k a o e) (fun m => by rw [ho a m] at e; cases e) n2 fun m => by
    rw [frs, List.filterMap_cons, hL] at m
    rcases List.mem_cons.mp m with rfl | m
    · rw [hn] at e; cases e
    · exact n3 m
  slot := fun a o e _ n2 => g.slot a o (k a o e) (fun m => by rw [ho a m] at e; cases e) n2

theorem bindL_skip {kf : Str → Option NameKind} {x : Str} : ∀ (bs : List (Str × Value)) (m : Str → Option Value), (∀ b ∈ bs, b.1 ≠ x) → bindL kf bs m x = m x
  | [], _, _ => rfl
  | (n, v) :: r, m, h => by
    unfold bindL
    rw [bindL_skip r _ fun b hb => h b (.tail _ hb)]
    split
    · exact if_neg (Ne.symm (h (n, v) (.head _)))
    · rfl
theorem bindC_skip {kf : Str → Option NameKind} {x : Str} : ∀ (bs : List (Str × Value)) (m : Str → Option Value), (∀ b ∈ bs, b.1 ≠ x) → bindC kf bs m x = m x
  | [], _, _ => rfl
  | (n, v) :: r, m, h => by
    unfold bindC
    rw [bindC_skip r _ fun b hb => h b (.tail _ hb)]
    split
    · rfl
    · exact if_neg (Ne.symm (h (n, v) (.head _)))
theorem zip_ne {ps : List String} {vs : List Value} {p : String} (h : p ∉ ps) : ∀ b ∈ (ps.map Str.ofString).zip vs, b.1 ≠ Str.ofString p := fun b hb q => by
  have := (List.of_mem_zip hb).1
  obtain ⟨y, hy, e⟩ := List.mem_map.mp this
  exact h (ofString_inj (e.trans q) ▸ hy)
theorem bindL_get {kf : Str → Option NameKind} {x : String} : ∀ (ps : List String) (vs : List Value) (m : Str → Option Value) {v : Value}, ps.Nodup → (ps.zip vs).lookup x = some v → kf (Str.ofString x) = some .local →
    bindL kf ((ps.map Str.ofString).zip vs) m (Str.ofString x) = some v
  | [], _, _, _, _, e, _ => by simp at e
  | _ :: _, [], _, _, _, e, _ => by simp at e
  | p :: ps, w :: vs, m, v, nd, e, k => by
    rw [List.nodup_cons] at nd
    simp only [List.map_cons, List.zip_cons_cons, List.lookup_cons] at e ⊢
    unfold bindL
    by_cases q : x = p
    · subst q
      simp only [beq_self_eq_true, Option.some.injEq] at e
      subst e
      rw [bindL_skip _ _ (zip_ne nd.1), if_pos k]
      exact if_pos rfl
    · have qb : (x == p) = false := beq_eq_false_iff_ne.mpr q
      rw [qb] at e
      exact bindL_get ps vs _ nd.2 e k
theorem bindC_get {kf : Str → Option NameKind} {x : String} : ∀ (ps : List String) (vs : List Value) (m : Str → Option Value) {v : Value}, ps.Nodup → (ps.zip vs).lookup x = some v → kf (Str.ofString x) = some .cell →
    bindC kf ((ps.map Str.ofString).zip vs) m (Str.ofString x) = some v
  | [], _, _, _, _, e, _ => by simp at e
  | _ :: _, [], _, _, _, e, _ => by simp at e
  | p :: ps, w :: vs, m, v, nd, e, k => by
    rw [List.nodup_cons] at nd
    simp only [List.map_cons, List.zip_cons_cons, List.lookup_cons] at e ⊢
    unfold bindC
    by_cases q : x = p
    · subst q
      simp only [beq_self_eq_true, Option.some.injEq] at e
      subst e
      rw [bindC_skip _ _ (zip_ne nd.1), if_neg (by rw [k]; decide)]
      exact if_pos rfl
    · have qb : (x == p) = false := beq_eq_false_iff_ne.mpr q
      rw [qb] at e
      exact bindC_get ps vs _ nd.2 e k
theorem zip_vr {scr : Addr} {β : List Addr} {h : Heap} {x : String} {d : V} : ∀ (ps : List String) {ds : List V} {vs : List Value}, VRs scr β h ds vs → (ps.zip ds).lookup x = some d → ∃ v, (ps.zip vs).lookup x = some v ∧ VR scr β h d v
  | [], _, _, _, e => by simp at e
  | _ :: _, [], _, _, e => by simp at e
  | p :: ps, d' :: ds, vs, r, e => by
    obtain ⟨v, r', rfl, r1, r2⟩ := r.uncons
    simp only [List.zip_cons_cons, List.lookup_cons] at e ⊢
    cases q : x == p with
    | true => rw [q] at e; simp only [Option.some.injEq] at e; subst e; exact ⟨v, rfl, r1⟩
    | false => rw [q] at e; exact zip_vr ps r2 e

structure FnAt (W : Wk) (f : Addr) (fd : FuncData) : Prop where
  at_ : ∃ o, W.base.get? f = some o ∧ o.data = .func fd
  code : W.base.CodeRec fd.code fd.qualname

section
variable {W : Wk} {k : Nat} {l : List Env} {σ : Store} {X : Store → Prop} {Q : V → Store → Prop}

theorem CC_def {fd : FuncData} {f : Addr} {ps : List String} {body : List Stmt} {ds : List V} (hf : FnAt W f fd) (hbody : fd.body = .stmts body) (hclo : fd.closure = []) (hg : fd.globals = mainGlobals) (hb : fd.builtins = builtinsNs)
    (hbind : ∀ vs : List Value, vs.length = ps.length → bindArgs fd ⟨vs, []⟩ = pure ((ps.map Str.ofString).zip vs)) (hlen : ds.length = ps.length) (hnd : ps.Nodup)
    (hkind : ∀ x ∈ ps, fd.scope.names.lookup (Str.ofString x) = some .local ∨ fd.scope.names.lookup (Str.ofString x) = some .cell)
    (hco : fd.scope.isCoroutine = false) (hgen : fd.scope.isGenerator = false) (hk : fd.scope.kind = .function)
    (hcn : ((cellsFrom 0 fd.scope.names []).map (·.1)).Nodup)
    (h : ∀ F : Fm, FnEnv F → F.l = F.env :: l → F.env.scope = fd.scope → SX W k F (ps.zip ds) σ body (fun _ σ' => Q .none σ') Q X) : CC W (k + 1) l σ (.ref f) ds Q X := by
  intro A β s vs ao wd rv QC EC hQ hX
  obtain ⟨o, ho, hd⟩ := hf.at_
  have hvs : vs.length = ps.length := rv.length.symm.trans hlen
  refine wpC_call (C_call_cells ao.rl (wd.base _ _ ho) hd (W.hT.nolimit.keeps wd.base) (hf.code.keeps wd.base) hbody (hbind vs hvs) hclo ?_ ?_ hco hgen hk)
  · intro b hbm
    obtain ⟨y, hy, e⟩ := List.mem_map.mp (List.of_mem_zip hbm).1
    rw [← e]
    exact (hkind y hy).imp_right fun q => ⟨q, cellsFrom_some _ _ _ (.inl q)⟩
  intro s₁ ic
  obtain ⟨⟨⟨h₁, tk₁, rfl⟩, hns, hkeep, hfresh⟩, hcell, hapart, habove⟩ := ic
  have hLe : (callEnvC fd s.heap.objs.size f).locals = s.heap.objs.size := rfl
  have hn : ∀ a, s.heap.objs.size ≤ a → s.heap.get? a = none := fun a q => by
    cases z : s.heap.get? a with
    | none => rfl
    | some o => exact absurd (Heap.lt_size z) (Nat.not_lt.mpr q)
  have hbn : ∀ a, s.heap.get? a = none → W.base.get? a = none := fun a q => by
    cases z : W.base.get? a with
    | none => rfl
    | some o => rw [wd.base _ _ z] at q; cases q
  generalize hen : callEnvC fd s.heap.objs.size f = env at *
  have e1 : env.globals = fd.globals := by rw [← hen]; rfl
  have e2 : env.builtins = fd.builtins := by rw [← hen]; rfl
  have e3 : env.scope = fd.scope := by rw [← hen]; rfl
  have e4 : env.frame = some env.locals := by rw [← hen]; rfl
  have e5 : env.cells = cellsFrom (s.heap.objs.size + 1) fd.scope.names [] := by rw [← hen]; rfl
  have hcn' : (env.cells.map (·.1)).Nodup := by rw [e5, cellsFrom_names fd.scope.names _ 0 [] [] rfl]; exact hcn
  have hgl : ∃ o, W.base.get? mainGlobals = some o := let ⟨o, _, _, e, _⟩ := W.hT.g; ⟨o, e⟩
  let F : Fm := ⟨env, env :: l, env.locals :: env.cells.map (·.2)⟩
  have ownN : ∀ a ∈ F.own, s.heap.get? a = none := fun a m => by
    rcases List.mem_cons.mp m with rfl | m
    · exact hn _ hfresh
    · obtain ⟨p, hp, rfl⟩ := List.mem_map.mp m
      exact hn _ (Nat.le_of_lt (Nat.lt_of_le_of_lt hfresh (habove p.1 p.2 hp)))
  have fn : FnEnv F := ⟨⟨l, rfl⟩, fun x c e => List.mem_cons_of_mem _ (List.mem_map.mpr ⟨(x, c), mem_of_lookup e, rfl⟩)⟩
  have eok : EnvOK F := {
    glob := e1.trans hg
    blt := e2.trans hb
    kind := by show env.scope.kind = .function; rw [e3]; exact hk
    fr := ⟨env, l, rfl, rfl⟩
    ownL := .head _
    ne := by
      show env.locals ≠ env.globals
      rw [e1, hg]
      intro q
      obtain ⟨o, e⟩ := hgl
      rw [hbn _ (q ▸ hn _ hfresh)] at e; cases e }
  have vk : ∀ d v, VR W.scr β s.heap d v → VR W.scr β h₁ d v := fun d v r => VR.mono (fun _ _ t => t.keeps hkeep) (fun _ _ e => e) d v r
  have hnsL : ∃ o es n, h₁.get? env.locals = some o ∧ o.data = .dict es n := let ⟨o, es, ep, e, d, _⟩ := hns; ⟨o, es, ep, e, d⟩
  have wd₁ : Wd W F.l σ β h₁ := by
    have x := wd.ext hkeep
    refine ⟨x.base, fun en m => ?_, x.len, x.sto, x.nd, x.new⟩
    rcases List.mem_cons.mp m with q | m
    · obtain ⟨o, es, n, q1, q2⟩ := hnsL
      rw [q]
      exact ⟨by rw [e3, hk]; decide, env.locals, o, es, n, e4, hbn _ (hn _ hfresh), q1, q2⟩
    · exact x.fr en m
  have st₁ : St W F (ps.zip ds) σ β h₁ := by
    refine ⟨eok, wd₁, ⟨⟨_, hns, fun x d e kl => ?_⟩, fun x c e => ⟨_, hcell x c e⟩, fun x kc => ?_, fun x d kc e => ?_, fun x y c q1 q2 => ?_, fun a m => ⟨hbn _ (ownN a m), ?_⟩⟩⟩
    · obtain ⟨v, q1, q2⟩ := zip_vr ps rv e
      exact ⟨v, bindL_get ps vs _ hnd q1 kl, vk _ _ q2⟩
    · have kc' : fd.scope.names.lookup (Str.ofString x) = some .cell := by rw [← e3]; exact kc
      exact Option.isSome_iff_exists.mp (by show (env.cells.lookup _).isSome = true; rw [e5]; exact cellsFrom_some _ _ _ (.inl kc'))
    · have kc' : fd.scope.names.lookup (Str.ofString x) = some .cell := by rw [← e3]; exact kc
      obtain ⟨c, hc⟩ := Option.isSome_iff_exists.mp (show (env.cells.lookup (Str.ofString x)).isSome = true by rw [e5]; exact cellsFrom_some _ _ _ (.inl kc'))
      obtain ⟨v, q1, q2⟩ := zip_vr ps rv e
      refine ⟨c, v, hc, ?_, vk _ _ q2⟩
      have := hcell _ _ hc
      rwa [bindC_get ps vs _ hnd q1 kc] at this
    · exact name_of_addr hapart (mem_of_lookup q1) (mem_of_lookup q2)
    · rcases List.mem_cons.mp m with rfl | m
      · obtain ⟨o, es, n, q1, q2⟩ := hnsL
        exact ⟨o, q1, .inl ⟨es, n, q2⟩⟩
      · obtain ⟨p, hp, rfl⟩ := List.mem_map.mp m
        obtain ⟨o, q1, q2⟩ := hcell p.1 p.2 (lookup_of_mem_nodup hcn' hp)
        exact ⟨o, q1, .inr ⟨_, q2⟩⟩
  have ao₁ : AOK k (A.deeper env) F.l := ⟨by show A.frames.map (env :: ·) = _; rw [ao.fr]; rfl, ao.hd, by have := ao.dp; show A.depth + 1 + 2 * k ≤ 990; omega, by have := ao.un; show A.units + 3 + 20 * k ≤ 9800; omega, ao.gd⟩
  have back : ∀ {β' h'}, Go F.l F.own β h₁ β' h' → Go l [] β s.heap β' h' := fun g => Go.ret hkeep ownN e4 (hn _ hfresh) g
  have less : ∀ {σ' β' h'}, Wd W F.l σ' β' h' → Wd W l σ' β' h' := fun x => ⟨x.base, fun en m => x.fr en (.tail _ m), x.len, x.sto, x.nd, x.new⟩
  refine h F fn rfl e3 (A.deeper env) β _ _ _ ao₁ st₁ (fun ρ' σ' β' h' tk st' g' q' => ?_) (fun v d σ' β' h' tk st' g' r' q' => ?_) fun e σ' β' h' tk f x => ?_
  · exact hQ _ .none σ' β' h' tk (less st'.wd) (back g') (by simp only [VR]) q'
  · exact hQ v d σ' β' h' tk (less st'.wd) (back g') r' q'
  · refine Flt.leave (s := { s with heap := h', toks := tk }) f ao₁.fr rfl e4 fun h'' T x'' => ?_
    have live : ∀ a, h₁.get? a = none → s.heap.get? a = none := fun a q => by
      cases z : s.heap.get? a with
      | none => rfl
      | some o => rw [hkeep _ _ z] at q; cases q
    exact hX e σ' β' h'' tk ⟨less x''.st.wd, back x''.go, ⟨T, x''.fl, live _ (x''.new T (by simp [exOf])).1, (x''.new T (by simp [exOf])).2⟩, live _ (x''.new e (by simp [exOf])).1, (x''.new e (by simp [exOf])).2⟩ x
end
end Mine

open PySem PySem.W PySem.Calls PyProof.Rows
set_option Elab.async false
set_option maxRecDepth 100000
namespace Mine
section
variable {W : Wk} {k : Nat} {F : Fm} {ρ : LEnv} {σ : Store} {X : Store → Prop} {Q : V → Store → Prop}

/-- a callee that the model's machine calls plainly -/
def Callee (W : Wk) : Value → Prop
  | .type _ => True
  | .builtin _ => True
  | f => keepIn W.K f = true

theorem keeper_of {W : Wk} {cv : Value} (hc : Callee W cv) {h : Heap} (hb : W.base.StaysIn h) : ∃ k, (k = Keeper.frame ∨ k = Keeper.machine ∨ k = Keeper.boundFrame) ∧ Looks (model W.prog W.w) h (keeperOf cv) k := by
  cases cv with
  | type T => exact ⟨.machine, .inr (.inl rfl), .of_pure rfl⟩
  | builtin id => exact ⟨.machine, .inr (.inl rfl), .of_pure rfl⟩
  | ref a => exact keeps_K hc h (W.hK.keeps hb)
  | none => exact absurd (show false = true from hc) (by decide)
  | ellipsis => exact absurd (show false = true from hc) (by decide)
  | notImplemented => exact absurd (show false = true from hc) (by decide)
  | bool b => exact absurd (show false = true from hc) (by decide)
  | int i t => exact absurd (show false = true from hc) (by decide)
  | float b t => exact absurd (show false = true from hc) (by decide)
  | str x t => exact absurd (show false = true from hc) (by decide)
  | bytes b t => exact absurd (show false = true from hc) (by decide)
theorem SE_call {x : String} {np pos : Pos} {cv : Value} {e : Expr} {r : List Expr} (g : Glb W F x cv) (hc : Callee W cv) (h : SL W k F ρ σ pos (e :: r) (fun ds σ₁ => CC W k F.l σ₁ cv ds Q X) X)
    (he : starEach (e :: r) F.env = (false, eval e F.env) :: starEach r F.env := by rfl) (hp : (backTo pos (starEach r F.env)).any (·.1) = false := by rfl) :
    SE W k F ρ σ (.Call (.Name (Str.ofString x) np) (e :: r) [] pos) Q X := by
  intro A β s QC EC ao st hQ hX
  refine C_Call_Name (wpC_of (g.ev st ?_))
  refine C_callWith (by rw [he]; show (false || (backTo pos (starEach r F.env)).any (·.1)) = false; rw [hp]; rfl) ?_
  have h' : wpC (model W.prog W.w) A (spliced (backTo pos (starEach (e :: r) F.env))) (fun vs s₁ => (∃ k, (k = Keeper.frame ∨ k = Keeper.machine ∨ k = Keeper.boundFrame) ∧ Looks (model W.prog W.w) s₁.heap (keeperOf cv) k) ∧ ([] : List (Str × Value)) = [] ∧ wpC (model W.prog W.w) A (call cv ([] ++ vs)) QC EC s₁) EC s :=
    h A β s _ EC ao st (fun vs d σ' β' h' tk st' g' r' c' => ⟨keeper_of hc st'.wd.base, rfl, (c' A β' { s with heap := h', toks := tk } vs ao st'.wd r').run st' g' (fun _ _ => rfl) hQ hX⟩) hX
  rw [he] at h' ⊢
  exact C_evalArgs h'

/-- a type called with no arguments -/
theorem SE_call0 {x : String} {np pos : Pos} {T : String} (g : Glb W F x (.type T)) (h : CC W k F.l σ (.type T) [] Q X) : SE W k F ρ σ (.Call (.Name (Str.ofString x) np) [] [] pos) Q X := by
  intro A β s QC EC ao st hQ hX
  refine C_Call_Name (wpC_of (g.ev st ?_))
  refine C_callWith rfl (wpC_of (evalArgs_nil3 ⟨⟨.machine, .inr (.inl rfl), .of_pure rfl⟩, rfl, ?_⟩))
  exact (h A β s [] ao st.wd VRs.nil).run st (.refl ..) (fun _ _ => rfl) hQ hX

/-- an item -/
abbrev SI (W : Wk) (k : Nat) (l : List Env) (σ : Store) (value slice : Expr) (d₁ d₂ : V) (Q : V → Store → Prop) (X : Store → Prop) : Prop :=
  ∀ (A : Around) (β : List Addr) (s : Shared) (a b : Value), AOK k A l → Wd W l σ β s.heap → VR W.scr β s.heap d₁ a → VR W.scr β s.heap d₂ b → WT VR W l β s A (subscriptTail value slice a b) Q X
theorem SE_sub {value slice : Expr} {pos : Pos} (h : SE W k F ρ σ value (fun o σ₁ => SE W k F ρ σ₁ slice (fun i σ₂ => SI W k F.l σ₂ value slice o i Q X) X) X) : SE W k F ρ σ (.Subscript value slice pos) Q X := by
  intro A β s QC EC ao st hQ hX
  refine C_Subscript (h A β s _ EC ao st (fun a d σ₁ β₁ h₁ t₁ st₁ g₁ r₁ q₁ => ?_) hX)
  refine q₁ A β₁ _ _ EC ao st₁ (fun b d' σ₂ β₂ h₂ t₂ st₂ g₂ r₂ q₂ => ?_) (fun e σ' β' h' tk f x => hX e σ' β' h' tk (f.back g₁) x)
  exact (q₂ A β₂ { s with heap := h₂, toks := t₂ } a b ao st₂.wd (st₁.vr g₂ r₁) r₂).run st₂ (g₁.trans g₂) (fun _ _ => rfl) hQ hX

/-- a part of a slice: none, or an int -/
def OPart (W : Wk) (k : Nat) (F : Fm) (ρ : LEnv) (σ : Store) : Option Expr → (Option Int → Store → Prop) → (Store → Prop) → Prop
  | none, Q, _ => Q none σ
  | some e, Q, X => SE W k F ρ σ e (fun d σ' => ∃ i, d = .int i ∧ Q (some i) σ') X
abbrev slObj (u v : Value) : Obj := { cls := .type "slice", data := .fields #[u, v, .none] }
abbrev SSl (W : Wk) (k : Nat) (l : List Env) (σ : Store) (value slice : Expr) (d₁ : V) (lo hi : Option Int) (Q : V → Store → Prop) (X : Store → Prop) : Prop :=
  ∀ (A : Around) (β : List Addr) (s : Shared) (a u v : Value) (QC : Value → Shared → Prop) (EC : Value → Shared → Prop), AOK k A l → Wd W l σ β s.heap → VR W.scr β s.heap d₁ a → IsPart u lo → IsPart v hi →
    (∀ a d σ' β' h' tk, Wd W l σ' β' h' → Go l [] β s.heap β' h' → VR W.scr β' h' d a → Q d σ' → QC a { s with heap := h', toks := tk }) →
    wpC (model W.prog W.w) A (subscriptTail value slice a (.ref s.heap.objs.size)) QC EC { s with heap := s.heap.push (slObj u v) }

theorem part_of {lower : Option Expr} {Q' : Option Int → Store → Prop} (h : OPart W k F ρ σ lower Q' X) {A : Around} {β : List Addr} {s : Shared} {K : Value → Shared → Prop} {EC : Value → Shared → Prop} (ao : AOK k A F.l) (st : St W F ρ σ β s.heap)
    (hK : ∀ v i σ' β' h' tk, St W F ρ σ' β' h' → Go F.l F.own β s.heap β' h' → IsPart v i → Q' i σ' → K v { s with heap := h', toks := tk })
    (hX : ∀ e σ' β' h' tk, Flt W F β s.heap e σ' β' h' → X σ' → EC (.ref e) { s with heap := h', toks := tk }) : wpC (model W.prog W.w) A (valueOrNone (evalOpt lower F.env)) K EC s := by
  cases lower with
  | none => exact wpC_pure (hK .none none σ β s.heap s.toks st (.refl ..) .none h)
  | some e =>
    refine h A β s _ EC ao st (fun v d σ' β' h' tk st' g' r' q' => ?_) hX
    obtain ⟨i, rfl, q'⟩ := q'
    simp only [VR] at r'
    obtain ⟨t, rfl⟩ := r'
    exact hK _ (some i) σ' β' h' tk st' g' (.int i t) q'

theorem SE_slice {value : Expr} {lower upper : Option Expr} {p pos : Pos}
    (h : SE W k F ρ σ value (fun o σ₁ => OPart W k F ρ σ₁ lower (fun lo σ₂ => OPart W k F ρ σ₂ upper (fun hi σ₃ => SSl W k F.l σ₃ value (.Slice lower upper none p) o lo hi Q X) X) X) X) :
    SE W k F ρ σ (.Subscript value (.Slice lower upper none p) pos) Q X := by
  intro A β s QC EC ao st hQ hX
  refine C_Subscript (h A β s _ EC ao st (fun a d σ₁ β₁ h₁ t₁ st₁ g₁ r₁ q₁ => ?_) hX)
  rw [arm_eval_Slice]
  refine wpC_bind (part_of (s := { s with heap := h₁, toks := t₁ }) q₁ ao st₁ (fun u lo σ₂ β₂ h₂ t₂ st₂ g₂ r₂ q₂ => wpC_bind (wpC_holding ?_)) fun e σ' β' h' tk f x => hX e σ' β' h' tk (f.back g₁) x)
  refine part_of (s := { s with heap := h₂, toks := t₂ }) q₂ ao st₂ (fun v hi σ₃ β₃ h₃ t₃ st₃ g₃ r₃ q₃ => ?_) fun e σ' β' h' tk f x => hX e σ' β' h' tk (f.back (g₁.trans g₂)) x
  refine wpC_bind (wpC_holding (wpC_pure ?_))
  refine wpC_of (wpAny_newObj_type ?_)
  exact q₃ A β₃ { s with heap := h₃, toks := t₃ } a u v QC EC ao st₃.wd (st₂.vr g₃ (st₁.vr g₂ r₁)) r₂ r₃
    fun a d σ' β' h' tk w' g' r' q' => hQ a d σ' β' h' tk (st₃.lift g' w') (((g₁.trans g₂).trans g₃).trans (g'.more fun _ m => nomatch m)) r' q'
end
end Mine

open PySem PySem.W PySem.Calls PyProof.Rows
set_option Elab.async false
set_option maxRecDepth 100000
namespace Mine

/-- an iterator at I over ds; need: what the store must still hold; P: where it stands -/
structure Itr (W : Wk) (l : List Env) (I : Addr) (ds : List V) (need : Store → Prop) (P : Nat → List Addr → Heap → Prop) : Prop where
  rec_ : ∀ i β h, P i β h → ∃ o vs, h.get? I = some o ∧ o.data = .fields vs
  go : ∀ i σ β h β' h' own, Wd W l σ β h → (∀ a ∈ own, ∃ o, h.get? a = some o ∧ ((∃ es n, o.data = .dict es n) ∨ ∃ v, o.data = .cell v)) → Go l own β h β' h' → P i β h → P i β' h'
  item : ∀ (A : Around) (k : Nat) i (σ : Store) β (s : Shared) d QC (EC : Value → Shared → Prop), AOK k A l → Wd W l σ β s.heap → need σ → P i β s.heap → ds[i]? = some d →
    (∀ v h' tk, VR W.scr β h' d v → P (i + 1) β h' → (∀ b o, b ≠ I → s.heap.get? b = some o → h'.get? b = some o) → QC (some v) { s with heap := h', toks := tk }) → wpAny (model W.prog W.w) A (pyNext (.ref I)) QC EC s
  done : ∀ (A : Around) (k : Nat) i (σ : Store) β (s : Shared) QC (EC : Value → Shared → Prop), AOK k A l → Wd W l σ β s.heap → need σ → P i β s.heap → ds[i]? = none →
    (∀ h' tk, (∀ b o, b ≠ I → s.heap.get? b = some o → h'.get? b = some o) → QC none { s with heap := h', toks := tk }) → wpAny (model W.prog W.w) A (pyNext (.ref I)) QC EC s
  quiet : ∀ i β h, P i β h → ∃ o T, h.get? I = some o ∧ o.cls = .type T ∧ (["enumerate", "zip", "dict_itemiterator", "dict_reverseitemiterator", "odict_iterator", "itertools.zip_longest", "itertools.pairwise"] : List String).contains T = false
  self : ∀ (A : Around) i β (s : Shared) QC (EC : Value → Shared → Prop), P i β s.heap → QC (.ref I) s → wpAny (model W.prog W.w) A (pyIter (.ref I)) QC EC s

/-- the head of a loop: an iterator is made -/
def SIt (W : Wk) (k : Nat) (F : Fm) (ρ : LEnv) (σ : Store) (iter : Expr) (Q : List V → (Store → Prop) → Store → Prop) (X : Store → Prop) : Prop :=
  ∀ (A : Around) (β : List Addr) (s : Shared) (K : Value → Shared → Prop) (EC : Value → Shared → Prop), AOK k A F.l → St W F ρ σ β s.heap →
    (∀ I ds need P σ' β' h' tk, St W F ρ σ' β' h' → Go F.l F.own β s.heap β' h' → Itr W F.l I ds need P → P 0 β' h' → s.heap.get? I = none → W.base.get? I = none → Q ds need σ' → K (.ref I) { s with heap := h', toks := tk }) →
    (∀ e σ' β' h' tk, Flt W F β s.heap e σ' β' h' → X σ' → EC (.ref e) { s with heap := h', toks := tk }) →
    wpC (model W.prog W.w) A (eval iter F.env) (fun x s₁ => wpAny (model W.prog W.w) A (pyIter x) K EC s₁) EC s

section
variable {W : Wk} {k : Nat} {F : Fm} {ρ : LEnv} {σ : Store} {X : Store → Prop} {Q : V → Store → Prop} {Qn : LEnv → Store → Prop} {Qr : V → Store → Prop}

theorem SIt.mono {iter : Expr} {Q Q' : List V → (Store → Prop) → Store → Prop} (x : SIt W k F ρ σ iter Q X) (h : ∀ ds need σ', Q ds need σ' → Q' ds need σ') : SIt W k F ρ σ iter Q' X :=
  fun A β s K EC ao st hK hX => x A β s K EC ao st (fun I ds need P σ' β' h' tk a1 a2 a3 a4 a5 a6 q => hK I ds need P σ' β' h' tk a1 a2 a3 a4 a5 a6 (h _ _ _ q)) hX

theorem Itr.nt {I : Addr} {ds : List V} {need : Store → Prop} {P : Nat → List Addr → Heap → Prop} (it : Itr W F.l I ds need P) {i : Nat} {β : List Addr} {h : Heap} (p : P i β h) (hb : W.base.get? I = none) : Recs W [I] h := fun a m => by
  rw [List.mem_singleton.mp m]; exact ⟨hb, it.rec_ i β h p⟩

theorem S1_for {x : String} {xp pos : Pos} {iter : Expr} {body : List Stmt} (hx : SK F x) (fn : FnEnv F)
    (h : SIt W k F ρ σ iter (fun ds need σ₁ => ∃ J : Nat → LEnv → Store → Prop, J 0 ρ σ₁ ∧
      (∀ i ρ' σ', J i ρ' σ' → need σ') ∧
      (∀ i d ρ' σ', J i ρ' σ' → ds[i]? = some d → SX W k F (upd ρ' x d) σ' body (fun ρ'' σ'' => J (i + 1) ρ'' σ'') Qr X) ∧
      (∀ ρ' σ', J ds.length ρ' σ' → Qn ρ' σ')) X)
    (hs : ∀ v, foldedSetIterable iter F.env v = pure v := by intro _; rfl) : S1 W k F ρ σ (.For (.Name (Str.ofString x) xp) iter body [] pos) Qn Qr X := by
  intro A β s QC EC ao s0 h1 h2 h3
  refine C_For (h A β s _ EC ao s0 (fun I ds need P σ₁ β₁ h₁ t₁ st₁ g₁ it p₁ hI hIb q₁ => ?_) h3) hs
  obtain ⟨J, j0, jn, jt, jd⟩ := q₁
  have ok := fun (h' : Heap) (x : St W F [] σ₁ β₁ h') => x
  refine C_forLoop (fun n s' => ∃ i ρ' σ' β' h' tk, n = ds.length - i ∧ i ≤ ds.length ∧ s' = { s with heap := h', toks := tk } ∧ St W F ρ' σ' β' h' ∧ Go F.l F.own β s.heap β' h' ∧ P i β' h' ∧ J i ρ' σ')
    (fun n s' hJ => ?_) ds.length ⟨0, ρ, σ₁, β₁, h₁, t₁, rfl, Nat.zero_le _, rfl, st₁, g₁, p₁, j0⟩
  obtain ⟨i, ρ', σ', β', h', tk, hn, hi, rfl, st', g', p', j'⟩ := hJ
  cases hd : ds[i]? with
  | none =>
    refine it.done A k i σ' β' { s with heap := h', toks := tk } _ _ ao st'.wd (jn _ _ _ j') p' hd fun h'' tk'' kp => ?_
    have hi' : i = ds.length := Nat.le_antisymm hi (List.getElem?_eq_none_iff.mp hd)
    subst hi'
    have nt := Nt.one (l := F.l) kp
    exact wpC_of <| wpAny_execs_nil (h1 ρ' σ' β' h'' tk'' (st'.nt (it.nt p' hIb) nt) (g'.nt (fun a m => by rw [List.mem_singleton.mp m]; exact hI) nt) (jd _ _ j'))
  | some d =>
    refine it.item A k i σ' β' { s with heap := h', toks := tk } d _ _ ao st'.wd (jn _ _ _ j') p' hd fun v h'' tk'' r'' p'' kp => ?_
    have nt := Nt.one (l := F.l) kp
    have st'' := st'.nt (it.nt p' hIb) nt
    have g'' := g'.nt (fun a m => by rw [List.mem_singleton.mp m]; exact hI) nt
    show wpAny _ A (assign (.Name (Str.ofString x) xp) F.env v) _ _ _
    refine wpAny_assign_Name (st_store (s := { s with heap := h'', toks := tk'' }) st'' r'' hx fun h₃ tk₃ st₃ g₃ => ?_)
    have own_k : ∀ a ∈ F.own, ∃ o, h''.get? a = some o ∧ ((∃ es n, o.data = .dict es n) ∨ ∃ v, o.data = .cell v) := fun a m => (st''.loc.ownk a m).2
    have p₃ := it.go (i + 1) σ' β' h'' β' h₃ F.own st''.wd own_k g₃ p''
    refine jt i d ρ' σ' j' hd A β' { s with heap := h₃, toks := tk₃ } _ _ ao st₃ (fun ρ₄ σ₄ β₄ h₄ tk₄ st₄ g₄ j₄ => ?_) (fun w dd σ₄ β₄ h₄ tk₄ st₄ g₄ r₄ q₄ => ?_) fun e σ₄ β₄ h₄ tk₄ f x => ?_
    · have hlt : i < ds.length := (List.getElem?_eq_some_iff.mp hd).1
      exact ⟨ds.length - (i + 1), by omega, i + 1, ρ₄, σ₄, β₄, h₄, tk₄, rfl, hlt, rfl, st₄, (g''.trans g₃).trans g₄, it.go (i + 1) σ' β' h₃ β₄ h₄ F.own st₃.wd (fun a m => (st₃.loc.ownk a m).2) g₄ p₃, j₄⟩
    · exact h2 w dd σ₄ β₄ h₄ tk₄ st₄ ((g''.trans g₃).trans g₄) r₄ q₄
    · obtain ⟨outer, hl⟩ := fn.top
      obtain ⟨_, L, _, _, _, hL, _⟩ := st₃.wd.fr F.env (by rw [hl]; exact .head _)
      exact Flt.loop (s := { s with heap := h₄, toks := tk₄ }) (f.back (g''.trans g₃)) ao.fr hl hL fun h₅ f₅ => h3 e σ₄ β₄ h₅ tk₄ f₅ x

theorem S1_unpack {x y : String} {px py tp pos : Pos} {n : Nat} {value : Expr} (hx : SK F x) (hy : SK F y)
    (h : SE W k F ρ σ value (fun d σ' => ∃ d₁ d₂, d = .tup [d₁, d₂] ∧ Qn (upd (upd ρ x d₁) y d₂) σ') X)
    (hs : swapsWithSole [.Tuple [.Name (Str.ofString x) px, .Name (Str.ofString y) py] n tp] value pos.line F.env = pure false := by rfl)
    (hw : swappedStores [.Tuple [.Name (Str.ofString x) px, .Name (Str.ofString y) py] n tp] value F.env = pure none := by rfl) :
    S1 W k F ρ σ (.Assign [.Tuple [.Name (Str.ofString x) px, .Name (Str.ofString y) py] n tp] value pos) Qn Qr X := by
  intro A β s QC EC ao s0 h1 h2 h3
  refine C_Assign_Tuple (h A β s _ EC ao s0 (fun v d σ₁ β₁ h₁ t₁ st₁ g₁ r₁ q₁ => ?_) h3) hs hw
  obtain ⟨d₁, d₂, rfl, q₁⟩ := q₁
  simp only [VR] at r₁
  obtain ⟨a, xs, rfl, ht, r₁⟩ := r₁
  obtain ⟨v₁, _, rfl, ra, rr⟩ := r₁.uncons
  obtain ⟨v₂, _, rfl, rb, rc⟩ := rr.uncons
  simp only [VRs] at rc
  subst rc
  refine wpAny_assign_Tuple (s := { s with heap := h₁, toks := t₁ }) ao.hd ht rfl rfl fun h' he => ?_
  have kk : ∀ b o, h₁.get? b = some o → h'.get? b = some o := fun b o e => he b o (Nat.ne_of_lt (Heap.lt_size e)) e
  have st₂ := st₁.lift (.ext kk) (st₁.wd.ext kk)
  have vk : ∀ d v, VR W.scr β₁ h₁ d v → VR W.scr β₁ h' d v := fun d v r => VR.mono (fun _ _ t => t.keeps kk) (fun _ _ e => e) d v r
  have g₂ : Go F.l F.own β s.heap β₁ h' := g₁.trans (.ext kk)
  show wpAny _ A (assignInOrder [assign (.Name (Str.ofString x) px) F.env, assign (.Name (Str.ofString y) py) F.env] [v₁, v₂]) _ _ _
  refine wpAny_assignInOrder_more (wpAny_assign_Name (st_store (s := { s with heap := h', toks := t₁ }) st₂ (vk _ _ ra) hx fun h₃ t₃ st₃ g₃ => ?_))
  refine wpAny_assignInOrder_more (wpAny_assign_Name (st_store (s := { s with heap := h₃, toks := t₃ }) st₃ (st₂.vr g₃ (vk _ _ rb)) hy fun h₄ t₄ st₄ g₄ => ?_))
  exact wpAny_assignInOrder_none (h1 _ _ _ _ _ st₄ ((g₂.trans g₃).trans g₄) q₁)

/-- a pair of names given a pair of expressions, the stores exchanged -/
theorem S1_swapped {x y : String} {px py tp pos : Pos} {n : Nat} {value : Expr} (hx : SK F x) (hy : SK F y)
    (h : SE W k F ρ σ value (fun d σ' => ∃ d₁ d₂, d = .tup [d₁, d₂] ∧ Qn (upd (upd ρ y d₂) x d₁) σ') X)
    (hs : swapsWithSole [.Tuple [.Name (Str.ofString x) px, .Name (Str.ofString y) py] n tp] value pos.line F.env = pure false)
    (hw : swappedStores [.Tuple [.Name (Str.ofString x) px, .Name (Str.ofString y) py] n tp] value F.env = pure (some [Str.ofString x, Str.ofString y])) :
    S1 W k F ρ σ (.Assign [.Tuple [.Name (Str.ofString x) px, .Name (Str.ofString y) py] n tp] value pos) Qn Qr X := by
  intro A β s QC EC ao s0 h1 h2 h3
  refine C_Assign_swapped (h A β s _ EC ao s0 (fun v d σ₁ β₁ h₁ t₁ st₁ g₁ r₁ q₁ => ?_) h3) hs hw
  obtain ⟨d₁, d₂, rfl, q₁⟩ := q₁
  simp only [VR] at r₁
  obtain ⟨a, xs, rfl, ht, r₁⟩ := r₁
  obtain ⟨v₁, _, rfl, ra, rr⟩ := r₁.uncons
  obtain ⟨v₂, _, rfl, rb, rc⟩ := rr.uncons
  simp only [VRs] at rc
  subst rc
  refine wpAny_unpackItems_tuple (s := { s with heap := h₁, toks := t₁ }) (items := [v₁, v₂].toArray) ao.hd ht fun h' he => ?_
  have kk : ∀ b o, h₁.get? b = some o → h'.get? b = some o := fun b o e => he b o (Nat.ne_of_lt (Heap.lt_size e)) e
  have st₂ := st₁.lift (.ext kk) (st₁.wd.ext kk)
  have vk : ∀ d v, VR W.scr β₁ h₁ d v → VR W.scr β₁ h' d v := fun d v r => VR.mono (fun _ _ t => t.keeps kk) (fun _ _ e => e) d v r
  have g₂ : Go F.l F.own β s.heap β₁ h' := g₁.trans (.ext kk)
  show wpAny _ A (assignInOrder [bindName F.env (Str.ofString y), bindName F.env (Str.ofString x)] [v₂, v₁]) _ _ _
  refine wpAny_assignInOrder_more (wpAny_bindName (st_store (s := { s with heap := h', toks := t₁ }) st₂ (vk _ _ rb) hy fun h₃ t₃ st₃ g₃ => ?_))
  refine wpAny_assignInOrder_more (wpAny_bindName (st_store (s := { s with heap := h₃, toks := t₃ }) st₃ (st₂.vr g₃ (vk _ _ ra)) hx fun h₄ t₄ st₄ g₄ => ?_))
  exact wpAny_assignInOrder_none (h1 _ _ _ _ _ st₄ ((g₂.trans g₃).trans g₄) q₁)

theorem mapSeq_set_plain (its : Array Value) (n j : Nat) (v : Value) : Obj.mapSeq (·.setIfInBounds j v) { cls := .type "list", data := .seq its n } = { cls := .type "list", data := .seq (its.setIfInBounds j v) n } := by
  simp [Obj.mapSeq]
theorem setItem_plain {A : Around} {E : Value → Shared → Prop} {s : Shared} {l : Addr} {items : Array Value} {k : Int} {t : Tok} {v : Value} {Q : Unit → Shared → Prop} (hl : s.heap.PlainList l items)
    (h0 : 0 ≤ k) (hfit : k < 2 ^ 63) (hn : k < items.size)
    (hQ : ∀ h', h'.PlainList l (items.setIfInBounds k.toNat v) → Heap.SameBut l s.heap h' → Q () { s with heap := h' }) :
    wpAny (model W.prog W.w) A (setItem (.ref l) (.int k t) v) Q E s := by
  have hli := hl.isList
  obtain ⟨ne, ho⟩ := hl
  unfold setItem
  try with_reducible refine wpAny_holding ?_
  first | refine wpAny_bind (wpAny_pure ?_) | skip
  refine wpAny_bind (wpAny_sequenceKey hli.typeIs (by decide) ?_)
  refine wpAny_bind (wpAny_callSpecial?_slot (name := Str.ofString "__setitem__") hli.typeIs slot_list_setitem
    (wpAny_call_entry slot_list_setitem hli.typeIs entry_list_setitem ?_ (args_list_setitem _ _ _)))
  show wpAny _ _ (Builtin.List.listSubscript? (.int k t) >>= _) _ _ s
  refine wpAny_bind (wpAny_listSubscript_int (fitsIndex_of h0 hfit) ?_)
  clear hfit
  obtain ⟨j, rfl⟩ := Int.eq_ofNat_of_zero_le h0
  have hj : j < items.size := by omega
  have hx' : items[j]? = some items[j] := Array.getElem?_eq_getElem hj
  show wpAny _ _ ((seqItemAt l j >>= fun r => pure (r.map (j, ·))) >>= _) _ _ s
  refine wpAny_bind (wpAny_bind (wpAny_seqItemAt ho rfl (wpAny_pure ?_)))
  rw [hx']
  show wpAny _ _ (setSeqItemAt l j v >>= _) _ _ s
  have hfin : (s.heap.update l (Obj.mapSeq (·.setIfInBounds j v))).PlainList l (items.setIfInBounds j v) :=
    ⟨ne, by rw [Heap.get?_update_self _ ho (by rw [mapSeq_set_plain]; rfl), mapSeq_set_plain]⟩
  refine wpAny_bind (wpAny_setSeqItemAt ho rfl ?_)
  first
    | exact wpAny_bind (wpAny_pure (wpAny_pure ⟨.none, rfl, wpAny_pure (hQ _ hfin (Heap.SameBut.update ..))⟩))
    | exact wpAny_pure ⟨.none, rfl, wpAny_pure (hQ _ hfin (Heap.SameBut.update ..))⟩

/-- an item of a list is set -/
theorem S1_setitem {o i value : Expr} {p pos : Pos}
    (h : SE W k F ρ σ value (fun d σ₁ => SE W k F ρ σ₁ o (fun ov σ₂ => SE W k F ρ σ₂ i (fun iv σ₃ => ∃ n j ds, ov = .obj n ∧ iv = .int j ∧ 0 ≤ j ∧ j < 2 ^ 63 ∧ σ₃[n]? = some (.list ds) ∧ j.toNat < ds.length ∧ Qn ρ (σ₃.set n (.list (ds.set j.toNat d)))) X) X) X)
    (hs : swapsWith value (some (.Subscript o i p)) pos.line F.env = pure false := by rfl) : S1 W k F ρ σ (.Assign [.Subscript o i p] value pos) Qn Qr X := by
  intro A β s QC EC ao s0 h1 h2 h3
  refine C_Assign_Subscript (h A β s _ EC ao s0 (fun v d σ₁ β₁ h₁ t₁ st₁ g₁ r₁ q₁ => ?_) h3) hs
  refine q₁ A β₁ { s with heap := h₁, toks := t₁ } _ EC ao st₁ (fun ov d₂ σ₂ β₂ h₂ t₂ st₂ g₂ r₂ q₂ => ?_) fun e σ' β' h' tk f x => h3 e σ' β' h' tk (f.back g₁) x
  refine q₂ A β₂ { s with heap := h₂, toks := t₂ } _ EC ao st₂ (fun iv d₃ σ₃ β₃ h₃ t₃ st₃ g₃ r₃ q₃ => ?_) fun e σ' β' h' tk f x => h3 e σ' β' h' tk (f.back (g₁.trans g₂)) x
  obtain ⟨n, j, ds, rfl, rfl, j0, j1, hn, hj, q₃⟩ := q₃
  have r₂' := st₂.vr g₃ r₂
  have r₁' := st₂.vr g₃ (st₁.vr g₂ r₁)
  simp only [VR] at r₂' r₃
  obtain ⟨a, rfl, hb⟩ := r₂'
  obtain ⟨tj, rfl⟩ := r₃
  obtain ⟨xs, la, rx⟩ := st₃.wd.sto n _ a hn hb
  have hlen : xs.length = ds.length := rx.length.symm
  refine setItem_plain (s := { s with heap := h₃, toks := t₃ }) (l := a) (items := xs.toArray) la.plain j0 j1 (by rw [List.size_toArray, hlen]; omega) fun h₄ hl₄ hs₄ => ?_
  have la' : ListAt h₄ a (xs.set j.toNat v) := by
    have := ListAt.of_plain hl₄
    simpa using this
  have e' : ∃ o, h₄.get? a = some o := let ⟨o, _, e, _⟩ := la'; ⟨o, e⟩
  have tt : ∀ a xs, IsTup h₃ a xs → IsTup h₄ a xs := fun b ys t => by
    obtain ⟨ot, et, rt⟩ := t
    exact ⟨ot, (hs₄.2 b fun z => st₃.wd.noTup ⟨ot, et, rt⟩ (z ▸ List.mem_of_getElem? hb)).trans et, rt⟩
  have setr : ∀ (m : Nat) (ds : List V) (xs : List Value), VRs W.scr β₃ h₃ ds xs → VRs W.scr β₃ h₃ (ds.set m d) (xs.set m v) := by
    intro m ds
    induction ds generalizing m with
    | nil => intro xs r; simp only [VRs] at r; subst r; simp [VRs]
    | cons d0 r0 ih =>
      intro xs r
      obtain ⟨x0, xr, rfl, r1, r2⟩ := r.uncons
      cases m with
      | zero => simp only [List.set_cons_zero]; exact VRs.cons r₁' r2
      | succ m => simp only [List.set_cons_succ]; exact VRs.cons r1 (ih m xr r2)
  have wd₄ := st₃.wd.mut hb hs₄ (m₀ := .list (ds.set j.toNat d)) ⟨_, la', VRs.mono tt (fun _ _ e => e) _ _ (setr _ _ _ rx)⟩
  have g₄ : Go F.l [] β₃ h₃ β₃ h₄ := .mut (List.mem_of_getElem? hb) hs₄ e'
  exact h1 _ _ _ _ _ (st₃.lift g₄ wd₄) (((g₁.trans g₂).trans g₃).trans (g₄.more fun _ m => nomatch m)) q₃
end
end Mine

open PySem PySem.W PySem.Calls PyProof.Rows
set_option Elab.async false
set_option maxRecDepth 100000
namespace Mine

/-- the cells that a comprehension takes along -/
def clOf (cs : List (Str × Addr)) : List (Str × NameKind) → List (Str × Addr) → List (Str × Addr)
  | [], acc => acc
  | (n, k) :: r, acc => if k == .free then clOf cs r (match cs.lookup n with | some c => (n, c) :: acc | none => acc) else clOf cs r acc
theorem closure_is {env : Env} : ∀ (names : List (Str × NameKind)) (acc : List (Str × Addr)), (∀ n, (n, NameKind.free) ∈ names → ∃ c, env.cells.lookup n = some c) →
    (forIn names acc fun (x : Str × NameKind) (r : List (Str × Addr)) => (match x with | (name, kind) => if (kind == NameKind.free) = true then do let c ← cellOf env name; pure (ForInStep.yield ((name, c) :: r)) else pure (ForInStep.yield r) : Sem (ForInStep (List (Str × Addr))))) = pure (clOf env.cells names acc)
  | [], acc, _ => rfl
  | (n, k) :: r, acc, h => by
    rw [List.forIn_cons]
    unfold clOf
    by_cases hk : (k == NameKind.free) = true
    · obtain ⟨c, hc⟩ := h n (by rw [beq_iff_eq.mp hk]; exact .head _)
      simp only [hk, if_true, cellOf, hc]
      exact closure_is r _ fun m hm => h m (.tail _ hm)
    · simp only [hk]
      exact closure_is r _ fun m hm => h m (.tail _ hm)
theorem clOf_from {cs : List (Str × Addr)} : ∀ (names : List (Str × NameKind)) (acc : List (Str × Addr)), (∀ x c, acc.lookup x = some c → cs.lookup x = some c) → ∀ x c, (clOf cs names acc).lookup x = some c → cs.lookup x = some c
  | [], _, h => h
  | (n, k) :: r, acc, h => by
    unfold clOf
    split
    · refine clOf_from r _ fun x c e => ?_
      cases hc : cs.lookup n with
      | none => rw [hc] at e; exact h x c e
      | some c' =>
        rw [hc] at e
        simp only [List.lookup_cons] at e
        cases q : x == n with
        | true => rw [q] at e; simp only [Option.some.injEq] at e; rw [beq_iff_eq.mp q, hc, e]
        | false => rw [q] at e; exact h x c e
    · exact clOf_from r _ h
theorem clOf_has {cs : List (Str × Addr)} : ∀ (names : List (Str × NameKind)) (acc : List (Str × Addr)) (x : Str), ((x, NameKind.free) ∈ names ∧ ∃ c, cs.lookup x = some c) ∨ (∃ c, acc.lookup x = some c) → ∃ c, (clOf cs names acc).lookup x = some c
  | [], _, _, h => by
    rcases h with ⟨h, _⟩ | h
    · cases h
    · exact h
  | (n, k) :: r, acc, x, h => by
    unfold clOf
    have keep : (∃ c, acc.lookup x = some c) → ∃ c, (match cs.lookup n with | some c => (n, c) :: acc | none => acc).lookup x = some c := fun ⟨c, e⟩ => by
      cases cs.lookup n with
      | none => exact ⟨c, e⟩
      | some c' =>
        simp only [List.lookup_cons]
        cases x == n with
        | true => exact ⟨c', rfl⟩
        | false => exact ⟨c, e⟩
    split
    · refine clOf_has r _ x ?_
      rcases h with ⟨h, c, hc⟩ | h
      · rcases List.mem_cons.mp h with q | h
        · cases q
          refine .inr ⟨c, ?_⟩
          rw [hc]; simp
        · exact .inl ⟨h, c, hc⟩
      · exact .inr (keep h)
    · rename_i hk
      refine clOf_has r _ x ?_
      rcases h with ⟨h, c, hc⟩ | h
      · rcases List.mem_cons.mp h with q | h
        · cases q; exact absurd rfl hk
        · exact .inl ⟨h, c, hc⟩
      · exact .inr h

theorem relabel_lookup {env : Env} : ∀ (names : List (Str × NameKind)) (x : Str),
    (names.map fun (n, k) => if (k == NameKind.free && env.scope.kind == .function && env.kindOf n == some .cell) then (n, NameKind.cell) else (n, k)).lookup x
      = (names.lookup x).map fun k => if (k == NameKind.free && env.scope.kind == .function && env.kindOf x == some .cell) = true then NameKind.cell else k
  | [], _ => rfl
  | (n, k) :: r, x => by
    have ih := relabel_lookup (env := env) r x
    cases q : x == n with
    | true =>
      have := beq_iff_eq.mp q
      subst this
      simp only [List.map_cons, List.lookup_cons, q]
      split <;> simp_all
    | false =>
      simp only [List.map_cons, List.lookup_cons, q]
      split <;> (simp only [List.lookup_cons, q]; exact ih)

/-- the frame of a comprehension within F -/
structure CompEnv (F : Fm) (scope : Scope) (Fc : Fm) : Prop where
  l : Fc.l = F.l
  loc : ∀ x, scope.names.lookup x = some .local → Fc.env.kindOf x = some .local
  glb : ∀ x, scope.names.lookup x = some .globalImplicit → Fc.env.kindOf x = some .globalImplicit
  cell : ∀ x, scope.names.lookup x = some .free → F.env.kindOf x = some .cell → Fc.env.kindOf x = some .cell

def SAsg (W : Wk) (F : Fm) (target : Expr) (d : V) (ρ ρ' : LEnv) : Prop :=
  ∀ (A : Around) (k : Nat) (σ : Store) (β : List Addr) (s : Shared) (v : Value) (Q : Unit → Shared → Prop) (E : Value → Shared → Prop), AOK k A F.l → St W F ρ σ β s.heap → VR W.scr β s.heap d v →
    (∀ h' tk, St W F ρ' σ β h' → Go F.l F.own β s.heap β h' → Q () { s with heap := h', toks := tk }) → wpAny (model W.prog W.w) A (assign target F.env v) Q E s

def CT (W : Wk) (k : Nat) (F : Fm) (ρ : LEnv) (σ : Store) : List Expr → (Bool → Store → Prop) → Prop
  | [], Q => Q true σ
  | [c], Q => SB W k F ρ σ c Q (fun _ => False)
  | _, _ => False

section
variable {W : Wk} {k : Nat} {F : Fm} {ρ : LEnv} {σ : Store} {X : Store → Prop} {Q : V → Store → Prop}

theorem SAsg_name {x : String} {p : Pos} {d : V} (hx : SK F x) : SAsg W F (.Name (Str.ofString x) p) d ρ (upd ρ x d) :=
  fun _ _ _ _ _ _ _ _ _ st r h => wpAny_assign_Name (st_store st r hx h)
theorem SAsg_three {x y z : String} {p q r t : Pos} {n : Nat} {a b c : V} (hx : SK F x) (hy : SK F y) (hz : SK F z) :
    SAsg W F (.Tuple [.Name (Str.ofString x) p, .Name (Str.ofString y) q, .Name (Str.ofString z) r] n t) (.tup [a, b, c]) ρ (upd (upd (upd ρ x a) y b) z c) := by
  intro A k σ β s v Q E ao st rv h
  simp only [VR] at rv
  obtain ⟨ad, xs, rfl, ht, rv⟩ := rv
  obtain ⟨v₁, _, rfl, ra, rr⟩ := rv.uncons
  obtain ⟨v₂, _, rfl, rb, rr'⟩ := rr.uncons
  obtain ⟨v₃, _, rfl, rc, rd⟩ := rr'.uncons
  simp only [VRs] at rd
  subst rd
  refine wpAny_assign_Tuple ao.hd ht rfl rfl fun h' he => ?_
  have kk : ∀ b o, s.heap.get? b = some o → h'.get? b = some o := fun b o e => he b o (Nat.ne_of_lt (Heap.lt_size e)) e
  have st₂ := st.lift (.ext kk) (st.wd.ext kk)
  have vk : ∀ d v, VR W.scr β s.heap d v → VR W.scr β h' d v := fun d v r => VR.mono (fun _ _ t => t.keeps kk) (fun _ _ e => e) d v r
  have g₂ : Go F.l F.own β s.heap β h' := .ext kk
  show wpAny _ A (assignInOrder [assign (.Name (Str.ofString x) p) F.env, assign (.Name (Str.ofString y) q) F.env, assign (.Name (Str.ofString z) r) F.env] [v₁, v₂, v₃]) _ _ _
  refine wpAny_assignInOrder_more (wpAny_assign_Name (st_store (s := { s with heap := h' }) st₂ (vk _ _ ra) hx fun h₃ t₃ st₃ g₃ => ?_))
  refine wpAny_assignInOrder_more (wpAny_assign_Name (st_store (s := { s with heap := h₃, toks := t₃ }) st₃ (st₂.vr g₃ (vk _ _ rb)) hy fun h₄ t₄ st₄ g₄ => ?_))
  refine wpAny_assignInOrder_more (wpAny_assign_Name (st_store (s := { s with heap := h₄, toks := t₄ }) st₄ (st₃.vr g₄ (st₂.vr g₃ (vk _ _ rc))) hz fun h₅ t₅ st₅ g₅ => ?_))
  exact wpAny_assignInOrder_none (h _ _ st₅ (((g₂.trans g₃).trans g₄).trans g₅))

theorem ct_run {ifs : List Expr} {Q' : Bool → Store → Prop} (h : CT W k F ρ σ ifs Q') {A : Around} {β : List Addr} {s : Shared} {K : Bool → Shared → Prop} {E : Value → Shared → Prop} (ao : AOK k A F.l) (st : St W F ρ σ β s.heap)
    (hK : ∀ b σ' β' h' tk, St W F ρ σ' β' h' → Go F.l F.own β s.heap β' h' → Q' b σ' → K b { s with heap := h', toks := tk }) :
    wpC (model W.prog W.w) A (forIn ifs true fun c r => if r = true then do let ok ← isTrue c F.env (eval c F.env); pure (ForInStep.yield ok) else pure (ForInStep.yield r)) K E s := by
  match ifs, h with
  | [], h => exact wpC_pure (hK true σ β s.heap s.toks st (.refl ..) h)
  | [c], h =>
    simp only [List.forIn_cons, List.forIn_nil, if_true]
    refine wpC_bind (wpC_bind (h A β s _ _ ao st (fun a d σ' β' h' tk st' g' r' q' => wpC_pure (wpC_pure ?_)) fun _ _ _ _ _ _ x => x.elim))
    subst r'
    exact hK a σ' β' h' tk st' g' q'

theorem letGo_quiet {target : Expr} {I : Addr} {v : Value} {A : Around} {s : Shared} {K : Unit → Shared → Prop} {E : Value → Shared → Prop}
    (hq : ∃ o T, s.heap.get? I = some o ∧ o.cls = .type T ∧ (["enumerate", "zip", "dict_itemiterator", "dict_reverseitemiterator", "odict_iterator", "itertools.zip_longest", "itertools.pairwise"] : List String).contains T = false)
    (h : K () s) : wpAny (model W.prog W.w) A (letOwnedTupleGo target (.ref I) v) K E s := by
  obtain ⟨o, T, ho, hc, hT⟩ := hq
  have body : wpAny (model W.prog W.w) A (do
      let (.ref r, .ref a) := (Value.ref I, v) | return
      let o ← load r
      match o.cls, o.data with
      | .type n, .fields vs =>
        if ["enumerate", "zip", "dict_itemiterator", "dict_reverseitemiterator", "odict_iterator", "itertools.zip_longest", "itertools.pairwise"].contains n && vs[0]? == some (rawInt a) then
          rule "for.unpacks-the-owned-tuple"
          updateField r 0 .none
      | _, _ => pure ()) K E s := by
    cases v with
    | ref a =>
      refine wpAny_bind (wpAny_load ho ?_)
      rw [hc]
      cases o.data with
      | fields vs =>
        dsimp only
        rw [hT]
        exact wpAny_pure h
      | _ => exact wpAny_pure h
    | _ => exact wpAny_pure h
  cases target with
  | Tuple a b c => exact body
  | List a b => exact body
  | _ => exact wpAny_pure h

theorem SE_comp {elt target iter : Expr} {ifs : List Expr} {scope : Scope} {pos : Pos} (ρc : LEnv)
    (hfree : ∀ n, (n, NameKind.free) ∈ scope.names → F.env.kindOf n = some .cell ∧ ∃ x, n = Str.ofString x)
    (hcell : ∀ y ∈ scope.names, y.2 ≠ .cell) (hkind : scope.kind = .function) (hnames : ∀ y ∈ scope.names, y.2 = .local → scope.names.lookup y.1 = some .local)
    (hρ : ∀ x d, ρc.lookup x = some d → ρ.lookup x = some d ∧ scope.names.lookup (Str.ofString x) = some .free)
    (h : SIt W k F ρ σ iter (fun ds need σ₁ => ds.length ≤ 16777216 ∧ ∃ J : Nat → List V → Store → Prop, J 0 [] (σ₁ ++ [.list []]) ∧
      (∀ i acc σ', J i acc σ' → need σ' ∧ σ'[σ₁.length]? = some (.list acc) ∧ acc.length ≤ i) ∧
      (∀ Fc, CompEnv F scope Fc → ∀ i acc σ' d, J i acc σ' → ds[i]? = some d → ∃ ρ', Sub ρc ρ' ∧ SAsg W Fc target d ρc ρ' ∧
        CT W k Fc ρ' σ' ifs (fun b σ₂ => if b then SE W k Fc ρ' σ₂ elt (fun e σ₃ => σ₃[σ₁.length]? = some (.list acc) ∧ J (i + 1) (acc ++ [e]) (σ₃.set σ₁.length (.list (acc ++ [e])))) (fun _ => False) else J (i + 1) acc σ₂)) ∧
      (∀ acc σ', J ds.length acc σ' → Q (.obj σ₁.length) σ')) X)
    (hs : ∀ v, foldedSetIterable iter F.env v = pure v := by intro _; rfl) : SE W k F ρ σ (.ListComp elt [⟨target, iter, ifs, 0⟩] scope pos) Q X := by
  intro A β s QC EC ao st hQ hX
  have hcl : closureFor scope F.env = pure (clOf F.env.cells scope.names []) := by
    have e := closure_is (env := F.env) scope.names [] fun n hn => by
      obtain ⟨e, x, rfl⟩ := hfree n hn
      exact st.loc.has x e
    exact congrArg (fun (m : Sem (List (Str × Addr))) => m >>= fun s => pure s) e
  show wpC _ A (eval (.ListComp elt [⟨target, iter, ifs, 0⟩] scope pos) F.env) QC EC s
  rw [eval_ListComp]
  refine C_comprehension rfl hs hcl hkind hnames (h A β s _ EC ao st (fun I ds need P σ₁ β₁ h₁ t₁ st₁ g₁ it p₁ hI hIb q₁ => ?_) hX)
  obtain ⟨hlen, J, j0, jn, jt, jd⟩ := q₁
  -- the list that is filled
  refine wpAny_newObj_type ?_
  dsimp only
  generalize hh₂ : h₁.push { cls := .type "list", dict := none, data := .seq ([] : List Value).toArray } = h₂
  have k₂ : ∀ b o, h₁.get? b = some o → h₂.get? b = some o := fun b o e => hh₂ ▸ Heap.get?_push_of_some _ e
  have hD : h₁.get? h₁.objs.size = none := by
    cases q : h₁.get? h₁.objs.size with
    | none => rfl
    | some o => exact absurd (Heap.lt_size q) (Nat.lt_irrefl _)
  have la : ListAt h₂ h₁.objs.size [] := ⟨_, 0, hh₂ ▸ Heap.get?_push_size _ rfl, rfl, ⟨rfl, rfl⟩, rfl⟩
  have wd₂ : Wd W F.l (σ₁ ++ [.list []]) (β₁ ++ [h₁.objs.size]) h₂ := st₁.wd.grow k₂ hD ⟨[], la, VRs.nil⟩
  have st₂ : St W F ρ (σ₁ ++ [.list []]) (β₁ ++ [h₁.objs.size]) h₂ := st₁.lift (.grow k₂ hD) wd₂
  have g₂ : Go F.l F.own β s.heap (β₁ ++ [h₁.objs.size]) h₂ := g₁.trans (.grow k₂ hD)
  have p₂ : P 0 (β₁ ++ [h₁.objs.size]) h₂ := it.go 0 σ₁ β₁ h₁ _ h₂ [] st₁.wd (fun _ m => nomatch m) (.grow k₂ hD) p₁
  have hDn : (σ₁ ++ [MO.list []]).length = (β₁ ++ [h₁.objs.size]).length := wd₂.len
  have hDat : (β₁ ++ [h₁.objs.size])[σ₁.length]? = some h₁.objs.size := by rw [st₁.wd.len, List.getElem?_append_right (Nat.le_refl _)]; simp
  generalize hDD : h₁.objs.size = D at *
  -- its frame
  refine wpAny_newFunctionEnv hcell (by intro y hy; simp at hy) (fun h₃ hns₃ hsb₃ => ?_) hkind
  dsimp only at hns₃ hsb₃ ⊢
  generalize hCC : h₂.objs.size = C at *
  have k₃ : ∀ b o, h₂.get? b = some o → h₃.get? b = some o := fun b o e => hsb₃.extBut b o (by rw [← hCC]; exact Nat.ne_of_lt (Heap.lt_size e)) (Heap.get?_push_of_some _ e)
  have hC : h₂.get? C = none := by
    cases q : h₂.get? C with
    | none => rfl
    | some o => exact absurd (Heap.lt_size q) (by rw [hCC]; exact Nat.lt_irrefl _)
  have hCb : W.base.get? C = none := by
    cases q : W.base.get? C with
    | none => rfl
    | some o => rw [wd₂.base _ _ q] at hC; cases hC
  have st₃ := st₂.lift (.ext k₃) (st₂.wd.ext k₃)
  have g₃ : Go F.l F.own β s.heap _ h₃ := g₂.trans (.ext k₃)
  have p₃ := it.go 0 _ _ h₂ _ h₃ [] wd₂ (fun _ m => nomatch m) (.ext k₃) p₂
  let cenv : Env := compEnvC scope (clOf F.env.cells scope.names []) C F.env
  let Fc : Fm := ⟨cenv, F.l, [C]⟩
  have kd : ∀ x, Fc.env.kindOf x = (scope.names.lookup x).map fun k => if (k == NameKind.free && F.env.scope.kind == .function && F.env.kindOf x == some .cell) = true then NameKind.cell else k := fun x => relabel_lookup scope.names x
  have ce : CompEnv F scope Fc := ⟨rfl, fun x e => by rw [kd, e]; rfl, fun x e => by rw [kd, e]; rfl, fun x e e2 => by
    rw [kd, e, e2]
    simp [st.env.kind]⟩
  have eokc : EnvOK Fc := {
    glob := st.env.glob
    blt := st.env.blt
    kind := hkind
    fr := st.env.fr
    ownL := .head _
    ne := by
      show C ≠ F.env.globals
      rw [st.env.glob]
      intro q
      obtain ⟨o, _, _, e, _⟩ := W.hT.g
      rw [q, e] at hCb; cases hCb }
  have clF : ∀ x c, Fc.env.cells.lookup x = some c → F.env.cells.lookup x = some c := clOf_from _ _ fun _ _ e => by cases e
  have locc : ∀ {σ' β' h'}, St W F ρ σ' β' h' → (∃ m, h'.Ns C m) → Loc W Fc ρc β' h' := fun {σ' β' h'} x y => {
    ns := by
      obtain ⟨m, hm⟩ := y
      refine ⟨m, hm, fun x d e1 e2 => ?_⟩
      rw [kd, (hρ x d e1).2] at e2
      simp only [Option.map_some, Option.some.injEq] at e2
      split at e2 <;> cases e2
    cells := fun x' c e => x.loc.cells x' c (clF _ _ e)
    has := fun x' e => by
      rw [kd] at e
      cases q : scope.names.lookup (Str.ofString x') with
      | none => rw [q] at e; cases e
      | some kk =>
        rw [q] at e
        simp only [Option.map_some, Option.some.injEq] at e
        have hm := mem_of_lookup q
        have hkf : kk = .free := by
          split at e
          · rename_i hc; simp only [Bool.and_eq_true, beq_iff_eq] at hc; exact hc.1.1
          · subst e; exact absurd rfl (hcell _ hm)
        subst hkf
        obtain ⟨e1, _⟩ := hfree _ hm
        exact clOf_has scope.names [] _ (.inl ⟨hm, x.loc.has x' e1⟩)
    cell := fun x' d e1 e2 => by
      obtain ⟨e3, e4⟩ := hρ x' d e2
      have hm := mem_of_lookup e4
      obtain ⟨e5, _⟩ := hfree _ hm
      obtain ⟨c, v, q1, q2, q3⟩ := x.loc.cell x' d e5 e3
      obtain ⟨c', hc'⟩ := clOf_has scope.names [] _ (.inl ⟨hm, c, q1⟩)
      have := clF _ _ hc'
      rw [q1] at this; cases this
      exact ⟨c, v, hc', q2, q3⟩
    one := fun a b c e1 e2 => x.loc.one a b c (clF _ _ e1) (clF _ _ e2)
    ownk := fun a m => by
      rw [List.mem_singleton.mp m]
      obtain ⟨mm, o, es, ep, e, d, _⟩ := y
      exact ⟨hCb, o, e, .inl ⟨es, ep, d⟩⟩ }
  have stc₃ : St W Fc ρc (σ₁ ++ [.list []]) (β₁ ++ [D]) h₃ := ⟨eokc, st₃.wd, locc st₃ ⟨_, hns₃⟩⟩
  have aoc : AOK k A Fc.l := ao
  -- what the loop keeps
  have hCF : ∀ a ∈ [C], a ∉ F.own ∧ ∀ x c, F.env.cells.lookup x = some c → c ≠ a := fun a m => by
    rw [List.mem_singleton.mp m]
    refine ⟨fun m => ?_, fun x c e z => ?_⟩
    · obtain ⟨_, o, e, _⟩ := st₂.loc.ownk C m
      rw [hC] at e; cases e
    · obtain ⟨_, o, e', _⟩ := st₂.loc.cells x c e
      rw [z, hC] at e'; cases e'
  have hCs : s.heap.get? C = none := g₂.live C hC
  let Inv : Nat → Shared → Prop := fun n s' => ∃ i acc σ' β' h' tk, n = ds.length - i ∧ i ≤ ds.length ∧ s' = { s with heap := h', toks := tk } ∧ St W Fc ρc σ' β' h' ∧ Loc W F ρ β' h' ∧
    Go F.l (C :: F.own) β s.heap β' h' ∧ P i β' h' ∧ J i acc σ' ∧ β'[σ₁.length]? = some D
  let R : Result → Shared → Prop := fun r s' => match r with
    | .ok _ => ∃ m, s'.heap.Ns C m ∧ ∀ h', Heap.SameBut C s'.heap h' → QC (.ref D) { s' with heap := h' }
    | .error _ => False
  have dictC : ∀ {ρ' σ' β' h'}, St W Fc ρ' σ' β' h' → ∀ a ∈ [C], ∃ o, h'.get? a = some o ∧ ((∃ es n, o.data = .dict es n) ∨ ∃ v, o.data = .cell v) := fun x a m => (x.loc.ownk a m).2
  -- one step within the frame
  have stepG : ∀ {ρ' ρ'' σ' σ'' β' β'' h' h''}, St W Fc ρ' σ' β' h' → Loc W F ρ β' h' → Go F.l (C :: F.own) β s.heap β' h' → St W Fc ρ'' σ'' β'' h'' → Go F.l [C] β' h' β'' h'' →
      Loc W F ρ β'' h'' ∧ Go F.l (C :: F.own) β s.heap β'' h'' := fun x y g x' g' =>
    ⟨y.goX x.wd st.env g'.at g'.slot (dictC x) hCF, g.trans (g'.more fun a m => by rw [List.mem_singleton.mp m]; exact .head _)⟩
  have fin : ∀ acc σ' β' h' tk, St W Fc ρc σ' β' h' → Loc W F ρ β' h' → Go F.l (C :: F.own) β s.heap β' h' → J ds.length acc σ' → β'[σ₁.length]? = some D → R (.ok .next) { s with heap := h', toks := tk } := by
    intro acc σ' β' h' tk stc' loc' g' j' hD'
    obtain ⟨m, hm, _⟩ := stc'.loc.ns
    refine ⟨m, hm, fun h'' hs'' => ?_⟩
    have kb : ∀ b o, b ≠ C → h'.get? b = some o → h''.get? b = some o := fun b o n e => (hs''.2 b n).trans e
    have loc'' : Loc W F ρ β' h'' := loc'.goX stc'.wd st.env (fun _ _ e => e) (fun a o e n1 _ => ⟨o.slots, kb a o (by simpa using n1) e⟩) (dictC stc') hCF
    have ntup : ∀ a xs, IsTup h' a xs → IsTup h'' a xs := fun a xs t => by
      obtain ⟨o, e, r⟩ := t
      refine ⟨o, kb a o (fun z => ?_) e, r⟩
      obtain ⟨oo, es, ep, e1, d1, _⟩ := hm
      have e1 : h'.get? C = some oo := e1
      rw [z, e1] at e; cases e
      obtain ⟨_, n, d⟩ := r; rw [d1] at d; cases d
    have wd'' : Wd W F.l σ' β' h'' := by
      have x := stc'.wd
      refine ⟨fun a o e => kb a o (fun z => by rw [z, hCb] at e; cases e) (x.base a o e), fun en me => ?_, x.len, fun n mo a e1 e2 => ?_, x.nd, x.new⟩
      · obtain ⟨q, L, o, es, n, e1, e2, e3, e4⟩ := x.fr en me
        obtain ⟨_, L', o', es', n', e1', e2', e3', e4'⟩ := st₂.wd.fr en me
        rw [e1] at e1'; cases e1'
        exact ⟨q, L, o, es, n, e1, e2, kb L o (fun z => by rw [z, hC] at e3'; cases e3') e3, e4⟩
      · have y := x.sto n mo a e1 e2
        have hac : a ≠ C := fun z => x.noOwn stc'.loc (a := C) (.head _) (z ▸ List.mem_of_getElem? e2)
        cases mo with
        | list dd =>
          obtain ⟨xs, ⟨o, n, e, rr⟩, z⟩ := y
          exact ⟨xs, ⟨o, n, kb a o hac e, rr⟩, VRs.mono ntup (fun _ _ e => e) _ _ z⟩
        | barr b =>
          obtain ⟨o, e, rr⟩ := y
          exact ⟨o, kb a o hac e, rr⟩
    have g'' : Go F.l (C :: F.own) β s.heap β' h'' := g'.nt (fun a m => by rw [List.mem_singleton.mp m]; exact hCs) (Nt.one (l := F.l) kb)
    have gf : Go F.l F.own β s.heap β' h'' := ⟨g''.pre, g''.new, g''.live, fun a o e n1 n2 n3 => g''.keep a o e (fun m => (List.mem_cons.mp m).elim (fun z => by rw [z, hCs] at e; cases e) n1) n2 n3,
      fun a o e n1 n2 => g''.slot a o e (fun m => (List.mem_cons.mp m).elim (fun z => by rw [z, hCs] at e; cases e) n1) n2⟩
    refine hQ (.ref D) (.obj σ₁.length) σ' β' h'' tk ⟨st.env, wd'', loc''⟩ gf ?_ (jd _ _ j')
    simp only [VR]
    exact ⟨D, rfl, hD'⟩
  have loop : ∀ n s', Inv n s' → codeC (model W.prog W.w) A (.compLoop (.ListComp elt [⟨target, iter, ifs, 0⟩] scope pos) 0 (.ref I) (.ref D) cenv) R s' := by
    intro n s' hi
    refine codeC_loop rfl rfl Inv (fun n s' hI' => ?_) n hi
    show wpC _ A ((compTurn (.ListComp elt [⟨target, iter, ifs, 0⟩] scope pos) 0 (.ref I) (.ref D) cenv).onRaise (fun x => do noteFrame x cenv; theTreesLotGoes x)) _ _ s'
    refine wpC_noted ?_
    rw [compTurn_list]
    obtain ⟨i, acc, σ', β', h', tk, hn, hi, rfl, st', loc', g', p', j', hD'⟩ := hI'
    refine wpC_at (wpC_then ?_)
    have recs : ∀ {i β' h'}, P i β' h' → Recs W [I] h' := fun p a m => by rw [List.mem_singleton.mp m]; exact ⟨hIb, it.rec_ _ _ _ p⟩
    have newI : ∀ a ∈ [I], s.heap.get? a = none := fun a m => by rw [List.mem_singleton.mp m]; exact hI
    cases hd : ds[i]? with
    | none =>
      refine it.done A k i σ' β' { s with heap := h', toks := tk } _ _ ao st'.wd (jn _ _ _ j').1 p' hd fun h'' tk'' kp => ?_
      have hi' : i = ds.length := Nat.le_antisymm hi (List.getElem?_eq_none_iff.mp hd)
      subst hi'
      have nt := Nt.one (l := F.l) kp
      have stF : St W F ρ σ' β' h' := ⟨st.env, st'.wd, loc'⟩
      exact wpC_pure (fin acc σ' β' h'' tk'' (St.nt (F := Fc) st' (recs p') nt) (St.nt stF (recs p') nt).loc (g'.nt newI nt) j' hD')
    | some d =>
      refine it.item A k i σ' β' { s with heap := h', toks := tk } d _ _ ao st'.wd (jn _ _ _ j').1 p' hd fun v h'' tk'' r'' p'' kp => ?_
      have nt := Nt.one (l := F.l) kp
      have stF : St W F ρ σ' β' h' := ⟨st.env, st'.wd, loc'⟩
      have st'' := St.nt (F := Fc) st' (recs p') nt
      have loc'' := (St.nt stF (recs p') nt).loc
      have g'' := g'.nt newI nt
      refine wpC_then (letGo_quiet (s := { s with heap := h'', toks := tk'' }) (it.quiet _ _ _ p'') ?_)
      obtain ⟨ρ', sub', asg', ct'⟩ := jt Fc ce i acc σ' d j' hd
      refine wpC_then (asg' A k σ' β' { s with heap := h'', toks := tk'' } v _ _ ao st'' r'' fun h₄ tk₄ st₄ gg₄ => ?_)
      obtain ⟨loc₄, g₄⟩ := stepG st'' loc'' g'' st₄ gg₄
      have p₄ := it.go (i + 1) σ' β' h'' β' h₄ [C] st''.wd (dictC st'') gg₄ p''
      refine wpC_bind (ct_run (s := { s with heap := h₄, toks := tk₄ }) ct' ao st₄ fun b σ₅ β₅ h₅ tk₅ st₅ gg₅ q₅ => ?_)
      obtain ⟨loc₅, g₅⟩ := stepG st₄ loc₄ g₄ st₅ gg₅
      have p₅ := it.go (i + 1) σ' β' h₄ β₅ h₅ [C] st₄.wd (dictC st₄) gg₅ p₄
      have hD₅ := gg₅.at _ _ (gg₄.at _ _ hD')
      have hlt : i < ds.length := (List.getElem?_eq_some_iff.mp hd).1
      cases b with
      | false =>
        have q₅ : J (i + 1) acc σ₅ := by simpa using q₅
        exact wpC_pure (.inl ⟨rfl, ds.length - (i + 1), by omega, i + 1, acc, σ₅, β₅, h₅, tk₅, rfl, hlt, rfl, st₅.sub sub', loc₅, g₅, p₅, q₅, hD₅⟩)
      | true =>
        have q₅ : SE W k Fc ρ' σ₅ elt (fun e σ₃ => σ₃[σ₁.length]? = some (.list acc) ∧ J (i + 1) (acc ++ [e]) (σ₃.set σ₁.length (.list (acc ++ [e])))) (fun _ => False) := by simpa using q₅
        refine wpC_bind (wpC_bind (q₅ A β₅ { s with heap := h₅, toks := tk₅ } _ _ ao st₅ (fun xv e σ₆ β₆ h₆ tk₆ st₆ gg₆ r₆ q₆ => ?_) fun _ _ _ _ _ _ x => x.elim))
        obtain ⟨loc₆, g₆⟩ := stepG st₅ loc₅ g₅ st₆ gg₆
        have p₆ := it.go (i + 1) σ₅ β₅ h₅ β₆ h₆ [C] st₅.wd (dictC st₅) gg₆ p₅
        have hD₆ := gg₆.at _ _ hD₅
        obtain ⟨qa, qj⟩ := q₆
        obtain ⟨xs, la, rx⟩ := st₆.wd.sto _ _ _ qa hD₆
        have hxs : xs.length ≤ i := by
          rw [← rx.length]; exact (jn _ _ _ j').2.2
        refine wpC_then (wpAny_list_append_plain (s := { s with heap := h₆, toks := tk₆ }) la.plain (fun h₇ hl₇ hs₇ => ?_) (by rw [List.size_toArray, sizeLine_eq]; omega))
        have la₇ : ListAt h₇ D (xs ++ [xv]) := by
          have := ListAt.of_plain hl₇
          simpa using this
        have tt : ∀ a xs, IsTup h₆ a xs → IsTup h₇ a xs := fun b ys t => by
          obtain ⟨ot, et, rt⟩ := t
          exact ⟨ot, (hs₇.2 b fun z => st₆.wd.noTup ⟨ot, et, rt⟩ (z ▸ List.mem_of_getElem? hD₆)).trans et, rt⟩
        have wd₇ := st₆.wd.mut hD₆ hs₇ (m₀ := .list (acc ++ [e])) ⟨_, la₇, VRs.mono tt (fun _ _ e => e) _ _ (VRs.append rx (VRs.one r₆))⟩
        have e₇ : ∃ o, h₇.get? D = some o := let ⟨o, _, e, _⟩ := la₇; ⟨o, e⟩
        have gg₇ : Go F.l [C] β₆ h₆ β₆ h₇ := .mut (List.mem_of_getElem? hD₆) hs₇ e₇
        have gg₇' : Go F.l [] β₆ h₆ β₆ h₇ := .mut (List.mem_of_getElem? hD₆) hs₇ e₇
        have st₇ : St W Fc ρ' _ β₆ h₇ := st₆.lift gg₇' wd₇
        obtain ⟨loc₇, g₇⟩ := stepG st₆ loc₆ g₆ st₇ gg₇
        have p₇ := it.go (i + 1) σ₆ β₆ h₆ β₆ h₇ [C] st₆.wd (dictC st₆) gg₇ p₆
        exact wpC_pure (wpC_pure (.inl ⟨rfl, ds.length - (i + 1), by omega, i + 1, acc ++ [e], _, β₆, h₇, tk₆, rfl, hlt, rfl, st₇.sub sub', loc₇, g₇, p₇, qj, hD₆⟩))
  have start : Inv ds.length { s with heap := h₃, toks := t₁ } := ⟨0, [], _, _, h₃, t₁, rfl, Nat.zero_le _, rfl, stc₃, st₃.loc, g₃.more (fun a m => .tail _ m), p₃, j0, hDat⟩
  exact C_compStart (loop _ _ start) (it.self A 0 _ { s with heap := h₃, toks := t₁ } _ _ p₃ (loop _ _ start))
end
end Mine

open PySem PySem.W PySem.Calls PyProof.Rows
set_option Elab.async false
set_option maxRecDepth 100000
namespace Mine
section
variable {W : Wk} {k : Nat} {F : Fm} {ρ : LEnv} {σ : Store} {X : Store → Prop}

theorem rec_keep {l : List Env} {I : Addr} {σ : Store} {β β' : List Addr} {h h' : Heap} {own : List Addr} (x : Wd W l σ β h) (hk : ∀ a ∈ own, ∃ o, h.get? a = some o ∧ ((∃ es n, o.data = .dict es n) ∨ ∃ v, o.data = .cell v))
    (g : Go l own β h β' h') {o : Obj} {vs : Array Value} (e : h.get? I = some o) (d : o.data = .fields vs) : h'.get? I = some o := by
  refine g.keep I o e (fun m => ?_) (fun m => ?_) fun m => ?_
  · obtain ⟨o', e', z⟩ := hk I m
    rw [e] at e'; cases e'
    rcases z with ⟨_, _, z⟩ | ⟨_, z⟩ <;> rw [d] at z <;> cases z
  · obtain ⟨_, mo, _, _, r⟩ := x.mr m
    cases mo with
    | list ds => obtain ⟨_, ⟨o', _, e', _, _, z⟩, _⟩ := r; rw [e] at e'; cases e'; rw [d] at z; cases z
    | barr b => obtain ⟨o', e', _, _, z⟩ := r; rw [e] at e'; cases e'; rw [d] at z; cases z
  · obtain ⟨o', es, n, e', z, _⟩ := frs_dict x m
    rw [e] at e'; cases e'; rw [d] at z; cases z

theorem itr_range {l : List Env} {I : Addr} {a : Int} {n : Nat} : Itr W l I ((List.range n).map fun (j : Nat) => V.int (a + j)) (fun _ => True) (fun i _ h => IsRangeIter h I (a + i) (n - i : Int) 1) where
  rec_ := fun i β h p => ⟨_, _, p, rfl⟩
  go := fun i σ β h β' h' own x hk g p => rec_keep x hk g p rfl
  item := fun A k i σ β s d QC EC ao x _ p e hQ => by
    have hlt : i < n := by have := (List.getElem?_eq_some_iff.mp e).1; simpa using this
    have e' : d = V.int (a + i) := by
      rw [List.getElem?_map, List.getElem?_range hlt] at e
      simpa using e.symm
    subst e'
    refine wpAny_pyNext_range_item p (by omega) fun h' p' hs => hQ _ h' _ (by simp only [VR]; exact ⟨_, rfl⟩) ?_ fun b o n' e => (hs.2 b n').trans e
    have e1 : a + ((i + 1 : Nat) : Int) = a + i + 1 := by omega
    have e2 : (n - (i + 1 : Nat) : Int) = n - i - 1 := by omega
    rw [e1, e2]; exact p'
  done := fun A k i σ β s QC EC ao x _ p e hQ => by
    have hge : n ≤ i := by have := List.getElem?_eq_none_iff.mp e; simpa using this
    exact wpAny_pyNext_range_end ao.hd p (by omega) fun h' hs => hQ h' s.toks fun b o n' e => hs b o n' e
  quiet := fun i β h p => ⟨_, "range_iterator", p, rfl, by decide⟩
  self := fun A i β s QC EC p h => wpAny_pyIter_rangeiter p h

theorem SIt_range {rp pos : Pos} {e : Expr} {r : List Expr} {Q : List V → (Store → Prop) → Store → Prop} (g : Glb W F "range" (.type "range"))
    (h : SL W k F ρ σ pos (e :: r) (fun ds σ₁ => ∃ a b : Int, ((ds = [.int b] ∧ a = 0) ∨ ds = [.int a, .int b]) ∧ (-(2 ^ 62) ≤ a ∧ a < 2 ^ 62 ∧ -(2 ^ 62) ≤ b ∧ b < 2 ^ 62) ∧ Q ((List.range (b - a).toNat).map fun (j : Nat) => V.int (a + j)) (fun _ => True) σ₁) X)
    (he : starEach (e :: r) F.env = (false, eval e F.env) :: starEach r F.env := by rfl) (hp : (backTo pos (starEach r F.env)).any (·.1) = false := by rfl) :
    SIt W k F ρ σ (.Call (.Name (Str.ofString "range") rp) (e :: r) [] pos) Q X := by
  intro A β s K EC ao st hK hX
  refine C_Call_Name (wpC_of (g.ev st ?_))
  refine C_callWith (by rw [he]; show (false || (backTo pos (starEach r F.env)).any (·.1)) = false; rw [hp]; rfl) ?_
  have h' : wpC (model W.prog W.w) A (spliced (backTo pos (starEach (e :: r) F.env))) (fun vs s₁ => (∃ k, (k = Keeper.frame ∨ k = Keeper.machine ∨ k = Keeper.boundFrame) ∧ Looks (model W.prog W.w) s₁.heap (keeperOf (.type "range")) k) ∧ ([] : List (Str × Value)) = [] ∧
      wpC (model W.prog W.w) A (call (.type "range") ([] ++ vs)) (fun x s₁ => wpAny (model W.prog W.w) A (pyIter x) K EC s₁) EC s₁) EC s := by
   refine h A β s _ EC ao st (fun vs ds σ₁ β₁ h₁ t₁ st₁ g₁ r₁ q₁ => ⟨⟨.machine, .inr (.inl rfl), .of_pure rfl⟩, rfl, wpC_of ?_⟩) hX
   obtain ⟨a, b, hab, ⟨b1, b2, b3, b4⟩, q₁⟩ := q₁
   show wpAny _ A (call (.type "range") vs) _ _ _
   have fin : ∀ (h₂ : Heap) (tk : Nat) (t u v : Tok), (∀ b' o, h₁.get? b' = some o → h₂.get? b' = some o) → IsRange h₂ h₁.objs.size a b 1 t u v →
       wpAny (model W.prog W.w) A (pyIter (.ref h₁.objs.size)) K EC { s with heap := h₂, toks := tk } := by
     intro h₂ tk t u v k₂ hr
     refine wpAny_pyIter_range (s := { s with heap := h₂, toks := tk }) hr (small_one b1 b2 b3 b4) ?_
     rw [rangeSize_one]
     have hI : h₂.get? h₂.objs.size = none := by
       cases q : h₂.get? h₂.objs.size with
       | none => rfl
       | some o => exact absurd (Heap.lt_size q) (Nat.lt_irrefl _)
     have k₃ : ∀ b' o, h₁.get? b' = some o → (h₂.push { cls := .type "range_iterator", data := .fields #[rawInt a, rawInt (if a < b then b - a else 0), rawInt 1] }).get? b' = some o := fun b' o e => Heap.get?_push_of_some _ (k₂ b' o e)
     have gg : Go F.l [] β₁ h₁ β₁ _ := .ext k₃
     have hs : s.heap.get? h₂.objs.size = none := by
       cases q : s.heap.get? h₂.objs.size with
       | none => rfl
       | some o =>
         cases q' : h₁.get? h₂.objs.size with
         | none => rw [g₁.live _ q'] at q; cases q
         | some o' => rw [k₂ _ _ q'] at hI; cases hI
     have hb : W.base.get? h₂.objs.size = none := by
       cases q : W.base.get? h₂.objs.size with
       | none => rfl
       | some o => rw [k₂ _ _ (st₁.wd.base _ _ q)] at hI; cases hI
     refine hK h₂.objs.size _ _ _ σ₁ β₁ _ tk (st₁.lift gg (st₁.wd.ext k₃)) (g₁.trans (gg.more fun _ m => nomatch m)) itr_range ?_ hs hb q₁
     show (h₂.push _).get? _ = _
     rw [Heap.get?_push_size _ rfl]
     have : (if a < b then b - a else 0 : Int) = ((b - a).toNat : Int) - ((0 : Nat) : Int) := by split <;> omega
     simp [this]
   rcases hab with ⟨rfl, rfl⟩ | rfl
   · obtain ⟨v, _, rfl, ra, rb⟩ := r₁.uncons
     simp only [VRs] at rb; subst rb
     simp only [VR] at ra
     obtain ⟨t, rfl⟩ := ra
     exact call_range_1 (fin _ _ _ _ _ (fun _ _ e => Heap.get?_push_of_some _ e) (IsRange.new ..))
   · obtain ⟨v, _, rfl, ra, rb⟩ := r₁.uncons
     obtain ⟨v', _, rfl, ra', rb'⟩ := rb.uncons
     simp only [VRs] at rb'; subst rb'
     simp only [VR] at ra ra'
     obtain ⟨t, rfl⟩ := ra
     obtain ⟨u, rfl⟩ := ra'
     exact call_range_2 (fin _ _ _ _ _ (fun _ _ e => Heap.get?_push_of_some _ e) (IsRange.new ..))
  rw [he] at h' ⊢
  exact C_evalArgs h'

/-- an iterator pushed onto the heap -/
theorem SIt_push {iter : Expr} {Q : List V → (Store → Prop) → Store → Prop}
    (h : SE W k F ρ σ iter (fun d σ₁ => ∃ ds need, Q ds need σ₁ ∧ need σ₁ ∧ ∀ (A : Around) (β : List Addr) (s : Shared) (v : Value) (K : Value → Shared → Prop) (EC : Value → Shared → Prop), Wd W F.l σ₁ β s.heap → VR W.scr β s.heap d v →
      (∀ o P, o.isFreed = false → (∀ I, s.heap.objs.size = I → Itr W F.l I ds need P ∧ P 0 β (s.heap.push o)) → K (.ref s.heap.objs.size) { s with heap := s.heap.push o }) → wpAny (model W.prog W.w) A (pyIter v) K EC s) X) :
    SIt W k F ρ σ iter Q X := by
  intro A β s K EC ao st hK hX
  refine h A β s _ EC ao st (fun v d σ₁ β₁ h₁ t₁ st₁ g₁ r₁ q₁ => ?_) hX
  obtain ⟨ds, need, q, hn, mk⟩ := q₁
  refine mk A β₁ { s with heap := h₁, toks := t₁ } v K EC st₁.wd r₁ fun o P hf hit => ?_
  obtain ⟨it, p⟩ := hit _ rfl
  have hI : h₁.get? h₁.objs.size = none := by
    cases q : h₁.get? h₁.objs.size with
    | none => rfl
    | some o => exact absurd (Heap.lt_size q) (Nat.lt_irrefl _)
  have k₃ : ∀ b' o', h₁.get? b' = some o' → (h₁.push o).get? b' = some o' := fun b' o' e => Heap.get?_push_of_some _ e
  have gg : Go F.l [] β₁ h₁ β₁ (h₁.push o) := .ext k₃
  refine hK _ ds need P σ₁ β₁ _ t₁ (st₁.lift gg (st₁.wd.ext k₃)) (g₁.trans (gg.more fun _ m => nomatch m)) it p (g₁.live _ hI) ?_ q
  cases q : W.base.get? h₁.objs.size with
  | none => rfl
  | some o => rw [st₁.wd.base _ _ q] at hI; cases hI

theorem itr_list {l : List Env} {I a : Addr} {n : Nat} {ds : List V} : Itr W l I ds (fun σ => σ[n]? = some (.list ds)) (fun i β h => h.IsListIter I a i ∧ β[n]? = some a) where
  rec_ := fun i β h ⟨⟨o, e, _, d⟩, _⟩ => ⟨o, _, e, d⟩
  go := fun i σ β h β' h' own x hk g ⟨⟨o, e, c, d⟩, hb⟩ => ⟨⟨o, rec_keep x hk g e d, c, d⟩, g.at _ _ hb⟩
  item := fun A k i σ β s d QC EC ao x hn ⟨p, hb⟩ e hQ => by
    obtain ⟨xs, la, rx⟩ := x.sto n _ a hn hb
    obtain ⟨v, hv, rv⟩ := rx.get i d e
    refine wpAny_pyNext_list_item p la.isList (by simpa using hv) fun h' p' hs => hQ v h' s.toks ?_ ⟨p', hb⟩ fun b o n' e => (hs.2 b n').trans e
    obtain ⟨o, e', c, dd⟩ := p
    refine VR.mono (fun b ys t => ?_) (fun _ _ e => e) _ _ rv
    obtain ⟨ot, et, ct, rt⟩ := t
    exact ⟨ot, (hs.2 b fun z => by rw [z, e'] at et; cases et; obtain ⟨_, q⟩ := rt; rw [dd] at q; cases q).trans et, ct, rt⟩
  done := fun A k i σ β s QC EC ao x hn ⟨p, hb⟩ e hQ => by
    obtain ⟨xs, la, rx⟩ := x.sto n _ a hn hb
    have hlen := rx.length
    exact wpAny_pyNext_list_end ao.hd p la.isList (by have := List.getElem?_eq_none_iff.mp e; simp; omega) fun h' hs => hQ h' s.toks fun b o n' e => hs b o n' e
  quiet := fun i β h ⟨⟨o, e, c, _⟩, _⟩ => ⟨o, _, e, c, by decide⟩
  self := fun A i β s QC EC ⟨p, _⟩ h => wpAny_pyIter_listiter p h
theorem SIt_obj {iter : Expr} {Q : List V → (Store → Prop) → Store → Prop}
    (h : SE W k F ρ σ iter (fun d σ₁ => ∃ n ds, d = .obj n ∧ σ₁[n]? = some (.list ds) ∧ Q ds (fun σ' => σ'[n]? = some (.list ds)) σ₁) X) : SIt W k F ρ σ iter Q X := by
  refine SIt_push (ST.mono h (fun d σ₁ ⟨n, ds, e, hn, q⟩ => ⟨ds, _, q, hn, fun A β s v K EC x r hK => ?_⟩) fun _ x => x)
  subst e
  simp only [VR] at r
  obtain ⟨a, rfl, hb⟩ := r
  obtain ⟨xs, la, rx⟩ := x.sto n _ a hn hb
  exact wpAny_pyIter_list la.isList (hK { cls := .type "list_iterator", data := .fields #[.ref a, .int 0 0] } (fun i β h => h.IsListIter s.heap.objs.size a i ∧ β[n]? = some a) rfl fun I hI => ⟨hI ▸ itr_list, ⟨_, Heap.get?_push_size _ rfl, rfl, rfl⟩, hb⟩)

theorem itr_tup {l : List Env} {I a : Addr} {xs : List Value} {ds : List V} : Itr W l I ds (fun _ => True) (fun i β h => h.IsTupleIter I a i ∧ IsTup h a xs.toArray ∧ VRs W.scr β h ds xs) where
  rec_ := fun i β h ⟨⟨o, e, _, d⟩, _⟩ => ⟨o, _, e, d⟩
  go := fun i σ β h β' h' own x hk g ⟨⟨o, e, c, d⟩, t, r⟩ => ⟨⟨o, rec_keep x hk g e d, c, d⟩, g.tup x hk t, VRs.mono (fun _ _ t => g.tup x hk t) g.at _ _ r⟩
  item := fun A k i σ β s d QC EC ao x _ ⟨p, t, rx⟩ e hQ => by
    obtain ⟨v, hv, rv⟩ := rx.get i d e
    refine wpAny_pyNext_tuple_item p t (by simpa using hv) fun h' p' hs => ?_
    obtain ⟨o, e', c, dd⟩ := p
    have tt : ∀ b ys, IsTup s.heap b ys → IsTup h' b ys := fun b ys t => by
      obtain ⟨ot, et, ct, rt⟩ := t
      exact ⟨ot, (hs.2 b fun z => by rw [z, e'] at et; cases et; obtain ⟨_, q⟩ := rt; rw [dd] at q; cases q).trans et, ct, rt⟩
    exact hQ v h' s.toks (VR.mono tt (fun _ _ e => e) _ _ rv) ⟨p', tt _ _ t, VRs.mono tt (fun _ _ e => e) _ _ rx⟩ fun b o n' e => (hs.2 b n').trans e
  done := fun A k i σ β s QC EC ao x _ ⟨p, t, rx⟩ e hQ => by
    have hlen := rx.length
    exact wpAny_pyNext_tuple_end ao.hd p t (by have := List.getElem?_eq_none_iff.mp e; simp; omega) fun h' hs => hQ h' s.toks fun b o n' e => hs b o n' e
  quiet := fun i β h ⟨⟨o, e, c, _⟩, _⟩ => ⟨o, _, e, c, by decide⟩
  self := fun A i β s QC EC ⟨p, _⟩ h => wpAny_pyIter_tupleiter p h
theorem SIt_tup {iter : Expr} {Q : List V → (Store → Prop) → Store → Prop} (h : SE W k F ρ σ iter (fun d σ₁ => ∃ ds, d = .tup ds ∧ Q ds (fun _ => True) σ₁) X) : SIt W k F ρ σ iter Q X := by
  refine SIt_push (ST.mono h (fun d σ₁ ⟨ds, e, q⟩ => ⟨ds, _, q, trivial, fun A β s v K EC x r hK => ?_⟩) fun _ x => x)
  subst e
  simp only [VR] at r
  obtain ⟨a, xs, rfl, t, rx⟩ := r
  have kk : ∀ b o, s.heap.get? b = some o → (s.heap.push { cls := .type "tuple_iterator", data := .fields #[.ref a, .int 0 0] }).get? b = some o := fun _ _ e => Heap.get?_push_of_some _ e
  exact wpAny_pyIter_tuple t (hK { cls := .type "tuple_iterator", data := .fields #[.ref a, .int 0 0] } (fun i β h => h.IsTupleIter s.heap.objs.size a i ∧ IsTup h a xs.toArray ∧ VRs W.scr β h ds xs) rfl
    fun I hI => ⟨hI ▸ itr_tup, ⟨_, Heap.get?_push_size _ rfl, rfl, rfl⟩, t.keeps kk, VRs.mono (fun _ _ t => t.keeps kk) (fun _ _ e => e) _ _ rx⟩)

theorem itr_bytes {l : List Env} {I : Addr} {b : List UInt8} {t : Tok} : Itr W l I (b.map fun c => V.int (c.toNat : Int)) (fun _ => True) (fun i _ h => KBw.IsBytesIter h I b.toArray t i) where
  rec_ := fun i β h ⟨o, e, _, d⟩ => ⟨o, _, e, d⟩
  go := fun i σ β h β' h' own x hk g ⟨o, e, c, d⟩ => ⟨o, rec_keep x hk g e d, c, d⟩
  item := fun A k i σ β s d QC EC ao x _ p e hQ => by
    rw [List.getElem?_map] at e
    obtain ⟨c, hc, rfl⟩ := Option.map_eq_some_iff.mp e
    exact KBw.next_item p (by simpa using hc) fun h' p' hs => hQ _ h' _ (by simp only [VR]; exact ⟨_, rfl⟩) p' fun b o n' e => (hs.2 b n').trans e
  done := fun A k i σ β s QC EC ao x _ p e hQ => by
    exact KBw.next_end ao.hd p (by have := List.getElem?_eq_none_iff.mp e; simpa using this) fun h' hs => hQ h' s.toks fun b o n' e => hs b o n' e
  quiet := fun i β h ⟨o, e, c, _⟩ => ⟨o, _, e, c, by decide⟩
  self := fun A i β s QC EC p h => KBw.pyIter_self p h
theorem SIt_bytes {iter : Expr} {Q : List V → (Store → Prop) → Store → Prop} (h : SE W k F ρ σ iter (fun d σ₁ => ∃ b, d = .bytes b ∧ Q (b.map fun c => V.int (c.toNat : Int)) (fun _ => True) σ₁) X) : SIt W k F ρ σ iter Q X := by
  refine SIt_push (ST.mono h (fun d σ₁ ⟨b, e, q⟩ => ⟨_, _, q, trivial, fun A β s v K EC x r hK => ?_⟩) fun _ x => x)
  subst e
  simp only [VR] at r
  obtain ⟨t, rfl⟩ := r
  exact KBw.pyIter_bytes (hK { cls := .type "bytes_iterator", data := .fields #[.bytes b.toArray t, .int 0 0] } (fun i _ h => KBw.IsBytesIter h s.heap.objs.size b.toArray t i) rfl fun I hI => ⟨hI ▸ itr_bytes, ⟨_, Heap.get?_push_size _ rfl, rfl, rfl⟩⟩)

theorem itr_ascii {l : List Env} {I : Addr} {x : Str} {t : Tok} : Itr W l I (x.cps.toList.map fun c => V.str ⟨#[c]⟩) (fun _ => True) (fun i _ h => h.IsStrIter I "str_ascii_iterator" x t i) where
  rec_ := fun i β h ⟨o, e, _, d⟩ => ⟨o, _, e, d⟩
  go := fun i σ β h β' h' own x hk g ⟨o, e, c, d⟩ => ⟨o, rec_keep x hk g e d, c, d⟩
  item := fun A k i σ β s d QC EC ao x _ p e hQ => by
    rw [List.getElem?_map] at e
    obtain ⟨c, hc, rfl⟩ := Option.map_eq_some_iff.mp e
    exact wpAny_pyNext_ascii_item p (by simpa using hc) fun h' p' hs => hQ _ h' _ (by simp only [VR]; exact ⟨_, rfl⟩) p' fun b o n' e => (hs.2 b n').trans e
  done := fun A k i σ β s QC EC ao x _ p e hQ => by
    exact wpAny_pyNext_ascii_end ao.hd p (by have := List.getElem?_eq_none_iff.mp e; simpa using this) fun h' hs => hQ h' s.toks fun b o n' e => hs b o n' e
  quiet := fun i β h ⟨o, e, c, _⟩ => ⟨o, _, e, c, by decide⟩
  self := fun A i β s QC EC p h => wpAny_pyIter_striter_ascii p h
theorem SIt_ascii {iter : Expr} {Q : List V → (Store → Prop) → Store → Prop} (h : SE W k F ρ σ iter (fun d σ₁ => ∃ x, d = .str x ∧ x.cps.all (· < 128) = true ∧ Q (x.cps.toList.map fun c => V.str ⟨#[c]⟩) (fun _ => True) σ₁) X) : SIt W k F ρ σ iter Q X := by
  refine SIt_push (ST.mono h (fun d σ₁ ⟨x, e, ha, q⟩ => ⟨_, _, q, trivial, fun A β s v K EC _ r hK => ?_⟩) fun _ x => x)
  subst e
  simp only [VR] at r
  obtain ⟨t, rfl⟩ := r
  exact wpAny_pyIter_ascii ha (hK { cls := .type "str_ascii_iterator", data := .fields #[.str x t, .int 0 0] } (fun i _ h => h.IsStrIter s.heap.objs.size "str_ascii_iterator" x t i) rfl fun I hI => ⟨hI ▸ itr_ascii, ⟨_, Heap.get?_push_size _ rfl, rfl, rfl⟩⟩)
end
end Mine

open PySem PySem.W PySem.Calls PyProof.Rows
set_option Elab.async false
set_option maxRecDepth 100000
namespace Mine
section
variable {W : Wk} {k : Nat} {l : List Env} {σ : Store} {X : Store → Prop} {Q : V → Store → Prop} {QB : Bool → Store → Prop}

theorem WT.leaf {δ α : Type} {rel : Addr → List Addr → Heap → δ → α → Prop} {β : List Addr} {s : Shared} {A : Around} {t : Sem α} {Q : δ → Store → Prop} {d : δ} (hq : Q d σ) (wd : Wd W l σ β s.heap)
    (h : ∀ (QC : α → Shared → Prop) (EC : Value → Shared → Prop), (∀ a tk, rel W.scr β s.heap d a → QC a { s with toks := tk }) → wpAny (model W.prog W.w) A t QC EC s) : WT rel W l β s A t Q X :=
  fun QC EC hQ _ => wpC_of <| h QC EC fun a tk r => hQ a d σ β s.heap tk wd (.refl ..) r hq

theorem vr_int {scr β h} {i : Int} {v : Value} (r : VR scr β h (.int i) v) : ∃ t, v = .int i t := by simpa only [VR] using r
theorem vr_bytes {scr β h} {b : List UInt8} {v : Value} (r : VR scr β h (.bytes b) v) : ∃ t, v = .bytes b.toArray t := by simpa only [VR] using r
theorem vr_str {scr β h} {b : Str} {v : Value} (r : VR scr β h (.str b) v) : ∃ t, v = .str b t := by simpa only [VR] using r
theorem vr_bool {scr β h} {b : Bool} {v : Value} (r : VR scr β h (.bool b) v) : v = .bool b := by simpa only [VR] using r
theorem vr_none {scr β h} {v : Value} (r : VR scr β h .none v) : v = .none := by simpa only [VR] using r
theorem vr_tup {scr β h} {ds : List V} {v : Value} (r : VR scr β h (.tup ds) v) : ∃ a xs, v = .ref a ∧ IsTup h a (List.toArray xs) ∧ VRs scr β h ds xs := by simpa only [VR] using r
theorem vr_obj {scr β h} {n : Nat} {v : Value} (r : VR scr β h (.obj n) v) : ∃ a, v = .ref a ∧ β[n]? = some a := by simpa only [VR] using r
theorem int_vr {scr β h} {i : Int} {t : Tok} : VR scr β h (.int i) (.int i t) := by simp only [VR]; exact ⟨t, rfl⟩
theorem bytes_vr {scr β h} {b : List UInt8} {t : Tok} : VR scr β h (.bytes b) (.bytes b.toArray t) := by simp only [VR]; exact ⟨t, rfl⟩
theorem str_vr {scr β h} {b : Str} {t : Tok} : VR scr β h (.str b) (.str b t) := by simp only [VR]; exact ⟨t, rfl⟩
theorem bool_vr {scr β h} {b : Bool} : VR scr β h (.bool b) (.bool b) := by simp only [VR]
theorem ty_vr {scr β h} {T : String} : VR scr β h (.ty T) (.type T) := by simp only [VR]
theorem none_vr {scr β h} : VR scr β h .none .none := by simp only [VR]

theorem BO_add {a b : Int} (h : Q (.int (a + b)) σ) : BO W k l σ .Add (.int a) (.int b) Q X := fun A β s x y ao wd ra rb => by
  obtain ⟨t, rfl⟩ := vr_int ra; obtain ⟨u, rfl⟩ := vr_int rb
  exact .leaf h wd fun QC EC hQ => PyProof.Rows.add_int (hQ _ _ int_vr)
theorem BO_sub {a b : Int} (h : Q (.int (a - b)) σ) : BO W k l σ .Sub (.int a) (.int b) Q X := fun A β s x y ao wd ra rb => by
  obtain ⟨t, rfl⟩ := vr_int ra; obtain ⟨u, rfl⟩ := vr_int rb
  exact .leaf h wd fun QC EC hQ => PyProof.Rows.sub_int (hQ _ _ int_vr)
theorem BO_mul {a b : Int} (hm : IntMulOk a b) (h : Q (.int (a * b)) σ) : BO W k l σ .Mult (.int a) (.int b) Q X := fun A β s x y ao wd ra rb => by
  obtain ⟨t, rfl⟩ := vr_int ra; obtain ⟨u, rfl⟩ := vr_int rb
  exact .leaf h wd fun QC EC hQ => PyProof.Rows.mul_int (hQ _ _ int_vr) hm
theorem BO_mod {a b : Int} (hb : 0 < b) (h : Q (.int (a % b)) σ) : BO W k l σ .Mod (.int a) (.int b) Q X := fun A β s x y ao wd ra rb => by
  obtain ⟨t, rfl⟩ := vr_int ra; obtain ⟨u, rfl⟩ := vr_int rb
  refine .leaf h wd fun QC EC hQ => PyProof.Rows.mod_int' (by omega) ?_
  rw [Int.fmod_eq_emod_of_nonneg _ (by omega)]
  exact hQ _ _ int_vr
theorem BO_div {a b : Int} (hb : 0 < b) (hp : Builtin.divisionGoesByPylong a b = false) (h : Q (.int (a / b)) σ) : BO W k l σ .FloorDiv (.int a) (.int b) Q X := fun A β s x y ao wd ra rb => by
  obtain ⟨t, rfl⟩ := vr_int ra; obtain ⟨u, rfl⟩ := vr_int rb
  refine .leaf h wd fun QC EC hQ => PyProof.Rows.floordiv_int (by omega) ?_ (.inl hp)
  rw [Int.fdiv_eq_ediv_of_nonneg _ (by omega)]
  exact hQ _ _ int_vr
theorem BO_pow {a n : Int} (hn : 0 ≤ n) (hsz : (Builtin.Int.intBits a : Int) * n ≤ 2 ^ 27) (h : Q (.int (a ^ n.toNat)) σ) : BO W k l σ .Pow (.int a) (.int n) Q X := fun A β s x y ao wd ra rb => by
  obtain ⟨t, rfl⟩ := vr_int ra; obtain ⟨u, rfl⟩ := vr_int rb
  exact .leaf h wd fun QC EC hQ => PyProof.Rows.pow_int hn hsz (hQ _ _ int_vr)
theorem BO_shr {a n : Int} (hn : 0 ≤ n) (h : Q (.int (a / 2 ^ n.toNat)) σ) : BO W k l σ .RShift (.int a) (.int n) Q X := fun A β s x y ao wd ra rb => by
  obtain ⟨t, rfl⟩ := vr_int ra; obtain ⟨u, rfl⟩ := vr_int rb
  refine .leaf h wd fun QC EC hQ => PyProof.Rows.rshift_int hn ?_
  rw [Int.fdiv_eq_ediv_of_nonneg _ (Int.le_of_lt (kbt_pos _))]
  exact hQ _ _ int_vr
theorem BO_and255 {a : Int} (h : Q (.int (a % 256)) σ) : BO W k l σ .BitAnd (.int a) (.int 255) Q X := fun A β s x y ao wd ra rb => by
  obtain ⟨t, rfl⟩ := vr_int ra; obtain ⟨u, rfl⟩ := vr_int rb
  refine .leaf h wd fun QC EC hQ => PyProof.Rows.and_int ?_
  have := kbt_mask a 8
  rw [show ((2 : Int) ^ 8 - 1) = 255 by decide, show ((2 : Int) ^ 8) = 256 by decide] at this
  rw [this]
  exact hQ _ _ int_vr
theorem BO_addB {a b : List UInt8} (hs : a.length + b.length ≤ 16777216) (h : Q (.bytes (a ++ b)) σ) : BO W k l σ .Add (.bytes a) (.bytes b) Q X := fun A β s x y ao wd ra rb => by
  obtain ⟨t, rfl⟩ := vr_bytes ra; obtain ⟨u, rfl⟩ := vr_bytes rb
  refine .leaf h wd fun QC EC hQ => KBy.add_bytes (by simpa using hs) fun t' tk => ?_
  have : a.toArray ++ b.toArray = (a ++ b).toArray := by simp
  rw [this]
  exact hQ _ _ bytes_vr
theorem CO_lt {a b : Int} (h : QB (decide (a < b)) σ) : CO W k l σ .Lt (.int a) (.int b) QB X := fun A β s x y ao wd ra rb => by
  obtain ⟨t, rfl⟩ := vr_int ra; obtain ⟨u, rfl⟩ := vr_int rb
  exact .leaf h wd fun QC EC hQ => PyProof.Rows.lt_int (hQ _ _ rfl)
theorem CO_gt {a b : Int} (h : QB (decide (b < a)) σ) : CO W k l σ .Gt (.int a) (.int b) QB X := fun A β s x y ao wd ra rb => by
  obtain ⟨t, rfl⟩ := vr_int ra; obtain ⟨u, rfl⟩ := vr_int rb
  exact .leaf h wd fun QC EC hQ => PyProof.Rows.gt_int (hQ _ _ rfl)
theorem CO_ge {a b : Int} (h : QB (decide (b ≤ a)) σ) : CO W k l σ .GtE (.int a) (.int b) QB X := fun A β s x y ao wd ra rb => by
  obtain ⟨t, rfl⟩ := vr_int ra; obtain ⟨u, rfl⟩ := vr_int rb
  exact .leaf h wd fun QC EC hQ => PyProof.Rows.ge_int (hQ _ _ rfl)
theorem CO_eq {a b : Int} (h : QB (decide (a = b)) σ) : CO W k l σ .Eq (.int a) (.int b) QB X := fun A β s x y ao wd ra rb => by
  obtain ⟨t, rfl⟩ := vr_int ra; obtain ⟨u, rfl⟩ := vr_int rb
  refine .leaf h wd fun QC EC hQ => PyProof.Rows.eq_int (hQ _ _ ?_)
  rw [Bool.beq_eq_decide_eq]
theorem CO_neB {a b : List UInt8} (h : QB (decide (a ≠ b)) σ) : CO W k l σ .NotEq (.bytes a) (.bytes b) QB X := fun A β s x y ao wd ra rb => by
  obtain ⟨t, rfl⟩ := vr_bytes ra; obtain ⟨u, rfl⟩ := vr_bytes rb
  refine .leaf h wd fun QC EC hQ => ne_bytes (hQ _ _ ?_)
  rw [bne, Bool.beq_eq_decide_eq, decide_not]

theorem TR_bool {b : Bool} (h : QB b σ) : TR W k l σ (.bool b) QB X := fun A β s x ao wd ra => by
  cases vr_bool ra
  exact .leaf h wd fun QC EC hQ => wpAny_truthy_bool (hQ _ _ rfl)
end
end Mine

open PySem PySem.W PySem.Calls PyProof.Rows
set_option Elab.async false
set_option maxRecDepth 100000
namespace Mine

def V.isNone : V → Bool
  | .none => true
  | _ => false
theorem vr_isNone {scr β h} {d : V} {v : Value} (r : VR scr β h d v) : plainIs v .none = true ∧ (v == Value.none) = d.isNone := by
  cases d with
  | none => cases vr_none r; exact ⟨rfl, rfl⟩
  | bool b => cases vr_bool r; exact ⟨rfl, rfl⟩
  | int i => obtain ⟨t, rfl⟩ := vr_int r; exact ⟨rfl, rfl⟩
  | str i => obtain ⟨t, rfl⟩ := vr_str r; exact ⟨rfl, rfl⟩
  | bytes i => obtain ⟨t, rfl⟩ := vr_bytes r; exact ⟨rfl, rfl⟩
  | tup ds => obtain ⟨a, xs, rfl, _⟩ := vr_tup r; exact ⟨rfl, rfl⟩
  | obj n => obtain ⟨a, rfl, _⟩ := vr_obj r; exact ⟨rfl, rfl⟩
  | src => simp only [VR] at r; subst r; exact ⟨rfl, rfl⟩
  | ty T => simp only [VR] at r; subst r; exact ⟨rfl, rfl⟩

section
variable {W : Wk} {k : Nat} {F : Fm} {ρ : LEnv} {l : List Env} {σ : Store} {X : Store → Prop} {Q : V → Store → Prop} {QB : Bool → Store → Prop}

/-- new objects may come -/
theorem WT.leafK {δ α : Type} {rel : Addr → List Addr → Heap → δ → α → Prop} {β : List Addr} {s : Shared} {A : Around} {t : Sem α} {Q : δ → Store → Prop} {d : δ} (hq : Q d σ) (wd : Wd W l σ β s.heap)
    (h : ∀ (QC : α → Shared → Prop) (EC : Value → Shared → Prop), (∀ a h' tk, (∀ b o, s.heap.get? b = some o → h'.get? b = some o) → rel W.scr β h' d a → QC a { s with heap := h', toks := tk }) → wpAny (model W.prog W.w) A t QC EC s) : WT rel W l β s A t Q X :=
  fun QC EC hQ _ => wpC_of <| h QC EC fun a h' tk kk r => hQ a d σ β h' tk (wd.ext kk) (.ext kk) r hq

theorem CO_isNot {d : V} (h : QB (!d.isNone) σ) : CO W k l σ .IsNot d .none QB X := fun A β s x y ao wd ra rb => by
  cases vr_none rb
  obtain ⟨p, e⟩ := vr_isNone ra
  exact .leaf h wd fun QC EC hQ => wpAny_isNot_plain p (hQ _ s.toks (by show _ = Value.bool _; rw [e]))

theorem ints_of_vrs {scr : Addr} {β : List Addr} {h : Heap} : ∀ {ns : List Int} {vs : List Value}, VRs scr β h (ns.map V.int) vs → IntsAre vs ns
  | [], vs, r => by simp only [List.map_nil, VRs] at r; subst r; exact .nil
  | n :: ns, vs, r => by
    rw [List.map_cons] at r
    obtain ⟨v, r', rfl, r1, r2⟩ := r.uncons
    obtain ⟨t, rfl⟩ := vr_int r1
    exact .cons n t (ints_of_vrs r2)
theorem vrs_of_ints {scr : Addr} {β : List Addr} {h : Heap} : ∀ {ns : List Int} {vs : List Value}, IntsAre vs ns → VRs scr β h (ns.map V.int) vs
  | _, _, .nil => VRs.nil
  | _, _, .cons n t r => VRs.cons int_vr (vrs_of_ints r)

theorem CO_notIn {i : Int} {ns : List Int} (h : QB (!(ns.any (· == i))) σ) : CO W k l σ .NotIn (.int i) (.tup (ns.map V.int)) QB X := fun A β s x y ao wd ra rb => by
  obtain ⟨t, rfl⟩ := vr_int ra
  obtain ⟨a, xs, rfl, ht, rx⟩ := vr_tup rb
  exact .leaf h wd fun QC EC hQ => notin_tuple_ints ht (ints_of_vrs rx) (hQ _ s.toks rfl)

theorem SE_neg {x : Expr} {pos : Pos} (h : SE W k F ρ σ x (fun d σ' => ∃ i, d = .int i ∧ Q (.int (-i)) σ') X) : SE W k F ρ σ (.UnaryOp .USub x pos) Q X := by
  intro A β s QC EC ao st hQ hX
  show wpC _ A (eval (.UnaryOp .USub x pos) F.env) QC EC s
  rw [arm_eval_UnaryOp]
  refine wpC_bind (h A β s _ EC ao st (fun v d σ₁ β₁ h₁ t₁ st₁ g₁ r₁ q₁ => ?_) hX)
  obtain ⟨i, rfl, q₁⟩ := q₁
  obtain ⟨t, rfl⟩ := vr_int r₁
  refine wpC_at (wpC_of (wpAny_holding (PyProof.Rows.neg_int ?_)))
  exact hQ _ (.int (-i)) σ₁ β₁ h₁ _ st₁ g₁ int_vr q₁

abbrev NoSl (slice : Expr) : Prop := ∀ o i, subscripted slice false o i = operate [o, i] (getItem o i)

theorem SI_bytes {value slice : Expr} {b : List UInt8} {i : Int} (hs : NoSl slice) (h0 : 0 ≤ i) (h1 : i < b.length) (hz : b.length ≤ 1099511627776) (h : Q (.int (b.getD i.toNat 0).toNat) σ) : SI W k l σ value slice (.bytes b) (.int i) Q X := fun A β s x y ao wd ra rb => by
  obtain ⟨t, rfl⟩ := vr_bytes ra; obtain ⟨u, rfl⟩ := vr_int rb
  exact .leaf h wd fun QC EC hQ => tail_any (typeIs_bytes _ _ _) FB.slot_bytes_getitem.lookup (getItem_bytes hz h0 h1 (hQ _ _ int_vr)) (hs _ _)
theorem SI_tup {value slice : Expr} {ds : List V} {i : Int} {d : V} (hs : NoSl slice) (h0 : 0 ≤ i) (hz : i < 2 ^ 63) (hd : ds[i.toNat]? = some d) (h : Q d σ) : SI W k l σ value slice (.tup ds) (.int i) Q X := fun A β s x y ao wd ra rb => by
  obtain ⟨a, xs, rfl, ht, rx⟩ := vr_tup ra; obtain ⟨u, rfl⟩ := vr_int rb
  obtain ⟨v, hv, rv⟩ := rx.get _ _ hd
  have hl : i.toNat < xs.length := (List.getElem?_eq_some_iff.mp hv).1
  refine .leaf h wd fun QC EC hQ => tail_any (ops := [.ref a, .int i u]) ht.typeIs slot_tuple_getitem.lookup (getItem_tuple ht (by omega) hz (j := i.toNat) ?_ (by simpa using hv) (hQ _ s.toks rv)) (hs _ _)
  have hn : ¬ i < 0 := by omega
  have h1 : i < (xs.toArray.size : Int) := by simp; omega
  simp only [seqIndex?, hn, if_false]
  rw [if_pos (by simp; omega)]
theorem SI_obj {value slice : Expr} {n : Nat} {ds : List V} {i : Int} {d : V} (hs : NoSl slice) (hn : σ[n]? = some (.list ds)) (h0 : 0 ≤ i) (hz : i < 2 ^ 63) (hd : ds[i.toNat]? = some d) (h : Q d σ) : SI W k l σ value slice (.obj n) (.int i) Q X := fun A β s x y ao wd ra rb => by
  obtain ⟨a, rfl, hb⟩ := vr_obj ra; obtain ⟨u, rfl⟩ := vr_int rb
  obtain ⟨xs, la, rx⟩ := wd.sto n _ a hn hb
  obtain ⟨v, hv, rv⟩ := rx.get _ _ hd
  exact .leaf h wd fun QC EC hQ => tail_any (ops := [.ref a, .int i u]) la.isList.typeIs slot_list_getitem.lookup (wpAny_getItem_list la.isList h0 hz (by simpa using hv) (hQ _ s.toks rv)) (hs _ _)

/-- the part of a list of octets -/
def cutB (b : List UInt8) (lo hi : Option Int) : List UInt8 :=
  (b.drop (lo.elim 0 (clipAt b.length))).take (hi.elim b.length (clipAt b.length) - lo.elim 0 (clipAt b.length))
theorem SSl_bytes {value slice : Expr} {b : List UInt8} {lo hi : Option Int} (hs : ∀ o i, subscripted slice false o i = operate [i, o] (getItem o i)) (hz : b.length ≤ 16777216) (h : Q (.bytes (cutB b lo hi)) σ) : SSl W k l σ value slice (.bytes b) lo hi Q X := by
  intro A β s x u v QC EC ao wd ra hu hv hQ
  obtain ⟨t, rfl⟩ := vr_bytes ra
  have kk : ∀ b o, s.heap.get? b = some o → (s.heap.push (slObj u v)).get? b = some o := fun _ _ e => Heap.get?_push_of_some _ e
  refine wpC_of <| tail_any (ops := [.ref s.heap.objs.size, .bytes b.toArray t]) (typeIs_bytes _ _ _) FB.slot_bytes_getitem.lookup (getItem_meets (typeIs_bytes _ _ _) (by decide) FB.slot_bytes_getitem FB.entry_bytes_getitem (FB.args_bytes_getitem_2 _ _) (KBc.meets_slice2 b.toArray t _ hu hv)
    ⟨Heap.IsSliceOf.new _ _ _ _, Nat.le_trans (KBc.size_picked_le _ lo hi) (by rw [sizeLine_eq]; simpa using hz), fun t' k => ?_⟩) (hs _ _)
  rw [KBc.picked_eq]
  exact hQ _ _ σ β _ _ (wd.ext kk) (.ext kk) (by simp only [VR]; exact ⟨_, rfl⟩) h
end
end Mine

open PySem PySem.W PySem.Calls PyProof.Rows
set_option Elab.async false
set_option maxRecDepth 100000
namespace Mine
theorem ba_mro : mroOf (.type "bytearray") = pure [.type "bytearray", .type "object"] := by rw [mroOf_type]; kernel_rfl
theorem ba_lk_new : typeLookup (.type "bytearray") "__new__" = pure (some (.builtin "bytearray.__new__")) := by rw [typeLookup_type, builtinLookup_eq_fast]; kernel_rfl
theorem ba_sub : isSubtype (.type "bytearray") (.type "bytearray") = pure true := by rw [isSubtype_type]; kernel_rfl
theorem ba_slot_init : Slot "bytearray" "__init__" "bytearray.__init__" :=
  .of (owner := "bytearray") (n := "__init__") (by rw [typeLookup_type, builtinLookup_eq_fast]; kernel_rfl) (by decide +kernel) (by decide +kernel) (by decide +kernel)
    (by first | exact .inl (by decide +kernel) | exact .inr (by decide +kernel)) ba_sub
theorem ba_slot_append : Slot "bytearray" "append" "bytearray.append" :=
  .of (owner := "bytearray") (n := "append") (by rw [typeLookup_type, builtinLookup_eq_fast]; kernel_rfl) (by decide +kernel) (by decide +kernel) (by decide +kernel)
    (by first | exact .inl (by decide +kernel) | exact .inr (by decide +kernel)) ba_sub
theorem ba_slot_extend : Slot "bytearray" "extend" "bytearray.extend" :=
  .of (owner := "bytearray") (n := "extend") (by rw [typeLookup_type, builtinLookup_eq_fast]; kernel_rfl) (by decide +kernel) (by decide +kernel) (by decide +kernel)
    (by first | exact .inl (by decide +kernel) | exact .inr (by decide +kernel)) ba_sub
theorem ba_called : TypeCalled "bytearray" "bytearray.__new__" "bytearray.__init__" :=
  ⟨by decide +kernel, by decide +kernel, ⟨_, _, ba_mro⟩, madeBy_type ba_mro ba_lk_new (by decide +kernel), by decide +kernel, ba_sub, ba_slot_init⟩
theorem ba_typeCall : checkTypeCall "bytearray" ⟨[], []⟩ = pure () := by kernel_rfl
theorem ba_newCall : checkBuiltinCall "bytearray.__new__" ⟨[.type "bytearray"], []⟩ = pure () := by kernel_rfl
theorem ba_plain_new : plainId "bytearray.__new__" = true := by decide +kernel
theorem ba_entry_new : entryFor table "bytearray.__new__" = some Builtin.«list.__new__» := entryFor_alias (id' := "list.__new__") (by kernel_rfl) (by first | rfl | decide +kernel) (by decide +kernel) (by kernel_rfl)
theorem ba_entry_init : entryFor table "bytearray.__init__" = some Builtin.«bytearray.__init__» := by first | exact entryFor_of_fast (by kernel_rfl) | exact entryFor_of_tree (by kernel_rfl)
theorem ba_entry_append : entryFor table "bytearray.append" = some Builtin.«bytearray.append» := by first | exact entryFor_of_fast (by kernel_rfl) | exact entryFor_of_tree (by kernel_rfl)
theorem ba_entry_extend : entryFor table "bytearray.extend" = some Builtin.«bytearray.extend» := by first | exact entryFor_of_fast (by kernel_rfl) | exact entryFor_of_tree (by kernel_rfl)
theorem ba_ty_append : typeOf (.builtin "bytearray.append") = pure (.type "method_descriptor") := by show builtinType _ = _; rw [builtinType_eq_fast]; kernel_rfl
theorem ba_ty_extend : typeOf (.builtin "bytearray.extend") = pure (.type "method_descriptor") := by show builtinType _ = _; rw [builtinType_eq_fast]; kernel_rfl
set_option maxRecDepth 1000000 in
set_option maxHeartbeats 4000000 in
theorem ba_owner : ("bytearray.__new__".splitOn ".__new__").headD "" = "bytearray" := by simp +decide [String.splitOn, String.splitOnAux]
theorem ba_args_init (a : Value) : argsOk "bytearray.__init__" ⟨[a], []⟩ := by unfold argsOk; kernel_rfl
theorem ba_args_append (a b : Value) : argsOk "bytearray.append" ⟨[a, b], []⟩ := by unfold argsOk; kernel_rfl
theorem ba_args_extend (a b : Value) : argsOk "bytearray.extend" ⟨[a, b], []⟩ := by unfold argsOk; kernel_rfl
theorem ba_no_release : typeLookup (.type "bytearray") "__release_buffer__" = pure (some (.builtin "bytearray.__release_buffer__")) := by rw [typeLookup_type, builtinLookup_eq_fast]; kernel_rfl
theorem ba_lk_buffer : typeLookup (.type "bytearray") "__buffer__" = pure (some (.builtin "bytearray.__buffer__")) := by rw [typeLookup_type, builtinLookup_eq_fast]; kernel_rfl
theorem b_lk_buffer : typeLookup (.type "bytes") "__buffer__" = pure (some (.builtin "bytes.__buffer__")) := by rw [typeLookup_type, builtinLookup_eq_fast]; kernel_rfl
theorem b_no_release : typeLookup (.type "bytes") "__release_buffer__" = pure none := by rw [typeLookup_type, builtinLookup_eq_fast]; kernel_rfl
end Mine

open PySem PySem.W PySem.Calls PyProof.Rows
set_option Elab.async false
set_option maxRecDepth 100000
namespace Mine
section
variable {prog : Program} {w : World} {M : Model} {A : Around} {E : Value → Shared → Prop} {s : Shared} {a : Addr} {b : List UInt8}

theorem guards_none {st : List (Code × Pos)} (h : guardsOf st = []) : ∀ x ∈ st, x.1.isGuard = false := by
  intro x hx
  cases q : x.1.isGuard with
  | false => rfl
  | true =>
    have : x.1 ∈ guardsOf st := List.mem_filter.mpr ⟨List.mem_map_of_mem hx, q⟩
    rw [h] at this; cases this

theorem C_exported {Q : Bool → Shared → Prop} (hg : A.guards = some []) (h : Q false s) : wpC M A (Builtin.Bytes.exported (.ref a)) Q E s := by
  unfold Builtin.Bytes.exported
  refine wpC_bind (wpC_stack fun st hok hgd => wpC_pure ?_)
  have hgs := guards_none (hgd _ hg)
  rw [List.any_eq_false.mpr]
  · exact h
  · intro x hx
    have h1 := hok x hx
    have h2 := hgs x hx
    rw [Bool.not_eq_true]
    split
    · exact absurd h2 (by show ¬ (guardIds.contains "bytearray.__contains__" = false); decide)
    · exact absurd h2 (by show ¬ (guardIds.contains "bytearray.__mod__" = false); decide)
    · exact absurd h2 (by show ¬ (guardIds.contains "bytearray.__rmod__" = false); decide)
    · exact absurd h2 (by show ¬ (guardIds.contains "_struct.pack_into.held" = false); decide)
    · exact absurd h2 (by show ¬ (guardIds.contains "bytearray.find.held" = false); decide)
    · rename_i id _ _ _ _ _ _ _ _
      simp only [okc, Bool.not_eq_true'] at h1
      rw [h1, Bool.and_false]
    · rfl

theorem BarrAt.typeIs (x : BarrAt s.heap a b) : s.TypeIs (.ref a) "bytearray" := let ⟨o, e, c, _⟩ := x; ⟨o, e, c⟩

theorem wpAny_exportsOf {Q : Nat → Shared → Prop} (x : BarrAt s.heap a b) (h : Q 0 s) : wpAny M A (Builtin.Bytes.exportsOf (.ref a)) Q E s := by
  obtain ⟨o, e, c, _, d⟩ := x
  unfold Builtin.Bytes.exportsOf
  refine wpAny_bind (wpAny_load e ?_)
  rw [d]
  exact wpAny_pure h
theorem C_exports {Q : Bool → Shared → Prop} (hg : A.guards = some []) (x : BarrAt s.heap a b) (h : Q false s) : wpC M A (Builtin.Bytes.exported (.ref a) <||> (do return (← Builtin.Bytes.exportsOf (.ref a)) > 0)) Q E s := by
  unfold orM
  exact wpC_bind (C_exported hg (wpC_of (wpAny_bind (wpAny_exportsOf x (wpAny_pure h)))))
theorem C_checkResize {Q : Unit → Shared → Prop} (hg : A.guards = some []) (x : BarrAt s.heap a b) (h : Q () s) : wpC M A (Builtin.Bytes.checkResize (.ref a)) Q E s := by
  unfold Builtin.Bytes.checkResize
  exact wpC_bind (C_exports hg x (wpC_pure h))
theorem wpAny_payload {Q : Array UInt8 → Shared → Prop} (x : BarrAt s.heap a b) (h : Q b.toArray s) : wpAny M A (Builtin.Bytes.payload (.ref a)) Q E s := by
  obtain ⟨o, e, c, _, d⟩ := x
  unfold Builtin.Bytes.payload Builtin.Bytes.payload?
  refine wpAny_bind (wpAny_bind (wpAny_load e ?_))
  rw [d]
  exact wpAny_pure (wpAny_pure h)
theorem wpAny_write {f : Array UInt8 → Array UInt8} {Q : Unit → Shared → Prop} (x : BarrAt s.heap a b) (hz : (f b.toArray).size ≤ sizeLine) (h : ∀ h', BarrAt h' a (f b.toArray).toList → Heap.SameBut a s.heap h' → Q () { s with heap := h' }) :
    wpAny M A (Builtin.Bytes.write (.ref a) f) Q E s := by
  obtain ⟨o, e, c, dd, d⟩ := x
  show wpAny M A (updateBytearray a f) Q E s
  unfold updateBytearray
  refine wpAny_bind (wpAny_load e ?_)
  rw [d]
  show wpAny _ _ (update a (Obj.mapBytearray f) >>= fun _ => lookBehind a) _ _ _
  refine wpAny_bind (wpAny_update e ?_)
  have e2 : (s.heap.update a (Obj.mapBytearray f)).get? a = some (Obj.mapBytearray f o) := Heap.get?_update_self _ e (by obtain ⟨c', d', q', s'⟩ := o; simp only at d; subst d; rfl)
  have d2 : (Obj.mapBytearray f o).data = .bytearray (f b.toArray) 0 := by obtain ⟨c', d', q', s'⟩ := o; simp only at d; subst d; rfl
  have c2 : (Obj.mapBytearray f o).cls = .type "bytearray" := by obtain ⟨c', d', q', s'⟩ := o; simp only at d; subst d; exact c
  have dd2 : (Obj.mapBytearray f o).dict = none := by obtain ⟨c', d', q', s'⟩ := o; simp only at d; subst d; exact dd
  refine wpAny_lookBehind e2 ?_ (h _ ⟨_, e2, c2, dd2, by rw [d2]⟩ (Heap.SameBut.update ..))
  rw [d2]
  show (if (f b.toArray).size > sizeLine then some "bytearray:memory" else none) = none
  rw [if_neg (by omega)]

theorem C_append {i : Int} {t : Tok} {Q : Value → Shared → Prop} (hg : A.guards = some []) (x : BarrAt s.heap a b) (h0 : 0 ≤ i) (h1 : i < 256) (hz : b.length < 16777216)
    (h : ∀ h', BarrAt h' a (b ++ [i.toNat.toUInt8]) → Heap.SameBut a s.heap h' → Q .none { s with heap := h' }) : wpC (model prog w) A (call (.builtin "bytearray.append") [.ref a, .int i t]) Q E s := by
  refine C_call_entry ba_slot_append x.typeIs ba_entry_append ?_ (by rfl) (ba_args_append _ _)
  unfold Builtin.«bytearray.append»
  refine wpC_eq (a := (Value.ref a, Value.int i t)) rfl ?_
  refine wpC_bind ?_
  unfold Builtin.Bytes.byteValue
  refine wpC_eq (rfl : asIndex (.int i t) = pure i) ?_
  rw [if_neg (by simp only [Bool.or_eq_true, decide_eq_true_eq]; omega)]
  refine wpC_pure (wpC_bind (C_checkResize hg x (wpC_then (wpAny_write x (by rw [sizeLine_eq]; simp; omega) fun h' x' hs => wpC_pure ⟨_, rfl, ?_⟩))))
  refine h h' ?_ hs
  simpa using x'

theorem wpAny_slotIsOwn {v : Value} {T name id : String} {Q : Bool → Shared → Prop} (hT : s.TypeIs v T) (hl : typeLookup (.type T) (name : Str) = pure (some (.builtin id))) (he : id.endsWith ("." ++ name) = true)
    (hd : id.dropRight (name.length + 1) = T) (hs : isSubtype (.type T) (.type T) = pure true) (h : Q true s) : wpAny M A (Builtin.Bytes.slotIsOwn v name) Q E s := by
  unfold Builtin.Bytes.slotIsOwn
  refine wpAny_bind (wpAny_specialOf hT hl ?_)
  dsimp only
  rw [he, hd]
  exact wpAny_isInstance hT hs h
theorem wpAny_ownRelease_ba {Q : Bool → Shared → Prop} {v : Value} (hT : s.TypeIs v "bytearray") (h : Q false s) : wpAny M A (Builtin.Bytes.ownRelease v) Q E s := by
  unfold Builtin.Bytes.ownRelease
  exact wpAny_bind (wpAny_slotIsOwn hT ba_no_release (by decide +kernel) (by decide +kernel) ba_sub (wpAny_pure h))
theorem wpAny_ownRelease_b {Q : Bool → Shared → Prop} {x : Array UInt8} {t : Tok} (h : Q false s) : wpAny M A (Builtin.Bytes.ownRelease (.bytes x t)) Q E s := by
  unfold Builtin.Bytes.ownRelease Builtin.Bytes.slotIsOwn
  exact wpAny_bind (wpAny_bind (wpAny_specialOf (typeIs_bytes _ _ _) b_no_release (wpAny_pure (wpAny_pure h))))

theorem wpAny_buffer_ba {id : String} {full : Bool} {Q : Option (Array UInt8) → Shared → Prop} (x : BarrAt s.heap a b) (h : Q (some b.toArray) s) : wpAny M A (Builtin.Bytes.buffer? id (.ref a) full) Q E s := by
  unfold Builtin.Bytes.buffer?
  refine wpAny_bind (wpAny_specialOf x.typeIs ba_lk_buffer ?_)
  refine wpAny_bind (wpAny_slotIsOwn x.typeIs ba_lk_buffer (by decide +kernel) (by decide +kernel) ba_sub ?_)
  refine wpAny_bind (wpAny_specialOf x.typeIs ba_lk_buffer ?_)
  dsimp only
  refine wpAny_bind (wpAny_ownRelease_ba x.typeIs ?_)
  exact wpAny_bind (wpAny_payload x (wpAny_pure h))
theorem b_sub : isSubtype (.type "bytes") (.type "bytes") = pure true := by rw [isSubtype_type]; kernel_rfl
theorem wpAny_buffer_b {id : String} {full : Bool} {x : Array UInt8} {t : Tok} {Q : Option (Array UInt8) → Shared → Prop} (h : Q (some x) s) : wpAny M A (Builtin.Bytes.buffer? id (.bytes x t) full) Q E s := by
  have hT : s.TypeIs (.bytes x t) "bytes" := typeIs_bytes _ _ _
  unfold Builtin.Bytes.buffer?
  refine wpAny_bind (wpAny_specialOf hT b_lk_buffer ?_)
  refine wpAny_bind (wpAny_slotIsOwn hT b_lk_buffer (by decide +kernel) (by decide +kernel) b_sub ?_)
  refine wpAny_bind (wpAny_specialOf hT b_lk_buffer ?_)
  refine wpAny_bind (wpAny_ownRelease_b ?_)
  exact wpAny_bind (wpAny_pure (wpAny_pure h))
theorem wpAny_takeBuffer_b {id : String} {x : Array UInt8} {t : Tok} {Q : Option (Array UInt8 × Option Value) → Shared → Prop} (h : Q (some (x, none)) s) : wpAny M A (Builtin.Bytes.takeBufferQuiet? id (.bytes x t) 0) Q E s := by
  have hT : s.TypeIs (.bytes x t) "bytes" := typeIs_bytes _ _ _
  unfold Builtin.Bytes.takeBufferQuiet? Builtin.Bytes.takeBuffer?
  refine wpAny_bind (wpAny_attempt ?_)
  refine wpAny_bind (wpAny_specialOf hT b_lk_buffer ?_)
  refine wpAny_bind (wpAny_slotIsOwn hT b_lk_buffer (by decide +kernel) (by decide +kernel) b_sub ?_)
  refine wpAny_bind (wpAny_specialOf hT b_lk_buffer ?_)
  exact wpAny_bind (wpAny_buffer_b (wpAny_pure (wpAny_pure h)))

theorem C_extend {x : List UInt8} {t : Tok} {Q : Value → Shared → Prop} (hg : A.guards = some []) (xa : BarrAt s.heap a b) (hz : b.length + x.length ≤ 16777216)
    (h : ∀ h', BarrAt h' a (b ++ x) → Heap.SameBut a s.heap h' → Q .none { s with heap := h' }) : wpC (model prog w) A (call (.builtin "bytearray.extend") [.ref a, .bytes x.toArray t]) Q E s := by
  refine C_call_entry ba_slot_extend xa.typeIs ba_entry_extend ?_ (by rfl) (ba_args_extend _ _)
  unfold Builtin.«bytearray.extend»
  refine wpC_eq (a := (Value.ref a, Value.bytes x.toArray t)) rfl ?_
  refine wpC_then (wpAny_specialOf (typeIs_bytes _ _ _) b_lk_buffer ?_)
  refine wpC_then (wpAny_rule (wpC_then (wpAny_payload xa (wpC_then (wpAny_takeBuffer_b ?_)))))
  dsimp only
  have fin : wpC (model prog w) A.in1 (Builtin.Bytes.write (.ref a) (· ++ x.toArray) >>= fun _ => ret .none) (fun f s' => ∃ v, f = .done (.ret v) ∧ Q v s') E s :=
    wpC_then (wpAny_write xa (by rw [sizeLine_eq]; simpa using hz) fun h' x' hs => wpC_pure ⟨_, rfl, h h' (by simpa using x') hs⟩)
  show wpC _ _ (if (!x.toArray.isEmpty) = true then Builtin.Bytes.checkResize (.ref a) >>= fun _ => (Builtin.Bytes.write (.ref a) (· ++ x.toArray) >>= fun _ => ret .none) else (Builtin.Bytes.write (.ref a) (· ++ x.toArray) >>= fun _ => ret .none)) _ _ _
  split
  · exact wpC_bind (C_checkResize hg xa fin)
  · exact fin

/-- bytes of a bytearray, or of bytes -/
theorem ba_no_bytes : typeLookup (.type "bytearray") "__bytes__" = pure none := by rw [typeLookup_type, builtinLookup_eq_fast]; kernel_rfl
theorem ba_no_index : typeLookup (.type "bytearray") "__index__" = pure none := by rw [typeLookup_type, builtinLookup_eq_fast]; kernel_rfl
theorem b_lk_bytes : typeLookup (.type "bytes") "__bytes__" = pure (some (.builtin "bytes.__bytes__")) := by rw [typeLookup_type, builtinLookup_eq_fast]; kernel_rfl
theorem code_bytes_ba {Q : Value → Shared → Prop} (x : BarrAt s.heap a b) (hz : b.length ≤ 16777216) (h : ∀ t k, Q (.bytes b.toArray t) { s with toks := k }) :
    codeAny (model prog w) A (.call (.builtin "bytes.__new__") ⟨[.type "bytes", .ref a], []⟩) (wants Q E) s := by
  refine codeAny_of_tree ?_
  show wpAny _ A.in1 (do checkBuiltinCall "bytes.__new__" ⟨[.type "bytes", .ref a], []⟩; again (.builtin "bytes.__new__" ⟨[.type "bytes", .ref a], []⟩)) _ _ s
  refine wpAny_bind (wpAny_of_eq (F.bm_newCall _) (wpAny_pure ⟨plainId_quiet F.bm_plain _, codeAny_builtin F.bm_entry ?_⟩))
  rw [Around.under_plainId F.bm_plain _]
  have hT := x.typeIs
  obtain ⟨o, e, c, dd, d⟩ := id x
  unfold Builtin.«bytes.__new__»
  refine wpAny_bind (wpAny_of_eq (a := true) rfl ?_)
  refine bm_if_false rfl ?_
  refine wpAny_bind (wpAny_of_eq F.bm_sub ?_)
  refine bm_if_false rfl ?_
  refine wpAny_bind (wpAny_of_eq (F.bm_bind _) ?_)
  refine wpAny_bind (wpAny_of_eq (a := ()) rfl ?_)
  refine wpAny_bind (wpAny_of_eq (a := ()) rfl ?_)
  refine bm_if_false rfl ?_
  refine wpAny_bind (wpAny_specialOf hT ba_no_bytes ?_)
  refine wpAny_bind (wpAny_bind ?_)
  show wpAny _ _ (load a >>= _) _ _ _
  refine wpAny_bind (wpAny_load e ?_)
  rw [d]
  refine wpAny_pure (wpAny_pure ?_)
  refine bm_if_false rfl ?_
  refine wpAny_bind (wpAny_specialOf hT ba_no_index ?_)
  refine bm_if_true rfl ?_
  first
    | show wpAny _ _ (Builtin.Bytes.buffer? "bytes.__new__" (.ref a) true >>= _) _ _ _
    | (refine wpAny_bind ?_; show wpAny _ _ (Builtin.Bytes.buffer? "bytes.__new__" (.ref a) true >>= _) _ _ _)
  refine wpAny_bind (wpAny_buffer_ba x (wpAny_bind (wpAny_rule (wpAny_bind (wpAny_mkBytes ?_ (by rw [sizeLine_eq]; simpa using hz))))))
  show wpAny _ _ (if (Value.type "bytes" == Value.type "bytes") = true then _ else _) _ _ _
  refine bm_if_true (by decide) ?_
  first
    | exact wpAny_pure (h _ _)
    | exact wpAny_bind (wpAny_pure (wpAny_pure (h _ _)))
end
end Mine

open PySem PySem.W PySem.Calls PyProof.Rows
set_option Elab.async false
set_option maxRecDepth 100000
namespace Mine
section
variable {prog : Program} {w : World} {M : Model} {A : Around} {E : Value → Shared → Prop} {s : Shared} {a : Addr} {b : List UInt8}

theorem C_if_false {α : Type} {c : Bool} {x y : Sem α} {Q : α → Shared → Prop} (hc : c = false) (h : wpC M A y Q E s) : wpC M A (if c = true then x else y) Q E s := by subst hc; exact h
theorem C_if_true {α : Type} {c : Bool} {x y : Sem α} {Q : α → Shared → Prop} (hc : c = true) (h : wpC M A x Q E s) : wpC M A (if c = true then x else y) Q E s := by subst hc; exact h

theorem C_builtin {R : Result → Shared → Prop} {id : String} {args : Args} {b : Builtin} (hb : entryFor table id = some b)
    (h : wpC (model prog w) (A.under (.builtin id args)) (b args) (fun fin s' => match fin with | .done f => R (.ok f) s' | .again c' => c'.quiet = true ∧ okc c' = true ∧ codeC (model prog w) A c' R s') (fun e s' => R (.error e) s') s) :
    codeC (model prog w) A (.builtin id args) R s := by
  refine codeC_tree ?_
  show wpC _ _ (match entryFor table id with | some b => b args | none => unsupported ((withoutEnding? id "#data").getD id)) _ _ s
  rw [hb]; exact h
theorem code_ba_new {Q : Value → Shared → Prop} (h : Q (.ref s.heap.objs.size) { s with heap := s.heap.push { cls := .type "bytearray", data := .bytearray #[] } }) :
    codeAny (model prog w) A (.call (.builtin "bytearray.__new__") ⟨[.type "bytearray"], []⟩) (wants Q E) s := by
  refine codeAny_of_tree ?_
  show wpAny _ A.in1 (do checkBuiltinCall "bytearray.__new__" ⟨[.type "bytearray"], []⟩; again (.builtin "bytearray.__new__" ⟨[.type "bytearray"], []⟩)) _ _ s
  refine wpAny_bind (wpAny_of_eq ba_newCall (wpAny_pure ⟨plainId_quiet ba_plain_new _, codeAny_builtin_stack ba_entry_new rfl fun p st => ?_⟩))
  rw [Around.under_plainId ba_plain_new _]
  have hsub := ba_sub
  have hown := ba_owner
  obtain ⟨hp, g, d, tk, os⟩ := s
  simp only [hown]
  wp_walk
  exact h

theorem C_ba_init {Q : Fin → Shared → Prop} (hg : A.guards = some []) (x : BarrAt s.heap a []) (h : ∀ h', BarrAt h' a [] → Heap.SameBut a s.heap h' → Q (.done (.ret .none)) { s with heap := h' }) :
    wpC (model prog w) A (Builtin.«bytearray.__init__» ⟨[.ref a], []⟩) Q E s := by
  unfold Builtin.«bytearray.__init__»
  refine wpC_then (wpAny_ownRelease_ba x.typeIs ?_)
  refine C_if_false rfl ?_
  refine wpC_eq (a := [none, none, none]) (by kernel_rfl) ?_
  refine wpC_eq (a := ()) rfl ?_
  refine wpC_eq (a := ()) rfl ?_
  refine wpC_bind (C_exports hg x ?_)
  refine C_if_false rfl ?_
  refine wpC_then (wpAny_write x (by show (#[] : Array UInt8).size ≤ sizeLine; exact Nat.zero_le _) fun h' x' hs => ?_)
  exact wpC_of (by
    dsimp only
    first
      | exact wpAny_pure (h h' x' hs)
      | exact wpAny_bind (wpAny_pure (wpAny_pure (h h' x' hs))))

theorem C_ba_call {Q : Value → Shared → Prop} (hg : A.guards = some [])
    (h : ∀ h', BarrAt h' s.heap.objs.size [] → (∀ b o, s.heap.get? b = some o → h'.get? b = some o) → Q (.ref s.heap.objs.size) { s with heap := h' }) : wpC (model prog w) A (call (.type "bytearray") []) Q E s := by
  refine wpC_call (codeC_tree ?_)
  show wpC _ _ (callAny (.type "bytearray") _) _ _ _
  refine wpC_pure ⟨Code.quiet_builtin _ (by decide +kernel), by rfl, C_builtin F.entry_type_call ?_⟩
  rw [Around.under_plain (weight_type_call_type "bytearray" [] []) rfl]
  unfold Builtin.«type.__call__»
  refine C_if_false ba_called.notType ?_
  refine C_if_false ba_called.canCreate ?_
  refine wpC_eq ba_typeCall ?_
  refine wpC_eq ba_mro ?_
  refine C_if_false rfl ?_
  refine wpC_eq ba_called.made ?_
  refine wpC_eq rfl ?_
  refine wpC_bind (wpC_holding (wpC_of (wpAny_call (codeAny_mono (code_ba_new (Q := fun v s' => v = .ref s.heap.objs.size ∧ s' = { s with heap := s.heap.push { cls := .type "bytearray", data := .bytearray #[] } }) (E := fun _ _ => False) ⟨rfl, rfl⟩) fun r s' hr => ?_))))
  cases r with
  | error e => exact hr.elim
  | ok f =>
    cases f with
    | ret v =>
      obtain ⟨rfl, rfl⟩ := hr
      have x : BarrAt (s.heap.push { cls := .type "bytearray", data := .bytearray #[] }) s.heap.objs.size [] := ⟨_, Heap.get?_push_size _ rfl, rfl, rfl, rfl⟩
      have k1 : ∀ b o, s.heap.get? b = some o → (s.heap.push { cls := .type "bytearray", data := .bytearray #[] }).get? b = some o := fun _ _ e => Heap.get?_push_of_some _ e
      refine wpC_then (wpAny_isInstance (s := { s with heap := s.heap.push { cls := .type "bytearray", data := .bytearray #[] } }) x.typeIs ba_sub ?_)
      refine C_if_false rfl ?_
      refine wpC_bind (wpC_holding ?_)
      simp only [callSpecial?]
      refine wpC_then (wpAny_specialOf (s := { s with heap := s.heap.push { cls := .type "bytearray", data := .bytearray #[] } }) x.typeIs ba_slot_init.lookup ?_)
      dsimp only
      refine wpC_holding (wpC_eq (ba_slot_init.bind _) (wpC_bind ?_))
      refine C_call_entry (s := { s with heap := s.heap.push { cls := .type "bytearray", data := .bytearray #[] } }) ba_slot_init x.typeIs ba_entry_init (C_ba_init hg x fun h' x' hs => ⟨.none, rfl, wpC_pure ?_⟩) (by rfl) (ba_args_init _)
      refine C_if_false (by rfl) (wpC_pure ?_)
      exact h h' x' fun b o e => (hs.2 b fun q => by rw [q] at e; exact absurd (Heap.lt_size e) (Nat.lt_irrefl _)).trans (k1 b o e)
    | _ => exact hr.elim
end
end Mine

open PySem PySem.W PySem.Calls PyProof.Rows
set_option Elab.async false
set_option maxRecDepth 100000
namespace Mine
theorem plainAttrs_ba : PlainAttrs "bytearray" :=
  ⟨⟨"bytearray.__getattribute__", by rw [typeLookup_type, builtinLookup_eq_fast]; kernel_rfl, by decide +kernel⟩, by rw [typeLookup_type, builtinLookup_eq_fast]; kernel_rfl⟩
theorem b_slot_join : Slot "bytes" "join" "bytes.join" :=
  .of (owner := "bytes") (n := "join") (by rw [typeLookup_type, builtinLookup_eq_fast]; kernel_rfl) (by decide +kernel) (by decide +kernel) (by decide +kernel)
    (by first | exact .inl (by decide +kernel) | exact .inr (by decide +kernel)) (by rw [isSubtype_type]; kernel_rfl)
theorem b_ty_join : typeOf (.builtin "bytes.join") = pure (.type "method_descriptor") := by show builtinType _ = _; rw [builtinType_eq_fast]; kernel_rfl

theorem C_Call_method {prog : Program} {w : World} {A : Around} {E : Value → Shared → Prop} {s : Shared} {env : Env} {o : Expr} {name : Str} {apos pos : Pos} {args : List Expr} {T id : String} {Q : Value → Shared → Prop}
    (hbase : attributeBase o name env (eval o env) = eval o env)
    (hfew : methodCallForm (args.length + 0) (backTo pos (starEach args env)) [] = true)
    (hline : (apos.endLine == pos.line) = true)
    (pa : PlainAttrs T) (slot : Slot T name id) (hty : typeOf (.builtin id) = pure (.type "method_descriptor"))
    (h : wpC (model prog w) A (eval o env) (fun ov s₁ => s₁.TypeIs ov T ∧ (∀ a, ov = .ref a → ∃ ob, s₁.heap.get? a = some ob ∧ ob.dict = none) ∧
      wpC (model prog w) A (callWith pos (.builtin id) [ov] (backTo pos (starEach args env)) []) Q E s₁) E s) :
    wpC (model prog w) A (eval (.Call (.Attribute o name apos) args [] pos) env) Q E s := by
  rw [arm_eval_Call, hbase]
  refine wpC_bind (wpC_mono h (fun ov s₁ h₁ => ?_) fun _ _ e => e)
  obtain ⟨hT, hd, hc⟩ := h₁
  refine wpC_at ?_
  have hform : methodCallForm (args.length + ([] : List Keyword).length) (backTo pos (starEach args env)) (backToKw pos (keywordEach [] env)) = true := hfew
  have hpos : methodCallPos true o env apos pos = pure pos := by unfold methodCallPos; simp [hline]
  unfold methodCall
  rw [hform]
  exact wpC_then (wpAny_holding (getMethod_builtin hT pa slot hty hd (wpC_eq hpos hc)))

section
variable {W : Wk} {k : Nat} {F : Fm} {ρ : LEnv} {l : List Env} {σ : Store} {X : Store → Prop} {Q : V → Store → Prop} {QB : Bool → Store → Prop}

def HasT (W : Wk) (l : List Env) (σ : Store) (d : V) (T : String) : Prop :=
  ∀ β (s : Shared) v, Wd W l σ β s.heap → VR W.scr β s.heap d v → s.TypeIs v T ∧ ∀ a, v = .ref a → ∃ ob, s.heap.get? a = some ob ∧ ob.dict = none
theorem HasT.barr {n : Nat} {b : List UInt8} (h : σ[n]? = some (.barr b)) : HasT W l σ (.obj n) "bytearray" := fun β s v wd r => by
  obtain ⟨a, rfl, hb⟩ := vr_obj r
  have x : BarrAt s.heap a b := wd.sto n _ a h hb
  refine ⟨x.typeIs, fun a' e => ?_⟩
  cases e
  obtain ⟨o, e, _, d, _⟩ := x
  exact ⟨o, e, d⟩
theorem HasT.list {n : Nat} {b : List V} (h : σ[n]? = some (.list b)) : HasT W l σ (.obj n) "list" := fun β s v wd r => by
  obtain ⟨a, rfl, hb⟩ := vr_obj r
  obtain ⟨xs, x, _⟩ := wd.sto n _ a h hb
  refine ⟨x.isList.typeIs, fun a' e => ?_⟩
  cases e
  obtain ⟨o, _, e, _, d, _⟩ := x
  exact ⟨o, e, d.1⟩
theorem HasT.str {x : Str} : HasT W l σ (.str x) "str" := fun β s v wd r => by
  obtain ⟨t, rfl⟩ := vr_str r
  exact ⟨rfl, fun a e => by cases e⟩
theorem HasT.bytes {x : List UInt8} : HasT W l σ (.bytes x) "bytes" := fun β s v wd r => by
  obtain ⟨t, rfl⟩ := vr_bytes r
  exact ⟨rfl, fun a e => by cases e⟩

/-- a method of one argument -/
theorem SE_meth {o e : Expr} {name : Str} {apos pos : Pos} {T id : String} (pa : PlainAttrs T) (slot : Slot T name id) (hty : typeOf (.builtin id) = pure (.type "method_descriptor"))
    (h : SE W k F ρ σ o (fun d σ₁ => HasT W F.l σ₁ d T ∧ SE W k F ρ σ₁ e (fun x σ₂ => CC W k F.l σ₂ (.builtin id) [d, x] Q X) X) X)
    (hbase : attributeBase o name F.env (eval o F.env) = eval o F.env := by rfl) (hline : (apos.endLine == pos.line) = true := by rfl)
    (he : starEach [e] F.env = [(false, eval e F.env)] := by rfl) : SE W k F ρ σ (.Call (.Attribute o name apos) [e] [] pos) Q X := by
  intro A β s QC EC ao st hQ hX
  have hb : backTo pos (starEach [e] F.env) = [(false, eval e F.env)] := by rw [he]; rfl
  refine C_Call_method hbase (by rw [hb]; rfl) hline pa slot hty (h A β s _ EC ao st (fun v d σ₁ β₁ h₁ t₁ st₁ g₁ r₁ q₁ => ?_) hX)
  obtain ⟨ht, q₁⟩ := q₁
  obtain ⟨t1, t2⟩ := ht β₁ { s with heap := h₁, toks := t₁ } v st₁.wd r₁
  refine ⟨t1, t2, C_callWith (by rw [hb]; rfl) ?_⟩
  rw [hb]
  refine C_evalArgs (C_spliced_cons ?_)
  refine q₁ A β₁ { s with heap := h₁, toks := t₁ } _ EC ao st₁ (fun b d' σ₂ β₂ h₂ t₂ st₂ g₂ r₂ q₂ => wpC_of (Calls.spliced_nil ?_)) (fun e σ' β' h' tk f x => hX e σ' β' h' tk (f.back g₁) x)
  refine ⟨⟨.machine, .inr (.inl rfl), .of_pure rfl⟩, rfl, ?_⟩
  exact (q₂ A β₂ { s with heap := h₂, toks := t₂ } [v, b] ao st₂.wd (.cons (st₁.vr g₂ r₁) (.one r₂))).run st₂ (g₁.trans g₂) (fun _ _ => rfl) hQ hX

theorem vrs_one {scr β h} {d : V} {vs : List Value} (r : VRs scr β h [d] vs) : ∃ v, vs = [v] ∧ VR scr β h d v := by
  obtain ⟨v, x, rfl, r1, r2⟩ := r.uncons
  simp only [VRs] at r2; subst r2
  exact ⟨v, rfl, r1⟩
theorem vrs_two {scr β h} {d e : V} {vs : List Value} (r : VRs scr β h [d, e] vs) : ∃ v w, vs = [v, w] ∧ VR scr β h d v ∧ VR scr β h e w := by
  obtain ⟨v, x, rfl, r1, r2⟩ := r.uncons
  obtain ⟨w, rfl, r3⟩ := vrs_one r2
  exact ⟨v, w, rfl, r1, r3⟩

theorem same_tup {l : List Env} {σ : Store} {β : List Addr} {h h' : Heap} {a : Addr} {n : Nat} (wd : Wd W l σ β h) (hb : β[n]? = some a) (hs : Heap.SameBut a h h') : ∀ c xs, IsTup h c xs → IsTup h' c xs := fun c ys t => by
  obtain ⟨ot, et, rt⟩ := t
  exact ⟨ot, (hs.2 c fun z => wd.noTup ⟨ot, et, rt⟩ (z ▸ List.mem_of_getElem? hb)).trans et, rt⟩

theorem CC_append_barr {n : Nat} {b : List UInt8} {i : Int} (hn : σ[n]? = some (.barr b)) (h0 : 0 ≤ i) (h1 : i < 256) (hz : b.length < 16777216) (hq : Q .none (σ.set n (.barr (b ++ [i.toNat.toUInt8])))) :
    CC W k l σ (.builtin "bytearray.append") [.obj n, .int i] Q X := fun A β s vs ao wd r QC EC hQ _ => by
  obtain ⟨v, w, rfl, ra, rb⟩ := vrs_two r
  obtain ⟨a, rfl, hb⟩ := vr_obj ra
  obtain ⟨t, rfl⟩ := vr_int rb
  have x : BarrAt s.heap a b := wd.sto n _ a hn hb
  refine C_append ao.gd x h0 h1 hz fun h' x' hs => ?_
  exact hQ .none .none _ β h' s.toks (wd.mut hb hs (m₀ := .barr _) x') (.mut (List.mem_of_getElem? hb) hs (let ⟨o, e, _⟩ := x'; ⟨o, e⟩)) none_vr hq
theorem CC_extend_barr {n : Nat} {b y : List UInt8} (hn : σ[n]? = some (.barr b)) (hz : b.length + y.length ≤ 16777216) (hq : Q .none (σ.set n (.barr (b ++ y)))) :
    CC W k l σ (.builtin "bytearray.extend") [.obj n, .bytes y] Q X := fun A β s vs ao wd r QC EC hQ _ => by
  obtain ⟨v, w, rfl, ra, rb⟩ := vrs_two r
  obtain ⟨a, rfl, hb⟩ := vr_obj ra
  obtain ⟨t, rfl⟩ := vr_bytes rb
  have x : BarrAt s.heap a b := wd.sto n _ a hn hb
  refine C_extend ao.gd x hz fun h' x' hs => ?_
  exact hQ .none .none _ β h' s.toks (wd.mut hb hs (m₀ := .barr _) x') (.mut (List.mem_of_getElem? hb) hs (let ⟨o, e, _⟩ := x'; ⟨o, e⟩)) none_vr hq
theorem CC_append_list {n : Nat} {b : List V} {d : V} (hn : σ[n]? = some (.list b)) (hz : b.length ≤ 16777216) (hq : Q .none (σ.set n (.list (b ++ [d])))) :
    CC W k l σ (.builtin "list.append") [.obj n, d] Q X := fun A β s vs ao wd r QC EC hQ _ => by
  obtain ⟨v, w, rfl, ra, rb⟩ := vrs_two r
  obtain ⟨a, rfl, hb⟩ := vr_obj ra
  obtain ⟨xs, la, rx⟩ := wd.sto n _ a hn hb
  refine wpC_of (wpAny_list_append_plain la.plain (fun h' hl hs => ?_) (by rw [List.size_toArray, sizeLine_eq, ← rx.length]; exact hz))
  have la' : ListAt h' a (xs ++ [w]) := by
    have := ListAt.of_plain hl
    simpa using this
  have tt := same_tup wd hb hs
  exact hQ .none .none _ β h' s.toks (wd.mut hb hs (m₀ := .list _) ⟨_, la', VRs.mono tt (fun _ _ e => e) _ _ (VRs.append rx (VRs.one rb))⟩)
    (.mut (List.mem_of_getElem? hb) hs (let ⟨o, _, e, _⟩ := la'; ⟨o, e⟩)) none_vr hq

theorem size_none (h : Heap) : h.get? h.objs.size = none := by
  cases q : h.get? h.objs.size with
  | none => rfl
  | some o => exact absurd (Heap.lt_size q) (Nat.lt_irrefl _)
theorem CC_bytearray (hq : Q (.obj σ.length) (σ ++ [.barr []])) : CC W k l σ (.type "bytearray") [] Q X := fun A β s vs ao wd r QC EC hQ _ => by
  simp only [VRs] at r; subst r
  refine C_ba_call ao.gd fun h' x kk => ?_
  refine hQ _ (.obj σ.length) _ _ h' s.toks (wd.grow kk (size_none _) (m₀ := .barr []) x) (.grow kk (size_none _)) ?_ hq
  simp only [VR]
  exact ⟨_, rfl, by rw [wd.len, List.getElem?_append_right (Nat.le_refl _)]; simp⟩

theorem call_bytes_ba {prog : Program} {w : World} {A : Around} {E : Value → Shared → Prop} {s : Shared} {a : Addr} {b : List UInt8} {Q : Value → Shared → Prop} (x : BarrAt s.heap a b) (hz : b.length ≤ 16777216) (hQ : ∀ t k, Q (.bytes b.toArray t) { s with toks := k }) :
    wpAny (model prog w) A (call (.type "bytes") [.ref a]) Q E s := by
  refine callType_codes (Q₁ := fun obj s₁ => s₁.TypeIs obj "bytes" ∧ Q obj s₁) F.bm_called (F.bm_typeCall _) F.entry_object_init
    (code_bytes_ba x hz fun t k => ⟨PySem.W.typeIs_bytes _ _ _, hQ t k⟩) fun obj s₁ h₁ => ?_
  exact ⟨h₁.1, F.args_object_init_2 obj _, object_init_meets F.bm_called.init.lookup F.bm_called.made (by decide) prog w A.in1 _ s₁ ⟨h₁.1, rfl, h₁.2⟩⟩
theorem CC_bytes_barr {n : Nat} {b : List UInt8} (hn : σ[n]? = some (.barr b)) (hz : b.length ≤ 16777216) (hq : Q (.bytes b) σ) : CC W k l σ (.type "bytes") [.obj n] Q X := fun A β s vs ao wd r => by
  obtain ⟨v, rfl, ra⟩ := vrs_one r
  obtain ⟨a, rfl, hb⟩ := vr_obj ra
  have x : BarrAt s.heap a b := wd.sto n _ a hn hb
  exact .leaf hq wd fun QC EC hQ => call_bytes_ba x hz fun t k => hQ _ _ bytes_vr
/-- the octets of some numbers -/
def octs (ns : List Int) : List UInt8 := ns.map fun n => n.toNat.toUInt8
theorem CC_bytes_list {n : Nat} {ns : List Int} (hn : σ[n]? = some (.list (ns.map .int))) (hr : ∀ n ∈ ns, 0 ≤ n ∧ n < 256) (hz : ns.length ≤ 16777216) (hq : Q (.bytes (octs ns)) σ) : CC W k l σ (.type "bytes") [.obj n] Q X := fun A β s vs ao wd r => by
  obtain ⟨v, rfl, ra⟩ := vrs_one r
  obtain ⟨a, rfl, hb⟩ := vr_obj ra
  obtain ⟨xs, la, rx⟩ := wd.sto n _ a hn hb
  have hi := ints_of_vrs rx
  exact .leafK hq wd fun QC EC hQ => call_bytes_ints la.isList hi hr (by rw [hi.length, sizeLine_eq]; exact hz) ao.hd fun h' t k kk => hQ _ _ _ kk bytes_vr

theorem code_bytes_b {prog : Program} {w : World} {A : Around} {E : Value → Shared → Prop} {s : Shared} {x : Array UInt8} {t : Tok} {Q : Value → Shared → Prop} (h : Q (.bytes x t) s) :
    codeAny (model prog w) A (.call (.builtin "bytes.__new__") ⟨[.type "bytes", .bytes x t], []⟩) (wants Q E) s := by
  refine codeAny_of_tree ?_
  show wpAny _ A.in1 (do checkBuiltinCall "bytes.__new__" ⟨[.type "bytes", .bytes x t], []⟩; again (.builtin "bytes.__new__" ⟨[.type "bytes", .bytes x t], []⟩)) _ _ s
  refine wpAny_bind (wpAny_of_eq (F.bm_newCall _) (wpAny_pure ⟨plainId_quiet F.bm_plain _, codeAny_builtin F.bm_entry ?_⟩))
  rw [Around.under_plainId F.bm_plain _]
  have hT : s.TypeIs (.bytes x t) "bytes" := typeIs_bytes _ _ _
  unfold Builtin.«bytes.__new__»
  refine wpAny_bind (wpAny_of_eq (a := true) rfl ?_)
  refine bm_if_false rfl ?_
  refine wpAny_bind (wpAny_of_eq F.bm_sub ?_)
  refine bm_if_false rfl ?_
  refine wpAny_bind (wpAny_of_eq (F.bm_bind _) ?_)
  refine wpAny_bind (wpAny_of_eq (a := ()) rfl ?_)
  refine wpAny_bind (wpAny_of_eq (a := ()) rfl ?_)
  refine bm_if_false rfl ?_
  refine wpAny_bind (wpAny_specialOf hT b_lk_bytes ?_)
  refine wpAny_bind (wpAny_rule (wpAny_bind (wpAny_typeOf hT ?_)))
  refine bm_if_true (by decide) ?_
  show wpAny _ _ (if (Value.type "bytes" == Value.type "bytes") = true then _ else _) _ _ _
  refine bm_if_true (by decide) ?_
  first
    | exact wpAny_pure h
    | exact wpAny_bind (wpAny_pure (wpAny_pure h))
theorem CC_bytes_bytes {b : List UInt8} (hq : Q (.bytes b) σ) : CC W k l σ (.type "bytes") [.bytes b] Q X := fun A β s vs ao wd r => by
  obtain ⟨v, rfl, ra⟩ := vrs_one r
  obtain ⟨t, rfl⟩ := vr_bytes ra
  refine .leaf hq wd fun QC EC hQ => ?_
  refine callType_codes (Q₁ := fun obj s₁ => s₁.TypeIs obj "bytes" ∧ QC obj s₁) F.bm_called (F.bm_typeCall _) F.entry_object_init
    (code_bytes_b ⟨PySem.W.typeIs_bytes _ _ _, hQ _ s.toks bytes_vr⟩) fun obj s₁ h₁ => ?_
  exact ⟨h₁.1, F.args_object_init_2 obj _, object_init_meets F.bm_called.init.lookup F.bm_called.made (by decide) _ _ A.in1 _ s₁ ⟨h₁.1, rfl, h₁.2⟩⟩
end
end Mine

open PySem PySem.W PySem.Calls PyProof.Rows
set_option Elab.async false
set_option maxRecDepth 100000
namespace Mine
section
variable {W : Wk} {k : Nat} {F : Fm} {ρ : LEnv} {l : List Env} {σ : Store} {X : Store → Prop} {Q : V → Store → Prop} {QB : Bool → Store → Prop}

theorem CC_len_bytes {b : List UInt8} (hz : b.length ≤ 1099511627776) (hq : Q (.int b.length) σ) : CC W k l σ (.builtin "len") [.bytes b] Q X := fun A β s vs ao wd r => by
  obtain ⟨v, rfl, ra⟩ := vrs_one r
  obtain ⟨t, rfl⟩ := vr_bytes ra
  exact .leaf hq wd fun QC EC hQ => len_bytes (by simpa using hz) (by simpa using hQ _ _ int_vr)
theorem CC_len_str {x : Str} (hz : (x.length : Int) < 2 ^ 63) (hq : Q (.int x.length) σ) : CC W k l σ (.builtin "len") [.str x] Q X := fun A β s vs ao wd r => by
  obtain ⟨v, rfl, ra⟩ := vrs_one r
  obtain ⟨t, rfl⟩ := vr_str ra
  exact .leaf hq wd fun QC EC hQ => PyProof.Rows.len_str (by omega) (hQ _ _ int_vr)
theorem CC_len_tup {ds : List V} (hz : (ds.length : Int) < 2 ^ 63) (hq : Q (.int ds.length) σ) : CC W k l σ (.builtin "len") [.tup ds] Q X := fun A β s vs ao wd r => by
  obtain ⟨v, rfl, ra⟩ := vrs_one r
  obtain ⟨a, xs, rfl, ht, rx⟩ := vr_tup ra
  have e := rx.length
  exact .leaf hq wd fun QC EC hQ => PyProof.Rows.len_tuple ht (by simp; omega) (by rw [List.size_toArray, ← e]; exact hQ _ _ int_vr)
theorem CC_ord {c : Nat} (hq : Q (.int c) σ) : CC W k l σ (.builtin "ord") [.str ⟨#[c]⟩] Q X := fun A β s vs ao wd r => by
  obtain ⟨v, rfl, ra⟩ := vrs_one r
  obtain ⟨t, rfl⟩ := vr_str ra
  exact .leaf hq wd fun QC EC hQ => PySem.P.ord_of_char (hQ _ _ int_vr)
theorem CC_chr {i : Int} (h0 : 0 ≤ i) (h1 : i ≤ 1114111) (hq : Q (.str ⟨#[i.toNat]⟩) σ) : CC W k l σ (.builtin "chr") [.int i] Q X := fun A β s vs ao wd r => by
  obtain ⟨v, rfl, ra⟩ := vrs_one r
  obtain ⟨t, rfl⟩ := vr_int ra
  exact .leaf hq wd fun QC EC hQ => PySem.P.chr_of_int (by simp; omega) (hQ _ _ str_vr)
theorem CC_min {a b : Int} (hq : Q (.int (min a b)) σ) : CC W k l σ (.builtin "min") [.int a, .int b] Q X := fun A β s vs ao wd r => by
  obtain ⟨v, w, rfl, ra, rb⟩ := vrs_two r
  obtain ⟨t, rfl⟩ := vr_int ra
  obtain ⟨u, rfl⟩ := vr_int rb
  refine .leafK hq wd fun QC EC hQ => min_two_ints ao.hd fun h' tk kk => hQ _ _ _ kk ?_
  split
  · rw [show min a b = b by omega]; exact int_vr
  · rw [show min a b = a by omega]; exact int_vr
theorem CC_tuple_list {n : Nat} {ds : List V} (hn : σ[n]? = some (.list ds)) (hz : ds.length ≤ 16777216) (hq : Q (.tup ds) σ) : CC W k l σ (.type "tuple") [.obj n] Q X := fun A β s vs ao wd r => by
  obtain ⟨v, rfl, ra⟩ := vrs_one r
  obtain ⟨a, rfl, hb⟩ := vr_obj ra
  obtain ⟨xs, la, rx⟩ := wd.sto n _ a hn hb
  refine .leafK hq wd fun QC EC hQ => call_tuple_list la.isList (fun h' kk => ?_) (by rw [List.size_toArray, sizeLine_eq, ← rx.length]; exact hz)
  have k2 : ∀ b o, s.heap.get? b = some o → (h'.push { cls := .type "tuple", data := .seq xs.toArray }).get? b = some o := fun b o e => Heap.get?_push_of_some _ (kk b o e)
  refine hQ _ _ s.toks k2 ?_
  simp only [VR]
  exact ⟨_, xs, rfl, .new _ _, VRs.mono (fun _ _ t => t.keeps k2) (fun _ _ e => e) _ _ rx⟩

/-- what isinstance answers for the five kinds -/
def V.kind : V → Option String
  | .bool _ => some "bool"
  | .int _ => some "int"
  | .str _ => some "str"
  | .bytes _ => some "bytes"
  | .tup _ => some "tuple"
  | _ => Option.none
def isi (d : V) (T : String) : Bool := match d.kind with
  | some K => K == T || (K == "bool" && T == "int")
  | none => false
theorem CC_isi {d : V} {T : String} (hd : d.kind.isSome = true) (hb : ∀ b, d ≠ .bool b) (hT : T = "bool" ∨ T = "int" ∨ T = "str" ∨ T = "bytes" ∨ T = "tuple") (hq : Q (.bool (isi d T)) σ) :
    CC W k l σ (.builtin "isinstance") [d, .ty T] Q X := fun A β s vs ao wd r => by
  obtain ⟨v, w, rfl, ra, rb⟩ := vrs_two r
  simp only [VR] at rb; subst rb
  refine .leaf hq wd fun QC EC hQ => ?_
  have fin : ∀ tk c, c = isi d T → QC (.bool c) { s with toks := tk } := fun tk c e => by subst e; exact hQ _ _ bool_vr
  cases d with
  | none => simp [V.kind] at hd
  | bool b => exact absurd rfl (hb b)
  | obj n => simp [V.kind] at hd
  | src => simp [V.kind] at hd
  | ty T => simp [V.kind] at hd
  | int i =>
    obtain ⟨t, rfl⟩ := vr_int ra
    rcases hT with rfl | rfl | rfl | rfl | rfl
    · exact IsiPair.int_bool (fin _ _ rfl)
    · exact IsiPair.int_int (fin _ _ rfl)
    · exact IsiPair.int_str (fin _ _ rfl)
    · exact IsiPair.int_bytes (fin _ _ rfl)
    · exact IsiPair.int_tuple (fin _ _ rfl)
  | str i =>
    obtain ⟨t, rfl⟩ := vr_str ra
    rcases hT with rfl | rfl | rfl | rfl | rfl
    · exact IsiPair.str_bool (fin _ _ rfl)
    · exact IsiPair.str_int (fin _ _ rfl)
    · exact IsiPair.str_str (fin _ _ rfl)
    · exact IsiPair.str_bytes (fin _ _ rfl)
    · exact IsiPair.str_tuple (fin _ _ rfl)
  | tup i =>
    obtain ⟨a, xs, rfl, ⟨o, ho, hco, _⟩, rx⟩ := vr_tup ra
    rcases hT with rfl | rfl | rfl | rfl | rfl
    · exact IsiPair.tuple_bool ho hco (fin _ _ rfl)
    · exact IsiPair.tuple_int ho hco (fin _ _ rfl)
    · exact IsiPair.tuple_str ho hco (fin _ _ rfl)
    · exact IsiPair.tuple_bytes ho hco (fin _ _ rfl)
    · exact IsiPair.tuple_tuple ho hco (fin _ _ rfl)
  | bytes i =>
    obtain ⟨t, rfl⟩ := vr_bytes ra
    have one : ∀ T, kitOne W.K (.type "bytes") (.type T) = some (isi (.bytes i) T) → wpAny (model W.prog W.w) A (call (.builtin "isinstance") [.bytes i.toArray t, .type T]) QC EC s → True := fun _ _ _ => trivial
    rcases hT with rfl | rfl | rfl | rfl | rfl
    all_goals exact kia_one (K := W.K) (b := isi (.bytes i) _) kitx_bytes (W.hK.keeps wd.base) trivial (by with_unfolding_all rfl) (by intro q; cases q) fun tk => fin _ _ rfl
end
end Mine

open PySem PySem.W PySem.Calls PyProof.Rows
set_option Elab.async false
set_option maxRecDepth 100000
namespace Mine
section
variable {W : Wk} {k : Nat} {F : Fm} {ρ : LEnv} {l : List Env} {σ : Store} {X : Store → Prop} {Q : V → Store → Prop} {QB : Bool → Store → Prop}

theorem CC_sum_list {n : Nat} {ns : List Int} (hn : σ[n]? = some (.list (ns.map .int))) (hq : Q (.int ns.sum) σ) : CC W k l σ (.builtin "sum") [.obj n] Q X := fun A β s vs ao wd r => by
  obtain ⟨v, rfl, ra⟩ := vrs_one r
  obtain ⟨a, rfl, hb⟩ := vr_obj ra
  obtain ⟨xs, la, rx⟩ := wd.sto n _ a hn hb
  have hi := ints_of_vrs rx
  refine .leafK hq wd fun QC EC hQ => ?_
  obtain ⟨ys, hy⟩ := hi.allInts.items
  have hl' : s.heap.IsList a (intItems ys) := hy ▸ la.isList
  refine sum_intListG ao.hd hl' fun h' tk t' hk => ?_
  have e1 : ns = ys.toList.map (·.1) := by
    rw [← nums_intItems, ← hy]
    exact (show numsOf xs.toArray.toList = ns from hi.numsOf).symm
  have e2 : preSum (numAt ys) ys.size = ns.sum := by
    rw [preSum_eq, List.take_of_length_le (by simp), e1]
  rw [e2]
  exact hQ _ _ _ hk int_vr

theorem CC_sum_bytes {b : List UInt8} (hz : b.length ≤ 16777216) (hq : Q (.int (b.map fun c => (c.toNat : Int)).sum) σ) : CC W k l σ (.builtin "sum") [.bytes b] Q X := fun A β s vs ao wd r => by
  obtain ⟨v, rfl, ra⟩ := vrs_one r
  obtain ⟨t, rfl⟩ := vr_bytes ra
  refine .leafK hq wd fun QC EC hQ => ?_
  have eI : KBw.bInts b.toArray = b.map fun c => (c.toNat : Int) := by simp [KBw.bInts]
  have hin : ∀ k ∈ KBw.bInts b.toArray, 0 ≤ k ∧ k < 256 := fun k hk => KBw.ints_in hk
  have hlen : (KBw.bInts b.toArray).length = b.length := by rw [eI, List.length_map]
  refine call_sum_walk (KBw.pyIter_bytes ?_)
  refine ⟨s.heap.objs.size, [s.heap.objs.size], [s.heap.objs.size], b.toArray.size, _, _, fun j => (KBw.bInts b.toArray).getD j 0, rfl, KBw.walks (A := A.in1) ao.hd s.heap.objs.size b.toArray t, ⟨_, Heap.get?_push_size _ rfl, rfl, rfl⟩, ?_, ?_, ?_, ?_⟩
  · intro a ha
    rw [List.mem_singleton.mp ha]
    exact Heap.lt_size (Heap.get?_push_size _ rfl)
  · rintro i v ⟨c, u, hc, rfl⟩
    have e := KBw.ints_get hc
    refine ⟨u, ?_⟩
    show Value.int (c.toNat : Int) u = Value.int ((KBw.bInts b.toArray).getD i 0) u
    rw [List.getD_eq_getElem?_getD, e]
    rfl
  · intro j hj
    have hj' : j + 1 ≤ (KBw.bInts b.toArray).length := by rw [hlen]; have h0 : j < b.length := (by simpa using hj); omega
    have h1 := KBw.getD_in (ks := KBw.bInts b.toArray) (j := j) hin
    have h2 := KBmo.pre_take (KBw.bInts b.toArray) (j + 1) hj'
    have h3 := KBmo.sum_bound (ks := (KBw.bInts b.toArray).take (j + 1)) fun k hk => hin k (List.mem_of_mem_take hk)
    have h4 : ((KBw.bInts b.toArray).take (j + 1)).length ≤ (KBw.bInts b.toArray).length := by rw [List.length_take]; exact Nat.min_le_right _ _
    unfold InLong
    rw [h2]
    refine ⟨⟨?_, ?_⟩, ?_, ?_⟩ <;> (try dsimp only) <;> omega
  · intro h' tk t' hk'
    have e : preSum (fun j => (KBw.bInts b.toArray).getD j 0) b.toArray.size = (b.map fun c => (c.toNat : Int)).sum := by
      rw [← eI, show b.toArray.size = (KBw.bInts b.toArray).length by rw [hlen]; simp, KBmo.pre_take _ _ (Nat.le_refl _), List.take_length]
    rw [e]
    have keep : ∀ a o, s.heap.get? a = some o → h'.get? a = some o := fun a o ha => hk' a o (fun hm => absurd (Heap.lt_size ha) (by rw [List.mem_singleton.mp hm]; exact Nat.lt_irrefl _)) (Heap.get?_push_of_some _ ha)
    exact hQ _ _ _ keep int_vr

theorem strs_of_vrs {scr : Addr} {β : List Addr} {h : Heap} : ∀ {ns : List Str} {vs : List Value}, VRs scr β h (ns.map V.str) vs → StrsAre vs ns
  | [], vs, r => by simp only [List.map_nil, VRs] at r; subst r; exact .nil
  | n :: ns, vs, r => by
    rw [List.map_cons] at r
    obtain ⟨v, r', rfl, r1, r2⟩ := r.uncons
    obtain ⟨t, rfl⟩ := vr_str r1
    exact .cons n t (strs_of_vrs r2)
theorem CC_join_str {n : Nat} {x : Str} {ys : List Str} (hn : σ[n]? = some (.list (ys.map .str))) (hx : x.length ≤ 16) (hw : (ys.map (·.length)).sum + ys.length ≤ 1048576) (hq : Q (.str (Txt.join x ys)) σ) :
    CC W k l σ (.builtin "str.join") [.str x, .obj n] Q X := fun A β s vs ao wd r => by
  obtain ⟨v, w, rfl, ra, rb⟩ := vrs_two r
  obtain ⟨t, rfl⟩ := vr_str ra
  obtain ⟨a, rfl, hb⟩ := vr_obj rb
  obtain ⟨xs, la, rx⟩ := wd.sto n _ a hn hb
  exact .leaf hq wd fun QC EC hQ => join_listW la.isList (by simpa using strs_of_vrs rx) hx hw fun t' k => hQ _ _ str_vr
end
end Mine

open PySem PySem.W PySem.Calls PyProof.Rows
set_option Elab.async false
set_option maxRecDepth 100000
namespace Mine
theorem b_entry_join : entryFor table "bytes.join" = some Builtin.«bytes.join» := by first | exact entryFor_of_fast (by kernel_rfl) | exact entryFor_of_tree (by kernel_rfl)
theorem b_args_join (a b : Value) : argsOk "bytes.join" ⟨[a, b], []⟩ := by
  unfold argsOk; rw [signature?_of (id := "bytes.join") (n := ['n', 'i', 'o', 'j']) (o := ['s', 'e', 't', 'y', 'b']) (by kernel_rfl) FB.owner_bytes]; kernel_rfl
section
variable {prog : Program} {w : World} {M : Model} {A : Around} {E : Value → Shared → Prop} {s : Shared} {a : Addr}

theorem forIn_inv {α β : Type} (f : α → β → Sem (ForInStep β)) (Inv : List α → β → Shared → Prop)
    (step : ∀ x r c s, Inv (x :: r) c s → wpAny M A (f x c) (fun st s' => ∃ c', st = .yield c' ∧ Inv r c' s') E s) : ∀ (l : List α) (c : β) (s : Shared), Inv l c s → wpAny M A (forIn l c f) (fun c' s' => Inv [] c' s') E s
  | [], c, s, h => wpAny_pure h
  | x :: r, c, s, h => by
    rw [List.forIn_cons]
    refine wpAny_bind (wpAny_mono (step x r c s h) (fun st s' hs => ?_) fun _ _ e => e)
    obtain ⟨c', rfl, h'⟩ := hs
    exact forIn_inv f Inv step r c' s' h'

theorem join_split {items : Array Value} {f : Value → Sem Fin} {g : Sem Fin} {Q : Fin → Shared → Prop} (h1 : ∀ x, items = #[x] → wpAny M A (f x) Q E s) (h2 : items.size ≠ 1 → wpAny M A g Q E s) :
    wpAny M A (match items with | #[x] => f x | _ => g) Q E s := by
  obtain ⟨l⟩ := items
  match l, h1, h2 with
  | [], _, h2 => exact h2 (by simp)
  | [x], h1, _ => exact h1 x rfl
  | x :: y :: r, _, h2 => exact h2 (by simp)
theorem wpAny_joinLetGo {keep : List Value} {Q : Unit → Shared → Prop} : ∀ (l : List (Value × Option Value)) (s : Shared), (∀ p ∈ l, p.2 = none) → Q () s → wpAny M A (Builtin.Bytes.joinLetGo l keep) Q E s
  | [], s, _, h => wpAny_pure h
  | (x, w) :: r, s, hl, h => by
    have hw : w = none := hl _ (.head _)
    subst hw
    unfold Builtin.Bytes.joinLetGo
    exact wpAny_bind (wpAny_letGo (wpAny_joinLetGo r s (fun p m => hl p (.tail _ m)) h))
theorem joined_nil : ∀ (l : List (Array UInt8)), Builtin.Bytes.joined #[] l = (l.map Array.toList).flatten.toArray := by
  intro l
  unfold Builtin.Bytes.joined
  have : ∀ (l : List (Array UInt8)) (n : Nat) (acc : Array UInt8), (l.zipIdx n).foldl (fun out (p, i) => (if i > 0 then out ++ #[] else out) ++ p) acc = acc ++ (l.map Array.toList).flatten.toArray := by
    intro l
    induction l with
    | nil => intro n acc; simp
    | cons x r ih =>
      intro n acc
      rw [List.zipIdx_cons, List.foldl_cons, ih]
      have : (if n > 0 then acc ++ #[] else acc) = acc := by split <;> simp
      dsimp only
      rw [this]
      simp [Array.append_assoc, ← List.append_toArray]
  rw [this]; simp
theorem call_join_bytes {scr : Addr} {β : List Addr} {xs : List (List UInt8)} {vs : List Value} {t : Tok} {Q : Value → Shared → Prop} (hl : s.heap.IsList a vs.toArray) (hv : VRs scr β s.heap (xs.map V.bytes) vs) (hz : xs.flatten.length ≤ 16777216)
    (hQ : ∀ t' k, Q (.bytes xs.flatten.toArray t') { s with toks := k }) : wpAny (model prog w) A (call (.builtin "bytes.join") [.bytes #[] t, .ref a]) Q E s := by
  refine wpAny_call_entry b_slot_join (typeIs_bytes _ _ _) b_entry_join ?_ (b_args_join _ _)
  unfold Builtin.«bytes.join» Builtin.Bytes.joinM
  obtain ⟨o, ho, hc, n, hd⟩ := id hl
  refine wpAny_bind (wpAny_of_eq (a := (Value.bytes #[] t, Value.ref a)) rfl ?_)
  refine bm_if_true (by decide) ?_
  refine wpAny_bind ?_
  unfold Builtin.Bytes.joinItems
  refine wpAny_bind (wpAny_typeOf hl.typeIs ?_)
  refine bm_if_true (by decide) (wpAny_pure ?_)
  refine wpAny_bind (wpAny_seqItems ho hd ?_)
  dsimp only
  rw [if_pos (by decide)]
  have hlen : xs.length = vs.length := by simpa using hv.length
  have hget : ∀ i, i < vs.length → ∃ y u, xs[i]? = some y ∧ vs[i]? = some (Value.bytes y.toArray u) := by
    intro i hi
    have hy : xs[i]? = some xs[i] := List.getElem?_eq_getElem (by omega)
    obtain ⟨v, e1, e2⟩ := hv.get i (.bytes xs[i]) (by rw [List.getElem?_map, hy]; rfl)
    obtain ⟨u, rfl⟩ := vr_bytes e2
    exact ⟨_, u, hy, e1⟩
  refine join_split (fun x hx => ?_) fun hne => ?_
  · have hvs : vs = [x] := by
      have := congrArg Array.toList hx
      simpa using this
    subst hvs
    match xs, hv with
    | [], hv => simp [VRs] at hv
    | y :: r, hv =>
      rw [List.map_cons] at hv
      obtain ⟨v, r', e, r1, r2⟩ := hv.uncons
      simp only [List.cons.injEq] at e
      obtain ⟨rfl, rfl⟩ := e
      have hr := r2.length
      simp only [List.length_map, List.length_nil, List.length_eq_zero_iff] at hr
      subst hr
      obtain ⟨u, rfl⟩ := vr_bytes r1
      refine wpAny_bind (wpAny_typeOf (typeIs_bytes _ _ _) ?_)
      refine bm_if_true (by decide) (wpAny_bind (wpAny_rule (wpAny_pure ⟨_, rfl, ?_⟩)))
      simpa using hQ u s.toks
  · have hsz : ([:vs.toArray.size] : Std.Legacy.Range).size = vs.length := by simp [Std.Legacy.Range.size]
    rw [Std.Legacy.Range.forIn_eq_forIn_range', hsz]
    refine wpAny_bind (wpAny_mono (forIn_inv _ (fun (l : List Nat) (c : Array (Array UInt8) × List (Value × Option Value)) s' => s' = s ∧ ∃ i, i ≤ vs.length ∧ l = List.range' i (vs.length - i) 1 ∧ c.1 = ((xs.take i).map List.toArray).toArray ∧ ∀ p ∈ c.2, p.1.onHeap = false ∧ p.2 = none) ?_ _ _ s ?_) ?_ fun _ _ e => e)
    · intro i0 r c s' hI
      obtain ⟨rfl, i, hi, hr, hc1, hc2⟩ := hI
      have hlt : i < vs.length := by
        by_cases q : i < vs.length
        · exact q
        · rw [show vs.length - i = 0 by omega] at hr; simp at hr
      rw [show vs.length - i = (vs.length - (i + 1)) + 1 by omega, List.range'_succ] at hr
      simp only [List.cons.injEq] at hr
      obtain ⟨rfl, rfl⟩ := hr
      obtain ⟨y, u, e1, e2⟩ := hget i0 hlt
      refine wpAny_bind (wpAny_seqItems ho hd ?_)
      dsimp only
      have hany : (Builtin.Bytes.Kind.bytes == Builtin.Bytes.Kind.bytearray || c.snd.any fun x => x.fst.onHeap) = false := by
        rw [Bool.or_eq_false_iff]
        exact ⟨by decide, List.any_eq_false.mpr fun p m => by rw [(hc2 p m).1]; exact Bool.false_ne_true⟩
      rw [if_neg (by rw [hany]; exact Bool.false_ne_true)]
      have hx : vs.toArray.getD i0 Value.none = .bytes y.toArray u := by simp [Array.getD, hlt] at e2 ⊢; exact e2
      rw [hx]
      refine wpAny_bind (wpAny_holding (wpAny_takeBuffer_b ?_))
      refine wpAny_bind (wpAny_seqItems ho hd ?_)
      dsimp only
      rw [if_neg (by simp)]
      refine wpAny_pure ⟨_, rfl, rfl, i0 + 1, hlt, rfl, ?_, fun p m => ?_⟩
      · show c.1.push y.toArray = _
        rw [hc1, List.take_add_one, e1]
        simp
      · rcases List.mem_append.mp m with m | m
        · exact hc2 p m
        · rw [List.mem_singleton.mp m]; exact ⟨rfl, rfl⟩
    · exact ⟨rfl, 0, Nat.zero_le _, by simp, by simp, fun p m => nomatch m⟩
    · intro c s' hI
      obtain ⟨rfl, i, hi, hr, hc1, hc2⟩ := hI
      have hin : i = vs.length := by
        by_cases q : i < vs.length
        · rw [show vs.length - i = (vs.length - (i + 1)) + 1 by omega, List.range'_succ] at hr; cases hr
        · omega
      subst hin
      rw [← hlen, List.take_length] at hc1
      refine wpAny_bind (wpAny_of_eq (a := (#[] : Array UInt8)) rfl ?_)
      have hj : Builtin.Bytes.joined #[] c.1.toList = xs.flatten.toArray := by
        rw [joined_nil, hc1]; simp [List.map_map, Function.comp_def]
      have hsz2 : Builtin.Bytes.tooLong (Array.foldl (fun x1 x2 => x1 + x2.size) ((#[] : Array UInt8).size * (c.1.size - 1)) c.1) = false := by
        have : ∀ (l : List (List UInt8)) (n : Nat), (l.map List.toArray).foldl (fun x1 x2 => x1 + x2.size) n = n + l.flatten.length := by
          intro l
          induction l with
          | nil => intro n; simp
          | cons x r ih => intro n; rw [List.map_cons, List.foldl_cons, ih]; simp; omega
        rw [hc1]
        simp only [List.foldl_toArray', List.size_toArray, List.length_nil, Nat.zero_mul, this]
        simp only [Builtin.Bytes.tooLong, sizeLine_eq, decide_eq_false_iff_not]
        omega
      rw [if_neg (by rw [hsz2]; exact Bool.false_ne_true), hj]
      refine wpAny_bind ?_
      show wpAny _ _ (mkBytes xs.flatten.toArray) _ _ _
      refine wpAny_mkBytes (wpAny_bind (wpAny_holding (wpAny_point (wpAny_bind (wpAny_joinLetGo _ _ (fun p m => (hc2 p m).2) (wpAny_pure ⟨_, rfl, hQ _ _⟩)))))) (by rw [sizeLine_eq]; simpa using hz)
end
section
variable {W : Wk} {k : Nat} {l : List Env} {σ : Store} {X : Store → Prop} {Q : V → Store → Prop}
theorem CC_join_bytes {n : Nat} {ys : List (List UInt8)} (hn : σ[n]? = some (.list (ys.map .bytes))) (hz : ys.flatten.length ≤ 16777216) (hq : Q (.bytes ys.flatten) σ) :
    CC W k l σ (.builtin "bytes.join") [.bytes [], .obj n] Q X := fun A β s vs ao wd r => by
  obtain ⟨v, w, rfl, ra, rb⟩ := vrs_two r
  obtain ⟨t, rfl⟩ := vr_bytes ra
  obtain ⟨a, rfl, hb⟩ := vr_obj rb
  obtain ⟨xs, la, rx⟩ := wd.sto n _ a hn hb
  exact .leaf hq wd fun QC EC hQ => call_join_bytes la.isList rx hz fun t' k => hQ _ _ bytes_vr
end
end Mine

open PySem PySem.W PySem.Calls PyProof.Rows PySem.SeqAt
set_option Elab.async false
set_option maxRecDepth 100000
namespace Mine

mutual
def V.pure : V → Nat → Bool
  | .none, _ => true
  | .bool _, _ => true
  | .int _, _ => true
  | .str _, _ => true
  | .bytes _, _ => true
  | .tup ds, n + 1 => V.pures ds n
  | _, _ => false
def V.pures : List V → Nat → Bool
  | [], _ => true
  | d :: ds, n => V.pure d n && V.pures ds n
end
theorem V.pures_get : ∀ {ds : List V} {n : Nat}, V.pures ds n = true → ∀ (i : Nat) d, ds[i]? = some d → V.pure d n = true
  | [], _, _, i, d, e => by simp at e
  | x :: r, n, h, i, d, e => by
    simp only [V.pures, Bool.and_eq_true] at h
    cases i with
    | zero => simp at e; subst e; exact h.1
    | succ i => simp at e; exact V.pures_get h.2 i d e

section
theorem EqAt_bytes {A : Around} {s : Shared} {b : List UInt8} {t u : Tok} : EqAt A s (.bytes b.toArray t) (.bytes b.toArray u) true := fun prog w E Q h => by
  unfold eqBool
  refine wpAny_holding ?_
  by_cases q : (Value.bytes b.toArray t == Value.bytes b.toArray u) = true
  · rw [if_pos q]
    exact wpAny_bind (wpAny_rule (wpAny_pure h))
  · rw [if_neg q]
    have e : wpAny (model prog w) A (richCompare .Eq (.bytes b.toArray t) (.bytes b.toArray u)) (fun v s' => v = .bool true ∧ s' = s) E s := by
      show wpAny (model prog w) A (compareOp .Eq (.bytes b.toArray t) (.bytes b.toArray u)) _ E s
      exact eq_bytes ⟨by simp, rfl⟩
    refine wpAny_bind (wpAny_mono e (fun v s' hv => ?_) fun _ _ x => x)
    obtain ⟨rfl, rfl⟩ := hv
    exact wpAny_truthy_bool h

theorem EqAt_plain {scr : Addr} {β : List Addr} {s : Shared} {d : V} (hd : ∀ ds, d ≠ .tup ds) (n : Nat) (hp : V.pure d n = true) {A : Around} {v w : Value} (a : VR scr β s.heap d v) (b : VR scr β s.heap d w) : EqAt A s v w true := by
  cases d with
  | none => cases vr_none a; cases vr_none b; exact EqAt.same _
  | bool x => cases vr_bool a; cases vr_bool b; exact EqAt.same _
  | int x =>
    obtain ⟨t, rfl⟩ := vr_int a; obtain ⟨u, rfl⟩ := vr_int b
    have := EqAt.int_int (A := A) (s := s) x t x u
    rwa [beq_self_eq_true] at this
  | str x =>
    obtain ⟨t, rfl⟩ := vr_str a; obtain ⟨u, rfl⟩ := vr_str b
    have := EqAt.str_str (A := A) (s := s) x t x u
    rwa [beq_self_eq_true] at this
  | bytes x =>
    obtain ⟨t, rfl⟩ := vr_bytes a; obtain ⟨u, rfl⟩ := vr_bytes b
    exact EqAt_bytes
  | tup ds => exact absurd rfl (hd ds)
  | obj m => simp [V.pure] at hp
  | src => simp [V.pure] at hp
  | ty T => simp [V.pure] at hp

theorem getElem_of_get {xs : List Value} {j : Nat} {x : Value} (h : j < xs.toArray.size) (e : xs[j]? = some x) : xs.toArray[j] = x := by
  obtain ⟨h2, e2⟩ := List.getElem?_eq_some_iff.mp e
  simpa using e2

theorem EqAt_same {scr : Addr} {β : List Addr} {s : Shared} : ∀ (n : Nat) (d : V) (A : Around) (v w : Value), V.pure d n = true → A.units + n < cLine → VR scr β s.heap d v → VR scr β s.heap d w → EqAt A s v w true := by
  intro n
  induction n with
  | zero =>
    intro d A v w hp _ a b
    exact EqAt_plain (fun ds e => by subst e; simp [V.pure] at hp) 0 hp a b
  | succ n ih =>
    intro d A v w hp hu a b
    by_cases hd : ∀ ds, d ≠ .tup ds
    · exact EqAt_plain hd (n + 1) hp a b
    · obtain ⟨ds, rfl⟩ : ∃ ds, d = .tup ds := Classical.byContradiction fun q => hd fun ds e => q ⟨ds, e⟩
      simp only [V.pure] at hp
      obtain ⟨a1, xs, rfl, ta, ra⟩ := vr_tup a
      obtain ⟨b1, ys, rfl, tb, rb⟩ := vr_tup b
      by_cases hab : a1 = b1
      · subst hab; exact EqAt.same _
      · have la := ra.length
        have lb := rb.length
        have := RcAt.tuples (A := A) (s := s) (e := fun _ => true) (items := xs.toArray) (items2 := ys.toArray) (let ⟨o, e, c, n, d⟩ := ta; ⟨o, e, c, n, d⟩) (let ⟨o, e, c, n, d⟩ := tb; ⟨o, e, c, n, d⟩) (by omega) fun j h1 h2 => by
          have hj : j < ds.length := by simp at h1; omega
          have e0 : ds[j]? = some ds[j] := List.getElem?_eq_getElem hj
          obtain ⟨x, ex, rx⟩ := ra.get j _ e0
          obtain ⟨y, ey, ry⟩ := rb.get j _ e0
          rw [getElem_of_get h1 ex, getElem_of_get h2 ey]
          exact ih _ A.in1 x y (V.pures_get hp j _ e0) (by show A.units + 1 + n < cLine; omega) rx ry
        refine EqAt.of_refs hab ?_
        have hs : ((List.range (min xs.toArray.size ys.toArray.size)).all (fun _ => true) && xs.toArray.size == ys.toArray.size) = true := by
          rw [Bool.and_eq_true]; exact ⟨by simp, by simp; omega⟩
        rwa [hs] at this
end

section
variable {W : Wk} {k : Nat} {l : List Env} {σ : Store} {X : Store → Prop} {QB : Bool → Store → Prop}
/-- a tuple unlike itself: no -/
theorem CO_neT {ds : List V} {n : Nat} (hp : V.pures ds n = true) (hn : n ≤ 60) (h : QB false σ) : CO W k l σ .NotEq (.tup ds) (.tup ds) QB X := fun A β s x y ao wd ra rb => by
  obtain ⟨a1, xs, rfl, ta, rxa⟩ := vr_tup ra
  obtain ⟨b1, ys, rfl, tb, rxb⟩ := vr_tup rb
  have la := rxa.length
  have lb := rxb.length
  have hu := ao.un
  have e0 : cLine = 9900 := rfl
  have := RcNeAt.tuples (A := A) (s := s) (e := fun _ => true) (items := xs.toArray) (items2 := ys.toArray) (let ⟨o, e, c, n, d⟩ := ta; ⟨o, e, c, n, d⟩) (let ⟨o, e, c, n, d⟩ := tb; ⟨o, e, c, n, d⟩) (by omega) fun j h1 h2 => by
    have hj : j < ds.length := by simp at h1; omega
    have e0 : ds[j]? = some ds[j] := List.getElem?_eq_getElem hj
    obtain ⟨x, ex, rx⟩ := rxa.get j _ e0
    obtain ⟨y, ey, ry⟩ := rxb.get j _ e0
    rw [getElem_of_get h1 ex, getElem_of_get h2 ey]
    exact EqAt_same n _ A.in1 x y (V.pures_get hp j _ e0) (by show A.units + 1 + n < cLine; omega) rx ry
  have hs : (!((List.range (min xs.toArray.size ys.toArray.size)).all (fun _ => true) && xs.toArray.size == ys.toArray.size)) = false := by
    rw [Bool.not_eq_false', Bool.and_eq_true]; exact ⟨by simp, by simp; omega⟩
  rw [hs] at this
  exact .leaf h wd fun QC EC hQ => this _ _ _ _ (hQ _ s.toks rfl)
theorem CO_neN (h : QB false σ) : CO W k l σ .NotEq .none .none QB X := fun A β s x y ao wd ra rb => by
  cases vr_none ra; cases vr_none rb
  exact .leaf h wd fun QC EC hQ => RcNeAt.none_none _ _ _ _ (hQ _ s.toks rfl)
theorem CO_neL {n m : Nat} (hn : σ[n]? = some (.list [])) (hm : σ[m]? = some (.list [])) (h : QB false σ) : CO W k l σ .NotEq (.obj n) (.obj m) QB X := fun A β s x y ao wd ra rb => by
  obtain ⟨a, rfl, hb⟩ := vr_obj ra; obtain ⟨b, rfl, hb'⟩ := vr_obj rb
  obtain ⟨xs, la, rx⟩ := wd.sto n _ a hn hb
  obtain ⟨ys, lb, ry⟩ := wd.sto m _ b hm hb'
  simp only [VRs] at rx ry; subst rx ry
  have hu := ao.un
  have e0 : cLine = 9900 := rfl
  exact .leaf h wd fun QC EC hQ => RcNeAt.lists (e := fun _ => true) la.isList lb.isList rfl (by omega) (fun j h1 _ => by simp at h1) _ _ _ _ (hQ _ s.toks (by simp))
theorem CO_eqL {n m : Nat} (hn : σ[n]? = some (.list [])) (hm : σ[m]? = some (.list [])) (h : QB true σ) : CO W k l σ .Eq (.obj n) (.obj m) QB X := fun A β s x y ao wd ra rb => by
  obtain ⟨a, rfl, hb⟩ := vr_obj ra; obtain ⟨b, rfl, hb'⟩ := vr_obj rb
  obtain ⟨xs, la, rx⟩ := wd.sto n _ a hn hb
  obtain ⟨ys, lb, ry⟩ := wd.sto m _ b hm hb'
  simp only [VRs] at rx ry; subst rx ry
  have hu := ao.un
  have e0 : cLine = 9900 := rfl
  exact .leaf h wd fun QC EC hQ => RcAt.lists (e := fun _ => true) la.isList lb.isList rfl (by omega) (fun j h1 _ => by simp at h1) _ _ _ _ (hQ _ s.toks (by simp))

/-- a part of the script, upto a place -/
theorem SSl_src {Q : V → Store → Prop} {value slice : Expr} {hi : Int} (h0 : 0 ≤ hi) (hs : ∀ o i, subscripted slice false o i = operate [i, o] (getItem o i)) (hz : W.ns.length ≤ 16777216)
    (h : Q (.obj σ.length) (σ ++ [.list ((W.ns.take hi.toNat).map .int)])) : SSl W k l σ value slice .src none (some hi) Q X := by
  intro A β s x u v QC EC ao wd ra hu hv hQ
  simp only [VR] at ra; subst ra
  obtain ⟨vs, hl₀, hi₀⟩ := W.hsrc
  have hl : s.heap.IsList W.scr vs.toArray := let ⟨o, e, r⟩ := hl₀; ⟨o, wd.base _ _ e, r⟩
  have k1 : ∀ b o, s.heap.get? b = some o → (s.heap.push (slObj u v)).get? b = some o := fun _ _ e => Heap.get?_push_of_some _ e
  refine wpC_of <| tail_any (ops := [.ref s.heap.objs.size, .ref W.scr]) (Heap.IsList.typeIs (s := { s with heap := s.heap.push (slObj u v) }) (hl.push _)) slot_list_getitem.lookup
    (wpAny_getItem_list_slice (hl.push _) (Heap.IsSliceOf.new ..) hu hv .none (by simp) ?_ (by rw [List.size_toArray, hi₀.length, sizeLine_eq]; exact hz)) (hs _ _)
  have hi1 := slice_ints_uptoW hi₀ h0
  generalize hh : s.heap.push (slObj u v) = h1 at *
  have wd1 := wd.ext k1
  have k2 : ∀ b o, h1.get? b = some o → (h1.push { cls := .type "list", data := .seq (slicePick vs.toArray none (some hi) none) }).get? b = some o := fun _ _ e => Heap.get?_push_of_some _ e
  refine hQ _ (.obj σ.length) _ (β ++ [h1.objs.size]) _ s.toks (wd1.grow k2 (size_none _) (m₀ := .list ((W.ns.take hi.toNat).map .int)) ⟨_, ⟨_, 0, Heap.get?_push_size _ rfl, rfl, ⟨rfl, rfl⟩, by simp⟩, vrs_of_ints hi1⟩)
    ((Go.ext k1).trans (.grow k2 (size_none _))) ?_ h
  simp only [VR]
  exact ⟨_, rfl, by rw [wd.len, List.getElem?_append_right (Nat.le_refl _)]; simp⟩
end
end Mine

open PySem PySem.W PySem.Calls PyProof.Rows
set_option Elab.async false
set_option maxRecDepth 100000
namespace Mine
section
variable {prog : Program} {w : World} {A : Around} {E : Value → Shared → Prop} {s : Shared} {env : Env}
theorem C_Try {body orelse : List Stmt} {h₀ : ExceptHandler} {hs : List ExceptHandler} {pos : Pos} {Q : Flow → Shared → Prop}
    (h : wpC (model prog w) A (execs body env) (fun f s₁ => match f with | .next => wpC (model prog w) A (execs orelse env) Q E s₁ | f => Q f s₁)
      (fun e s₁ => wpAny (model prog w) A (noteFrame e env) (fun _ s₂ => wpAny (model prog w) A (setFlight e none) (fun _ s₃ => wpC (model prog w) A (handleBy e env (h₀ :: hs)) Q E s₃) E s₂) E s₁) s) :
    wpC (model prog w) A (exec (.Try body (h₀ :: hs) orelse [] pos) env) Q E s := by
  rw [arm_exec_Try]
  refine wpC_at ?_
  unfold tryStmt
  refine C_if_true (by rfl) ?_
  refine wpC_bind (wpC_attempt (wpC_mono h (fun f s₁ q => ?_) fun e s₁ q => ?_))
  · cases f <;> first | exact wpC_pure q | exact q
  · dsimp only
    refine wpC_then (wpAny_mono q (fun _ s₂ q => ?_) fun _ _ q => q)
    refine C_if_false (by rfl) ?_
    refine wpC_then (wpAny_mono q (fun _ s₃ q => ?_) fun _ _ q => q)
    refine C_if_false (by rfl) (C_if_false (by rfl) ?_)
    exact q
end
section
variable {W : Wk} {k : Nat} {F : Fm} {ρ : LEnv} {σ : Store} {X : Store → Prop} {Qn : LEnv → Store → Prop} {Qr : V → Store → Prop}
end
end Mine

open PySem PySem.W PySem.Calls PyProof.Rows
set_option Elab.async false
set_option maxRecDepth 100000
namespace Mine

/-- what the program's globals and the built-ins hold -/
structure Sys (W : Wk) (K : Frag) (gt bt : List (String × Value)) : Prop where
  hK : W.K = K
  mg : ∀ x v, gt.lookup x = some v → W.mg (Str.ofString x) = some v
  mb : ∀ x v, bt.lookup x = some v → W.mg (Str.ofString x) = none ∧ W.mb (Str.ofString x) = some v

theorem Sys.glb {W : Wk} {K : Frag} {gt bt : List (String × Value)} {F : Fm} {x : String} {v : Value} (S : Sys W K gt bt) (hk : F.env.kindOf (Str.ofString x) = some .globalImplicit)
    (h : gt.lookup x = some v) (nd : (Str.ofString x == ("__debug__" : Str)) = false) : Glb W F x v := ⟨hk, .inl (S.mg x v h), nd⟩
theorem Sys.blt {W : Wk} {K : Frag} {gt bt : List (String × Value)} {F : Fm} {x : String} {v : Value} (S : Sys W K gt bt) (hk : F.env.kindOf (Str.ofString x) = some .globalImplicit)
    (h : bt.lookup x = some v) (nd : (Str.ofString x == ("__debug__" : Str)) = false) : Glb W F x v := ⟨hk, .inr (S.mb x v h), nd⟩
theorem Sys.callee {W : Wk} {K : Frag} {gt bt : List (String × Value)} {a : Addr} (S : Sys W K gt bt) (h : keepIn K (.ref a) = true) : Callee W (.ref a) := by show keepIn W.K _ = true; rw [S.hK]; exact h
theorem kind_of {F : Fm} {sc : Scope} {x : Str} {n : NameKind} (h : F.env.scope = sc) (hn : sc.names.lookup x = some n) : F.env.kindOf x = some n := by show F.env.scope.names.lookup x = _; rw [h]; exact hn

/-- with garbage behind -/
def Gb (Q : Store → Prop) (σ : Store) : Prop := ∀ g, Q (σ ++ g)
theorem Gb.now {Q : Store → Prop} {σ : Store} (h : Gb Q σ) : Q σ := by simpa using h []
theorem Gb.more {Q : Store → Prop} {σ : Store} (h : Gb Q σ) (g : Store) : Gb Q (σ ++ g) := fun g' => by rw [List.append_assoc]; exact h _
theorem set_last {σ : Store} {a b : MO} : (σ ++ [a]).set σ.length b = σ ++ [b] := by simp
theorem get_last {σ : Store} {a : MO} : (σ ++ [a])[σ.length]? = some a := by simp
theorem bind1 {fd : FuncData} {p : String} (h : ∀ a, bindArgs fd ⟨[a], []⟩ = pure [(Str.ofString p, a)]) : ∀ vs : List Value, vs.length = [p].length → bindArgs fd ⟨vs, []⟩ = pure (([p].map Str.ofString).zip vs)
  | [a], _ => h a
  | [], e => by cases e
  | _ :: _ :: _, e => by simp at e
theorem bind2 {fd : FuncData} {p q : String} (h : ∀ a b, bindArgs fd ⟨[a, b], []⟩ = pure [(Str.ofString p, a), (Str.ofString q, b)]) : ∀ vs : List Value, vs.length = [p, q].length → bindArgs fd ⟨vs, []⟩ = pure (([p, q].map Str.ofString).zip vs)
  | [a, b], _ => h a b
  | [], e => by cases e
  | [_], e => by simp at e
  | _ :: _ :: _ :: _, e => by simp at e
theorem bind3 {fd : FuncData} {p q r : String} (h : ∀ a b c, bindArgs fd ⟨[a, b, c], []⟩ = pure [(Str.ofString p, a), (Str.ofString q, b), (Str.ofString r, c)]) : ∀ vs : List Value, vs.length = [p, q, r].length → bindArgs fd ⟨vs, []⟩ = pure (([p, q, r].map Str.ofString).zip vs)
  | [a, b, c], _ => h a b c
  | [], e => by cases e
  | [_], e => by simp at e
  | [_, _], e => by simp at e
  | _ :: _ :: _ :: _ :: _, e => by simp at e
theorem bind4 {fd : FuncData} {p q r t : String} (h : ∀ a b c d, bindArgs fd ⟨[a, b, c, d], []⟩ = pure [(Str.ofString p, a), (Str.ofString q, b), (Str.ofString r, c), (Str.ofString t, d)]) : ∀ vs : List Value, vs.length = [p, q, r, t].length → bindArgs fd ⟨vs, []⟩ = pure (([p, q, r, t].map Str.ofString).zip vs)
  | [a, b, c, d], _ => h a b c d
  | [], e => by cases e
  | [_], e => by simp at e
  | [_, _], e => by simp at e
  | [_, _, _], e => by simp at e
  | _ :: _ :: _ :: _ :: _ :: _, e => by simp at e
theorem set_mid {σ g : Store} {a b : MO} : (σ ++ a :: g).set σ.length b = σ ++ b :: g := by simp
theorem get_mid {σ g : Store} {a : MO} : (σ ++ a :: g)[σ.length]? = some a := by simp
theorem app_mid {σ g h : Store} {a : MO} : (σ ++ a :: g) ++ h = σ ++ a :: (g ++ h) := by simp
theorem iteF {c : Bool} {P Q : Prop} (h : c = false) (q : Q) : if c = true then P else Q := by subst h; simpa using q
theorem iteT {c : Bool} {P Q : Prop} (h : c = true) (q : P) : if c = true then P else Q := by subst h; simpa using q
theorem Sub.nil {ρ : LEnv} : Sub [] ρ := fun _ _ e => by cases e
theorem Sub.cons {ρ r : LEnv} {x : String} {d : V} (h : ρ.lookup x = some d) (s : Sub r ρ) : Sub ((x, d) :: r) ρ := fun y e q => by
  rw [List.lookup_cons] at q
  cases hq : y == x with
  | true => rw [hq] at q; simp only [Option.some.injEq] at q; subst q; rw [eq_of_beq hq]; exact h
  | false => rw [hq] at q; exact s y e q
theorem Sub.upd {ρ ρ' : LEnv} {x : String} {d : V} (s : Sub ρ ρ') : Sub (upd ρ x d) (upd ρ' x d) := fun y e q => by
  rw [upd_lookup] at q ⊢
  by_cases h : y = x
  · rw [if_pos h] at q ⊢; exact q
  · rw [if_neg h] at q ⊢; exact s y e q
theorem Sub.refl {ρ : LEnv} : Sub ρ ρ := fun _ _ e => e
theorem walk_sk {F : Fm} {sc : Scope} {x : String} (_fn : FnEnv F) (h : F.env.scope = sc) (hn : sc.names.lookup (Str.ofString x) = some .local) : SK F x := .inl (kind_of h hn)
theorem free_of {names : List (Str × NameKind)} {xs : List String} (h : names.filter (fun p => p.2 == .free) = xs.map fun x => (Str.ofString x, NameKind.free)) {F : Fm} (hk : ∀ x ∈ xs, F.env.kindOf (Str.ofString x) = some .cell) :
    ∀ n, (n, NameKind.free) ∈ names → F.env.kindOf n = some .cell ∧ ∃ x, n = Str.ofString x := fun n hn => by
  have : (n, NameKind.free) ∈ names.filter (fun p => p.2 == .free) := List.mem_filter.mpr ⟨hn, by rfl⟩
  rw [h] at this
  obtain ⟨x, hx, e⟩ := List.mem_map.mp this
  simp only [Prod.mk.injEq, and_true] at e
  subst e
  exact ⟨hk x hx, x, rfl⟩
theorem rho0 {ρ : LEnv} {names : List (Str × NameKind)} : ∀ x d, List.lookup x ([] : LEnv) = some d → ρ.lookup x = some d ∧ names.lookup (Str.ofString x) = some .free := fun _ _ e => by cases e
theorem rho1 {ρ r : LEnv} {names : List (Str × NameKind)} {a : String} {v : V} (h1 : ρ.lookup a = some v) (h2 : names.lookup (Str.ofString a) = some .free) (hr : ∀ x d, r.lookup x = some d → ρ.lookup x = some d ∧ names.lookup (Str.ofString x) = some .free) :
    ∀ x d, List.lookup x ((a, v) :: r : LEnv) = some d → ρ.lookup x = some d ∧ names.lookup (Str.ofString x) = some .free := fun x d e => by
  rw [List.lookup_cons] at e
  cases hq : x == a with
  | true => rw [hq] at e; simp only [Option.some.injEq] at e; subst e; rw [eq_of_beq hq]; exact ⟨h1, h2⟩
  | false => rw [hq] at e; exact hr x d e
theorem CT_nil {W : Wk} {k : Nat} {F : Fm} {ρ : LEnv} {σ : Store} {P R : Store → Prop} (h : P σ) : CT W k F ρ σ [] (fun b σ₂ => if b = true then P σ₂ else R σ₂) := by
  show if true = true then P σ else R σ
  rw [if_pos rfl]; exact h
theorem CT_one {W : Wk} {k : Nat} {F : Fm} {ρ : LEnv} {σ : Store} {c : Expr} {Q : Bool → Store → Prop} (h : SB W k F ρ σ c Q (fun _ => False)) : CT W k F ρ σ [c] Q := h
theorem small_bits {a : Int} (h0 : 0 ≤ a) (h1 : a < 4294967296) : Builtin.Int.intBits a ≤ 64 := by
  obtain ⟨n, rfl⟩ := Int.eq_ofNat_of_zero_le h0
  unfold Builtin.Int.intBits
  split
  · omega
  · rename_i h
    have hn : n ≠ 0 := by intro q; subst q; exact h (by rfl)
    have : (n : Int).natAbs.log2 < 32 := (Nat.log2_lt (by omega)).mpr (by omega)
    omega
theorem SI_bytesN {W : Wk} {k : Nat} {l : List Env} {σ : Store} {X : Store → Prop} {Q : V → Store → Prop} {value slice : Expr} {b : List UInt8} {i : Nat} (hs : NoSl slice) (h1 : i < b.length) (hz : b.length ≤ 16777216) (h : Q (.int (b.getD i 0).toNat) σ) :
    SI W k l σ value slice (.bytes b) (.int (i : Int)) Q X := SI_bytes hs (by omega) (by omega) (by omega) (by rw [Int.toNat_natCast]; exact h)
theorem OP_some {W : Wk} {k : Nat} {F : Fm} {ρ : LEnv} {σ : Store} {e : Expr} {Q : Option Int → Store → Prop} {X : Store → Prop} (h : SE W k F ρ σ e (fun d σ' => ∃ i, d = .int i ∧ Q (some i) σ') X) : OPart W k F ρ σ (some e) Q X := h
theorem OP_none {W : Wk} {k : Nat} {F : Fm} {ρ : LEnv} {σ : Store} {Q : Option Int → Store → Prop} {X : Store → Prop} (h : Q none σ) : OPart W k F ρ σ none Q X := h
theorem cut_nn {b : List UInt8} {i j : Nat} : cutB b (some (i : Int)) (some (j : Int)) = (b.drop i).take (j - i) := by
  unfold cutB
  simp only [Option.elim_some, clipAt_nat]
  by_cases h : i ≤ b.length
  · rw [Nat.min_eq_left h]
    by_cases h2 : j ≤ b.length
    · rw [Nat.min_eq_left h2]
    · rw [Nat.min_eq_right (by omega)]
      rw [List.take_of_length_le (by simp), List.take_of_length_le (by simp; omega)]
  · have e1 : min i b.length = b.length := Nat.min_eq_right (by omega)
    rw [e1, List.drop_of_length_le (Nat.le_refl _), List.drop_of_length_le (show b.length ≤ i by omega)]; simp
theorem cut_0n {b : List UInt8} {j : Nat} : cutB b none (some (j : Int)) = b.take j := by
  unfold cutB
  simp only [Option.elim_none, Option.elim_some, clipAt_nat, List.drop_zero, Nat.sub_zero]
  by_cases h2 : j ≤ b.length
  · rw [Nat.min_eq_left h2]
  · rw [Nat.min_eq_right (by omega), List.take_of_length_le (Nat.le_refl _), List.take_of_length_le (by omega)]
theorem cut_n0 {b : List UInt8} {i : Nat} : cutB b (some (i : Int)) none = b.drop i := by
  unfold cutB
  simp only [Option.elim_none, Option.elim_some, clipAt_nat]
  by_cases h : i ≤ b.length
  · rw [Nat.min_eq_left h, List.take_of_length_le (by simp)]
  · have e1 : min i b.length = b.length := Nat.min_eq_right (by omega)
    rw [e1, List.drop_of_length_le (Nat.le_refl _), List.drop_of_length_le (show b.length ≤ i by omega)]; simp
theorem fn_kind {F : Fm} {sc : Scope} (h : F.env.scope = sc) (hk : sc.kind = .function) : F.env.scope.kind = .function := by rw [h]; exact hk
theorem interactive_fn {F : Fm} (h : F.env.scope.kind = .function) : interactive F.env = false := by unfold interactive; rw [h]; rfl
end Mine

open PySem PySem.W PySem.Calls PyProof.Rows
set_option Elab.async false
set_option maxRecDepth 100000
namespace Mine
def bareE (sc : Scope) : Env := { scope := sc, locals := 0, globals := 0, cells := [] }
theorem sw_eq {F : Fm} {sc : Scope} (h : F.env.scope = sc) {ts : List Expr} {v : Expr} : swappedStores ts v F.env = swappedStores ts v (bareE sc) := by
  unfold swappedStores Env.blockKind Env.kindOf bareE
  rw [h]

end Mine

open PySem PySem.W PySem.Calls PyProof.Rows Builtin Builtin.ObjectAttr
set_option Elab.async false
set_option maxRecDepth 100000
set_option maxHeartbeats 4000000
namespace Mine

/-- C over P over Exception, its __init__ that of P, told by the heap's records -/
def fltIn (K : Frag) (C P fi : Addr) : Bool := match K.lookup C with
  | some ⟨_, _, .cls cd, sl⟩ => !cd.hasDel && cd.hasDict && (sl.toList[4]?).join == some (.builtin "Exception.__new__") && cd.mro == [.ref C, .ref P, .type "Exception", .type "BaseException", .type "object"] &&
      specialIn K (.ref C) "__call__" == some (some (.builtin "type.__call__")) && instIn K (.ref C) (.type "type") == some true && findIn K (.ref C) "__init__" == some (some (.ref fi)) && typeIn K (.ref fi) == some (.type "function") &&
      findIn K (.ref C) "__setattr__" == some (some (.builtin "object.__setattr__")) && findIn K (.ref C) "what" == some none && findIn K (.ref C) "at" == some none && typeIn K (.ref C) == some (.type "type")
  | _ => false

structure FltCls (K : Frag) (C P fi : Addr) : Prop where
  obj : ∃ oc od cd sl, K.lookup C = some ⟨oc, od, .cls cd, sl⟩ ∧ cd.hasDel = false ∧ cd.hasDict = true ∧ (sl.toList[4]?).join = some (.builtin "Exception.__new__") ∧ cd.mro = [.ref C, .ref P, .type "Exception", .type "BaseException", .type "object"]
  call : specialIn K (.ref C) "__call__" = some (some (.builtin "type.__call__"))
  typ : instIn K (.ref C) (.type "type") = some true
  init : findIn K (.ref C) "__init__" = some (some (.ref fi))
  fn : typeIn K (.ref fi) = some (.type "function")
  seta : findIn K (.ref C) "__setattr__" = some (some (.builtin "object.__setattr__"))
  what : findIn K (.ref C) "what" = some none
  at_ : findIn K (.ref C) "at" = some none
  met : typeIn K (.ref C) = some (.type "type")
theorem FltCls.of {K : Frag} {C P fi : Addr} (e : fltIn K C P fi = true) : FltCls K C P fi := by
  unfold fltIn at e
  split at e
  · rename_i oc od cd sl ho
    simp only [Bool.and_eq_true, Bool.not_eq_true', beq_iff_eq] at e
    obtain ⟨⟨⟨⟨⟨⟨⟨⟨⟨⟨⟨e1, e2⟩, e3⟩, e4⟩, e5⟩, e6⟩, e7⟩, e8⟩, e9⟩, e10⟩, e11⟩, e12⟩ := e
    exact ⟨⟨oc, od, cd, sl, ho, e1, e2, e3, e4⟩, e5, e6, e7, e8, e9, e10, e11, e12⟩
  · cases e
section
variable {K : Frag} {C P fi : Addr} {M : Model} {h : Heap}
theorem FltCls.mro (F : FltCls K C P fi) (X : K.In h) : Looks M h (mroOf (.ref C)) [.ref C, .ref P, .type "Exception", .type "BaseException", .type "object"] := by
  obtain ⟨oc, od, cd, sl, ho, e1, e2, e3, e4⟩ := F.obj
  have hc : clsIn K C = some cd := by unfold clsIn; rw [ho]
  rw [← e4]
  exact (looks_clsIn X hc).andThen .now
theorem FltCls.sub (F : FltCls K C P fi) (X : K.In h) (b : Value) : Looks M h (isSubtype (.ref C) b) ([Value.ref C, .ref P, .type "Exception", .type "BaseException", .type "object"].contains b) := by
  obtain ⟨oc, od, cd, sl, ho, e1, e2, e3, e4⟩ := F.obj
  have hc : clsIn K C = some cd := by unfold clsIn; rw [ho]
  exact looks_mroIn X (by unfold mroIn; rw [hc, Option.bind_some, e4]; rfl)
theorem FltCls.made (F : FltCls K C P fi) (X : K.In h) : Looks M h (Bind.madeBy (.ref C)) (some "Exception.__new__") := by
  obtain ⟨oc, od, cd, sl, ho, e1, e2, e3, e4⟩ := F.obj
  have hm := F.mro (M := M) X
  intro A Q E s k q
  unfold Bind.madeBy
  refine wpAny_bind (hm A _ E s k ?_)
  rw [List.forIn_cons]
  refine wpAny_bind (wpAny_bind (wpAny_bind (wpAny_bind (wpAny_loadPart (k _ _ (X _ _ ho)) (wpAny_pure ?_)))))
  dsimp only
  rw [← Array.getElem?_toList, e3]
  exact wpAny_pure (wpAny_pure (wpAny_pure q))
theorem FltCls.base (F : FltCls K C P fi) (X : K.In h) : Looks M h (Bind.staticBase (.ref C)) (.ref C) := by
  have hm := F.mro (M := M) X
  have made := F.made (M := M) X
  intro A Q E s k q
  unfold Bind.staticBase
  refine wpAny_bind (hm A _ E s k ?_)
  rw [List.forIn_cons]
  exact wpAny_bind (wpAny_bind (wpAny_bind (made A _ E s k (wpAny_pure (wpAny_pure (wpAny_pure q))))))
theorem FltCls.here (F : FltCls K C P fi) (X : K.In h) : Looks M h (Bind.madeHere "BaseException.__new__" (.ref C)) () :=
  (F.base X).andThen ((F.made X).andThen (Looks.of_pure (by simp only [Option.map_some, PySem.F.excBase_Exception.canon, bne_self_eq_false, Bool.false_eq_true, if_false])))
end

abbrev newFlt (C t : Addr) : Obj := { cls := .ref C, data := .fields #[.ref t, .none, .none, .none, .bool false, .none] }
abbrev argTup (rest : List Value) : Obj := { cls := .type "tuple", data := .seq rest.toArray }
section
variable {prog : Program} {w : World} {A : Around} {K : Frag} {C P fi : Addr} {R : Result → Shared → Prop} {h : Heap} {g : Array GenState} {d : Drawn} {t : Nat} {os : OsState}
theorem flt_new (F : FltCls K C P fi) (X : K.In h) {rest : List Value} (hz : rest.length ≤ sizeLine)
    (hq : R (.ok (.ret (.ref (h.objs.size + 1)))) ⟨(h.push (argTup rest)).push (newFlt C h.objs.size), g, d, t, os⟩) :
    codeAny (model prog w) A (.call (.builtin "Exception.__new__") ⟨.ref C :: rest, []⟩) R ⟨h, g, d, t, os⟩ := by
  have B := PySem.F.excBase_Exception
  have s1 := F.sub (M := model prog w) X (.type "Exception")
  have m1 := F.base (M := model prog w) X
  have m2 := F.made (M := model prog w) X
  have oC := F.obj
  obtain ⟨oc, od, cd, sl, ho, e1, e2, e3, e4⟩ := oC
  have hC := X _ _ ho
  refine codeAny_call_builtin_code (Code.quiet_builtin _ B.quiet) ?_
  simp only [checkBuiltinCall, B.newKind, B.newSplit, B.newRow]
  repeat (first | simp only [bne_self_eq_false, Bool.false_eq_true, if_false] | lk)
  have hends := B.ends
  have sA : Looks (model prog w) h (isSubtype (.ref C) (.type "AttributeError")) false := F.sub X _
  have sN : Looks (model prog w) h (isSubtype (.ref C) (.type "NameError")) false := F.sub X _
  have sE : Looks (model prog w) h (isSubtype (.ref C) (.type "Exception")) true := F.sub X _
  have mh := F.here (M := model prog w) X
  clear s1
  refine codeAny_builtinAt B.entry ?_
  unfold Builtin.«BaseException.__new__»
  refine PySem.wpAt_bind ?_
  show PySem.wpAt _ _ _ (stack >>= _) _ _ _
  refine PySem.wpAt_bind (PySem.wpAt_stack fun p below => PySem.wpAt_of_wpAny ?_)
  wp_walk
  refine PySem.wpAt_of_wpAny ?_
  rw [B.owner]
  have fin : ∀ A', wpAny (model prog w) A' (do ret (← newObj (.ref C) (.fields (#[← newTuple rest, .none, .none, .none, .bool false, .none] ++ (List.replicate 0 (rawInt 0)).toArray)))) (fun fin s' => match fin with | .done f => R (.ok f) s' | .again c' => c'.quiet = true ∧ codeAny (model prog w) A c' R s') (fun e s' => R (.error e) s') ⟨h, g, d, t, os⟩ := by
    intro A'
    repeat (first | with_reducible refine wpAny_loadPart_at hC ?_ | wp_step)
    show R _ _
    rw [Heap.size_push]
    exact hq
  repeat (first | exact fin _ | simp only [Bool.false_eq_true, if_false, Bool.not_true] | lk)

theorem flt_make (F : FltCls K C P fi) (X : K.In h) {rest : List Value} (hz : rest.length ≤ sizeLine)
    (hq : codeAny (model prog w) (A.under (.builtin "type.__call__" ⟨.ref C :: rest, []⟩)) (.call (.ref fi) ⟨.ref (h.objs.size + 1) :: rest, []⟩) (InitBack (h.objs.size + 1) R) ⟨(h.push (argTup rest)).push (newFlt C h.objs.size), g, d, t, os⟩) :
    codeAny (model prog w) A (.call (.ref C) ⟨rest, []⟩) R ⟨h, g, d, t, os⟩ := by
  have oC := F.obj
  obtain ⟨oc, od, cd, sl, ho, e1, e2, e3, e4⟩ := oC
  have hC := X _ _ ho
  have call := looks_specialIn (M := model prog w) X F.call
  have typ := looks_instIn (M := model prog w) X F.typ
  refine codeAny_of_tree ?_
  show wpAny _ _ (callAny (.ref C) _) _ _ _
  refine nd_load hC ?_
  show wpAny _ _ (callAny.viaDunder (.ref C) _) _ _ _
  unfold callAny.viaDunder
  refine wpAny_bind (call.at ?_)
  dsimp only
  rw [tc_bind]
  refine wpAny_bind (wpAny_pure (wpAny_bind (wpAny_pure ?_)))
  refine wpAny_pure (a := Fin.again (.call (.builtin "type.__call__") ⟨.ref C :: rest, []⟩)) (And.intro rfl ?_)
  refine codeAny_call_builtin_at (Code.quiet_builtin _ (by decide +kernel)) entry_typeCall (check_slot tc_kind tc_split typ (tc_args _ _ _) ?_)
  unfold Builtin.«type.__call__»
  have hm := F.mro (M := model prog w) X
  have made := F.made (M := model prog w) X
  repeat (first | simp only [List.isEmpty, Bool.false_eq_true, if_false] | with_reducible refine wpAny_call ?_ | lk)
  refine flt_new F X hz ?_
  have k : ∀ b o, h.get? b = some o → ((h.push (argTup rest)).push (newFlt C h.objs.size)).get? b = some o := fun b o e => Heap.get?_push_of_some _ (Heap.get?_push_of_some _ e)
  have hx : ((h.push (argTup rest)).push (newFlt C h.objs.size)).get? (h.objs.size + 1) = some (newFlt C h.objs.size) := by heap_get
  have t1 : Looks (model prog w) ((h.push (argTup rest)).push (newFlt C h.objs.size)) (typeOf (.ref (h.objs.size + 1))) (.ref C) := (Looks.ld hx).andThen .now
  have X' := X.keeps k
  have s1 : Looks (model prog w) ((h.push (argTup rest)).push (newFlt C h.objs.size)) (isSubtype (.ref C) (.ref C)) true := by
    have := F.sub (M := model prog w) X' (.ref C)
    rwa [show [Value.ref C, .ref P, .type "Exception", .type "BaseException", .type "object"].contains (.ref C) = true by simp] at this
  have i1 := looks_findIn (M := model prog w) X' F.init
  have b1 := bind_fn (M := model prog w) X' (.ref (h.objs.size + 1)) F.fn
  unfold isInstance callSpecial? specialOf
  repeat (first | with_reducible refine wpAny_call ?_ | lk)
  refine codeAny_mono hq fun r s' z => ?_
  rcases r with e | (v | _ | _ | _) <;> first | exact z | exact z.elim | skip
  obtain ⟨rfl, z⟩ := z
  exact wpAny_pure (wpAny_pure z)
end
end Mine

open PySem PySem.W PySem.Calls PyProof.Rows Builtin Builtin.ObjectAttr
set_option Elab.async false
set_option maxRecDepth 100000
set_option maxHeartbeats 4000000
namespace Mine
/-- a fault in the making: h₀ the heap ahead of it, L the locals of its __init__ -/
structure Mid (h₀ : Heap) (C e L : Addr) (m : Str → Option Value) (ns : List Str) (h : Heap) : Prop where
  keep : ∀ b o, h₀.get? b = some o → h.get? b = some o
  new : h₀.get? e = none
  newL : h₀.get? L = none
  neL : e ≠ L
  nsL : h.Ns L m
  obj : ∃ oe vs a0, h.get? e = some oe ∧ oe.cls = .ref C ∧ oe.data = .fields vs ∧ vs[0]? = some a0 ∧ vs[1]? = some .none ∧
    ((oe.dict = none ∧ ns = []) ∨ ∃ dx mA, oe.dict = some dx ∧ h₀.get? dx = none ∧ dx ≠ e ∧ dx ≠ L ∧ h.Ns1 dx mA ∧ Within mA ns)

section
variable {prog : Program} {w : World} {A : Around} {K : Frag} {C P fi e L : Addr} {h₀ : Heap} {m : Str → Option Value} {ns : List Str}
theorem flt_set {s : Shared} {E : Value → Shared → Prop} {name : Str} {v : Value} {Q : Unit → Shared → Prop} (F : FltCls K C P fi) (X₀ : K.In h₀) (I : Mid h₀ C e L m ns s.heap) (hn : findIn K (.ref C) name = some none) (hz : ns.length ≤ 100)
    (h : ∀ h' tk, Mid h₀ C e L m (name :: ns) h' → Q () { s with heap := h', toks := tk }) : wpAny (model prog w) A (setAttr (.ref e) name v) Q E s := by
  have X := X₀.keeps I.keep
  obtain ⟨oe, vs, a0, he, hc, hd, h0, h1, hdict⟩ := I.obj
  have hod : ∃ od, InstAt s.heap e oe C od := by
    rcases hdict with ⟨q, _⟩ | ⟨dx, mA, q, _, _, _, N, _⟩
    · exact ⟨none, he, hc, by unfold notCls; rw [hd], by rw [q]; trivial⟩
    · obtain ⟨o, _, _, ho, _⟩ := N
      exact ⟨some o, he, hc, by unfold notCls; rw [hd], by rw [q]; exact ho⟩
  obtain ⟨od, IA⟩ := hod
  refine set_plain X IA F.seta ?_
  have SF := PySem.F.store_Exception
  have sub : Looks (model prog w) s.heap (isInstance (.ref e) (.type "object")) true := IA.type.andThen (F.sub X _)
  refine codeAny_call_builtin SF.slot.plain SF.entry (@check_slot (model prog w) _ _ { s with toks := s.toks + 1 } "object.__setattr__" "object" "__setattr__" (.ref e) [.str name s.toks, v] [] _ SF.kind SF.split sub (SF.args (.ref e) (.str name s.toks) v) ?_)
  rw [osa_eq, refuse_eq]
  refine wpAny_bind (wpAny_bind (IA.type.at (wpAny_bind ((F.mro X).at ?_))))
  rw [refuseLoop_ref, refuseLoop_ref, SF.passes]
  refine wpAny_pure (wpAny_bind (IA.type.at (wpAny_bind ((looks_findIn X hn).at (wpAny_bind (wpAny_pure ?_))))))
  have oC := F.obj
  obtain ⟨oc, od', cd, sl, ho, e1, e2, e3, e4⟩ := oC
  have hcc : clsIn K C = some cd := by unfold clsIn; rw [ho]
  show wpAny _ _ (storeInOwnDict (.ref e) (.ref C) (.str name s.toks) name v false) _ _ _
  obtain ⟨oec, oed, oeda, oesl⟩ := oe
  dsimp only at hc hd
  subst hc hd
  refine wpAny_bind (wpAny_pure (wpAny_bind (wpAny_bind (wpAny_loadPart he (wpAny_bind ((looks_clsIn X hcc).at ?_))))))
  rw [e2]
  rcases hdict with ⟨q, hns⟩ | ⟨dx, mA, q, n1, n2, n3, N, wi⟩
  · dsimp only at q
    subst q hns
    have hx₁ := Heap.get?_push_of_some emptyDict he
    have hes : e ≠ s.heap.objs.size := Nat.ne_of_lt (Heap.lt_size he)
    have hnone : ∀ b, h₀.get? b ≠ none → b ≠ s.heap.objs.size := fun b hb z => by
      cases q : h₀.get? b with
      | none => exact hb q
      | some o => exact absurd (Heap.lt_size (I.keep _ _ q)) (by rw [z]; exact Nat.lt_irrefl _)
    show wpAny _ _ (do
      let d ← alloc emptyDict
      update e fun o => { cls := o.cls, dict := some d, data := o.data, slots := o.slots }
      pure (some d)) _ _ _
    refine wpAny_bind (wpAny_alloc' ?_)
    refine wpAny_bind (wpAny_update' hx₁ ?_)
    refine wpAny_pure ?_
    generalize hH : ((s.heap.push emptyDict).update e fun o => { cls := o.cls, dict := some s.heap.objs.size, data := o.data, slots := o.slots }) = H
    have hgd : H.get? s.heap.objs.size = some emptyDict := by
      rw [← hH]; exact (Heap.get?_update_ne _ _ _ _ hes.symm).trans (Heap.get?_push_at rfl rfl)
    have hge : H.get? e = some { cls := .ref C, dict := some s.heap.objs.size, data := .fields vs, slots := oesl } := by
      rw [← hH]; exact Heap.get?_update_self _ hx₁ rfl
    have hgo : ∀ b o, b ≠ e → s.heap.get? b = some o → H.get? b = some o := fun b o n q => by
      rw [← hH]; exact (Heap.get?_update_ne _ _ _ _ n).trans (Heap.get?_push_of_some _ q)
    have hnd : H.Ns s.heap.objs.size (fun _ => none) := ⟨_, #[], _, hgd, rfl, fun e he => absurd he (by simp), fun _ => rfl⟩
    have hfree : h₀.get? s.heap.objs.size = none := by
      cases q : h₀.get? s.heap.objs.size with
      | none => rfl
      | some o => exact absurd rfl (hnone _ (by rw [q]; exact fun z => by cases z))
    have hLs : s.heap.objs.size ≠ L := fun z => by
      obtain ⟨o, _, _, x, _⟩ := I.nsL
      exact absurd (Heap.lt_size x) (by rw [← z]; exact Nat.lt_irrefl _)
    show wpAny _ _ (storeInDict s.heap.objs.size (.str name s.toks) name v) _ _ _
    unfold storeInDict newKeyGuard
    refine wpAny_bind (wpAny_pure (wpAny_bind (wpAny_nsSet1 (Heap.Ns1.of_empty hnd) fun h' hn' hs => ?_)))
    obtain ⟨oD, esD, epD, hoD, hdD, hcD⟩ := hn'.count (Within.cons name v Within.nil)
    refine wpAny_bind (wpAny_lookBehind hoD (by rw [hdD]; exact pastItsLine_dict (Nat.le_trans hcD (by rw [List.length_cons, List.length_nil, sizeLine_eq]; omega))) ?_)
    refine wpAny_pure (h h' _ ⟨fun b o eb => ?_, I.new, I.newL, I.neL, ?_, ⟨_, vs, a0, (hs.2 e hes).trans hge, rfl, rfl, h0, h1, .inr ⟨_, _, rfl, hfree, hes.symm, hLs, hn', Within.cons name v Within.nil⟩⟩⟩)
    · have n1 : b ≠ e := fun z => by rw [z, I.new] at eb; cases eb
      exact (hs.2 b (hnone b (by rw [eb]; exact fun z => by cases z))).trans (hgo b o n1 (I.keep b o eb))
    · obtain ⟨o, es, ep, x, y⟩ := I.nsL
      exact ⟨o, es, ep, (hs.2 L hLs.symm).trans (hgo L o I.neL.symm x), y⟩
  · dsimp only at q
    subst q
    refine wpAny_pure (a := some dx) ?_
    show wpAny _ _ (storeInDict dx (.str name s.toks) name v) _ _ _
    unfold storeInDict newKeyGuard
    refine wpAny_bind (wpAny_pure (wpAny_bind (wpAny_nsSet1 N fun h' hn' hs => ?_)))
    obtain ⟨oD, esD, epD, hoD, hdD, hcD⟩ := hn'.count (Within.cons name v wi)
    refine wpAny_bind (wpAny_lookBehind hoD (by rw [hdD]; exact pastItsLine_dict (Nat.le_trans hcD (by rw [List.length_cons, sizeLine_eq]; omega))) ?_)
    refine wpAny_pure (h h' _ ⟨fun b o eb => ?_, I.new, I.newL, I.neL, ?_, ⟨_, vs, a0, (hs.2 e (Ne.symm n2)).trans he, rfl, rfl, h0, h1, .inr ⟨dx, _, rfl, n1, n2, n3, hn', Within.cons name v wi⟩⟩⟩)
    · exact (hs.2 b fun z => by rw [z, n1] at eb; cases eb).trans (I.keep b o eb)
    · obtain ⟨o, es, ep, x, y⟩ := I.nsL
      exact ⟨o, es, ep, (hs.2 L (Ne.symm n3)).trans x, y⟩
end
end Mine

open PySem PySem.W PySem.Calls PyProof.Rows Builtin Builtin.ObjectAttr
set_option Elab.async false
set_option maxRecDepth 100000
set_option maxHeartbeats 4000000
namespace Mine
theorem ini_find : findCls [] (.type "Exception") (.type "type") "__init__" = some (.val (.builtin "Exception.__init__")) := by kernel_rfl
theorem ini_hand : handedIn (.builtin "Exception.__init__") = true := by decide +kernel
theorem exc_type : typeOf (.type "Exception") = pure (.type "type") := by first | rfl | kernel_rfl
theorem exc_stub : Manifest.isStub "Exception" = false := by decide +kernel
section
variable {prog : Program} {w : World} {A : Around} {K : Frag} {C P fi e L : Addr} {h₀ : Heap} {m : Str → Option Value} {ns : List Str}
theorem getm_type {s : Shared} {E : Value → Shared → Prop} {T : String} {name : Str} {v : Value} {pl : Sem Bool} {Q : Value × List Value → Shared → Prop} (ht : typeOf (.type T) = pure (.type "type")) (hs : Manifest.isStub T = false)
    (e : findCls [] (.type T) (.type "type") name = some (.val v)) (hh : handedIn v = true) (h : Q (v, []) { s with toks := s.toks + 1 }) : wpAny (model prog w) A (getMethod (.type T) name pl) Q E s := by
  have X : Frag.In [] s.heap := fun _ _ q => by cases q
  have hstub : opaqueClassAbove (.type T) = pure none := by unfold opaqueClassAbove; dsimp only; rw [hs]; rfl
  have L0 : Looks (model prog w) s.heap (typeOf (.type T)) (.type "type") := Looks.of_pure ht
  have hg : findIn [] (.type "type") "__getattribute__" = some (some (.builtin "type.__getattribute__")) := type_tga
  unfold getMethod specialOf
  refine wpAny_bind (wpAny_bind (L0.here ((looks_findIn X hg).here ?_)))
  dsimp only
  rw [if_pos canon_tga]
  refine wpAny_bind (wpAny_mono (Q := fun v => Q (v, [])) (E := E) ?_ (fun _ _ z => wpAny_pure z) fun _ _ z => z)
  have LO : Looks (model prog w) s.heap (opaqueClassAbove (.type T)) none := Looks.of_pure hstub
  refine cls_open X LO L0 hg (looks_hook X (r := none) (by rfl)) (by show subIn _ _ _ = _; rfl) e
    (wpAny_pure (by show wpAny _ _ (handedOut v) _ _ _; rw [handedOut_of hh]; exact wpAny_pure h))

theorem flt_args {s : Shared} {E : Value → Shared → Prop} {vw : Value} {Q : Value → Shared → Prop} (F : FltCls K C P fi) (X₀ : K.In h₀) (I : Mid h₀ C e L m ns s.heap)
    (h : ∀ h' tk, Mid h₀ C e L m ns h' → Q .none { s with heap := h', toks := tk }) : wpAny (model prog w) A (call (.builtin "Exception.__init__") [.ref e, vw]) Q E s := by
  have X := X₀.keeps I.keep
  have B := PySem.F.excBase_Exception
  obtain ⟨oe, vs, a0, he, hc, hd, h0, h1, hdict⟩ := I.obj
  have ty : Looks (model prog w) s.heap (typeOf (.ref e)) (.ref C) := hc ▸ (Looks.ld (part := none) he).andThen .now
  have sub : Looks (model prog w) s.heap (isInstance (.ref e) (.type "Exception")) true := ty.andThen (F.sub X _)
  have oC := F.obj
  obtain ⟨oc, od', cd, sl, ho, e1, e2, e3, e4⟩ := oC
  have hC := X _ _ ho
  have hshort := B.noStar
  have chk : ∀ (A' : Around) (Q' : Unit → Shared → Prop) (E' : Value → Shared → Prop), Q' () s → wpAny (model prog w) A' (checkBuiltinCall "Exception.__init__" ⟨[.ref e, vw], []⟩) Q' E' s := by
    intro A' Q' E' q
    obtain ⟨sh, sg, sd, stk, so⟩ := s
    dsimp only at *
    simp only [checkBuiltinCall, B.initKind, B.initSplit, B.initRow]
    repeat (first | (with_reducible refine wpAny_loadPart_at he ?_; rw [hc]) | with_reducible refine wpAny_loadPart_at hC ?_ | with_reducible refine Looks.at sub ?_ | wp_step)
    first
      | exact q
      | (refine wpAny_onRaise ?_
         rw [show ∀ (a b : String) (n : Nat), Bind.check ⟨.positional, "*", "Exception", .self, [⟨"args", .varPos, false⟩]⟩ a b n (List.map (fun x => x.fst) ({ pos := Value.ref e :: [vw] } : Args).kw) = pure () from
           fun a b n => check_star_args _ _ _ _ _ _]
         exact wpAny_pure q)
  refine wpAny_call (codeAny_call_builtin B.init.plain B.initEntry (chk _ _ _ ?_))
  unfold Builtin.«BaseException.__init__»
  show wpAny _ _ (do
    Builtin.BaseException.bexcPut (.ref e) 0 (← newTuple [vw])
    ret .none) _ _ _
  refine wpAny_bind (wpAny_newTuple (wpAny_bind ?_) (by rw [sizeLine_eq, List.length_cons, List.length_nil]; decide))
  unfold Builtin.BaseException.bexcPut
  have he₁ := Heap.get?_push_of_some { cls := .type "tuple", data := .seq [vw].toArray } he
  refine wpAny_bind (wpAny_field he₁ hd h0 (wpAny_bind (wpAny_setField he₁ hd (Array.getElem?_eq_some_iff.mp h0).1 ?_)))
  have fin : Mid h₀ C e L m ns ((s.heap.push { cls := .type "tuple", data := .seq [vw].toArray }).update e (Obj.mapFields (·.setIfInBounds 0 (.ref s.heap.objs.size)))) := by
    have hz := (Array.getElem?_eq_some_iff.mp h0).1
    have hgo : ∀ b o, b ≠ e → s.heap.get? b = some o → ((s.heap.push { cls := .type "tuple", data := .seq [vw].toArray }).update e (Obj.mapFields (·.setIfInBounds 0 (.ref s.heap.objs.size)))).get? b = some o :=
      fun b o n q => (Heap.get?_update_other _ _ (Ne.symm n)).trans (Heap.get?_push_of_some _ q)
    refine ⟨fun b o eb => hgo b o (fun z => by rw [z, I.new] at eb; cases eb) (I.keep b o eb), I.new, I.newL, I.neL, ?_, ⟨_, _, .ref s.heap.objs.size, Heap.get?_update_self _ he₁ (Obj.isFreed_of_fields (Obj.data_mapFields hd _)), ?_, Obj.data_mapFields hd _, by simp [hz], by simpa using h1, ?_⟩⟩
    · obtain ⟨o, es, ep, x, y⟩ := I.nsL
      exact ⟨o, es, ep, hgo L o I.neL.symm x, y⟩
    · obtain ⟨_, _, _, _⟩ := oe
      cases hd; exact hc
    · rcases hdict with ⟨q, q2⟩ | ⟨dx, mA, q, n1, n2, n3, N, wi⟩
      · exact .inl ⟨by obtain ⟨_, _, _, _⟩ := oe; cases hd; exact q, q2⟩
      · refine .inr ⟨dx, mA, by obtain ⟨_, _, _, _⟩ := oe; cases hd; exact q, n1, n2, n3, ?_, wi⟩
        obtain ⟨o, es, ep, x, y⟩ := N
        exact ⟨o, es, ep, hgo dx o n2 x, y⟩
  cases a0 <;> first | exact wpAny_pure (wpAny_pure (h _ _ fin)) | exact wpAny_letGo (wpAny_pure (h _ _ fin))
end
end Mine

open PySem PySem.W PySem.Calls PyProof.Rows Builtin Builtin.ObjectAttr
set_option Elab.async false
set_option maxRecDepth 100000
set_option maxHeartbeats 4000000
namespace Mine
def iniBody (p1 p2 p3 p4 p5 p6 p7 p8 p9 p10 p11 p12 p13 p14 : Pos) : List Stmt :=
  [.Expr (.Call (.Attribute (.Name "Exception" p1) "__init__" p2) [.Name "self" p3, .Name "what" p4] [] p5) p6,
   .Assign [.Attribute (.Name "self" p7) "what" p8] (.Name "what" p9) p10, .Assign [.Attribute (.Name "self" p11) "at" p12] (.Name "at" p13) p14]

/-- the base's __init__, told by the heap's records -/
structure IniFn (W : Wk) (fi : Addr) (fd : FuncData) : Prop where
  fn : FnAt W fi fd
  body : ∃ p1 p2 p3 p4 p5 p6 p7 p8 p9 p10 p11 p12 p13 p14, (p2.endLine == p5.line) = true ∧ fd.body = .stmts (iniBody p1 p2 p3 p4 p5 p6 p7 p8 p9 p10 p11 p12 p13 p14)
  glob : fd.globals = mainGlobals
  blt : fd.builtins = builtinsNs
  names : fd.scope.names = [(Str.ofString "self", .local), (Str.ofString "what", .local), (Str.ofString "at", .local), (Str.ofString "Exception", .globalImplicit)]
  kind : fd.scope.kind = .function
  co : fd.scope.isCoroutine = false
  gen : fd.scope.isGenerator = false
  bind : ∀ (s : Shared) (a b c : Value), W.base.StaysIn s.heap → BindsTo s fd ⟨[a, b, c], []⟩ [(Str.ofString "self", a), (Str.ofString "what", b), (Str.ofString "at", c)]
  mg : W.mg (Str.ofString "Exception") = none
  mb : W.mb (Str.ofString "Exception") = some (.type "Exception")

section
variable {W : Wk} {A : Around} {C P fi e : Addr} {h₀ : Heap} {fd : FuncData}
theorem flt_init {s : Shared} {R : Result → Shared → Prop} {t : Addr} {vw va : Value} (F : FltCls W.K C P fi) (I : IniFn W fi fd) (hb : W.base.StaysIn h₀) (hk : ∀ b o, h₀.get? b = some o → s.heap.get? b = some o)
    (he : s.heap.get? e = some (newFlt C t)) (hne : h₀.get? e = none) (rm : A.depth < recursionLimit)
    (hR : ∀ h' tk L m ns, Mid h₀ C e L m ns h' → R (.ok (.ret .none)) { s with heap := h', toks := tk }) :
    codeAny (model W.prog W.w) A (.call (.ref fi) ⟨[.ref e, vw, va], []⟩) R s := by
  obtain ⟨o, ho, hd⟩ := I.fn.at_
  obtain ⟨p1, p2, p3, p4, p5, p6, p7, p8, p9, p10, p11, p12, p13, p14, hline, hbody⟩ := I.body
  have hbs : W.base.StaysIn s.heap := fun a o q => hk _ _ (hb _ _ q)
  have X₀ : W.K.In h₀ := fun a o q => hb _ _ (W.hK a o q)
  have hnm := I.names
  refine codeAny_call_def rm (hbs _ _ ho) hd (W.hT.nolimit.keeps hbs) (I.fn.code.keeps hbs) hbody (I.bind s _ _ _ hbs) ?_ ?_ (fun h₁ hns hkeep => ?_) I.co I.gen I.kind
  · intro x hx; rw [hnm] at hx; simp only [List.mem_cons, List.not_mem_nil, or_false] at hx
    rcases hx with rfl | rfl | rfl | rfl <;> decide
  · intro x hx; rw [hnm]; simp only [List.mem_cons, List.not_mem_nil, or_false] at hx
    rcases hx with rfl | rfl | rfl <;> rfl
  generalize hen : callEnv fd s.heap.objs.size fi = env
  generalize hmm : (fun x => List.lookup x (List.reverse [(Str.ofString "self", Value.ref e), (Str.ofString "what", vw), (Str.ofString "at", va)])) = m at hns
  have k1 : env.kindOf (Str.ofString "self") = some .local := by rw [← hen]; show fd.scope.names.lookup _ = _; rw [hnm]; rfl
  have k2 : env.kindOf (Str.ofString "what") = some .local := by rw [← hen]; show fd.scope.names.lookup _ = _; rw [hnm]; rfl
  have k3 : env.kindOf (Str.ofString "at") = some .local := by rw [← hen]; show fd.scope.names.lookup _ = _; rw [hnm]; rfl
  have k4 : env.kindOf (Str.ofString "Exception") = some .globalImplicit := by rw [← hen]; show fd.scope.names.lookup _ = _; rw [hnm]; rfl
  have kf : env.scope.kind = .function := by rw [← hen]; exact I.kind
  have kl : env.locals = s.heap.objs.size := by rw [← hen]; rfl
  have kg : env.globals = mainGlobals := by rw [← hen]; exact I.glob
  have kb : env.builtins = builtinsNs := by rw [← hen]; exact I.blt
  have ki : interactive env = false := by unfold interactive; rw [kf]; rfl
  have m1 : m (Str.ofString "self") = some (.ref e) := by rw [← hmm]; rfl
  have m2 : m (Str.ofString "what") = some vw := by rw [← hmm]; rfl
  have m3 : m (Str.ofString "at") = some va := by rw [← hmm]; rfl
  have hLn : h₀.get? s.heap.objs.size = none := by
    cases q : h₀.get? s.heap.objs.size with
    | none => rfl
    | some o => exact absurd (Heap.lt_size (hk _ _ q)) (Nat.lt_irrefl _)
  have M0 : Mid h₀ C e s.heap.objs.size m [] h₁ := ⟨fun b o q => hkeep _ _ (hk _ _ q), hne, hLn, Nat.ne_of_lt (Heap.lt_size he), hns, ⟨_, _, _, hkeep _ _ he, rfl, rfl, rfl, rfl, .inl ⟨rfl, rfl⟩⟩⟩
  have nm : ∀ {A' : Around} {E' : Value → Shared → Prop} {s' : Shared} {ns : List Str} {x : Str} {p : Pos} {v : Value} {Q : Value → Shared → Prop}, Mid h₀ C e s.heap.objs.size m ns s'.heap → env.kindOf x = some .local → m x = some v → (x == ("__debug__" : Str)) = false → Q v s' →
      wpAny (model W.prog W.w) A' (eval (.Name x p) env) Q E' s' := fun I' q1 q2 q3 q => wpAny_Name (wpAny_loadName_local kf q1 (kl ▸ I'.nsL) q2 q) q3
  unfold iniBody
  have hform : methodCallForm ([Expr.Name (Str.ofString "self") p3, Expr.Name (Str.ofString "what") p4].length + ([] : List Keyword).length) (backTo p5 (starEach [Expr.Name (Str.ofString "self") p3, .Name (Str.ofString "what") p4] env)) (backToKw p5 (keywordEach [] env)) = true := by rfl
  have hpos : methodCallPos true (.Name (Str.ofString "Exception") p1) env p2 p5 = pure p5 := by unfold methodCallPos; simp [hline]
  refine wpAny_execs_cons (wpAny_Expr ?_ ki ?_)
  · rw [arm_eval_Call]
    show wpAny _ _ (eval (.Name (Str.ofString "Exception") p1) env >>= _) _ _ _
    refine wpAny_bind (Name_function_global kf k4 (loadGlobal_builtin (kg ▸ W.hT.g.keeps fun _ _ q => M0.keep _ _ (hb _ _ q)) I.mg (kb ▸ W.hT.b.keeps fun _ _ q => M0.keep _ _ (hb _ _ q)) I.mb ?_))
    refine wpAny_bind (wpAny_standAt ?_)
    unfold methodCall
    rw [hform]
    refine wpAny_bind (wpAny_holding (getm_type exc_type exc_stub ini_find ini_hand ?_))
    refine wpAny_bind (wpAny_of_eq hpos ?_)
    show wpAny _ _ (callWith p5 (.builtin "Exception.__init__") [] (backTo p5 (starEach [Expr.Name (Str.ofString "self") p3, .Name (Str.ofString "what") p4] env)) []) _ _ _
    refine callWith_method1 (id := "Exception.__init__") (first := []) ?_
    refine Calls.spliced_cons (nm M0 k1 m1 (by decide) ?_)
    refine Calls.spliced_cons (nm M0 k2 m2 (by decide) (Calls.spliced_nil ?_))
    refine flt_args F X₀ M0 fun h₂ tk M1 => ?_
    refine wpAny_execs_cons (plainObj_wpAny_Assign_Attribute (nm M1 k2 m2 (by decide) (nm M1 k1 m1 (by decide) ?_)) ?_)
    · refine flt_set F X₀ M1 F.what (by decide) fun h₃ tk₃ M2 => ?_
      refine wpAny_execs_cons (plainObj_wpAny_Assign_Attribute (nm M2 k3 m3 (by decide) (nm M2 k1 m1 (by decide) ?_)) ?_)
      · refine flt_set F X₀ M2 F.at_ (by decide) fun h₄ tk₄ M3 => ?_
        exact wpAny_execs_nil (hR h₄ tk₄ _ _ _ M3)
      · rfl
    · rfl
  · rfl

theorem flt_call {s : Shared} {Q : Value → Shared → Prop} {E : Value → Shared → Prop} {vw va : Value} (F : FltCls W.K C P fi) (I : IniFn W fi fd) (hb : W.base.StaysIn s.heap) (rm : A.depth + 1 < recursionLimit)
    (hQ : ∀ h' tk e, (∀ b o, s.heap.get? b = some o → h'.get? b = some o) → s.heap.get? e = none →
      (∃ oe vs a0, h'.get? e = some oe ∧ oe.cls = .ref C ∧ oe.data = .fields vs ∧ vs[0]? = some a0 ∧ vs[1]? = some .none) → Q (.ref e) { s with heap := h', toks := tk }) :
    wpAny (model W.prog W.w) A (call (.ref C) [vw, va]) Q E s := by
  obtain ⟨sh, sg, sd, stk, so⟩ := s
  have X₀ : W.K.In sh := fun a o q => hb _ _ (W.hK a o q)
  have hn : ∀ a, sh.objs.size ≤ a → sh.get? a = none := fun a q => by
    cases z : sh.get? a with
    | none => rfl
    | some o => exact absurd (Heap.lt_size z) (Nat.not_lt.mpr q)
  refine wpAny_call (flt_make F X₀ (by rw [sizeLine_eq, List.length_cons, List.length_cons, List.length_nil]; decide) ?_)
  refine flt_init (h₀ := sh) (t := sh.objs.size) F I hb (fun b o q => Heap.get?_push_of_some _ (Heap.get?_push_of_some _ q)) (by heap_get) (hn _ (Nat.le_succ _)) ?_ fun h' tk L m ns M => ⟨rfl, ?_⟩
  · first | exact rm | exact Nat.lt_of_succ_lt rm
  · obtain ⟨oe, vs, a0, q1, q2, q3, q4, q5, _⟩ := M.obj
    exact hQ h' tk _ M.keep M.new ⟨oe, vs, a0, q1, q2, q3, q4, q5⟩
end
end Mine

open PySem PySem.W PySem.Calls PyProof.Rows
set_option Elab.async false
set_option maxRecDepth 100000
set_option maxHeartbeats 4000000
namespace Mine
theorem raise_tail {prog : Program} {w : World} {K : Frag} {C P fi e : Addr} {A : Around} {s : Shared} {env : Env} {Q : Flow → Shared → Prop} {E : Value → Shared → Prop} (F : FltCls K C P fi) (X : K.In s.heap) (hh : A.handled = none)
    (he : ∃ oe vs a0, s.heap.get? e = some oe ∧ oe.cls = .ref C ∧ oe.data = .fields vs ∧ vs[0]? = some a0 ∧ vs[1]? = some .none) (hE : E (.ref e) s) :
    wpAny (model prog w) A (raiseStmt env (some (pure (.ref e))) none) Q E s := by
  obtain ⟨oe, vs, a0, h1, h2, h3, h4, h5⟩ := he
  obtain ⟨oec, oed, oeda, oesl⟩ := oe
  dsimp only at h2 h3
  subst h2 h3
  have sB : Looks (model prog w) s.heap (isSubtype (.ref C) (.type "BaseException")) true := F.sub X _
  have oC := F.obj
  obtain ⟨oc, od', cd, sl, ho, e1, e2, e3, e4⟩ := oC
  have hC := X _ _ ho
  obtain rfl : oc = .type "type" := by
    have := F.met
    have this : (K.lookup C).map (·.cls) = some (.type "type") := this
    rw [ho] at this
    exact Option.some.inj this
  obtain ⟨sh, sg, sd, stk, so⟩ := s
  dsimp only at *
  unfold raiseStmt
  refine wpAny_bind (wpAny_pure ?_)
  repeat (first | with_reducible refine wpAny_loadPart_at h1 ?_ | with_reducible refine wpAny_loadPart_at hC ?_ | with_reducible refine Looks.at sB ?_ | wp_step)
  rw [h5]
  refine wpAny_pure ?_
  rw [if_neg (by decide)]
  exact wpAny_pure (wpAny_raiseNew_none hh hE)

section
variable {W : Wk} {k : Nat} {F : Fm} {ρ : LEnv} {σ : Store} {X : Store → Prop} {Qn : LEnv → Store → Prop} {Qr : V → Store → Prop} {P fi : Addr} {fd : FuncData}
/-- what law 1's heap tells of its faults -/
structure FltOK (W : Wk) (n : Addr) : Prop where
  lf : W.lf = n
  ok : ∃ P fi fd, FltCls W.K W.lf P fi ∧ IniFn W fi fd
  keep : keepIn W.K (.ref W.lf) = true

theorem Wd.new_flt {W : Wk} {l : List Env} {σ : Store} {β : List Addr} {h h' : Heap} (wd : Wd W l σ β h) {e : Addr} (hn : h.get? e = none) : W.base.get? e = none := by
  cases q : W.base.get? e with
  | none => rfl
  | some o => rw [wd.base _ _ q] at hn; cases hn

theorem S1_raise {x : String} {np cpos pos : Pos} {e : Expr} {r : List Expr} {n : Addr} (fo : FltOK W n) (g : Glb W F x (.ref n)) (h : SL W (k + 2) F ρ σ cpos (e :: r) (fun ds σ₁ => ds.length = 2 ∧ X σ₁) X)
    (he : starEach (e :: r) F.env = (false, eval e F.env) :: starEach r F.env := by rfl) (hp : (backTo cpos (starEach r F.env)).any (·.1) = false := by rfl) :
    S1 W (k + 2) F ρ σ (.Raise (some (.Call (.Name (Str.ofString x) np) (e :: r) [] cpos)) none pos) Qn Qr X := by
  intro A β s QC EC ao st h1 h2 h3
  obtain ⟨P, fi, fd, fc, ini⟩ := fo.ok
  obtain rfl := fo.lf
  rw [arm_exec_Raise]
  refine wpC_at ?_
  show wpC _ A (raiseStmt F.env (some (do let v ← eval (.Call (.Name (Str.ofString x) np) (e :: r) [] cpos) F.env; standAt pos; pure v)) none) QC EC s
  have key : wpC (model W.prog W.w) A (eval (.Call (.Name (Str.ofString x) np) (e :: r) [] cpos) F.env) (fun v s' => wpAny (model W.prog W.w) A (raiseStmt F.env (some (pure v)) none) QC EC s') EC s := by
    refine C_Call_Name (wpC_of (g.ev st ?_))
    refine C_callWith (by rw [he]; show (false || (backTo cpos (starEach r F.env)).any (·.1)) = false; rw [hp]; rfl) ?_
    have h' : wpC (model W.prog W.w) A (spliced (backTo cpos (starEach (e :: r) F.env))) (fun vs s₁ => (∃ k, (k = Keeper.frame ∨ k = Keeper.machine ∨ k = Keeper.boundFrame) ∧ Looks (model W.prog W.w) s₁.heap (keeperOf (.ref W.lf)) k) ∧ ([] : List (Str × Value)) = [] ∧
        wpC (model W.prog W.w) A (call (.ref W.lf) ([] ++ vs)) (fun v s' => wpAny (model W.prog W.w) A (raiseStmt F.env (some (pure v)) none) QC EC s') EC s₁) EC s := by
      refine h A β s _ EC ao st (fun vs d σ' β' h' tk st' g' r' c' => ⟨keeper_of (cv := .ref W.lf) fo.keep st'.wd.base, rfl, ?_⟩) h3
      obtain ⟨vw, va, rfl⟩ : ∃ a b, vs = [a, b] := by
        have := r'.length
        rw [c'.1] at this
        match vs, this with
        | [a, b], _ => exact ⟨a, b, rfl⟩
      refine wpC_of (flt_call (s := { s with heap := h', toks := tk }) fc ini st'.wd.base (by have := ao.dp; show _ < 1000; omega) fun h₂ tk₂ ex k₂ n₂ o₂ => ?_)
      have wd₂ : Wd W F.l σ' β' h₂ := st'.wd.ext k₂
      have go₂ : Go F.l [] β' h' β' h₂ := .ext k₂
      have st₂ := st'.lift go₂ wd₂
      refine raise_tail fc (W.hK.keeps wd₂.base) ao.hd o₂ (h3 ex σ' β' h₂ tk₂ ⟨st₂.sub (fun _ _ e => by cases e), g'.trans (go₂.more fun _ m => nomatch m), .inl ?_, ?_, ?_⟩ c'.2)
      · obtain ⟨oe, vs, a0, q1, q2, q3, q4, q5⟩ := o₂
        exact ⟨oe, vs, a0, q1, q2, q3, q4, q5⟩
      · exact g'.live _ n₂
      · exact st'.wd.new_flt (h' := h') n₂
    rw [he] at h' ⊢
    exact C_evalArgs h'
  unfold raiseStmt at key ⊢
  refine wpC_bind (wpC_bind (wpC_mono key (fun v s' q => wpC_at (wpC_pure ?_)) fun _ _ q => q))
  exact wpC_of q
end
end Mine

open PySem PySem.W PySem.Calls PyProof.Rows
set_option Elab.async false
set_option maxRecDepth 100000
set_option maxHeartbeats 4000000
namespace Mine
theorem exc_matches {prog : Program} {w : World} {K : Frag} {C P fi e : Addr} {A : Around} {s : Shared} {Q : Bool → Shared → Prop} {E : Value → Shared → Prop} (F : FltCls K C P fi) (X : K.In s.heap)
    (he : ∃ oe, s.heap.get? e = some oe ∧ oe.cls = .ref C) (hQ : Q true s) : wpAny (model prog w) A (excMatches (.ref e) (.ref C)) Q E s := by
  obtain ⟨oe, h1, h2⟩ := he
  obtain ⟨oec, oed, oeda, oesl⟩ := oe
  dsimp only at h2
  subst h2
  have sB : Looks (model prog w) s.heap (isSubtype (.ref C) (.type "BaseException")) true := F.sub X _
  have sC : Looks (model prog w) s.heap (isSubtype (.ref C) (.ref C)) true := by
    have := F.sub (M := model prog w) X (.ref C)
    rwa [show [Value.ref C, .ref P, .type "Exception", .type "BaseException", .type "object"].contains (.ref C) = true by simp] at this
  have f := tc_notTuple
  have oC := F.obj
  obtain ⟨oc, od', cd, sl, ho, e1, e2, e3, e4⟩ := oC
  have hC := X _ _ ho
  obtain rfl : oc = .type "type" := by
    have := F.met
    have this : (K.lookup C).map (·.cls) = some (.type "type") := this
    rw [ho] at this
    exact Option.some.inj this
  obtain ⟨sh, sg, sd, stk, so⟩ := s
  dsimp only at *
  unfold excMatches
  repeat (first | with_reducible refine wpAny_loadPart_at h1 ?_ | with_reducible refine wpAny_loadPart_at hC ?_ | with_reducible refine Looks.at sB ?_ | with_reducible refine Looks.at sC ?_ | wp_step)
  exact hQ

section
variable {W : Wk} {k : Nat} {F : Fm} {ρ : LEnv} {σ : Store} {X X' : Store → Prop} {Qn : LEnv → Store → Prop} {Qr : V → Store → Prop}
/-- a try whose one clause takes the faults and gives back None -/
theorem S1_tryN {body : List Stmt} {x : String} {np rpos hpos pos cpos : Pos} {n : Nat} (fn : FnEnv F) {lf : Addr} (fo : FltOK W lf) (g : Glb W F x (.ref lf)) (h : SX W k F ρ σ body Qn Qr X') (hx : ∀ σ', X' σ' → Qr .none σ') :
    S1 W k F ρ σ (.Try body [.ExceptHandler (some (.Name (Str.ofString x) np)) none [.Return (some (.Constant .none n cpos)) rpos] hpos] [] [] pos) Qn Qr X := by
  intro A β s QC EC ao st h1 h2 h3
  obtain ⟨P, fi, fd, fc, ini⟩ := fo.ok
  obtain rfl := fo.lf
  obtain ⟨outer, hl⟩ := fn.top
  obtain ⟨_, L, _, _, _, hL, _⟩ := st.wd.fr F.env (by rw [hl]; exact .head _)
  refine C_Try (h A β s _ _ ao st (fun ρ' σ' β' h' tk st' g' q' => ?_) (fun v d σ' β' h' tk st' g' r' q' => ?_) fun e σ' β' h' tk fl xq => ?_)
  · exact wpC_of (wpAny_execs_nil (h1 ρ' σ' β' h' tk st' g' q'))
  · exact h2 v d σ' β' h' tk st' g' r' q'
  · refine fl.noted (s := { s with heap := h', toks := tk }) ao.fr hl hL fun h₁ T x₁ => ?_
    refine Fx.flown (s := { s with heap := h₁, toks := tk }) x₁ none fun h₂ x₂ => ?_
    refine wpC_of (wpAny_handleBy_cons (codeAny_handlers_test (g.ev (s := { s with heap := h₂, toks := tk }) x₂.st ?_)) (by intro q; cases q))
    obtain ⟨oe, vs, a0, oT, ts, q1, q2, q3, q4, q5, q6, q7, q8, q9⟩ := x₂.fl
    refine exc_matches fc (W.hK.keeps x₂.st.wd.base) ⟨oe, q1, q2⟩ ?_
    refine codeAny_handlers_suite (Fx.flown (s := { s with heap := h₂, toks := tk }) x₂ none fun h₃ x₃ => ?_)
    refine wpAny_execs_cons (wpAny_Return_some ?_)
    refine wpAny_pure (h2 .none .none σ' β' h₃ tk x₃.st x₃.go (by simp only [VR]) (hx _ xq))
end
end Mine

open PySem PySem.W PySem.Calls PyProof.Rows
set_option Elab.async false
set_option maxRecDepth 100000
namespace Mine

/-- a number in base 128 -/
def cntO (n : Nat) : List UInt8 := if h : n > 127 then (128 + n % 128).toUInt8 :: cntO (n / 128) else [n.toUInt8]
termination_by n
decreasing_by omega

theorem cntO_len : ∀ n, (cntO n).length ≤ n + 1 := by
  intro n
  induction n using Nat.strongRecOn with
  | ind n ih =>
    unfold cntO
    split
    · have := ih (n / 128) (by omega)
      simp only [List.length_cons]; omega
    · simp
/-- the octets of a text of small signs -/
def ascO (x : Str) : List UInt8 := x.cps.toList.map Nat.toUInt8
def foldN (i : Int) : Nat := if 0 ≤ i then (2 * i).toNat else (-2 * i - 1).toNat
mutual
def valO : V → List UInt8
  | .int i => 105 :: cntO (foldN i)
  | .str x => 116 :: (cntO x.length ++ ascO x)
  | .bytes b => 111 :: (cntO b.length ++ b)
  | .tup ds => 114 :: (cntO ds.length ++ valOs ds)
  | _ => []
def valOs : List V → List UInt8
  | [] => []
  | d :: ds => valO d ++ valOs ds
end
theorem valOs_eq : ∀ ds : List V, valOs ds = (ds.map valO).flatten
  | [] => by simp [valOs]
  | d :: ds => by simp [valOs, valOs_eq ds]
theorem valO_le {ds : List V} {d : V} (h : d ∈ ds) : (valO d).length ≤ (valOs ds).length := by
  induction ds with
  | nil => cases h
  | cons x r ih =>
    simp only [valOs, List.length_append]
    rcases List.mem_cons.mp h with rfl | h
    · omega
    · have := ih h; omega
/-- a value that is told: texts of small signs, nothing too long, nested at most n deep -/
def okV : Nat → V → Bool
  | _, .int i => (cntO (foldN i)).length ≤ 1000
  | _, .str x => x.cps.all (· < 128) && x.length ≤ 1000
  | _, .bytes b => b.length ≤ 1000
  | n + 1, .tup ds => ds.length ≤ 100 && ds.all (okV n)
  | _, _ => false
def adlO (b : List UInt8) : Nat × Nat := b.foldl (fun p c => ((p.1 + c.toNat) % 65521, (p.2 + (p.1 + c.toNat) % 65521) % 65521)) (1, 0)
def adlN (b : List UInt8) : Nat := (adlO b).2 * 65536 + (adlO b).1
def sumO (n : Nat) : List UInt8 := [(n / 2 ^ 24 % 256).toUInt8, (n / 2 ^ 16 % 256).toUInt8, (n / 2 ^ 8 % 256).toUInt8, (n % 256).toUInt8]
def frmO (v : V) : List UInt8 := cntO (valO v).length ++ sumO (adlN (valO v)) ++ valO v

theorem join_codes : ∀ cs : List Nat, Txt.join (Str.ofString "") (cs.map fun c => (⟨#[c]⟩ : Str)) = ⟨cs.toArray⟩ := by
  intro cs
  unfold Txt.join
  rw [StrLaws.glued_eq_join]
  induction cs with
  | nil => rfl
  | cons a r ih =>
    cases r with
    | nil => rfl
    | cons b r =>
      rw [List.map_cons] at ih
      rw [List.map_cons, List.map_cons, Str.join, ih]
      · show (⟨(#[a] ++ (Str.ofString "").cps) ++ (b :: r).toArray⟩ : Str) = _
        have : (Str.ofString "").cps = #[] := rfl
        rw [this]; simp
      · intro h; cases h
theorem sum_codes : ∀ cs : List Nat, ((cs.map fun c => (⟨#[c]⟩ : Str)).map (·.length)).sum = cs.length
  | [] => rfl
  | a :: r => by
    rw [List.map_cons, List.map_cons, List.sum_cons, sum_codes r, List.length_cons]
    show 1 + _ = _
    omega
/-- a number is read -/
def rdCgo (data : List UInt8) (spot number weight : Nat) : Nat × Nat × Nat :=
  if h : spot < data.length ∧ 127 < (data.getD spot 0).toNat then rdCgo data (spot + 1) (number + ((data.getD spot 0).toNat - 128) * weight) (weight * 128) else (spot, number, weight)
termination_by data.length - spot
decreasing_by omega
def rdC (data : List UInt8) (at_ : Nat) : Option (Nat × Nat) :=
  let r := rdCgo data at_ 0 1
  if data.length ≤ r.1 then none else if (data.getD r.1 0).toNat = 0 ∧ at_ < r.1 then none else some (r.2.1 + (data.getD r.1 0).toNat * r.2.2, r.1 + 1)
def rdTgo (data : List UInt8) : Nat → Nat → Option (List Nat × Nat)
  | spot, 0 => some ([], spot)
  | spot, n + 1 => match rdC data spot with
    | none => none
    | some (code, behind) => if 1114111 < code then none else match rdTgo data behind n with
      | none => none
      | some (r, e) => some (code :: r, e)
def plainN (c : Nat) : Int := if c % 2 = 0 then (c / 2 : Nat) else -(c + 1 : Int) / 2
def rdMany (f : Nat → Option (V × Nat)) : Nat → Nat → Option (List V × Nat)
  | spot, 0 => some ([], spot)
  | spot, n + 1 => match f spot with
    | none => none
    | some (v, e) => match rdMany f e n with
      | none => none
      | some (r, e') => some (v :: r, e')
def rdV (data : List UInt8) : Nat → Nat → Option (V × Nat)
  | fuel, at_ =>
    if data.length ≤ at_ then none
    else
      let letter := (data.getD at_ 0).toNat
      if ¬ (letter = 105 ∨ letter = 116 ∨ letter = 111 ∨ letter = 114) then none
      else match rdC data (at_ + 1) with
        | none => none
        | some (many, spot) =>
          if letter = 105 then some (.int (plainN many), spot)
          else if letter = 116 then match rdTgo data spot (min many (data.length - spot + 1)) with
            | none => none
            | some (cs, e) => some (.str ⟨cs.toArray⟩, e)
          else if letter = 114 then match fuel with
            | 0 => none
            | fuel + 1 => match rdMany (rdV data fuel) spot (min many (data.length - spot + 1)) with
              | none => none
              | some (vs, e) => some (.tup vs, e)
          else if data.length < spot + many then none
          else some (.bytes ((data.drop spot).take many), spot + many)
def isRow : V → Bool
  | .tup (.str _ :: _) => true
  | _ => false
def rdRow (data : List UInt8) : Option V := match rdV data 20 0 with
  | none => none
  | some (v, e) => if e < data.length then none else if isRow v then some v else none
def rowAt (data : List UInt8) (at_ : Nat) : Option (V × Nat) := match rdC data at_ with
  | none => none
  | some (count, spot) =>
    if data.length < spot + 4 + count then none
    else
      let octets := (data.drop (spot + 4)).take count
      if (data.drop spot).take 4 ≠ sumO (adlN octets) then none
      else match rdRow octets with
        | none => none
        | some v => some (v, spot + 4 + count)
end Mine

open PySem PySem.W PySem.Calls PyProof.Rows
set_option Elab.async false
set_option maxRecDepth 100000
namespace Mine

theorem rdCgo_cnt : ∀ (n : Nat) (pre suf : List UInt8) (num w : Nat), let data := pre ++ cntO n ++ suf; let r := rdCgo data pre.length num w
    r.1 + 1 = pre.length + (cntO n).length ∧ r.2.1 + (data.getD r.1 0).toNat * r.2.2 = num + n * w ∧ ((data.getD r.1 0).toNat = 0 → n = 0) := by
  intro n
  induction n using Nat.strongRecOn with
  | ind n ih =>
    intro pre suf num w
    by_cases h : n > 127
    · have e : cntO n = (128 + n % 128).toUInt8 :: cntO (n / 128) := by rw [cntO]; rw [dif_pos h]
      have hc : ((128 + n % 128).toUInt8).toNat = 128 + n % 128 := by simp; omega
      have e2 : pre ++ cntO n ++ suf = (pre ++ [(128 + n % 128).toUInt8]) ++ cntO (n / 128) ++ suf := by rw [e]; simp
      have hd : (pre ++ cntO n ++ suf).getD pre.length 0 = (128 + n % 128).toUInt8 := by rw [e]; simp
      have := ih (n / 128) (by omega) (pre ++ [(128 + n % 128).toUInt8]) suf (num + n % 128 * w) (w * 128)
      simp only at this ⊢
      rw [← e2] at this
      rw [rdCgo, dif_pos ⟨by rw [e]; simp, by rw [hd, hc]; omega⟩, hd, hc]
      rw [show (pre ++ [(128 + n % 128).toUInt8]).length = pre.length + 1 by simp] at this
      rw [show 128 + n % 128 - 128 = n % 128 by omega]
      obtain ⟨a, b, c⟩ := this
      refine ⟨by rw [a, e]; simp; omega, ?_, fun z => ?_⟩
      · rw [b]
        have : n * w = (n % 128 + 128 * (n / 128)) * w := by rw [Nat.mod_add_div]
        rw [this, Nat.add_mul, Nat.add_assoc]
        congr 2
        rw [Nat.mul_comm w 128, ← Nat.mul_assoc, Nat.mul_comm (n / 128) 128]
      · have := c z; omega
    · have e : cntO n = [n.toUInt8] := by rw [cntO]; rw [dif_neg h]
      have hc : (n.toUInt8).toNat = n := by simp; omega
      have hd : (pre ++ cntO n ++ suf).getD pre.length 0 = n.toUInt8 := by rw [e]; simp
      simp only
      rw [rdCgo, dif_neg (fun q => by rw [hd, hc] at q; omega)]
      simp only [hd, hc]
      exact ⟨by rw [e]; simp, trivial, fun z => z⟩
theorem rdC_cnt {n : Nat} {pre suf data : List UInt8} (hd : data = pre ++ cntO n ++ suf) {a : Nat} (ha : a = pre.length) : rdC data a = some (n, a + (cntO n).length) := by
  subst hd ha
  have h := rdCgo_cnt n pre suf 0 1
  simp only at h
  unfold rdC
  simp only
  obtain ⟨h1, h2, h3⟩ := h
  rw [if_neg (by simp only [List.length_append]; omega)]
  rw [if_neg]
  · rw [h1, h2]; simp
  · rintro ⟨z, q⟩
    have := h3 z
    subst this
    have hl : (cntO 0).length = 1 := by rw [cntO]; rfl
    omega

theorem cntO_small {n : Nat} (h : n ≤ 127) : cntO n = [n.toUInt8] := by rw [cntO]; rw [dif_neg (by omega)]
theorem rdTgo_asc : ∀ (cs : List Nat) (pre suf : List UInt8), (∀ c ∈ cs, c < 128) → rdTgo (pre ++ cs.map Nat.toUInt8 ++ suf) pre.length cs.length = some (cs, pre.length + cs.length)
  | [], pre, suf, _ => by simp [rdTgo]
  | c :: r, pre, suf, h => by
    have hc := h c (.head _)
    rw [List.length_cons, rdTgo]
    have e1 : pre ++ (c :: r).map Nat.toUInt8 ++ suf = pre ++ cntO c ++ (r.map Nat.toUInt8 ++ suf) := by rw [cntO_small (by omega)]; simp
    rw [rdC_cnt e1 rfl, cntO_small (by omega)]
    simp only
    rw [if_neg (by omega)]
    have e2 : pre ++ (c :: r).map Nat.toUInt8 ++ suf = (pre ++ [c.toUInt8]) ++ r.map Nat.toUInt8 ++ suf := by simp
    have := rdTgo_asc r (pre ++ [c.toUInt8]) suf (fun x m => h x (.tail _ m))
    rw [← e2] at this
    rw [show pre.length + [c.toUInt8].length = (pre ++ [c.toUInt8]).length by simp, this]
    simp; omega
theorem plain_fold (i : Int) : plainN (foldN i) = i := by
  unfold plainN foldN
  by_cases h : 0 ≤ i
  · rw [if_pos h, if_pos (by omega)]
    omega
  · rw [if_neg h, if_neg (by omega)]
    omega

theorem valO_pos {n : Nat} {d : V} (h : okV n d = true) : 1 ≤ (valO d).length := by
  cases d <;> first | (simp [valO]; done) | simp [okV] at h
theorem valOs_pos {n : Nat} : ∀ {ds : List V}, (∀ d ∈ ds, okV n d = true) → ds.length ≤ (valOs ds).length
  | [], _ => Nat.zero_le _
  | d :: ds, h => by
    have h1 := valO_pos (h d (.head _))
    have h2 := valOs_pos (fun x m => h x (.tail _ m)) (ds := ds)
    simp [valOs]; omega
theorem rdMany_val {data : List UInt8} {f : Nat} : ∀ (ds : List V) (s : Nat), (∀ (pre : List V) d suf, ds = pre ++ d :: suf → rdV data f (s + (valOs pre).length) = some (d, s + (valOs pre).length + (valO d).length)) →
    rdMany (rdV data f) s ds.length = some (ds, s + (valOs ds).length)
  | [], s, _ => by simp [rdMany, valOs]
  | d :: ds, s, h => by
    have h0 := h [] d ds rfl
    simp only [valOs, List.length_nil, Nat.add_zero] at h0
    rw [List.length_cons, rdMany, h0]
    simp only
    rw [rdMany_val ds (s + (valO d).length) fun pre d' suf e => ?_]
    · simp [valOs]; omega
    · have := h (d :: pre) d' suf (by rw [e]; rfl)
      simp only [valOs, List.length_append] at this
      rw [show s + (valO d).length + (valOs pre).length = s + ((valO d).length + (valOs pre).length) by omega]
      exact this
theorem valOs_app : ∀ (a b : List V), valOs (a ++ b) = valOs a ++ valOs b
  | [], b => by simp [valOs]
  | d :: a, b => by simp [valOs, valOs_app a b]
theorem letter_at {pre suf : List UInt8} {c : UInt8} {r data : List UInt8} (e : data = pre ++ (c :: r) ++ suf) : data.getD pre.length 0 = c ∧ pre.length < data.length := by
  subst e; simp
theorem rdV_int {f : Nat} {i : Int} {pre suf data : List UInt8} (e : data = pre ++ valO (.int i) ++ suf) : rdV data f pre.length = some (.int i, pre.length + (valO (.int i)).length) := by
  simp only [valO] at e ⊢
  obtain ⟨h1, h2⟩ := letter_at e
  rw [rdV]
  rw [if_neg (by omega), h1]
  have e2 : data = (pre ++ [105]) ++ cntO (foldN i) ++ suf := by rw [e]; simp
  rw [rdC_cnt e2 (a := pre.length + 1) (by simp)]
  simp [plain_fold]
  omega
theorem rdV_bytes {f : Nat} {b : List UInt8} {pre suf data : List UInt8} (e : data = pre ++ valO (.bytes b) ++ suf) : rdV data f pre.length = some (.bytes b, pre.length + (valO (.bytes b)).length) := by
  simp only [valO] at e ⊢
  obtain ⟨h1, h2⟩ := letter_at e
  rw [rdV]
  rw [if_neg (by omega), h1]
  have e2 : data = (pre ++ [111]) ++ cntO b.length ++ (b ++ suf) := by rw [e]; simp
  rw [rdC_cnt e2 (a := pre.length + 1) (by simp)]
  have hl : data.length = pre.length + 1 + (cntO b.length).length + b.length + suf.length := by rw [e]; simp; omega
  have hd : (data.drop (pre.length + 1 + (cntO b.length).length)).take b.length = b := by
    have e3 : data = (pre ++ [111] ++ cntO b.length) ++ (b ++ suf) := by rw [e]; simp
    rw [e3, List.drop_left' (by simp; omega)]; simp
  simp only
  rw [if_neg (by decide), if_neg (by decide), if_neg (by decide), if_neg (by decide), if_neg (by omega), hd]
  simp; omega
theorem rdV_str {f : Nat} {x : Str} {pre suf data : List UInt8} (ha : x.cps.all (· < 128) = true) (e : data = pre ++ valO (.str x) ++ suf) : rdV data f pre.length = some (.str x, pre.length + (valO (.str x)).length) := by
  simp only [valO] at e ⊢
  obtain ⟨h1, h2⟩ := letter_at e
  rw [rdV]
  rw [if_neg (by omega), h1]
  have e2 : data = (pre ++ [116]) ++ cntO x.length ++ (ascO x ++ suf) := by rw [e]; simp
  rw [rdC_cnt e2 (a := pre.length + 1) (by simp)]
  have hx : (ascO x).length = x.length := by simp [ascO, Str.length]
  have hl : data.length = pre.length + 1 + (cntO x.length).length + x.length + suf.length := by rw [e]; simp [hx]; omega
  have hN : min x.length (data.length - (pre.length + 1 + (cntO x.length).length) + 1) = x.cps.toList.length := by
    have : x.length = x.cps.toList.length := by simp [Str.length]
    omega
  have e3 : data = (pre ++ [116] ++ cntO x.length) ++ x.cps.toList.map Nat.toUInt8 ++ suf := by rw [e]; simp [ascO]
  have hcs : ∀ c ∈ x.cps.toList, c < 128 := fun c m => by
    have := Array.all_eq_true'.mp ha c (by rw [← Array.mem_toList_iff]; exact m)
    simpa using this
  have ht := rdTgo_asc x.cps.toList (pre ++ [116] ++ cntO x.length) suf hcs
  rw [← e3] at ht
  have hL : (pre ++ [116] ++ cntO x.length).length = pre.length + 1 + (cntO x.length).length := by simp; omega
  rw [hL] at ht
  simp only
  rw [if_neg (by decide), if_neg (by decide), if_pos (by decide), hN, ht]
  have : x.length = x.cps.toList.length := by simp [Str.length]
  simp [hx, Str.length]
  omega
/-- what is written is read again -/
theorem rdV_valO : ∀ (n f : Nat) (d : V) (pre suf data : List UInt8), okV n d = true → n ≤ f → data = pre ++ valO d ++ suf → rdV data f pre.length = some (d, pre.length + (valO d).length) := by
  intro n
  induction n with
  | zero =>
    intro f d pre suf data hd hf e
    cases d with
    | int i => exact rdV_int e
    | bytes b => exact rdV_bytes e
    | str x => exact rdV_str (by simp [okV] at hd; simpa using hd.1) e
    | _ => simp [okV] at hd
  | succ n ih =>
    intro f d pre suf data hd hf e
    cases d with
    | int i => exact rdV_int e
    | bytes b => exact rdV_bytes e
    | str x => exact rdV_str (by simp [okV] at hd; simpa using hd.1) e
    | tup ds =>
      have hd' : ds.length ≤ 100 ∧ ∀ d ∈ ds, okV n d = true := by simpa [okV] using hd
      obtain ⟨f', rfl⟩ : ∃ f', f = f' + 1 := ⟨f - 1, by omega⟩
      simp only [valO] at e ⊢
      obtain ⟨h1, h2⟩ := letter_at e
      rw [rdV]
      rw [if_neg (by omega), h1]
      have e2 : data = (pre ++ [114]) ++ cntO ds.length ++ (valOs ds ++ suf) := by rw [e]; simp
      rw [rdC_cnt e2 (a := pre.length + 1) (by simp)]
      have hp := valOs_pos hd'.2
      have hl : data.length = pre.length + 1 + (cntO ds.length).length + (valOs ds).length + suf.length := by rw [e]; simp; omega
      have hN : min ds.length (data.length - (pre.length + 1 + (cntO ds.length).length) + 1) = ds.length := by omega
      simp only
      rw [if_neg (by decide), if_neg (by decide), if_neg (by decide), if_pos (by decide), hN]
      rw [rdMany_val ds _ fun p1 d' s1 hds => ?_]
      · simp; omega
      · have e4 : data = (pre ++ [114] ++ cntO ds.length ++ valOs p1) ++ valO d' ++ (valOs s1 ++ suf) := by
          rw [e, hds, valOs_app]; simp [valOs]
        have := ih f' d' (pre ++ [114] ++ cntO ds.length ++ valOs p1) (valOs s1 ++ suf) data (hd'.2 d' (by rw [hds]; simp)) (by omega) e4
        have hL : (pre ++ [114] ++ cntO ds.length ++ valOs p1).length = pre.length + 1 + (cntO ds.length).length + (valOs p1).length := by simp; omega
        rw [hL] at this
        exact this
    | _ => simp [okV] at hd
theorem rdRow_valO {x : Str} {ds : List V} {n : Nat} (hn : n ≤ 20) (hd : okV n (.tup (.str x :: ds)) = true) : rdRow (valO (.tup (.str x :: ds))) = some (.tup (.str x :: ds)) := by
  have := rdV_valO n 20 (.tup (.str x :: ds)) [] [] (valO (.tup (.str x :: ds))) hd hn (by simp)
  unfold rdRow
  rw [show ([] : List UInt8).length = 0 from rfl] at this
  rw [this]
  simp [isRow]
/-- a frame is read wherever it stands -/
theorem rowAt_frm {x : Str} {ds : List V} {n : Nat} (hn : n ≤ 20) (hd : okV n (.tup (.str x :: ds)) = true) {pre suf data : List UInt8} (e : data = pre ++ frmO (.tup (.str x :: ds)) ++ suf) {a : Nat} (ha : a = pre.length) :
    rdC data a = some ((valO (.tup (.str x :: ds))).length, a + (cntO (valO (.tup (.str x :: ds))).length).length) ∧ rowAt data a = some (.tup (.str x :: ds), a + (frmO (.tup (.str x :: ds))).length) := by
  have hr := rdRow_valO hn hd
  generalize V.tup (V.str x :: ds) = v at *
  unfold frmO at e ⊢
  have e1 : data = pre ++ cntO (valO v).length ++ (sumO (adlN (valO v)) ++ valO v ++ suf) := by rw [e]; simp
  have hc := rdC_cnt e1 ha
  refine ⟨hc, ?_⟩
  unfold rowAt
  rw [hc]
  have l4 : (sumO (adlN (valO v))).length = 4 := rfl
  have hl : data.length = a + (cntO (valO v).length).length + 4 + (valO v).length + suf.length := by rw [e, ha]; simp [l4]; omega
  have d1 : (data.drop (a + (cntO (valO v).length).length + 4)).take (valO v).length = valO v := by
    have e3 : data = (pre ++ cntO (valO v).length ++ sumO (adlN (valO v))) ++ (valO v ++ suf) := by rw [e]; simp
    rw [e3, List.drop_left' (by simp [l4, ha]; omega)]; simp
  have d2 : (data.drop (a + (cntO (valO v).length).length)).take 4 = sumO (adlN (valO v)) := by
    have e3 : data = (pre ++ cntO (valO v).length) ++ (sumO (adlN (valO v)) ++ (valO v ++ suf)) := by rw [e]; simp
    rw [e3, List.drop_left' (by simp [ha])]
    rw [List.take_left' l4]
  simp only
  rw [if_neg (by omega), d1, d2, if_neg (by simp), hr]
  simp [l4]; omega

def sumsP (b : List UInt8) : Nat × Nat := b.foldl (fun p c => (p.1 + c.toNat, p.2 + (p.1 + c.toNat))) (1, 0)
theorem adlO_sums (b : List UInt8) : adlO b = ((sumsP b).1 % 65521, (sumsP b).2 % 65521) := by
  have : ∀ (b : List UInt8) (x y u v : Nat), u = x % 65521 → v = y % 65521 → b.foldl (fun p c => ((p.1 + c.toNat) % 65521, (p.2 + (p.1 + c.toNat) % 65521) % 65521)) (u, v) =
      ((b.foldl (fun p c => (p.1 + c.toNat, p.2 + (p.1 + c.toNat))) (x, y)).1 % 65521, (b.foldl (fun p c => (p.1 + c.toNat, p.2 + (p.1 + c.toNat))) (x, y)).2 % 65521) := by
    intro b
    induction b with
    | nil => intro x y u v h1 h2; simp [h1, h2]
    | cons c r ih =>
      intro x y u v h1 h2
      rw [List.foldl_cons, List.foldl_cons]
      exact ih _ _ _ _ (by rw [h1]; simp) (by rw [h1, h2]; simp)
  exact this b 1 0 1 0 rfl rfl
theorem sumO_adl (b : List UInt8) : sumO (adlN b) = octs [((sumsP b).2 % 65521 / 256 : Nat), ((sumsP b).2 % 65521 % 256 : Nat), ((sumsP b).1 % 65521 / 256 : Nat), ((sumsP b).1 % 65521 % 256 : Nat)] := by
  unfold sumO adlN
  rw [adlO_sums]
  simp only [octs, List.map_cons, List.map_nil, Int.toNat_natCast]
  have h1 : (sumsP b).1 % 65521 < 65521 := Nat.mod_lt _ (by decide)
  have h2 : (sumsP b).2 % 65521 < 65521 := Nat.mod_lt _ (by decide)
  generalize (sumsP b).1 % 65521 = u at *
  generalize (sumsP b).2 % 65521 = v at *
  have e1 : (v * 65536 + u) / 2 ^ 24 % 256 = v / 256 := by omega
  have e2 : (v * 65536 + u) / 2 ^ 16 % 256 = v % 256 := by omega
  have e3 : (v * 65536 + u) / 2 ^ 8 % 256 = u / 256 := by omega
  have e4 : (v * 65536 + u) % 256 = u % 256 := by omega
  rw [e1, e2, e3, e4]
/-- the sums of parts -/
def sumB (b : List UInt8) : Nat := (b.map UInt8.toNat).sum
def wsm : List UInt8 → Nat
  | [] => 0
  | c :: r => c.toNat * (r.length + 1) + wsm r
theorem sums_from : ∀ (b : List UInt8) (x y : Nat), b.foldl (fun p c => (p.1 + c.toNat, p.2 + (p.1 + c.toNat))) (x, y) = (x + sumB b, y + b.length * x + wsm b)
  | [], x, y => by simp [sumB, wsm]
  | c :: r, x, y => by
    rw [List.foldl_cons, sums_from r]
    simp only [sumB, List.map_cons, List.sum_cons, wsm, List.length_cons, Prod.mk.injEq]
    refine ⟨by omega, ?_⟩
    have e1 : r.length * (x + c.toNat) = r.length * x + r.length * c.toNat := Nat.mul_add _ _ _
    have e2 : (r.length + 1) * x = r.length * x + x := by rw [Nat.add_mul, Nat.one_mul]
    have e3 : c.toNat * (r.length + 1) = r.length * c.toNat + c.toNat := by rw [Nat.mul_add, Nat.mul_one, Nat.mul_comm]
    omega
theorem sumsP_eq (b : List UInt8) : sumsP b = (1 + sumB b, b.length + wsm b) := by
  have := sums_from b 1 0
  unfold sumsP
  rw [this]; simp
end Mine

open PySem PySem.W PySem.Calls PyProof.Rows
set_option Elab.async false
set_option maxRecDepth 100000
namespace Mine
theorem cut_s0 {b : List UInt8} {i : Nat} : cutB b (some ((i : Int) + 1)) none = b.drop (i + 1) := cut_n0 (i := i + 1)
theorem nat_of {x m : Int} (hm : 0 < m) : ∃ i : Nat, x % m = i ∧ (i : Int) < m := ⟨(x % m).toNat, (Int.toNat_of_nonneg (Int.emod_nonneg _ (by omega))).symm, by rw [Int.toNat_of_nonneg (Int.emod_nonneg _ (by omega))]; exact Int.emod_lt_of_pos _ hm⟩
end Mine

open PySem PySem.W PySem.Calls PyProof.Rows
set_option Elab.async false
set_option maxRecDepth 100000
namespace Mine
/-- the weighted sum, place by place -/
def wsI (b : List UInt8) (n : Nat) : List Int := (List.range n).map fun (i : Nat) => ((b.getD i 0).toNat : Int) * ((b.length : Int) - (i : Int))
theorem wsI_sum : ∀ b : List UInt8, (wsI b b.length).sum = (wsm b : Int)
  | [] => rfl
  | c :: r => by
    unfold wsI
    rw [List.length_cons, List.range_succ_eq_map, List.map_cons, List.sum_cons, List.map_map]
    have e : (List.map ((fun (i : Nat) => (((c :: r).getD i 0).toNat : Int) * (((r.length + 1 : Nat) : Int) - (i : Int))) ∘ Nat.succ) (List.range r.length)) = wsI r r.length := by
      unfold wsI
      refine List.map_congr_left fun i hi => ?_
      simp only [Function.comp, Nat.succ_eq_add_one, List.getD_cons_succ]
      congr 1
      omega
    rw [e, wsI_sum r]
    simp only [wsm, List.getD_cons_zero]
    push_cast
    rw [Int.sub_zero]
theorem sums_low (b : List UInt8) : (b.map fun c => (c.toNat : Int)).sum = (sumB b : Int) := by
  induction b with
  | nil => rfl
  | cons c r ih =>
    simp only [sumB, List.map_cons, List.sum_cons] at ih ⊢
    rw [ih]; push_cast; rfl
/-- a number's worth by its places -/
def sumTo (data : List UInt8) (a : Nat) : Nat → Nat
  | 0 => 0
  | n + 1 => sumTo data a n + (data.getD (a + n) 0).toNat % 128 * 128 ^ n
def cntI (data : List UInt8) (a n : Nat) : List Int := (List.range n).map fun (i : Nat) => ((data.getD (a + i) 0).toNat : Int) % 128 * 128 ^ i
theorem cntI_sum (data : List UInt8) (a : Nat) : ∀ n, (cntI data a n).sum = (sumTo data a n : Int)
  | 0 => rfl
  | n + 1 => by
    unfold cntI
    rw [List.range_succ, List.map_append, List.sum_append]
    have := cntI_sum data a n
    unfold cntI at this
    rw [this]
    simp only [List.map_cons, List.map_nil, List.sum_cons, List.sum_nil, sumTo]
    push_cast
    omega
theorem sumTo_step {data : List UInt8} {a s : Nat} (ha : a ≤ s) (h1 : s < data.length) (h2 : 128 ≤ (data.getD s 0).toNat) (h : rdCgo data s (sumTo data a (s - a)) (128 ^ (s - a)) = rdCgo data a 0 1) :
    rdCgo data (s + 1) (sumTo data a (s + 1 - a)) (128 ^ (s + 1 - a)) = rdCgo data a 0 1 := by
  have hc := (data.getD s 0).toNat_lt
  rw [← h]
  conv => rhs; unfold rdCgo
  rw [dif_pos ⟨h1, by omega⟩, show s + 1 - a = (s - a) + 1 by omega, sumTo, show a + (s - a) = s by omega, show (data.getD s 0).toNat % 128 = (data.getD s 0).toNat - 128 by omega, Nat.pow_succ]
theorem rdC_sumTo {data : List UInt8} {a s : Nat} (ha : a ≤ s) (h1 : s < data.length) (h2 : (data.getD s 0).toNat < 128) (h : rdCgo data s (sumTo data a (s - a)) (128 ^ (s - a)) = rdCgo data a 0 1) :
    rdC data a = if (data.getD s 0).toNat = 0 ∧ a < s then none else some (sumTo data a (s + 1 - a), s + 1) := by
  have e : rdCgo data a 0 1 = (s, sumTo data a (s - a), 128 ^ (s - a)) := by
    rw [← h]; unfold rdCgo; rw [dif_neg (fun q => by omega)]
  unfold rdC
  rw [e]
  simp only
  rw [if_neg (by omega), show s + 1 - a = (s - a) + 1 by omega, sumTo, show a + (s - a) = s by omega, Nat.mod_eq_of_lt h2]
theorem rdC_over {data : List UInt8} {a s : Nat} (h1 : data.length ≤ s) (h : rdCgo data s (sumTo data a (s - a)) (128 ^ (s - a)) = rdCgo data a 0 1) : rdC data a = none := by
  have e : rdCgo data a 0 1 = (s, sumTo data a (s - a), 128 ^ (s - a)) := by
    rw [← h]; unfold rdCgo; rw [dif_neg (fun q => by omega)]
  unfold rdC
  rw [e]
  simp only
  rw [if_pos h1]
/-- what is read is pure -/
theorem V.pures_of {n : Nat} : ∀ {ds : List V}, (∀ d ∈ ds, V.pure d n = true) → V.pures ds n = true
  | [], _ => by simp [V.pures]
  | d :: ds, h => by
    simp only [V.pures, Bool.and_eq_true]
    exact ⟨h d (.head _), V.pures_of fun x m => h x (.tail _ m)⟩
theorem rdMany_all {f : Nat → Option (V × Nat)} {n : Nat} (h : ∀ s v e, f s = some (v, e) → V.pure v n = true) : ∀ (m s : Nat) (vs : List V) (e : Nat), rdMany f s m = some (vs, e) → ∀ v ∈ vs, V.pure v n = true
  | 0, s, vs, e, q => by simp only [rdMany, Option.some.injEq, Prod.mk.injEq] at q; obtain ⟨rfl, rfl⟩ := q; exact fun _ m => nomatch m
  | m + 1, s, vs, e, q => by
    simp only [rdMany] at q
    cases hf : f s with
    | none => rw [hf] at q; cases q
    | some p =>
      obtain ⟨v, e1⟩ := p
      rw [hf] at q
      simp only at q
      cases hr : rdMany f e1 m with
      | none => rw [hr] at q; cases q
      | some z =>
        obtain ⟨r, e2⟩ := z
        rw [hr] at q
        simp only [Option.some.injEq, Prod.mk.injEq] at q
        obtain ⟨rfl, rfl⟩ := q
        exact fun x mx => (List.mem_cons.mp mx).elim (fun t => t ▸ h _ _ _ hf) (rdMany_all h m e1 r e2 hr x)
theorem rdV_pure {data : List UInt8} : ∀ (f s : Nat) (v : V) (e : Nat), rdV data f s = some (v, e) → V.pure v (f + 1) = true := by
  intro f
  induction f using Nat.strongRecOn with
  | ind f ih =>
  intro s v e h
  unfold rdV at h
  split at h
  · cases h
  simp only at h
  split at h
  · cases h
  cases hc : rdC data (s + 1) with
  | none => rw [hc] at h; cases h
  | some p =>
    obtain ⟨many, spot⟩ := p
    rw [hc] at h
    simp only at h
    split at h
    · simp only [Option.some.injEq, Prod.mk.injEq] at h; obtain ⟨rfl, rfl⟩ := h
      simp [V.pure]
    split at h
    · cases hx : rdTgo data spot (min many (data.length - spot + 1)) with
      | none => rw [hx] at h; cases h
      | some q =>
        rw [hx] at h
        simp only [Option.some.injEq, Prod.mk.injEq] at h; obtain ⟨rfl, rfl⟩ := h
        simp [V.pure]
    split at h
    · cases f with
      | zero => cases h
      | succ f =>
        simp only at h
        cases hx : rdMany (rdV data f) spot (min many (data.length - spot + 1)) with
        | none => rw [hx] at h; cases h
        | some q =>
          obtain ⟨vs, e'⟩ := q
          rw [hx] at h
          simp only [Option.some.injEq, Prod.mk.injEq] at h; obtain ⟨rfl, rfl⟩ := h
          simp only [V.pure]
          exact V.pures_of (rdMany_all (fun s v e q => ih f (by omega) s v e q) _ _ _ _ hx)
    split at h
    · cases h
    · simp only [Option.some.injEq, Prod.mk.injEq] at h; obtain ⟨rfl, rfl⟩ := h
      simp [V.pure]
theorem rowAt_pure {data : List UInt8} {a : Nat} {v : V} {e : Nat} (h : rowAt data a = some (v, e)) : V.pure v 21 = true := by
  unfold rowAt at h
  cases hc : rdC data a with
  | none => rw [hc] at h; cases h
  | some p =>
    obtain ⟨count, spot⟩ := p
    rw [hc] at h
    simp only at h
    split at h
    · cases h
    split at h
    · cases h
    unfold rdRow at h
    cases hv : rdV ((data.drop (spot + 4)).take count) 20 0 with
    | none => rw [hv] at h; cases h
    | some q =>
      obtain ⟨u, eu⟩ := q
      rw [hv] at h
      simp only at h
      split at h
      · cases h
      · rename_i hn
        split at hn
        · cases hn
        · split at hn
          · simp only [Option.some.injEq] at hn
            subst hn
            simp only [Option.some.injEq, Prod.mk.injEq] at h
            obtain ⟨rfl, rfl⟩ := h
            exact rdV_pure 20 0 _ _ hv
          · cases hn
end Mine

open PySem PySem.W PySem.Calls PyProof.Rows
set_option Elab.async false
set_option maxRecDepth 100000
namespace Mine
/-- the rows of law 1 -/
def rowG (R : V) : Prop := ∃ x ds, R = .tup (.str x :: ds) ∧ okV 2 R = true ∧ V.pure R 3 = true ∧ (valO R).length ≤ 20
theorem cntO_two {n : Nat} (h : n < 16384) : (cntO n).length ≤ 2 := by
  by_cases q : n ≤ 127
  · rw [cntO_small q]; simp
  · rw [cntO, dif_pos (by omega), cntO_small (n := n / 128) (by omega)]; simp
theorem asc_a : (Str.ofString "a").cps.all (· < 128) = true ∧ (Str.ofString "a").length = 1 ∧ ascO (Str.ofString "a") = [97] := by refine ⟨?_, ?_, ?_⟩ <;> kernel_rfl
theorem asc_bc : (Str.ofString "bc").cps.all (· < 128) = true ∧ (Str.ofString "bc").length = 2 ∧ ascO (Str.ofString "bc") = [98, 99] := by refine ⟨?_, ?_, ?_⟩ <;> kernel_rfl
theorem asc_d : (Str.ofString "d").cps.all (· < 128) = true ∧ (Str.ofString "d").length = 1 ∧ ascO (Str.ofString "d") = [100] := by refine ⟨?_, ?_, ?_⟩ <;> kernel_rfl
theorem asc_x : (Str.ofString "x").cps.all (· < 128) = true ∧ (Str.ofString "x").length = 1 ∧ ascO (Str.ofString "x") = [120] := by refine ⟨?_, ?_, ?_⟩ <;> kernel_rfl
theorem asc_0 : (Str.ofString "").cps.all (· < 128) = true ∧ (Str.ofString "").length = 0 ∧ ascO (Str.ofString "") = [] := by refine ⟨?_, ?_, ?_⟩ <;> kernel_rfl
theorem cnt0 : cntO 0 = [0] := cntO_small (by decide)
theorem cnt1 : cntO 1 = [1] := cntO_small (by decide)
theorem cnt2 : cntO 2 = [2] := cntO_small (by decide)
theorem cnt3 : cntO 3 = [3] := cntO_small (by decide)
theorem val_a : valO (.tup [.str (Str.ofString "a")]) = [114, 1, 116, 1, 97] := by
  obtain ⟨h1, h2, h3⟩ := asc_a
  simp [valO, valOs, h2, h3, cnt1]
theorem rowG_a : rowG (.tup [.str (Str.ofString "a")]) := by
  obtain ⟨h1, h2, h3⟩ := asc_a
  refine ⟨_, _, rfl, ?_, ?_, by rw [val_a]; decide⟩
  · simp [okV, h1, h2]
  · simp [V.pure, V.pures]
theorem rowG_bc {z : Int} (h0 : -150 ≤ z) (h1 : z < 150) : rowG (.tup [.str (Str.ofString "bc"), .int z]) := by
  obtain ⟨a1, a2, a3⟩ := asc_bc
  have hf : foldN z < 16384 := by unfold foldN; split <;> omega
  have hc := cntO_two hf
  refine ⟨_, _, rfl, ?_, ?_, ?_⟩
  · simp [okV, a1, a2]; omega
  · simp [V.pure, V.pures]
  · simp [valO, valOs, a2, a3, cnt2]; omega
theorem rowG_d : rowG (.tup [.str (Str.ofString "d"), .bytes [114], .tup []]) := by
  obtain ⟨a1, a2, a3⟩ := asc_d
  refine ⟨_, _, rfl, ?_, ?_, ?_⟩
  · simp [okV, a1, a2]
  · simp [V.pure, V.pures]
  · simp [valO, valOs, a2, a3, cnt0, cnt1, cnt3]
theorem rowG_x : rowG (.tup [.str (Str.ofString ""), .tup [.str (Str.ofString "x")]]) := by
  obtain ⟨a1, a2, a3⟩ := asc_0
  obtain ⟨b1, b2, b3⟩ := asc_x
  refine ⟨_, _, rfl, ?_, ?_, ?_⟩
  · simp [okV, a1, a2, b1, b2]
  · simp [V.pure, V.pures]
  · simp [valO, valOs, a2, a3, b2, b3, cnt0, cnt1, cnt2]
theorem rowG.frm {R : V} (h : rowG R) : frmO R = [(valO R).length.toUInt8] ++ sumO (adlN (valO R)) ++ valO R ∧ (frmO R).length = 5 + (valO R).length ∧ (valO R).length ≤ 20 := by
  obtain ⟨x, ds, rfl, h1, h2, h3⟩ := h
  have e : frmO (.tup (.str x :: ds)) = [(valO (.tup (.str x :: ds))).length.toUInt8] ++ sumO (adlN (valO (.tup (.str x :: ds)))) ++ valO (.tup (.str x :: ds)) := by
    unfold frmO; rw [cntO_small (by omega)]
  refine ⟨e, ?_, h3⟩
  rw [e]
  have : ∀ c, (sumO c).length = 4 := fun _ => rfl
  simp [this]; omega
theorem rowG.at {R : V} (h : rowG R) {pre suf data : List UInt8} (e : data = pre ++ frmO R ++ suf) : rowAt data pre.length = some (R, pre.length + (frmO R).length) := by
  obtain ⟨x, ds, rfl, h1, h2, h3⟩ := h
  exact (rowAt_frm (n := 2) (by decide) h1 e rfl).2
/-- a frame cut short is none -/
theorem rowG.cut {R : V} (h : rowG R) {pre data : List UInt8} {j : Nat} (hj : 1 ≤ j) (hj2 : j < (frmO R).length) (e : data = pre ++ (frmO R).take j) : rowAt data pre.length = none := by
  obtain ⟨e1, e2, e3⟩ := h.frm
  have hc : rdC data pre.length = some ((valO R).length, pre.length + 1) := by
    have := rdC_cnt (n := (valO R).length) (pre := pre) (suf := (sumO (adlN (valO R)) ++ valO R).take (j - 1)) (data := data) ?_ (a := pre.length) rfl
    · rw [cntO_small (by omega)] at this; exact this
    · rw [e, e1, cntO_small (by omega)]
      obtain ⟨i, rfl⟩ : ∃ i, j = i + 1 := ⟨j - 1, by omega⟩
      simp
  have hl : data.length = pre.length + j := by rw [e]; simp; omega
  unfold rowAt
  rw [hc]
  simp only
  rw [if_pos (by omega)]
theorem rowAt_end {data : List UInt8} {a : Nat} (h : data.length ≤ a) : rowAt data a = none := by
  have : rdC data a = none := by
    unfold rdC rdCgo
    rw [dif_neg (by omega)]
    simp only
    rw [if_pos h]
  unfold rowAt
  rw [this]
/-- a place that was laid -/
def PlaceOK (data : List UInt8) (p : V) : Prop := ∃ pre R suf, rowG R ∧ p = .tup [.int (pre.length : Nat), R, .int (pre.length + (frmO R).length : Nat)] ∧ data = pre ++ frmO R ++ suf
theorem PlaceOK.more {data : List UInt8} {p : V} (h : PlaceOK data p) (m : List UInt8) : PlaceOK (data ++ m) p := by
  obtain ⟨pre, R, suf, h1, h2, rfl⟩ := h
  exact ⟨pre, R, suf ++ m, h1, h2, by simp⟩
/-- the first log: what stands at place 1 -/
theorem log_one {m : List UInt8} : rowAt ([128, 7] ++ frmO (.tup [.str (Str.ofString "a")]) ++ 116 :: m) 1 = none := by
  have e : frmO (.tup [.str (Str.ofString "a")]) = [5, 4, 2, 1, 74, 114, 1, 116, 1, 97] := by
    obtain ⟨e1, _, _⟩ := rowG_a.frm
    rw [e1, val_a]
    decide +kernel
  rw [e]
  have hc : rdC ([128, 7] ++ [5, 4, 2, 1, 74, 114, 1, 116, 1, 97] ++ 116 :: m) 1 = some (7, 2) := by
    unfold rdC rdCgo
    rw [dif_neg (by simp)]
    simp
  unfold rowAt
  rw [hc]
  simp only
  split
  · rfl
  · have d1 : (([128, 7] ++ [5, 4, 2, 1, 74, 114, 1, 116, 1, 97] ++ 116 :: m : List UInt8).drop 2).take 4 = [5, 4, 2, 1] := by simp
    have d2 : (([128, 7] ++ [5, 4, 2, 1, 74, 114, 1, 116, 1, 97] ++ 116 :: m : List UInt8).drop (2 + 4)).take 7 = [74, 114, 1, 116, 1, 97, 116] := by simp
    rw [d1, d2, if_pos (by decide +kernel)]
end Mine

open PySem PySem.W PySem.Calls PyProof.Rows
set_option Elab.async false
set_option maxRecDepth 100000
set_option maxHeartbeats 8000000
namespace Mine

abbrev gt01 : List (String × Value) := [("LogFault", .ref 59), ("MOST_DEPTH", .int 20 254), ("MODULUS", .int 65521 256), ("SUM_WIDTH", .int 4 258), ("LAST_SIGN", .int 1114111 260), ("NUMBER", .int 105 262), ("TEXT", .int 116 264), ("OCTETS", .int 111 266), ("ROW", .int 114 268),
  ("count_octets", .ref 68), ("read_count", .ref 75), ("folded_number", .ref 82), ("plain_number", .ref 89), ("text_codes", .ref 96), ("value_octets", .ref 101), ("read_text", .ref 108), ("read_some", .ref 115), ("read_value", .ref 122), ("is_row", .ref 129), ("row_octets", .ref 136),
  ("read_row", .ref 143), ("adler", .ref 150), ("sum_octets", .ref 157), ("framed", .ref 164), ("row_at", .ref 171), ("_law_take", .ref 178), ("_law_bag", .ref 185), ("_law_junk", .ref 190), ("_law_laid", .ref 197), ("_law_sums", .ref 202), ("_law_at", .ref 207), ("_law_is_read", .ref 212)]
abbrev bt01 : List (String × Value) := [("bytearray", .type "bytearray"), ("bytes", .type "bytes"), ("len", .builtin "len"), ("range", .type "range"), ("isinstance", .builtin "isinstance"), ("bool", .type "bool"), ("int", .type "int"), ("str", .type "str"), ("tuple", .type "tuple"),
  ("ord", .builtin "ord"), ("chr", .builtin "chr"), ("min", .builtin "min"), ("sum", .builtin "sum")]


section
variable {W : Wk} {P : Params} {k : Nat} {l : List Env} {σ : Store} {X : Store → Prop} {Q : V → Store → Prop}
theorem count_octets_01 (S : Sys W (Pre.h1.heap_1_1 P) gt01 bt01) {n : Nat} (hz : (cntO n).length ≤ 1000000) (hq : Gb (Q (.bytes (cntO n))) σ) : CC W (k + 1) l σ (.ref 68) [.int n] Q X := by
  have hK := W.hK
  rw [S.hK] at hK
  refine CC_def (ps := ["number"]) ⟨⟨_, hK 68 _ rfl, rfl⟩, ⟨_, _, _, _, rfl, hK 67 _ rfl, rfl, rfl⟩⟩ rfl rfl rfl rfl (bind1 fun _ => rfl) rfl (by decide) (by decide) rfl rfl rfl (by decide) ?_
  intro F fn hl hsc
  dsimp only at hsc
  clear hK
  walk_at "m"
  walk_at "m"
  walk_at "m"
  refine CC_bytearray ?_
  walk_at "m"
  walk_at "m"
  walk_at "m"
  walk_at "m"
  refine S1_while (fun m ρ' σ' => ∃ (r : Nat) (b : List UInt8), m = r ∧ ρ' = [("number", .int n), ("found", .obj σ.length), ("rest", .int r)] ∧ σ' = σ ++ [.barr b] ∧ b ++ cntO r = cntO n) n ⟨n, [], rfl, rfl, rfl, rfl⟩ ?_
  rintro m ρ' σ' ⟨r, b, rfl, rfl, rfl, hb⟩
  have hlen : b.length + (cntO m).length = (cntO n).length := by rw [← hb]; simp
  walk_at "m"
  walk_at "m"
  walk_at "m"
  walk_at "m"
  by_cases hr : (127 : Int) < (m : Int)
  · rw [decide_eq_true hr, if_pos rfl]
    have hr' : m > 127 := by omega
    walk_at "m"
    walk_at "m"
    refine SE_meth plainAttrs_ba ba_slot_append ba_ty_append ?_
    walk_at "m"
    refine ⟨HasT.barr get_last, ?_⟩
    walk_at "m"
    walk_at "m"
    walk_at "m"
    walk_at "m"
    walk_at "m"
    walk_at "m"
    walk_at "m"
    refine CC_append_barr get_last (by omega) (by omega) (by omega) ?_
    walk_at "m"
    walk_at "m"
    walk_at "m"
    walk_at "m"
    walk_at "m"
    walk_at "m"
    walk_at "m"
    refine ⟨m / 128, by omega, m / 128, b ++ [(128 + m % 128).toUInt8], rfl, rfl, ?_, ?_⟩
    · rw [set_last]
      have : ((128 : Int) + (m : Int) % 128).toNat = 128 + m % 128 := by omega
      rw [this]
    · rw [← hb]
      conv => rhs; unfold cntO
      rw [dif_pos hr']
      simp
  · rw [decide_eq_false hr]
    have hr' : ¬ m > 127 := by omega
    simp only [Bool.false_eq_true, if_false]
    walk_at "m"
    walk_at "m"
    refine SE_meth plainAttrs_ba ba_slot_append ba_ty_append ?_
    walk_at "m"
    refine ⟨HasT.barr get_last, ?_⟩
    walk_at "m"
    have hc : cntO m = [m.toUInt8] := by unfold cntO; rw [dif_neg hr']
    rw [hc] at hb hlen
    simp only [List.length_cons, List.length_nil] at hlen
    refine CC_append_barr get_last (by omega) (by omega) (by omega) ?_
    walk_at "m"
    walk_at "m"
    walk_at "m"
    walk_at "m"
    walk_at "m"
    walk_at "m"
    have e : b ++ [(m : Int).toNat.toUInt8] = cntO n := by rw [← hb]; simp
    refine CC_bytes_barr (by rw [set_last, e]; exact get_last) (by omega) ?_
    rw [set_last, e]
    exact hq _

/-- a text of small signs -/
theorem text_codes_01 (S : Sys W (Pre.h1.heap_1_1 P) gt01 bt01) {x : Str} (ha : x.cps.all (· < 128) = true) (hz : x.length ≤ 1000) (hq : Gb (Q (.bytes (ascO x))) σ) : CC W (k + 2) l σ (.ref 96) [.str x] Q X := by
  have hK := W.hK
  rw [S.hK] at hK
  refine CC_def (ps := ["text"]) ⟨⟨_, hK 96 _ rfl, rfl⟩, ⟨_, _, _, _, rfl, hK 95 _ rfl, rfl, rfl⟩⟩ rfl rfl rfl rfl (bind1 fun _ => rfl) rfl (by decide) (by decide) rfl rfl rfl (by decide) ?_
  intro F fn hl hsc
  dsimp only at hsc
  clear hK
  walk_at "ms"
  refine CC_bytearray ?_
  walk_at "ms"
  refine S1_for (walk_sk fn (by assumption) (by rfl)) fn ?_ (fun _ => rfl)
  refine SIt_ascii ?_
  walk_at "ms"
  refine ⟨x, rfl, ha, fun i ρ' σ' => Sub [("text", .str x), ("found", .obj σ.length)] ρ' ∧ ∃ g, σ' = σ ++ .barr ((ascO x).take i) :: g, ⟨?_, [], rfl⟩, fun _ _ _ _ => trivial, ?_, ?_⟩
  · walk_at "m_sub"
  · rintro i d ρ' σ' ⟨hs, g, rfl⟩ hd
    rw [List.getElem?_map] at hd
    obtain ⟨c, hc, rfl⟩ := Option.map_eq_some_iff.mp hd
    refine SS.sub ?_ hs.upd
    have hc128 : c < 128 := by
      have := Array.all_eq_true'.mp ha c (by rw [← Array.mem_toList_iff]; exact List.mem_of_getElem? hc)
      simpa using this
    have e1 : cntO c = [c.toUInt8] := by unfold cntO; rw [dif_neg (by omega)]
    have e2 : (ascO x).take (i + 1) = (ascO x).take i ++ [c.toUInt8] := by
      rw [List.take_add_one]; unfold ascO; rw [List.getElem?_map, hc]; simp
    have hl : (ascO x).length = x.length := by simp [ascO, Str.length]
    walk_at "ms"
    walk_at "m_meth"
    walk_at "ms"
    refine ⟨HasT.barr get_mid, ?_⟩
    walk_at "ms"
    refine CC_ord ?_
    walk_at "ms"
    refine count_octets_01 S (by rw [e1]; simp) fun g' => ?_
    rw [e1, app_mid]
    refine CC_extend_barr get_mid (by simp; omega) ?_
    rw [set_mid, ← e2]
    walk_at "ms"
    refine ⟨?_, _, rfl⟩
    walk_at "m_sub"
  · rintro ρ' σ' ⟨hs, g, rfl⟩
    refine SS.sub ?_ hs
    have e3 : (ascO x).take (x.cps.toList.map fun c => V.str ⟨#[c]⟩).length = ascO x := by rw [List.length_map]; exact List.take_of_length_le (by simp [ascO])
    rw [e3]
    have hl : (ascO x).length = x.length := by simp [ascO, Str.length]
    walk_at "ms"
    refine CC_bytes_barr get_mid (by omega) ?_
    exact hq _
end


section
variable {W : Wk} {P : Params} {k : Nat} {l : List Env} {σ : Store} {X : Store → Prop} {Q : V → Store → Prop}
theorem folded_number_01 (S : Sys W (Pre.h1.heap_1_1 P) gt01 bt01) {i : Int} (hq : Gb (Q (.int (foldN i))) σ) : CC W (k + 1) l σ (.ref 82) [.int i] Q X := by
  have hK := W.hK
  rw [S.hK] at hK
  refine CC_def (ps := ["number"]) ⟨⟨_, hK 82 _ rfl, rfl⟩, ⟨_, _, _, _, rfl, hK 81 _ rfl, rfl, rfl⟩⟩ rfl rfl rfl rfl (bind1 fun _ => rfl) rfl (by decide) (by decide) rfl rfl rfl (by decide) ?_
  intro F fn hl hsc
  dsimp only at hsc
  clear hK
  walk_at "ms"
  by_cases h : (0 : Int) ≤ i
  · refine iteT (decide_eq_true h) ?_
    walk_at "ms"
    have : 2 * i = (foldN i : Int) := by unfold foldN; rw [if_pos h]; omega
    rw [this]
    exact hq.now
  · refine iteF (decide_eq_false h) ?_
    walk_at "ms"
    refine ⟨2, rfl, ?_⟩
    walk_at "ms"
    have : -2 * i - 1 = (foldN i : Int) := by unfold foldN; rw [if_neg h]; omega
    rw [this]
    exact hq.now

theorem value_octets_int_01 (S : Sys W (Pre.h1.heap_1_1 P) gt01 bt01) {i : Int} {dep : Int} (hd : (cntO (foldN i)).length ≤ 1000) (hq : Gb (Q (.bytes (valO (.int i)))) σ) : CC W (k + 3) l σ (.ref 101) [.int i, .int dep] Q X := by
  have hK := W.hK
  rw [S.hK] at hK
  refine CC_def (ps := ["value", "depth"]) ⟨⟨_, hK 101 _ rfl, rfl⟩, ⟨_, _, _, _, rfl, hK 100 _ rfl, rfl, rfl⟩⟩ rfl rfl rfl rfl (bind2 fun _ _ => rfl) rfl (by decide) (by decide) rfl rfl rfl (by decide) ?_
  intro F fn hl hsc
  dsimp only at hsc
  clear hK
  walk_at "ms"
  refine CC_isi rfl (fun _ e => by cases e) (.inl rfl) ?_
  walk_at "ms"
  refine iteF rfl ?_
  walk_at "ms"
  refine CC_isi rfl (fun _ e => by cases e) (.inr (.inl rfl)) ?_
  walk_at "ms"
  refine iteT rfl ?_
  walk_at "ms"
  refine CC.le (folded_number_01 S fun g => ?_) (by omega : 1 ≤ k + 2)
  walk_at "ms"
  refine CC.le (count_octets_01 S (n := foldN i) (by omega) fun g' => ?_) (by omega : 1 ≤ k + 2)
  refine BO_addB (by simp; omega) ?_
  rw [List.append_assoc]
  simpa [valO] using hq _

theorem value_octets_str_01 (S : Sys W (Pre.h1.heap_1_1 P) gt01 bt01) {x : Str} {dep : Int} (ha : x.cps.all (· < 128) = true) (hz : x.length ≤ 1000) (hc : (cntO x.length).length ≤ 2000) (hq : Gb (Q (.bytes (valO (.str x)))) σ) : CC W (k + 3) l σ (.ref 101) [.str x, .int dep] Q X := by
  have hK := W.hK
  rw [S.hK] at hK
  refine CC_def (ps := ["value", "depth"]) ⟨⟨_, hK 101 _ rfl, rfl⟩, ⟨_, _, _, _, rfl, hK 100 _ rfl, rfl, rfl⟩⟩ rfl rfl rfl rfl (bind2 fun _ _ => rfl) rfl (by decide) (by decide) rfl rfl rfl (by decide) ?_
  intro F fn hl hsc
  dsimp only at hsc
  clear hK
  walk_at "ms"
  refine CC_isi rfl (fun _ e => by cases e) (.inl rfl) ?_
  walk_at "ms"
  refine iteF rfl ?_
  walk_at "ms"
  refine CC_isi rfl (fun _ e => by cases e) (.inr (.inl rfl)) ?_
  walk_at "ms"
  refine iteF rfl ?_
  walk_at "ms"
  refine CC_isi rfl (fun _ e => by cases e) (.inr (.inr (.inl rfl))) ?_
  walk_at "ms"
  refine iteT rfl ?_
  walk_at "ms"
  refine CC_len_str (by omega) ?_
  walk_at "ms"
  refine CC.le (count_octets_01 S (n := x.length) (by omega) fun g' => ?_) (by omega : 1 ≤ k + 2)
  have hl : (ascO x).length = x.length := by simp [ascO, Str.length]
  refine BO_addB (by simp; omega) ?_
  walk_at "ms"
  refine text_codes_01 S ha hz fun g'' => ?_
  refine BO_addB (by simp; omega) ?_
  rw [List.append_assoc]
  simpa [valO] using hq _

theorem value_octets_bytes_01 (S : Sys W (Pre.h1.heap_1_1 P) gt01 bt01) {b : List UInt8} {dep : Int} (hz : b.length ≤ 1000) (hc : (cntO b.length).length ≤ 2000) (hq : Gb (Q (.bytes (valO (.bytes b)))) σ) : CC W (k + 3) l σ (.ref 101) [.bytes b, .int dep] Q X := by
  have hK := W.hK
  rw [S.hK] at hK
  refine CC_def (ps := ["value", "depth"]) ⟨⟨_, hK 101 _ rfl, rfl⟩, ⟨_, _, _, _, rfl, hK 100 _ rfl, rfl, rfl⟩⟩ rfl rfl rfl rfl (bind2 fun _ _ => rfl) rfl (by decide) (by decide) rfl rfl rfl (by decide) ?_
  intro F fn hl hsc
  dsimp only at hsc
  clear hK
  walk_at "ms"
  refine CC_isi rfl (fun _ e => by cases e) (.inl rfl) ?_
  walk_at "ms"
  refine iteF rfl ?_
  walk_at "ms"
  refine CC_isi rfl (fun _ e => by cases e) (.inr (.inl rfl)) ?_
  walk_at "ms"
  refine iteF rfl ?_
  walk_at "ms"
  refine CC_isi rfl (fun _ e => by cases e) (.inr (.inr (.inl rfl))) ?_
  walk_at "ms"
  refine iteF rfl ?_
  walk_at "ms"
  refine CC_isi rfl (fun _ e => by cases e) (.inr (.inr (.inr (.inl rfl)))) ?_
  walk_at "ms"
  refine iteT rfl ?_
  walk_at "ms"
  refine CC.le (count_octets_01 S (n := b.length) (by omega) fun g' => ?_) (by omega : 1 ≤ k + 2)
  refine BO_addB (by simp; omega) ?_
  walk_at "ms"
  refine BO_addB (by simp; omega) ?_
  simpa [valO] using hq _

theorem value_octets_01 (S : Sys W (Pre.h1.heap_1_1 P) gt01 bt01) : ∀ (n : Nat) (d : V) (k : Nat) (l : List Env) (σ : Store) (Q : V → Store → Prop) (X : Store → Prop) (dep : Int), okV n d = true → (valO d).length ≤ 1000000 → dep + n ≤ 21 → Gb (Q (.bytes (valO d))) σ → CC W (k + n + 3) l σ (.ref 101) [d, .int dep] Q X := by
  intro n
  induction n with
  | zero =>
    intro d k l σ Q X dep hd hz hdep hq
    cases d with
    | int i => simp [okV] at hd; exact value_octets_int_01 S hd hq
    | str x =>
      have hd' : x.cps.all (· < 128) = true ∧ x.length ≤ 1000 := by simpa only [okV, Bool.and_eq_true, decide_eq_true_eq] using hd
      exact value_octets_str_01 S hd'.1 hd'.2 (Nat.le_trans (cntO_len _) (by omega)) hq
    | bytes x =>
      have hd' : x.length ≤ 1000 := by simpa only [okV, decide_eq_true_eq] using hd
      exact value_octets_bytes_01 S hd' (Nat.le_trans (cntO_len _) (by omega)) hq
    | _ => simp [okV] at hd
  | succ n ih =>
    intro d k l σ Q X dep hd hz hdep hq
    cases d with
    | int i => simp [okV] at hd; exact CC.le (value_octets_int_01 S (k := 0) hd hq) (by omega)
    | str x =>
      have hd' : x.cps.all (· < 128) = true ∧ x.length ≤ 1000 := by simpa only [okV, Bool.and_eq_true, decide_eq_true_eq] using hd
      exact CC.le (value_octets_str_01 S (k := 0) hd'.1 hd'.2 (Nat.le_trans (cntO_len _) (by omega)) hq) (by omega)
    | bytes x =>
      have hd' : x.length ≤ 1000 := by simpa only [okV, decide_eq_true_eq] using hd
      exact CC.le (value_octets_bytes_01 S (k := 0) hd' (Nat.le_trans (cntO_len _) (by omega)) hq) (by omega)
    | tup ds =>
      have hK := W.hK
      rw [S.hK] at hK
      refine CC_def (ps := ["value", "depth"]) ⟨⟨_, hK 101 _ rfl, rfl⟩, ⟨_, _, _, _, rfl, hK 100 _ rfl, rfl, rfl⟩⟩ rfl rfl rfl rfl (bind2 fun _ _ => rfl) rfl (by decide) (by decide) rfl rfl rfl (by decide) ?_
      intro F fn hl hsc
      dsimp only at hsc
      clear hK
      walk_at "ms"
      refine CC_isi rfl (fun _ e => by cases e) (.inl rfl) ?_
      walk_at "ms"
      refine iteF rfl ?_
      walk_at "ms"
      refine CC_isi rfl (fun _ e => by cases e) (.inr (.inl rfl)) ?_
      walk_at "ms"
      refine iteF rfl ?_
      walk_at "ms"
      refine CC_isi rfl (fun _ e => by cases e) (.inr (.inr (.inl rfl))) ?_
      walk_at "ms"
      refine iteF rfl ?_
      walk_at "ms"
      refine CC_isi rfl (fun _ e => by cases e) (.inr (.inr (.inr (.inl rfl)))) ?_
      walk_at "ms"
      refine iteF rfl ?_
      walk_at "ms"
      refine CC_isi rfl (fun _ e => by cases e) (.inr (.inr (.inr (.inr rfl)))) ?_
      walk_at "ms"
      refine iteF rfl ?_
      walk_at "ms"
      refine iteF (decide_eq_false (by omega)) ?_
      walk_at "ms"
      have hd' : ds.length ≤ 100 ∧ ∀ d ∈ ds, okV n d = true := by simpa [okV] using hd
      refine CC_len_tup (by omega) ?_
      walk_at "ms"
      have hc1 : cntO ds.length = [ds.length.toUInt8] := by unfold cntO; rw [dif_neg (by omega)]
      refine CC.le (count_octets_01 S (n := ds.length) (by rw [hc1]; simp) fun g' => ?_) (by omega : 1 ≤ k + (n + 1) + 2)
      refine BO_addB (by rw [hc1]; simp) ?_
      walk_at "m_joinb"
      walk_at "ms"
      refine ⟨HasT.bytes, ?_⟩
      refine SE_comp [("depth", .int dep)] (free_of (xs := ["depth"]) rfl (by intro x hx; rw [List.mem_singleton.mp hx]; walk_at "m_kind")) (by decide) rfl (by decide) (rho1 rfl rfl rho0) ?_ (fun _ => rfl)
      refine SIt_tup ?_
      walk_at "ms"
      refine ⟨ds, rfl, by omega, fun i acc σ' => acc = (ds.take i).map (fun d => V.bytes (valO d)) ∧ ∃ g, σ' = (σ ++ g') ++ .list acc :: g, ⟨rfl, [], rfl⟩, ?_, ?_, ?_⟩
      · rintro i acc σ' ⟨rfl, g, rfl⟩
        exact ⟨trivial, get_mid, by simp; omega⟩
      · rintro Fc ce i acc σ' d ⟨rfl, g, rfl⟩ hdi
        refine ⟨_, ?_, SAsg_name (.inl (ce.loc _ rfl)), ?_⟩
        · walk_at "m_sub"
        refine CT_nil ?_
        walk_at "ms"
        have hmem : d ∈ ds := List.mem_of_getElem? hdi
        refine ih d k Fc.l _ _ _ (dep + 1) (hd'.2 d hmem) (Nat.le_trans (valO_le hmem) (by simp [valO] at hz; omega)) (by omega) fun g2 => ?_
        rw [app_mid]
        refine ⟨get_mid, ?_, _, set_mid⟩
        rw [List.take_add_one, hdi]; simp
      · rintro acc σ' ⟨rfl, g, rfl⟩
        rw [List.take_length]
        have hz' : (ds.map valO).flatten.length ≤ 1000000 := by rw [← valOs_eq]; simp [valO] at hz; omega
        refine CC_join_bytes (ys := ds.map valO) (by rw [List.map_map]; exact get_mid) (by omega) ?_
        refine BO_addB (by rw [hc1]; simp only [List.length_append, List.length_cons, List.length_nil]; omega) ?_
        have := hq (g' ++ .list (ds.map fun d => V.bytes (valO d)) :: g)
        rw [List.append_assoc]
        simpa [valO, valOs_eq] using this
    | _ => simp [okV] at hd
end


section
variable {W : Wk} {P : Params} {k : Nat} {l : List Env} {σ : Store} {X : Store → Prop} {Q : V → Store → Prop}
theorem is_row_01 (S : Sys W (Pre.h1.heap_1_1 P) gt01 bt01) {d : V} (hd : d.kind.isSome = true ∧ (∀ b, d ≠ .bool b)) (he : ∀ e r, d = .tup (e :: r) → e.kind.isSome = true ∧ (∀ b, e ≠ .bool b) ∧ r.length ≤ 16777216) (hq : Gb (Q (.bool (isRow d))) σ) : CC W (k + 1) l σ (.ref 129) [d] Q X := by
  have hK := W.hK
  rw [S.hK] at hK
  refine CC_def (ps := ["value"]) ⟨⟨_, hK 129 _ rfl, rfl⟩, ⟨_, _, _, _, rfl, hK 128 _ rfl, rfl, rfl⟩⟩ rfl rfl rfl rfl (bind1 fun _ => rfl) rfl (by decide) (by decide) rfl rfl rfl (by decide) ?_
  intro F fn hl hsc
  dsimp only at hsc
  clear hK
  walk_at "ms"
  refine CC_isi hd.1 hd.2 (.inr (.inr (.inr (.inr rfl)))) ?_
  refine ⟨_, rfl, ?_⟩
  by_cases ht : ∃ ds, d = .tup ds
  · obtain ⟨ds, rfl⟩ := ht
    refine iteT rfl ?_
    cases ds with
    | nil =>
      walk_at "ms"
      refine CC_len_tup (by decide) ?_
      walk_at "ms"
      refine ⟨_, rfl, iteF rfl ?_⟩
      exact hq.now
    | cons e r =>
      obtain ⟨e1, e2, e3⟩ := he e r rfl
      walk_at "ms"
      refine CC_len_tup (by simp only [List.length_cons]; omega) ?_
      walk_at "ms"
      refine ⟨_, rfl, iteT (decide_eq_true (by simp only [List.length_cons]; omega)) ?_⟩
      walk_at "ms"
      refine SI_tup (d := e) (fun _ _ => rfl) (by decide) (by decide) rfl ?_
      walk_at "ms"
      refine CC_isi e1 e2 (.inr (.inr (.inl rfl))) ?_
      have : isi e "str" = isRow (.tup (e :: r)) := by cases e <;> first | rfl | (exact absurd rfl (e2 _)) | (simp [V.kind] at e1)
      rw [this]
      exact hq.now
  · have h1 : isi d "tuple" = false := by cases d <;> first | rfl | (exact absurd ⟨_, rfl⟩ ht)
    have h2 : isRow d = false := by cases d <;> first | rfl | (exact absurd ⟨_, rfl⟩ ht)
    refine iteF h1 ?_
    rw [h2] at hq
    exact hq.now

theorem row_octets_01 (S : Sys W (Pre.h1.heap_1_1 P) gt01 bt01) {x : Str} {ds : List V} {n : Nat} (hn : n ≤ 20) (hd : okV n (.tup (.str x :: ds)) = true) (hz : (valO (.tup (.str x :: ds))).length ≤ 1000000)
    (hq : Gb (Q (.bytes (valO (.tup (.str x :: ds))))) σ) : CC W (k + 30) l σ (.ref 136) [.tup (.str x :: ds)] Q X := by
  have hl : ds.length ≤ 100 := by
    cases n with
    | zero => simp [okV] at hd
    | succ n => simp [okV] at hd; omega
  have hK := W.hK
  rw [S.hK] at hK
  refine CC_def (ps := ["row"]) ⟨⟨_, hK 136 _ rfl, rfl⟩, ⟨_, _, _, _, rfl, hK 135 _ rfl, rfl, rfl⟩⟩ rfl rfl rfl rfl (bind1 fun _ => rfl) rfl (by decide) (by decide) rfl rfl rfl (by decide) ?_
  intro F fn hl hsc
  dsimp only at hsc
  clear hK
  walk_at "ms"
  refine CC.le (is_row_01 (k := 0) S ⟨rfl, fun _ e => by cases e⟩ (fun e r h => by cases h; exact ⟨rfl, fun _ e => (by cases e), by omega⟩) fun g => ?_) (by omega)
  walk_at "ms"
  refine iteF rfl ?_
  walk_at "ms"
  exact CC.le (value_octets_01 S n _ 0 _ _ _ _ 1 hd hz (by omega) (hq.more g)) (by omega)

theorem adler_01 (S : Sys W (Pre.h1.heap_1_1 P) gt01 bt01) {b : List UInt8} (hq : Gb (Q (.int (adlN b))) σ) : CC W (k + 1) l σ (.ref 150) [.bytes b] Q X := by
  have hK := W.hK
  rw [S.hK] at hK
  refine CC_def (ps := ["octets"]) ⟨⟨_, hK 150 _ rfl, rfl⟩, ⟨_, _, _, _, rfl, hK 149 _ rfl, rfl, rfl⟩⟩ rfl rfl rfl rfl (bind1 fun _ => rfl) rfl (by decide) (by decide) rfl rfl rfl (by decide) ?_
  intro F fn hl hsc
  dsimp only at hsc
  clear hK
  walk_at "ms"
  refine S1_for (walk_sk fn (by assumption) (by rfl)) fn ?_ (fun _ => rfl)
  refine SIt_bytes ?_
  walk_at "ms"
  refine ⟨b, rfl, fun i ρ' σ' => Sub [("octets", .bytes b), ("low", .int (adlO (b.take i)).1), ("high", .int (adlO (b.take i)).2)] ρ' ∧ ∃ g, σ' = σ ++ g, ⟨?_, [], by simp⟩, fun _ _ _ _ => trivial, ?_, ?_⟩
  · walk_at "m_sub"
  · rintro i d ρ' σ' ⟨hs, g, rfl⟩ hd
    rw [List.getElem?_map] at hd
    obtain ⟨c, hc, rfl⟩ := Option.map_eq_some_iff.mp hd
    refine SS.sub ?_ hs.upd
    have e : adlO (b.take (i + 1)) = (((adlO (b.take i)).1 + c.toNat) % 65521, ((adlO (b.take i)).2 + ((adlO (b.take i)).1 + c.toNat) % 65521) % 65521) := by
      rw [List.take_add_one, hc]; unfold adlO; simp
    walk_at "ms"
    refine ⟨?_, g, rfl⟩
    rw [e]
    walk_at "m_sub"
  · rintro ρ' σ' ⟨hs, g, rfl⟩
    rw [List.length_map, List.take_length] at hs
    refine SS.sub ?_ hs
    walk_at "ms"
    have := hq g
    unfold adlN at this
    simpa using this

theorem sum_octets_01 (S : Sys W (Pre.h1.heap_1_1 P) gt01 bt01) {n : Nat} (hq : Gb (Q (.bytes (sumO n))) σ) : CC W (k + 1) l σ (.ref 157) [.int n] Q X := by
  have hK := W.hK
  rw [S.hK] at hK
  refine CC_def (ps := ["number"]) ⟨⟨_, hK 157 _ rfl, rfl⟩, ⟨_, _, _, _, rfl, hK 156 _ rfl, rfl, rfl⟩⟩ rfl rfl rfl rfl (bind1 fun _ => rfl) rfl (by decide) (by decide) rfl rfl rfl (by decide) ?_
  intro F fn hl hsc
  dsimp only at hsc
  clear hK
  walk_at "ms"
  refine ⟨by simp, ?_⟩
  walk_at "ms"
  have e : ∀ m : Nat, ((n : Int) / 2 ^ m % 256).toNat = n / 2 ^ m % 256 := fun m => by
    have : ((n : Int) / 2 ^ m % 256) = ((n / 2 ^ m % 256 : Nat) : Int) := by push_cast; rfl
    rw [this]; rfl
  have e0 : ((n : Int) % 256).toNat = n % 256 := by omega
  refine CC_bytes_list (ns := [(n : Int) / 2 ^ Int.toNat 24 % 256, (n : Int) / 2 ^ Int.toNat 16 % 256, (n : Int) / 2 ^ Int.toNat 8 % 256, (n : Int) % 256]) get_last ?_ (by simp) ?_
  · intro m hm
    simp only [List.mem_cons, List.not_mem_nil, or_false] at hm
    rcases hm with rfl | rfl | rfl | rfl <;> exact ⟨Int.emod_nonneg _ (by decide), Int.emod_lt_of_pos _ (by decide)⟩
  · have : octs [(n : Int) / 2 ^ Int.toNat 24 % 256, (n : Int) / 2 ^ Int.toNat 16 % 256, (n : Int) / 2 ^ Int.toNat 8 % 256, (n : Int) % 256] = sumO n := by
      unfold octs sumO
      simp only [List.map_cons, List.map_nil, e, e0]
      rfl
    rw [this]
    exact hq _

theorem framed_01 (S : Sys W (Pre.h1.heap_1_1 P) gt01 bt01) {x : Str} {ds : List V} {n : Nat} (hn : n ≤ 20) (hd : okV n (.tup (.str x :: ds)) = true) (hz : (valO (.tup (.str x :: ds))).length ≤ 100000)
    (hq : Gb (Q (.bytes (frmO (.tup (.str x :: ds))))) σ) : CC W (k + 31) l σ (.ref 164) [.tup (.str x :: ds)] Q X := by
  have hK := W.hK
  rw [S.hK] at hK
  refine CC_def (ps := ["row"]) ⟨⟨_, hK 164 _ rfl, rfl⟩, ⟨_, _, _, _, rfl, hK 163 _ rfl, rfl, rfl⟩⟩ rfl rfl rfl rfl (bind1 fun _ => rfl) rfl (by decide) (by decide) rfl rfl rfl (by decide) ?_
  intro F fn hl hsc
  dsimp only at hsc
  clear hK
  walk_at "ms"
  refine row_octets_01 S hn hd (by omega) fun g => ?_
  walk_at "ms"
  have l1 := cntO_len (valO (.tup (.str x :: ds))).length
  refine CC.le (count_octets_01 (k := 0) S (n := (valO (.tup (.str x :: ds))).length) (by omega) fun g1 => ?_) (by omega)
  walk_at "ms"
  refine CC.le (adler_01 (k := 0) S fun g2 => ?_) (by omega)
  walk_at "ms"
  refine CC.le (sum_octets_01 (k := 0) S fun g3 => ?_) (by omega)
  have l2 : (sumO (adlN (valO (.tup (.str x :: ds))))).length = 4 := rfl
  refine BO_addB (by omega) ?_
  walk_at "ms"
  refine BO_addB (by rw [List.length_append]; omega) ?_
  have := hq (((g ++ g1) ++ g2) ++ g3)
  simpa [frmO] using this
end


section
variable {W : Wk} {P : Params} {k : Nat} {l : List Env} {σ : Store} {X : Store → Prop} {Q : V → Store → Prop}
theorem read_count_01 (S : Sys W (Pre.h1.heap_1_1 P) gt01 bt01) (FO : FltOK W 59) {data : List UInt8} {at_ : Nat} (hz : data.length ≤ 100000) (hq : ∀ n e, rdC data at_ = some (n, e) → Gb (Q (.tup [.int n, .int e])) σ) (hx : rdC data at_ = none → Gb X σ) : CC W (k + 3) l σ (.ref 75) [.bytes data, .int at_] Q X := by
  have hK := W.hK
  rw [S.hK] at hK
  refine CC_def (ps := ["data", "at"]) ⟨⟨_, hK 75 _ rfl, rfl⟩, ⟨_, _, _, _, rfl, hK 74 _ rfl, rfl, rfl⟩⟩ rfl rfl rfl rfl (bind2 fun _ _ => rfl) rfl (by decide) (by decide) rfl rfl rfl (by decide) ?_
  intro F fn hl hsc
  dsimp only at hsc
  clear hK
  walk_at "ms"
  refine S1_while (fun m ρ' σ' => ∃ (s num w : Nat), m = data.length - s ∧ ρ' = [("data", .bytes data), ("at", .int at_), ("number", .int num), ("weight", .int w), ("spot", .int s)] ∧ σ' = σ ∧ rdCgo data s num w = rdCgo data at_ 0 1 ∧ at_ ≤ s) (data.length - at_) ⟨at_, 0, 1, rfl, rfl, rfl, rfl, Nat.le_refl _⟩ ?_
  rintro m ρ' σ' ⟨s, num, w, rfl, rfl, rfl, hgo, hle⟩
  walk_at "ms"
  by_cases h1 : s < data.length
  · refine iteT (decide_eq_true (by omega)) ?_
    walk_at "ms"
    have hc := (data.getD s 0).toNat_lt
    by_cases h2 : 127 < (data.getD s 0).toNat
    · refine iteT (decide_eq_true (by omega)) ?_
      walk_at "ms"
      refine iteT rfl ?_
      walk_at "ms"
      refine BO_mul (.of_left (small_bits (by omega) (by omega))) ?_
      walk_at "ms"
      refine ⟨data.length - (s + 1), by omega, s + 1, num + ((data.getD s 0).toNat - 128) * w, w * 128, rfl, ?_, rfl, ?_, by omega⟩
      · have : (((data.getD s 0).toNat : Int) - 128) * (w : Int) = ((((data.getD s 0).toNat - 128) * w : Nat) : Int) := by
          rw [Int.natCast_mul, Int.natCast_sub (by omega)]; rfl
        rw [this]; rfl
      · rw [← hgo]
        conv => rhs; unfold rdCgo
        rw [dif_pos ⟨h1, h2⟩]
    · refine iteF (decide_eq_false (by omega)) ?_
      have hg : rdCgo data at_ 0 1 = (s, num, w) := by
        rw [← hgo]; unfold rdCgo; rw [dif_neg (fun q => h2 q.2)]
      refine iteF rfl ?_
      walk_at "ms"
      refine iteF (decide_eq_false (by omega)) ?_
      walk_at "ms"
      have val : ¬ ((data.getD s 0).toNat = 0 ∧ at_ < s) → rdC data at_ = some (num + (data.getD s 0).toNat * w, s + 1) := fun z => by
        unfold rdC
        rw [hg]
        simp only
        rw [if_neg (by omega), if_neg z]
      by_cases h4 : (data.getD s 0).toNat = 0
      · refine iteT (decide_eq_true (by omega)) ?_
        walk_at "ms"
        by_cases h5 : at_ < s
        · refine iteT (decide_eq_true (by omega)) ?_
          walk_at "ms"
          refine iteT rfl ?_
          walk_at "m"
          walk_at "m_raise"
          refine ⟨rfl, (hx ?_).now⟩
          unfold rdC
          rw [hg]
          simp only
          rw [if_neg (by omega), if_pos ⟨h4, h5⟩]
        · refine iteF (decide_eq_false (by omega)) ?_
          refine iteF rfl ?_
          walk_at "ms"
          refine BO_mul (.of_left (small_bits (by omega) (by omega))) ?_
          walk_at "ms"
          exact ⟨by simp, (hq _ _ (val (by omega))).now⟩
      · refine iteF (decide_eq_false (by omega)) ?_
        refine iteF rfl ?_
        walk_at "ms"
        refine BO_mul (.of_left (small_bits (by omega) (by omega))) ?_
        walk_at "ms"
        exact ⟨by simp, (hq _ _ (val (by omega))).now⟩
  · have hg : rdCgo data at_ 0 1 = (s, num, w) := by
      rw [← hgo]; unfold rdCgo; rw [dif_neg (fun q => h1 q.1)]
    refine iteF (decide_eq_false (by omega)) ?_
    refine iteF rfl ?_
    walk_at "ms"
    refine iteT (decide_eq_true (by omega)) ?_
    walk_at "m"
    walk_at "m_raise"
    refine ⟨rfl, (hx ?_).now⟩
    unfold rdC
    rw [hg]
    simp only
    rw [if_pos (by omega)]

theorem read_text_01 (S : Sys W (Pre.h1.heap_1_1 P) gt01 bt01) (FO : FltOK W 59) {data : List UInt8} {at_ many : Nat} (hz : data.length ≤ 100000) (hle : at_ ≤ data.length)
    (hq : ∀ cs e, rdTgo data at_ (min many (data.length - at_ + 1)) = some (cs, e) → Gb (Q (.tup [.str ⟨cs.toArray⟩, .int e])) σ) (hx : rdTgo data at_ (min many (data.length - at_ + 1)) = none → Gb X σ) :
    CC W (k + 4) l σ (.ref 108) [.bytes data, .int at_, .int many] Q X := by
  have hK := W.hK
  rw [S.hK] at hK
  refine CC_def (ps := ["data", "at", "many"]) ⟨⟨_, hK 108 _ rfl, rfl⟩, ⟨_, _, _, _, rfl, hK 107 _ rfl, rfl, rfl⟩⟩ rfl rfl rfl rfl (bind3 fun _ _ _ => rfl) rfl (by decide) (by decide) rfl rfl rfl (by decide) ?_
  intro F fn hl hsc
  dsimp only at hsc
  clear hK
  walk_at "ms"
  refine ⟨by simp, ?_⟩
  walk_at "ms"
  refine S1_for (walk_sk fn (by assumption) (by rfl)) fn ?_ (fun _ => rfl)
  refine SIt_range (Sys.blt S (by walk_at "m_kind") (by rfl) (by rfl)) ?_
  walk_at "ms"
  refine CC_min ?_
  walk_at "ms"
  have hN : (min (many : Int) ((data.length : Int) - (at_ : Int) + 1) - 0).toNat = min many (data.length - at_ + 1) := by omega
  refine ⟨0, _, .inl ⟨rfl, rfl⟩, ⟨by decide, by decide, by omega, by omega⟩, ?_⟩
  rw [hN]
  generalize hNe : min many (data.length - at_ + 1) = N at hq hx
  have hN1 : N ≤ 100001 := by omega
  clear hN hNe
  refine ⟨fun i ρ' σ' => ∃ (s : Nat) (c1 : List Nat) (g : Store), Sub [("data", .bytes data), ("at", .int at_), ("many", .int many), ("signs", .obj σ.length), ("spot", .int s)] ρ' ∧ σ' = σ ++ .list ((c1.map fun c => (⟨#[c]⟩ : Str)).map V.str) :: g ∧
      rdTgo data at_ N = (match rdTgo data s (N - i) with | none => none | some (c2, e) => some (c1 ++ c2, e)) ∧ c1.length = i ∧ i ≤ N,
    ⟨at_, [], [], ?_, rfl, ?_, rfl, Nat.zero_le _⟩, fun _ _ _ _ => trivial, ?_, ?_⟩
  · walk_at "m_sub"
  · rw [Nat.sub_zero]
    cases rdTgo data at_ N <;> rfl
  · rintro i d ρ' σ' ⟨s, c1, g, hs, rfl, hgo, hl1, hi⟩ hd
    have hiN : i < N := by
      have := (List.getElem?_eq_some_iff.mp hd).1
      simpa using this
    rw [show N - i = (N - (i + 1)) + 1 by omega] at hgo
    simp only [rdTgo] at hgo
    refine SS.sub ?_ hs.upd
    walk_at "ms"
    refine read_count_01 S FO hz (fun code behind hc g1 => ?_) fun hc g1 => ?_
    · rw [hc] at hgo
      simp only at hgo
      refine ⟨_, _, rfl, ?_⟩
      rw [app_mid]
      walk_at "ms"
      by_cases hbig : 1114111 < code
      · rw [if_pos hbig] at hgo
        refine iteT (decide_eq_true (by omega)) ?_
        walk_at "m"
        walk_at "m_raise"
        exact ⟨rfl, hx hgo _⟩
      rw [if_neg hbig] at hgo
      refine iteF (decide_eq_false (by omega)) ?_
      walk_at "ms"
      walk_at "m_appl"
      walk_at "ms"
      refine ⟨HasT.list get_mid, ?_⟩
      walk_at "ms"
      refine CC_chr (by omega) (by omega) ?_
      have hN2 : c1.length ≤ 100001 := by omega
      refine CC_append_list get_mid (by simp; omega) ?_
      rw [set_mid]
      walk_at "ms"
      refine ⟨behind, c1 ++ [code], g ++ g1, ?_, ?_, ?_, by simp; omega, hiN⟩
      · walk_at "m_sub"
      · simp
      · rw [hgo]
        cases rdTgo data behind (N - (i + 1)) <;> simp
    · rw [hc] at hgo
      rw [List.append_assoc]
      exact hx hgo _
  · rintro ρ' σ' ⟨s, c1, g, hs, rfl, hgo, hl1, hi⟩
    simp only [List.length_map, List.length_range, Nat.sub_self, rdTgo, List.append_nil] at hl1 hi hgo
    refine SS.sub ?_ hs
    walk_at "ms"
    walk_at "m_meth"
    walk_at "ms"
    refine ⟨HasT.str, ?_⟩
    walk_at "ms"
    have hN2 : c1.length ≤ 100001 := by omega
    refine CC_join_str get_mid (by decide) ?_ ?_
    · rw [sum_codes, List.length_map]; omega
    · walk_at "ms"
      refine ⟨by simp, ?_⟩
      rw [join_codes]
      exact hq _ _ hgo _
end


theorem rdCgo_le {data : List UInt8} : ∀ (m s n w : Nat), m = data.length - s → s ≤ (rdCgo data s n w).1 := by
  intro m
  induction m using Nat.strongRecOn with
  | ind m ih =>
    intro s n w hm
    unfold rdCgo
    split
    · rename_i h
      exact Nat.le_trans (Nat.le_succ s) (ih _ (by omega) (s + 1) _ _ rfl)
    · exact Nat.le_refl _
theorem rdC_le {data : List UInt8} {at_ n e : Nat} (h : rdC data at_ = some (n, e)) : at_ < e ∧ e ≤ data.length := by
  unfold rdC at h
  have hg := rdCgo_le _ at_ 0 1 rfl (data := data)
  simp only at h
  split at h
  · cases h
  · split at h
    · cases h
    · simp only [Option.some.injEq, Prod.mk.injEq] at h
      omega
section
variable {W : Wk} {P : Params} {k : Nat} {l : List Env} {σ : Store} {X : Store → Prop} {Q : V → Store → Prop}
theorem plain_number_01 (S : Sys W (Pre.h1.heap_1_1 P) gt01 bt01) {c : Nat} (hq : Gb (Q (.int (plainN c))) σ) : CC W (k + 1) l σ (.ref 89) [.int c] Q X := by
  have hK := W.hK
  rw [S.hK] at hK
  refine CC_def (ps := ["count"]) ⟨⟨_, hK 89 _ rfl, rfl⟩, ⟨_, _, _, _, rfl, hK 88 _ rfl, rfl, rfl⟩⟩ rfl rfl rfl rfl (bind1 fun _ => rfl) rfl (by decide) (by decide) rfl rfl rfl (by decide) ?_
  intro F fn hl hsc
  dsimp only at hsc
  clear hK
  walk_at "ms"
  by_cases h : c % 2 = 0
  · refine iteT (decide_eq_true (by omega)) ?_
    walk_at "ms"
    have : (c : Int) / 2 = plainN c := by unfold plainN; rw [if_pos h]; rfl
    rw [this]
    exact hq.now
  · refine iteF (decide_eq_false (by omega)) ?_
    walk_at "ms"
    refine ⟨_, rfl, ?_⟩
    walk_at "ms"
    have : -((c : Int) + 1) / 2 = plainN c := by unfold plainN; rw [if_neg h]
    rw [this]
    exact hq.now

theorem read_deep_01 (S : Sys W (Pre.h1.heap_1_1 P) gt01 bt01) (FO : FltOK W 59) {data : List UInt8} {at_ many : Nat} {dep : Int} (hdep : 20 < dep) (hx : Gb X σ) :
    CC W (k + 3) l σ (.ref 115) [.bytes data, .int at_, .int many, .int dep] Q X := by
  have hK := W.hK
  rw [S.hK] at hK
  refine CC_def (ps := ["data", "at", "many", "depth"]) ⟨⟨_, hK 115 _ rfl, rfl⟩, ⟨_, _, _, _, rfl, hK 114 _ rfl, rfl, rfl⟩⟩ rfl rfl rfl rfl (bind4 fun _ _ _ _ => rfl) rfl (by decide) (by decide) rfl rfl rfl (by decide) ?_
  intro F fn hl hsc
  dsimp only at hsc
  clear hK
  walk_at "ms"
  refine iteT (decide_eq_true (by omega)) ?_
  walk_at "m"
  walk_at "m_raise"
  exact ⟨rfl, hx.now⟩

theorem read_some_01 (S : Sys W (Pre.h1.heap_1_1 P) gt01 bt01) {f : Nat} {data : List UInt8} (hz : data.length ≤ 100000)
    (ih : ∀ (at_ : Nat) (k : Nat) (l : List Env) (σ : Store) (Q : V → Store → Prop) (X : Store → Prop) (dep : Int), dep + f = 21 → (∀ v e, rdV data f at_ = some (v, e) → Gb (Q (.tup [v, .int e])) σ) → (rdV data f at_ = none → Gb X σ) → CC W (k + 2 * f + 7) l σ (.ref 122) [.bytes data, .int at_, .int dep] Q X)
    {at_ many : Nat} {dep : Int} (hle : at_ ≤ data.length) (hdep : dep + f + 1 = 21) (hq : ∀ vs e, rdMany (rdV data f) at_ (min many (data.length - at_ + 1)) = some (vs, e) → Gb (Q (.tup [.tup vs, .int e])) σ)
    (hx : rdMany (rdV data f) at_ (min many (data.length - at_ + 1)) = none → Gb X σ) :
    CC W (k + 2 * f + 8) l σ (.ref 115) [.bytes data, .int at_, .int many, .int dep] Q X := by
  have hK := W.hK
  rw [S.hK] at hK
  refine CC_def (ps := ["data", "at", "many", "depth"]) ⟨⟨_, hK 115 _ rfl, rfl⟩, ⟨_, _, _, _, rfl, hK 114 _ rfl, rfl, rfl⟩⟩ rfl rfl rfl rfl (bind4 fun _ _ _ _ => rfl) rfl (by decide) (by decide) rfl rfl rfl (by decide) ?_
  intro F fn hl hsc
  dsimp only at hsc
  clear hK
  walk_at "ms"
  refine iteF (decide_eq_false (by omega)) ?_
  walk_at "ms"
  refine ⟨by simp, ?_⟩
  walk_at "ms"
  refine S1_for (walk_sk fn (by assumption) (by rfl)) fn ?_ (fun _ => rfl)
  refine SIt_range (Sys.blt S (by walk_at "m_kind") (by rfl) (by rfl)) ?_
  walk_at "ms"
  refine CC_min ?_
  walk_at "ms"
  have hN : (min (many : Int) ((data.length : Int) - (at_ : Int) + 1) - 0).toNat = min many (data.length - at_ + 1) := by omega
  refine ⟨0, _, .inl ⟨rfl, rfl⟩, ⟨by decide, by decide, by omega, by omega⟩, ?_⟩
  rw [hN]
  have hNb : min many (data.length - at_ + 1) ≤ 100001 := by omega
  generalize hNe : min many (data.length - at_ + 1) = N at hq hx hNb
  clear hN hNe
  refine ⟨fun i ρ' σ' => ∃ (s : Nat) (c1 : List V) (g : Store), Sub [("data", .bytes data), ("at", .int at_), ("many", .int many), ("depth", .int dep), ("found", .obj σ.length), ("spot", .int s)] ρ' ∧ σ' = σ ++ .list c1 :: g ∧
      rdMany (rdV data f) at_ N = (match rdMany (rdV data f) s (N - i) with | none => none | some (c2, e) => some (c1 ++ c2, e)) ∧ c1.length = i ∧ i ≤ N,
    ⟨at_, [], [], ?_, rfl, ?_, rfl, Nat.zero_le _⟩, fun _ _ _ _ => trivial, ?_, ?_⟩
  · walk_at "m_sub"
  · rw [Nat.sub_zero]
    cases rdMany (rdV data f) at_ N <;> rfl
  · rintro i d ρ' σ' ⟨s, c1, g, hs, rfl, hgo, hl1, hi⟩ hd
    have hiN : i < N := by
      have := (List.getElem?_eq_some_iff.mp hd).1
      simpa using this
    rw [show N - i = (N - (i + 1)) + 1 by omega] at hgo
    simp only [rdMany] at hgo
    refine SS.sub ?_ hs.upd
    walk_at "ms"
    refine ih s k _ _ _ _ (dep + 1) (by omega) (fun v e1 hc g1 => ?_) fun hc g1 => ?_
    · rw [hc] at hgo
      simp only at hgo
      refine ⟨_, _, rfl, ?_⟩
      rw [app_mid]
      walk_at "ms"
      walk_at "m_appl"
      walk_at "ms"
      refine ⟨HasT.list get_mid, ?_⟩
      walk_at "ms"
      refine CC_append_list get_mid (by omega) ?_
      rw [set_mid]
      walk_at "ms"
      refine ⟨e1, c1 ++ [v], g ++ g1, ?_, rfl, ?_, by simp; omega, hiN⟩
      · walk_at "m_sub"
      · rw [hgo]
        cases rdMany (rdV data f) e1 (N - (i + 1)) <;> simp
    · rw [hc] at hgo
      rw [List.append_assoc]
      exact hx hgo _
  · rintro ρ' σ' ⟨s, c1, g, hs, rfl, hgo, hl1, hi⟩
    simp only [List.length_map, List.length_range, Nat.sub_self, rdMany, List.append_nil] at hl1 hi hgo
    refine SS.sub ?_ hs
    walk_at "ms"
    refine CC_tuple_list get_mid (by omega) ?_
    walk_at "ms"
    exact ⟨by simp, hq _ _ hgo _⟩

theorem read_value_01 (S : Sys W (Pre.h1.heap_1_1 P) gt01 bt01) (FO : FltOK W 59) {data : List UInt8} (hz : data.length ≤ 100000) : ∀ (f at_ : Nat) (k : Nat) (l : List Env) (σ : Store) (Q : V → Store → Prop) (X : Store → Prop) (dep : Int),
    dep + f = 21 → (∀ v e, rdV data f at_ = some (v, e) → Gb (Q (.tup [v, .int e])) σ) → (rdV data f at_ = none → Gb X σ) → CC W (k + 2 * f + 7) l σ (.ref 122) [.bytes data, .int at_, .int dep] Q X := by
  intro f
  induction f using Nat.strongRecOn with
  | ind f ih =>
  intro at_ k l σ Q X dep hdep hq hx
  unfold rdV at hq hx
  have hK := W.hK
  rw [S.hK] at hK
  refine CC_def (ps := ["data", "at", "depth"]) ⟨⟨_, hK 122 _ rfl, rfl⟩, ⟨_, _, _, _, rfl, hK 121 _ rfl, rfl, rfl⟩⟩ rfl rfl rfl rfl (bind3 fun _ _ _ => rfl) rfl (by decide) (by decide) rfl rfl rfl (by decide) ?_
  intro F fn hl hsc
  dsimp only at hsc
  clear hK
  walk_at "ms"
  by_cases h1 : data.length ≤ at_
  · rw [if_pos h1] at hx
    refine iteT (decide_eq_true (by omega)) ?_
    walk_at "m"
    walk_at "m_raise"
    exact ⟨rfl, (hx rfl).now⟩
  rw [if_neg h1] at hq hx
  simp only at hq hx
  refine iteF (decide_eq_false (by omega)) ?_
  walk_at "ms"
  refine ⟨by simp, ?_⟩
  refine CO_notIn (ns := [105, 116, 111, 114]) ?_
  by_cases h2 : ¬ ((data.getD at_ 0).toNat = 105 ∨ (data.getD at_ 0).toNat = 116 ∨ (data.getD at_ 0).toNat = 111 ∨ (data.getD at_ 0).toNat = 114)
  · rw [if_pos h2] at hx
    refine iteT ?_ ?_
    · simp only [List.any_cons, List.any_nil, Bool.or_false, Bool.not_eq_true', Bool.or_eq_false_iff, beq_eq_false_iff_ne, ne_eq]
      omega
    walk_at "m"
    walk_at "m_raise"
    exact ⟨rfl, (hx rfl).now⟩
  rw [if_neg h2] at hq hx
  have h2' := Decidable.not_not.mp h2
  refine iteF ?_ ?_
  · rcases h2' with h | h | h | h <;> rw [h] <;> rfl
  walk_at "ms"
  refine CC.le (read_count_01 (k := 0) (at_ := at_ + 1) S FO hz (fun many spot hc g => ?_) fun hc => ?_) (by omega)
  rotate_left
  · rw [hc] at hx
    exact hx rfl
  rw [hc] at hq hx
  simp only at hq hx
  obtain ⟨hs1, hs2⟩ := rdC_le hc
  refine ⟨_, _, rfl, ?_⟩
  walk_at "ms"
  by_cases hi : (data.getD at_ 0).toNat = 105
  · rw [if_pos hi] at hq
    refine iteT (decide_eq_true (by omega)) ?_
    walk_at "ms"
    refine CC.le (plain_number_01 (k := 0) S fun g1 => ?_) (by omega)
    walk_at "ms"
    refine ⟨by simp, ?_⟩
    rw [List.append_assoc]
    exact hq _ _ rfl _
  rw [if_neg hi] at hq hx
  refine iteF (decide_eq_false (by omega)) ?_
  walk_at "ms"
  by_cases ht : (data.getD at_ 0).toNat = 116
  · rw [if_pos ht] at hq hx
    refine iteT (decide_eq_true (by omega)) ?_
    walk_at "ms"
    refine CC.le (read_text_01 (k := 0) S FO hz hs2 (fun cs e hr => ?_) fun hr => ?_) (by omega)
    · rw [hr] at hq
      exact (hq _ _ rfl).more g
    · rw [hr] at hx
      exact (hx rfl).more g
  rw [if_neg ht] at hq hx
  refine iteF (decide_eq_false (by omega)) ?_
  walk_at "ms"
  by_cases hw : (data.getD at_ 0).toNat = 114
  · rw [if_pos hw] at hq hx
    refine iteT (decide_eq_true (by omega)) ?_
    walk_at "ms"
    cases f with
    | zero =>
      exact CC.le (read_deep_01 (k := 0) S FO (by omega) ((hx rfl).more g)) (by omega)
    | succ f =>
      simp only at hq hx
      refine CC.le (read_some_01 (k := k) S hz (fun at_ k l σ Q X dep h3 h4 h5 => ih f (by omega) at_ k l σ Q X dep h3 h4 h5) hs2 (by omega) (fun vs e hr => ?_) fun hr => ?_) (by omega)
      · rw [hr] at hq
        exact (hq _ _ rfl).more g
      · rw [hr] at hx
        exact (hx rfl).more g
  rw [if_neg hw] at hq hx
  refine iteF (decide_eq_false (by omega)) ?_
  walk_at "ms"
  by_cases hbig : data.length < spot + many
  · rw [if_pos hbig] at hx
    refine iteT (decide_eq_true (by omega)) ?_
    walk_at "m"
    walk_at "m_raise"
    exact ⟨rfl, hx rfl _⟩
  rw [if_neg hbig] at hq
  refine iteF (decide_eq_false (by omega)) ?_
  walk_at "ms"
  refine ⟨_, rfl, ?_⟩
  walk_at "ms"
  refine ⟨_, rfl, ?_⟩
  have hcut : cutB data (some (spot : Int)) (some ((spot : Int) + (many : Int))) = (data.drop spot).take many := by
    have := cut_nn (b := data) (i := spot) (j := spot + many)
    rw [show spot + many - spot = many by omega] at this
    exact this
  refine SSl_bytes (fun _ _ => rfl) (by omega) ?_
  rw [hcut]
  walk_at "ms"
  refine CC_bytes_bytes ?_
  walk_at "ms"
  exact ⟨by simp, hq _ _ rfl _⟩
end


theorem rdMany_mem {f : Nat → Option (V × Nat)} : ∀ (n s : Nat) (vs : List V) (e : Nat), rdMany f s n = some (vs, e) → vs.length = n ∧ ∀ v ∈ vs, ∃ s' e', f s' = some (v, e')
  | 0, s, vs, e, h => by simp only [rdMany, Option.some.injEq, Prod.mk.injEq] at h; obtain ⟨rfl, rfl⟩ := h; exact ⟨rfl, fun _ m => nomatch m⟩
  | n + 1, s, vs, e, h => by
    simp only [rdMany] at h
    cases hf : f s with
    | none => rw [hf] at h; cases h
    | some p =>
      obtain ⟨v, e1⟩ := p
      rw [hf] at h
      simp only at h
      cases hr : rdMany f e1 n with
      | none => rw [hr] at h; cases h
      | some q =>
        obtain ⟨r, e2⟩ := q
        rw [hr] at h
        simp only [Option.some.injEq, Prod.mk.injEq] at h
        obtain ⟨rfl, rfl⟩ := h
        obtain ⟨a, b⟩ := rdMany_mem n e1 r e2 hr
        exact ⟨by simp [a], fun x m => (List.mem_cons.mp m).elim (fun q => ⟨s, e1, q ▸ hf⟩) (b x)⟩
theorem rdV_good {data : List UInt8} {f at_ e : Nat} {v : V} (h : rdV data f at_ = some (v, e)) : (v.kind.isSome = true ∧ ∀ b, v ≠ .bool b) ∧ ∀ ds, v = .tup ds → ds.length ≤ data.length + 1 ∧ ∀ d ∈ ds, ∃ f' s' e', rdV data f' s' = some (d, e') := by
  unfold rdV at h
  split at h
  · cases h
  simp only at h
  split at h
  · cases h
  cases hc : rdC data (at_ + 1) with
  | none => rw [hc] at h; cases h
  | some p =>
    obtain ⟨many, spot⟩ := p
    rw [hc] at h
    simp only at h
    split at h
    · simp only [Option.some.injEq, Prod.mk.injEq] at h; obtain ⟨rfl, rfl⟩ := h
      exact ⟨⟨rfl, fun _ e => by cases e⟩, fun _ e => by cases e⟩
    split at h
    · cases hx : rdTgo data spot (min many (data.length - spot + 1)) with
      | none => rw [hx] at h; cases h
      | some q =>
        rw [hx] at h
        simp only [Option.some.injEq, Prod.mk.injEq] at h; obtain ⟨rfl, rfl⟩ := h
        exact ⟨⟨rfl, fun _ e => by cases e⟩, fun _ e => by cases e⟩
    split at h
    · cases f with
      | zero => cases h
      | succ f =>
        simp only at h
        cases hx : rdMany (rdV data f) spot (min many (data.length - spot + 1)) with
        | none => rw [hx] at h; cases h
        | some q =>
          obtain ⟨vs, e'⟩ := q
          rw [hx] at h
          simp only [Option.some.injEq, Prod.mk.injEq] at h; obtain ⟨rfl, rfl⟩ := h
          refine ⟨⟨rfl, fun _ e => by cases e⟩, fun ds e => ?_⟩
          cases e
          obtain ⟨a, b⟩ := rdMany_mem _ _ _ _ hx
          exact ⟨by omega, fun d m => let ⟨s', e', q⟩ := b d m; ⟨f, s', e', q⟩⟩
    split at h
    · cases h
    · simp only [Option.some.injEq, Prod.mk.injEq] at h; obtain ⟨rfl, rfl⟩ := h
      exact ⟨⟨rfl, fun _ e => by cases e⟩, fun _ e => by cases e⟩
def rowV : Option (V × Nat) → V
  | none => .none
  | some (v, e) => .tup [v, .int e]
section
variable {W : Wk} {P : Params} {k : Nat} {l : List Env} {σ : Store} {X : Store → Prop} {Q : V → Store → Prop}
theorem read_row_01 (S : Sys W (Pre.h1.heap_1_1 P) gt01 bt01) (FO : FltOK W 59) {b : List UInt8} (hz : b.length ≤ 100000) (hq : ∀ v, rdRow b = some v → Gb (Q v) σ) (hx : rdRow b = none → Gb X σ) : CC W (k + 52) l σ (.ref 143) [.bytes b] Q X := by
  unfold rdRow at hq hx
  have hK := W.hK
  rw [S.hK] at hK
  refine CC_def (ps := ["octets"]) ⟨⟨_, hK 143 _ rfl, rfl⟩, ⟨_, _, _, _, rfl, hK 142 _ rfl, rfl, rfl⟩⟩ rfl rfl rfl rfl (bind1 fun _ => rfl) rfl (by decide) (by decide) rfl rfl rfl (by decide) ?_
  intro F fn hl hsc
  dsimp only at hsc
  clear hK
  walk_at "ms"
  refine CC.le (read_value_01 S FO hz 20 0 0 _ _ _ _ 1 (by decide) (fun v' e hv g => ?_) fun hv => ?_) (by omega)
  rotate_left
  · rw [hv] at hx
    exact hx rfl
  rw [hv] at hq hx
  simp only at hq hx
  refine ⟨_, _, rfl, ?_⟩
  walk_at "ms"
  by_cases h1 : e < b.length
  · rw [if_pos h1] at hx
    refine iteT (decide_eq_true (by omega)) ?_
    walk_at "m"
    walk_at "m_raise"
    exact ⟨rfl, hx rfl _⟩
  rw [if_neg h1] at hq hx
  refine iteF (decide_eq_false (by omega)) ?_
  obtain ⟨g1, g2⟩ := rdV_good hv
  walk_at "ms"
  refine CC.le (is_row_01 (k := 0) S g1 (fun a r ha => ?_) fun g' => ?_) (by omega)
  · obtain ⟨x, y⟩ := g2 _ ha
    obtain ⟨f', s', e', q⟩ := y a (.head _)
    exact ⟨(rdV_good q).1.1, (rdV_good q).1.2, by simp at x; omega⟩
  · by_cases h2 : isRow v' = true
    · rw [if_pos h2] at hq
      rw [h2]
      walk_at "ms"
      refine iteF rfl ?_
      walk_at "ms"
      rw [List.append_assoc]
      exact hq _ rfl _
    · rw [if_neg h2] at hx
      rw [Bool.not_eq_true] at h2
      rw [h2]
      walk_at "ms"
      refine iteT rfl ?_
      walk_at "m"
      walk_at "m_raise"
      rw [List.append_assoc]
      exact ⟨rfl, hx rfl _⟩

theorem row_at_01 (S : Sys W (Pre.h1.heap_1_1 P) gt01 bt01) (FO : FltOK W 59) {data : List UInt8} {at_ : Nat} (hz : data.length ≤ 100000)
    (hq : Gb (Q (rowV (rowAt data at_))) σ) : CC W (k + 60) l σ (.ref 171) [.bytes data, .int at_] Q X := by
  unfold rowAt at hq
  have hK := W.hK
  rw [S.hK] at hK
  refine CC_def (ps := ["data", "at"]) ⟨⟨_, hK 171 _ rfl, rfl⟩, ⟨_, _, _, _, rfl, hK 170 _ rfl, rfl, rfl⟩⟩ rfl rfl rfl rfl (bind2 fun _ _ => rfl) rfl (by decide) (by decide) rfl rfl rfl (by decide) ?_
  intro F fn hl hsc
  dsimp only at hsc
  clear hK
  walk_at "ms"
  refine S1_tryN (X' := fun σ' => Q .none σ') fn FO (by walk_at "m_glb") ?_ (fun _ q => q)
  walk_at "ms"
  refine CC.le (read_count_01 (k := 0) S FO hz (fun count spot hp g => ?_) fun hp => ?_) (by omega)
  rotate_left
  · rw [hp] at hq
    exact hq
  have hle := rdC_le hp
  rw [hp] at hq
  simp only at hq
  refine ⟨_, _, rfl, ?_⟩
  walk_at "ms"
  by_cases h1 : data.length < spot + 4 + count
  · rw [if_pos h1] at hq
    refine iteT (decide_eq_true (by omega)) ?_
    walk_at "ms"
    exact hq g
  rw [if_neg h1] at hq
  refine iteF (decide_eq_false (by omega)) ?_
  walk_at "ms"
  refine ⟨_, rfl, ?_⟩
  walk_at "ms"
  refine ⟨_, rfl, ?_⟩
  have hcut : cutB data (some ((spot : Int) + 4)) (some ((spot : Int) + 4 + (count : Int))) = (data.drop (spot + 4)).take count := by
    have := cut_nn (b := data) (i := spot + 4) (j := spot + 4 + count)
    rw [show spot + 4 + count - (spot + 4) = count by omega] at this
    exact this
  refine SSl_bytes (fun _ _ => rfl) (by omega) ?_
  rw [hcut]
  walk_at "ms"
  refine CC_bytes_bytes ?_
  walk_at "ms"
  refine ⟨_, rfl, ?_⟩
  walk_at "ms"
  refine ⟨_, rfl, ?_⟩
  have hcut2 : cutB data (some (spot : Int)) (some ((spot : Int) + 4)) = (data.drop spot).take 4 := by
    have := cut_nn (b := data) (i := spot) (j := spot + 4)
    rw [show spot + 4 - spot = 4 by omega] at this
    exact this
  refine SSl_bytes (fun _ _ => rfl) (by omega) ?_
  rw [hcut2]
  walk_at "ms"
  refine CC_bytes_bytes ?_
  walk_at "ms"
  refine CC.le (adler_01 (k := 0) S fun g1 => ?_) (by omega)
  walk_at "ms"
  refine CC.le (sum_octets_01 (k := 0) S fun g2 => ?_) (by omega)
  walk_at "ms"
  by_cases h2 : (data.drop spot).take 4 ≠ sumO (adlN ((data.drop (spot + 4)).take count))
  · rw [if_pos h2] at hq
    refine iteT (decide_eq_true h2) ?_
    walk_at "ms"
    simp only [List.append_assoc]
    exact hq _
  rw [if_neg h2] at hq
  refine iteF (decide_eq_false h2) ?_
  walk_at "ms"
  refine CC.le (read_row_01 (k := 0) S FO (by simp; omega) (fun v hv g3 => ?_) fun hv g3 => ?_) (by omega)
  · rw [hv] at hq
    walk_at "ms"
    refine ⟨by simp, ?_⟩
    simp only [List.append_assoc]
    exact hq _
  · rw [hv] at hq
    simp only [List.append_assoc]
    exact hq _
end


theorem bits_200 {a : Int} (h0 : 0 ≤ a) (h1 : a < 2 ^ 200) : Builtin.Int.intBits a ≤ 200 := by
  obtain ⟨n, rfl⟩ := Int.eq_ofNat_of_zero_le h0
  unfold Builtin.Int.intBits
  split
  · omega
  · rename_i h
    have hn : n ≠ 0 := by intro q; subst q; exact h (by rfl)
    have : (n : Int).natAbs.log2 < 200 := (Nat.log2_lt (by omega)).mpr (by omega)
    omega
section
variable {W : Wk} {P : Params} {k : Nat} {l : List Env} {σ : Store} {X : Store → Prop} {Q : V → Store → Prop}
theorem law_take_01 (S : Sys W (Pre.h1.heap_1_1 P) gt01 bt01) {n : Nat} {x many : Int} (hn : σ[n]? = some (.list [.int x])) (hm : 0 < many) (hm2 : many < 1073741824) (hq : Q (.int (x % many)) (σ.set n (.list [.int (x / many)]))) : CC W (k + 1) l σ (.ref 178) [.obj n, .int many] Q X := by
  have hK := W.hK
  rw [S.hK] at hK
  refine CC_def (ps := ["bag", "many"]) ⟨⟨_, hK 178 _ rfl, rfl⟩, ⟨_, _, _, _, rfl, hK 177 _ rfl, rfl, rfl⟩⟩ rfl rfl rfl rfl (bind2 fun _ _ => rfl) rfl (by decide) (by decide) rfl rfl rfl (by decide) ?_
  intro F fn hl hsc
  dsimp only at hsc
  clear hK
  walk_at "ms"
  refine SI_obj (fun _ _ => rfl) hn (by decide) (by decide) rfl ?_
  walk_at "ms"
  refine BO_mod hm ?_
  walk_at "ms"
  refine SI_obj (fun _ _ => rfl) hn (by decide) (by decide) rfl ?_
  walk_at "ms"
  refine BO_div hm (PyProof.noPylong_small (by omega)) ?_
  walk_at "ms"
  refine ⟨n, 0, [.int x], rfl, rfl, by decide, by decide, hn, by show 0 < 1; decide, ?_⟩
  walk_at "ms"
  exact hq

theorem law_bag_01 (S : Sys W (Pre.h1.heap_1_1 P) gt01 bt01) (hz : W.ns.length ≤ 16777216) (hq : ∀ x g, Q (.obj (σ ++ g).length) ((σ ++ g) ++ [.list [.int x]])) : CC W (k + 1) l σ (.ref 185) [.src] Q X := by
  have hK := W.hK
  rw [S.hK] at hK
  refine CC_def (ps := ["script"]) ⟨⟨_, hK 185 _ rfl, rfl⟩, ⟨_, _, _, _, rfl, hK 184 _ rfl, rfl, rfl⟩⟩ rfl rfl rfl rfl (bind1 fun _ => rfl) rfl (by decide) (by decide) rfl rfl rfl (by decide) ?_
  intro F fn hl hsc
  dsimp only at hsc
  clear hK
  walk_at "ms"
  refine S1_for (walk_sk fn (by assumption) (by rfl)) fn ?_ (fun _ => rfl)
  refine SIt_obj ?_
  walk_at "ms"
  refine ⟨_, rfl, ?_⟩
  refine SSl_src (by decide) (fun _ _ => rfl) hz ?_
  refine ⟨_, _, rfl, get_last, fun i ρ' σ' => ∃ num : Int, Sub [("script", .src), ("number", .int num)] ρ' ∧ 0 ≤ num ∧ σ' = σ ++ [.list ((W.ns.take 30).map .int)], ⟨19, by walk_at "m_sub", by decide, rfl⟩, ?_, ?_, ?_⟩
  · rintro i ρ' σ' ⟨num, hs, h0, rfl⟩
    exact get_last
  · rintro i d ρ' σ' ⟨num, hs, h0, rfl⟩ hd
    obtain ⟨c, hc, rfl⟩ := by rw [List.getElem?_map] at hd; exact Option.map_eq_some_iff.mp hd
    refine SS.sub ?_ hs.upd
    walk_at "ms"
    refine BO_pow (by decide) (by decide) ?_
    refine BO_mod (Int.pow_pos (by decide)) ?_
    walk_at "ms"
    refine ⟨num * 1000003 + c % 10 ^ Int.toNat 80, by walk_at "m_sub", ?_, rfl⟩
    · have := Int.emod_nonneg c (show (10 : Int) ^ Int.toNat 80 ≠ 0 from Int.ne_of_gt (Int.pow_pos (by decide)))
      omega
  · rintro ρ' σ' ⟨num, hs, h0, rfl⟩
    refine SS.sub ?_ hs
    walk_at "ms"
    refine BO_pow (by decide) (by decide) ?_
    walk_at "ms"
    by_cases hbig : (10 : Int) ^ Int.toNat 50 < num
    · refine iteT (decide_eq_true hbig) ?_
      walk_at "ms"
      refine ⟨by simp, ?_⟩
      exact hq _ _
    · refine iteF (decide_eq_false hbig) ?_
      walk_at "ms"
      refine BO_pow (by decide) ?_ ?_
      · have hb : Builtin.Int.intBits num ≤ 200 := bits_200 h0 (Int.lt_of_le_of_lt (Int.not_lt.mp hbig) (by decide))
        omega
      walk_at "ms"
      refine BO_pow (by decide) (by decide) ?_
      walk_at "ms"
      refine ⟨by simp, ?_⟩
      exact hq _ _


theorem law_sums_01 (S : Sys W (Pre.h1.heap_1_1 P) gt01 bt01) {b : List UInt8} (hz : b.length ≤ 1000) (hq : Gb (Q (.bytes (sumO (adlN b)))) σ) : CC W (k + 1) l σ (.ref 202) [.bytes b] Q X := by
  have hK := W.hK
  rw [S.hK] at hK
  refine CC_def (ps := ["octets"]) ⟨⟨_, hK 202 _ rfl, rfl⟩, ⟨_, _, _, _, rfl, hK 201 _ rfl, rfl, rfl⟩⟩ rfl rfl rfl rfl (bind1 fun _ => rfl) rfl (by decide) (by decide) rfl rfl rfl (by decide) ?_
  intro F fn hl hsc
  dsimp only at hsc
  clear hK
  walk_at "ms"
  refine CC_sum_bytes (by omega) ?_
  walk_at "ms"
  refine SE_comp [("octets", .bytes b), ("many", .int b.length)] (free_of (xs := ["many", "octets"]) rfl (by intro x hx; simp only [List.mem_cons, List.not_mem_nil, or_false] at hx; rcases hx with rfl | rfl <;> walk_at "m_kind")) (by decide) rfl (by decide) (rho1 rfl rfl (rho1 rfl rfl rho0)) ?_ (fun _ => rfl)
  refine SIt_range (Sys.blt S (by walk_at "m_kind") (by rfl) (by rfl)) ?_
  walk_at "ms"
  refine ⟨0, _, .inl ⟨rfl, rfl⟩, ⟨by decide, by decide, by omega, by omega⟩, ?_⟩
  refine ⟨by simp; omega, fun i acc σ' => acc = (wsI b i).map .int ∧ σ' = σ ++ [.list acc], ⟨rfl, rfl⟩, ?_, ?_, ?_⟩
  · rintro i acc σ' ⟨rfl, rfl⟩
    exact ⟨trivial, get_last, by simp [wsI]⟩
  · rintro Fc ce i acc σ' d ⟨rfl, rfl⟩ hdi
    have hi : i < b.length := by
      have := (List.getElem?_eq_some_iff.mp hdi).1
      simp at this; omega
    obtain rfl : d = V.int (i : Nat) := by
      rw [List.getElem?_map, List.getElem?_range (by omega)] at hdi
      simp at hdi; rw [← hdi]
    refine ⟨_, ?_, SAsg_name (.inl (ce.loc _ rfl)), ?_⟩
    · walk_at "m_sub"
    refine CT_nil ?_
    walk_at "ms"
    have hc := (b.getD i 0).toNat_lt
    refine BO_mul (.of_left (small_bits (by omega) (by omega))) ?_
    refine ⟨get_last, ?_, ?_⟩
    · unfold wsI
      rw [List.range_succ, List.map_append, List.map_append]; rfl
    · rw [set_last]
  · rintro acc σ' ⟨rfl, rfl⟩
    walk_at "ms"
    have hlen : ((List.range ((b.length : Int) - 0).toNat).map fun (j : Nat) => V.int (0 + (j : Int))).length = b.length := by simp
    rw [hlen]
    refine CC_sum_list (ns := wsI b b.length) get_last ?_
    rw [wsI_sum, sums_low]
    walk_at "ms"
    refine ⟨by simp, ?_⟩
    walk_at "ms"
    have h1 : (sumsP b).1 % 65521 < 65521 := Nat.mod_lt _ (by decide)
    have h2 : (sumsP b).2 % 65521 < 65521 := Nat.mod_lt _ (by decide)
    have e1 : (1 + (sumB b : Int)) = ((sumsP b).1 : Int) := by rw [sumsP_eq]; push_cast; rfl
    have e2 : ((b.length : Int) + (wsm b : Int)) = ((sumsP b).2 : Int) := by rw [sumsP_eq]; push_cast; rfl
    rw [e1, e2]
    refine CC_bytes_list (ns := [((sumsP b).2 % 65521 / 256 : Nat), ((sumsP b).2 % 65521 % 256 : Nat), ((sumsP b).1 % 65521 / 256 : Nat), ((sumsP b).1 % 65521 % 256 : Nat)]) get_last ?_ (by simp) ?_
    · intro m hm
      simp only [List.mem_cons, List.not_mem_nil, or_false] at hm
      rcases hm with rfl | rfl | rfl | rfl <;> constructor <;> omega
    · rw [← sumO_adl, List.append_assoc]
      exact hq _
end


section
variable {W : Wk} {P : Params} {k : Nat} {l : List Env} {σ : Store} {X : Store → Prop} {Q : V → Store → Prop}
theorem law_at_01 (S : Sys W (Pre.h1.heap_1_1 P) gt01 bt01) (FO : FltOK W 59) {data : List UInt8} {at_ : Nat} (hz : data.length ≤ 1000) (hq : Gb (Q (rowV (rowAt data at_))) σ) : CC W (k + 60) l σ (.ref 207) [.bytes data, .int at_] Q X := by
  unfold rowAt at hq
  have hK := W.hK
  rw [S.hK] at hK
  refine CC_def (ps := ["data", "at"]) ⟨⟨_, hK 207 _ rfl, rfl⟩, ⟨_, _, _, _, rfl, hK 206 _ rfl, rfl, rfl⟩⟩ rfl rfl rfl rfl (bind2 fun _ _ => rfl) rfl (by decide) (by decide) rfl rfl rfl (by decide) ?_
  intro F fn hl hsc
  dsimp only at hsc
  clear hK
  walk_at "ms"
  refine S1_while (fun m ρ' σ' => ∃ (s : Nat), m = data.length - s ∧ ρ' = [("data", .bytes data), ("at", .int at_), ("spot", .int s)] ∧ σ' = σ ∧ rdCgo data s (sumTo data at_ (s - at_)) (128 ^ (s - at_)) = rdCgo data at_ 0 1 ∧ at_ ≤ s) (data.length - at_) ⟨at_, rfl, rfl, rfl, by rw [Nat.sub_self]; rfl, Nat.le_refl _⟩ ?_
  rintro m ρ' σ' ⟨s, rfl, rfl, rfl, hgo, hle⟩
  walk_at "ms"
  by_cases h1 : s < data.length
  · refine iteT (decide_eq_true (by omega)) ?_
    walk_at "ms"
    have hc := (data.getD s 0).toNat_lt
    by_cases h2 : 128 ≤ (data.getD s 0).toNat
    · refine iteT (decide_eq_true (by omega)) ?_
      walk_at "ms"
      refine iteT rfl ?_
      walk_at "ms"
      exact ⟨data.length - (s + 1), by omega, s + 1, rfl, rfl, rfl, sumTo_step hle h1 h2 hgo, by omega⟩
    · refine iteF (decide_eq_false (by omega)) ?_
      refine iteF rfl ?_
      have hrd := rdC_sumTo hle h1 (by omega) hgo
      walk_at "ms"
      refine iteF (decide_eq_false (by omega)) ?_
      walk_at "ms"
      refine (fun (rest : ¬ ((data.getD s 0).toNat = 0 ∧ at_ < s) → ?R) => ?main) ?tail
      case main =>
        by_cases h5 : at_ < s
        · refine iteT (decide_eq_true (by omega)) ?_
          walk_at "ms"
          by_cases h4 : (data.getD s 0).toNat = 0
          · refine iteT (decide_eq_true (by omega)) ?_
            walk_at "ms"
            refine iteT rfl ?_
            refine iteT rfl ?_
            walk_at "ms"
            rw [hrd, if_pos ⟨h4, h5⟩] at hq
            exact hq.now
          · refine iteF (decide_eq_false (by omega)) ?_
            refine iteF rfl ?_
            walk_at "ms"
            refine iteF rfl ?_
            exact rest (fun q => h4 q.1)
        · refine iteF (decide_eq_false (by omega)) ?_
          refine iteF rfl ?_
          walk_at "ms"
          refine iteF rfl ?_
          exact rest (fun q => h5 q.2)
      case tail =>
        intro h6
        rw [hrd, if_neg h6] at hq
        simp only at hq
        clear hrd hgo h6
        walk_at "ms"
        refine SE_comp [("data", .bytes data), ("at", .int at_)] (free_of (xs := ["at", "data"]) rfl (by intro x hx; simp only [List.mem_cons, List.not_mem_nil, or_false] at hx; rcases hx with rfl | rfl <;> walk_at "m_kind")) (by decide) rfl (by decide) (rho1 rfl rfl (rho1 rfl rfl rho0)) ?_ (fun _ => rfl)
        refine SIt_range (Sys.blt S (by walk_at "m_kind") (by rfl) (by rfl)) ?_
        walk_at "ms"
        refine ⟨at_, _, .inr rfl, ⟨by omega, by omega, by omega, by omega⟩, ?_⟩
        have hlen : ((s : Int) + 1 - (at_ : Int)).toNat = s + 1 - at_ := by omega
        rw [hlen]
        refine ⟨by simp; omega, fun i acc σ'' => acc = (cntI data at_ i).map .int ∧ σ'' = σ' ++ [.list acc], ⟨rfl, rfl⟩, ?_, ?_, ?_⟩
        · rintro i acc σ'' ⟨rfl, rfl⟩
          exact ⟨trivial, get_last, by simp [cntI]⟩
        · rintro Fc ce i acc σ'' d ⟨rfl, rfl⟩ hdi
          have hi : i < s + 1 - at_ := by
            have := (List.getElem?_eq_some_iff.mp hdi).1
            simpa using this
          obtain rfl : d = V.int ((at_ + i : Nat) : Int) := by
            rw [List.getElem?_map, List.getElem?_range hi] at hdi
            simp at hdi; rw [← hdi]; push_cast; rfl
          refine ⟨_, ?_, SAsg_name (.inl (ce.loc _ rfl)), ?_⟩
          · walk_at "m_sub"
          refine CT_nil ?_
          walk_at "ms"
          have hc := (data.getD (at_ + i) 0).toNat_lt
          refine BO_pow (by omega) (by rw [show Builtin.Int.intBits 128 = 8 by decide]; omega) ?_
          rw [show (((at_ + i : Nat) : Int) - (at_ : Int)).toNat = i by omega]
          refine BO_mul (.of_left (small_bits (by omega) (by omega))) ?_
          refine ⟨get_last, ?_, ?_⟩
          · unfold cntI
            rw [List.range_succ, List.map_append, List.map_append]; rfl
          · rw [set_last]
        · rintro acc σ'' ⟨rfl, rfl⟩
          walk_at "ms"
          rw [List.length_map, List.length_range]
          refine CC_sum_list (ns := cntI data at_ (s + 1 - at_)) get_last ?_
          rw [cntI_sum]
          generalize sumTo data at_ (s + 1 - at_) = cnt at hq
          generalize MO.list ((cntI data at_ (s + 1 - at_)).map V.int) = gm
          walk_at "ms"
          refine ⟨_, rfl, ?_⟩
          walk_at "ms"
          refine ⟨_, rfl, ?_⟩
          have hcut : cutB data (some ((s : Int) + 5)) (some ((s : Int) + 5 + (cnt : Int))) = (data.drop (s + 1 + 4)).take cnt := by
            have := cut_nn (b := data) (i := s + 5) (j := s + 5 + cnt)
            rw [show s + 5 + cnt - (s + 5) = cnt by omega] at this
            exact this
          refine SSl_bytes (fun _ _ => rfl) (by omega) ?_
          rw [hcut]
          walk_at "ms"
          by_cases h7 : data.length < s + 1 + 4 + cnt
          · rw [if_pos h7] at hq
            refine iteT (decide_eq_true (by omega)) ?_
            refine iteT rfl ?_
            walk_at "ms"
            exact hq _
          rw [if_neg h7] at hq
          refine iteF (decide_eq_false (by omega)) ?_
          walk_at "ms"
          refine ⟨_, rfl, ?_⟩
          walk_at "ms"
          refine ⟨_, rfl, ?_⟩
          have hcut2 : cutB data (some ((s : Int) + 1)) (some ((s : Int) + 5)) = (data.drop (s + 1)).take 4 := by
            have := cut_nn (b := data) (i := s + 1) (j := s + 5)
            rw [show s + 5 - (s + 1) = 4 by omega] at this
            exact this
          refine SSl_bytes (fun _ _ => rfl) (by omega) ?_
          rw [hcut2]
          walk_at "ms"
          refine CC.le (law_sums_01 (k := 0) S (by simp; omega) fun g1 => ?_) (by omega)
          walk_at "ms"
          by_cases h8 : (data.drop (s + 1)).take 4 ≠ sumO (adlN ((data.drop (s + 1 + 4)).take cnt))
          · rw [if_pos h8] at hq
            refine iteT (decide_eq_true h8) ?_
            refine iteT rfl ?_
            walk_at "ms"
            rw [List.append_assoc]
            exact hq _
          rw [if_neg h8] at hq
          refine iteF (decide_eq_false h8) ?_
          walk_at "ms"
          refine iteF rfl ?_
          walk_at "ms"
          refine S1_tryN (X' := fun σ' => Q .none σ') fn FO (by walk_at "m_glb") ?_ (fun _ q => q)
          walk_at "ms"
          refine CC.le (read_row_01 (k := 0) S FO (by simp; omega) (fun v hv g3 => ?_) fun hv g3 => ?_) (by omega)
          · rw [hv] at hq
            walk_at "ms"
            refine ⟨by simp, ?_⟩
            rw [show (s : Int) + 5 + (cnt : Int) = ((s + 1 + 4 + cnt : Nat) : Int) by omega]
            simp only [List.append_assoc]
            exact hq _
          · rw [hv] at hq
            simp only [List.append_assoc]
            exact hq _
  · refine iteF (decide_eq_false (by omega)) ?_
    refine iteF rfl ?_
    walk_at "ms"
    refine iteT (decide_eq_true (by omega)) ?_
    refine iteT rfl ?_
    walk_at "ms"
    rw [rdC_over (by omega) hgo] at hq
    exact hq.now
end


section
variable {W : Wk} {P : Params} {k : Nat} {l : List Env} {σ : Store} {X : Store → Prop} {Q : V → Store → Prop}
theorem law_is_read_01 (S : Sys W (Pre.h1.heap_1_1 P) gt01 bt01) (FO : FltOK W 59) {data : List UInt8} (hz : data.length ≤ 1000) (hq : Gb (Q (.bool true)) σ) : CC W (k + 63) l σ (.ref 212) [.bytes data] Q X := by
  have hK := W.hK
  rw [S.hK] at hK
  refine CC_def (ps := ["data"]) ⟨⟨_, hK 212 _ rfl, rfl⟩, ⟨_, _, _, _, rfl, hK 211 _ rfl, rfl, rfl⟩⟩ rfl rfl rfl rfl (bind1 fun _ => rfl) rfl (by decide) (by decide) rfl rfl rfl (by decide) ?_
  intro F fn hl hsc
  dsimp only at hsc
  clear hK
  walk_at "ms"
  refine SE_comp [("data", .bytes data)] (free_of (xs := ["data"]) rfl (by intro x hx; rw [List.mem_singleton.mp hx]; walk_at "m_kind")) (by decide) rfl (by decide) (rho1 rfl rfl rho0) ?_ (fun _ => rfl)
  refine SIt_range (Sys.blt S (by walk_at "m_kind") (by rfl) (by rfl)) ?_
  walk_at "ms"
  refine ⟨0, _, .inl ⟨rfl, rfl⟩, ⟨by decide, by decide, by omega, by omega⟩, ?_⟩
  refine ⟨by simp; omega, fun i acc σ' => acc = [] ∧ ∃ g, σ' = σ ++ .list [] :: g, ⟨rfl, [], rfl⟩, ?_, ?_, ?_⟩
  · rintro i acc σ' ⟨rfl, g, rfl⟩
    exact ⟨trivial, get_mid, by simp⟩
  · rintro Fc ce i acc σ' d ⟨rfl, g, rfl⟩ hdi
    obtain rfl : d = V.int (i : Nat) := by
      have hi := (List.getElem?_eq_some_iff.mp hdi).1
      rw [List.length_map, List.length_range] at hi
      rw [List.getElem?_map, List.getElem?_range hi] at hdi
      simp at hdi; rw [← hdi]
    refine ⟨_, ?_, SAsg_name (.inl (ce.loc _ rfl)), ?_⟩
    · walk_at "m_sub"
    refine CT_one ?_
    walk_at "ms"
    refine CC.le (row_at_01 (k := 0) S FO (by omega) fun g1 => ?_) (by omega)
    walk_at "ms"
    refine CC.le (law_at_01 (k := 0) S FO hz fun g2 => ?_) (by omega)
    have fin : ∃ g', σ ++ MO.list [] :: g ++ g1 ++ g2 = σ ++ MO.list [] :: g' := ⟨g ++ g1 ++ g2, by simp⟩
    cases hr : rowAt data i with
    | none => exact CO_neN (iteF rfl ⟨rfl, fin⟩)
    | some p =>
      obtain ⟨v, e⟩ := p
      refine CO_neT (n := 21) ?_ (by decide) (iteF rfl ⟨rfl, fin⟩)
      simp only [V.pures, rowAt_pure hr, V.pure, Bool.and_self]
  · rintro acc σ' ⟨rfl, g, rfl⟩
    walk_at "ms"
    refine ⟨by simp, ?_⟩
    refine CO_eqL (by simp) get_last ?_
    rw [List.append_assoc]
    exact hq _

theorem junk_get {n : Nat} (h : n < 10) {a : Int} {P : V → Prop} (hp : ∀ m : Int, (m = a ∨ (0 ≤ m ∧ m < 256)) → P (.int m)) :
    ∃ d, [V.int 0, .int 1, .int 4, .int 7, .int 114, .int 116, .int 128, .int 129, .int 255, .int a][n]? = some d ∧ P d := by
  match n, h with
  | 0, _ => exact ⟨_, rfl, hp _ (.inr (by decide))⟩
  | 1, _ => exact ⟨_, rfl, hp _ (.inr (by decide))⟩
  | 2, _ => exact ⟨_, rfl, hp _ (.inr (by decide))⟩
  | 3, _ => exact ⟨_, rfl, hp _ (.inr (by decide))⟩
  | 4, _ => exact ⟨_, rfl, hp _ (.inr (by decide))⟩
  | 5, _ => exact ⟨_, rfl, hp _ (.inr (by decide))⟩
  | 6, _ => exact ⟨_, rfl, hp _ (.inr (by decide))⟩
  | 7, _ => exact ⟨_, rfl, hp _ (.inr (by decide))⟩
  | 8, _ => exact ⟨_, rfl, hp _ (.inr (by decide))⟩
  | 9, _ => exact ⟨_, rfl, hp _ (.inl rfl)⟩
theorem get_two {σ r t : Store} {a b m : MO} : (σ ++ a :: r ++ m :: t)[(σ ++ b :: r).length]? = some m := by
  rw [show (σ ++ b :: r).length = (σ ++ a :: r).length by simp]; exact get_mid
theorem set_two {σ r t : Store} {a b m n : MO} : (σ ++ a :: r ++ m :: t).set (σ ++ b :: r).length n = σ ++ a :: r ++ n :: t := by
  rw [show (σ ++ b :: r).length = (σ ++ a :: r).length by simp]; exact set_mid
theorem get_three {σ r t : Store} {a a' b b' m : MO} : (σ ++ a :: r ++ b :: (t ++ [m]))[(σ ++ a' :: r ++ b' :: t).length]? = some m := by
  rw [show (σ ++ a' :: r ++ b' :: t).length = ((σ ++ a :: r ++ b :: t)).length by simp, show σ ++ a :: r ++ b :: (t ++ [m]) = (σ ++ a :: r ++ b :: t) ++ [m] by simp]; exact get_last
theorem get_one {σ r t : Store} {a : MO} : (σ ++ a :: r ++ t)[σ.length]? = some a := by simp
theorem set_one {σ r t : Store} {a b : MO} : (σ ++ a :: r ++ t).set σ.length b = σ ++ b :: r ++ t := by simp

theorem law_junk_01 (S : Sys W (Pre.h1.heap_1_1 P) gt01 bt01) {x : Int} {g : Store} (hq : ∀ (b : List UInt8) (y : Int) (g' : Store), b.length ≤ 3 → Q (.bytes b) (σ ++ .list [.int y] :: (g ++ g'))) :
    CC W (k + 3) l (σ ++ .list [.int x] :: g) (.ref 190) [.obj σ.length] Q X := by
  have hK := W.hK
  rw [S.hK] at hK
  refine CC_def (ps := ["bag"]) ⟨⟨_, hK 190 _ rfl, rfl⟩, ⟨_, _, _, _, rfl, hK 189 _ rfl, rfl, rfl⟩⟩ rfl rfl rfl rfl (bind1 fun _ => rfl) rfl (by decide) (by decide) rfl rfl rfl (by decide) ?_
  intro F fn hl hsc
  dsimp only at hsc
  clear hK
  walk_at "ms"
  refine SE_comp [("bag", .obj σ.length)] (free_of (xs := ["bag"]) rfl (by intro x hx; rw [List.mem_singleton.mp hx]; walk_at "m_kind")) (by decide) rfl (by decide) (rho1 rfl rfl rho0) ?_ (fun _ => rfl)
  refine SIt_range (Sys.blt S (by walk_at "m_kind") (by rfl) (by rfl)) ?_
  walk_at "ms"
  refine CC.le (law_take_01 (k := 0) S get_mid (by decide) (by decide) ?_) (by omega)
  rw [set_mid]
  walk_at "ms"
  have hm1 := Int.emod_nonneg x (show (4 : Int) ≠ 0 by decide)
  have hm2 := Int.emod_lt_of_pos x (show (0 : Int) < 4 by decide)
  refine ⟨0, _, .inl ⟨rfl, rfl⟩, ⟨by decide, by decide, by omega, by omega⟩, ?_⟩
  refine ⟨by simp; omega, fun i acc σ' => ∃ (ns : List Int) (y : Int) (g2 : Store), acc = ns.map .int ∧ (∀ n ∈ ns, 0 ≤ n ∧ n < 256) ∧ ns.length = i ∧ σ' = (σ ++ .list [.int y] :: g) ++ .list acc :: g2, ⟨[], _, [], rfl, by simp, rfl, rfl⟩, ?_, ?_, ?_⟩
  · rintro i acc σ' ⟨ns, y, g2, rfl, hns, hl1, rfl⟩
    exact ⟨trivial, get_two, by simp; omega⟩
  · rintro Fc ce i acc σ' d ⟨ns, y, g2, rfl, hns, hl1, rfl⟩ hdi
    refine ⟨_, ?_, SAsg_name (.inl (ce.loc _ rfl)), ?_⟩
    · walk_at "m_sub"
    refine CT_nil ?_
    walk_at "ms"
    refine CC.le (law_take_01 (k := 0) S get_one (by decide) (by decide) ?_) (by omega)
    rw [set_one]
    have ha1 := Int.emod_nonneg y (show (256 : Int) ≠ 0 by decide)
    have ha2 := Int.emod_lt_of_pos y (show (0 : Int) < 256 by decide)
    generalize y % 256 = a at ha1 ha2
    generalize y / 256 = y1
    walk_at "ms"
    refine ⟨by simp, ?_⟩
    walk_at "ms"
    refine CC.le (law_take_01 (k := 0) S (by rw [List.append_assoc]; exact get_one) (by decide) (by decide) ?_) (by omega)
    rw [List.append_assoc (σ ++ _ :: g), set_one, List.cons_append]
    have hb1 := Int.emod_nonneg y1 (show (10 : Int) ≠ 0 by decide)
    have hb2 := Int.emod_lt_of_pos y1 (show (0 : Int) < 10 by decide)
    generalize y1 % 10 = b at hb1 hb2
    generalize y1 / 10 = y2
    obtain ⟨d, hd, hp⟩ := junk_get (n := b.toNat) (by omega) (a := a) (P := fun d => ∃ m : Int, d = .int m ∧ 0 ≤ m ∧ m < 256) (fun m hm => ⟨m, rfl, by omega⟩)
    obtain ⟨m, rfl, hm1, hm2⟩ := hp
    refine SI_obj (fun _ _ => rfl) (get_three (r := g) (t := g2)) hb1 (by omega) hd ?_
    have hall : ∀ n ∈ ns ++ [m], 0 ≤ n ∧ n < 256 := by
      intro n hn
      rcases List.mem_append.mp hn with h | h
      · exact hns n h
      · rw [List.mem_singleton.mp h]; exact ⟨hm1, hm2⟩
    have hmap : (ns ++ [m]).map V.int = ns.map V.int ++ [V.int m] := by simp
    exact ⟨get_two, ns ++ [m], y2, _, hmap.symm, hall, by simp; omega, set_two⟩
  · rintro acc σ' ⟨ns, y, g2, rfl, hns, hl1, rfl⟩
    have hl2 : ns.length ≤ 3 := by rw [hl1]; simp; omega
    walk_at "ms"
    refine CC_bytes_list get_two hns (by omega) ?_
    have hob : (octs ns).length ≤ 3 := by simp [octs]; exact hl2
    rw [List.append_assoc]
    exact hq _ _ _ hob
end


section
variable {W : Wk} {P : Params} {k : Nat} {l : List Env} {σ : Store} {X : Store → Prop} {Q : V → Store → Prop}
theorem framed_G_01 (S : Sys W (Pre.h1.heap_1_1 P) gt01 bt01) {R : V} (h : rowG R) (hq : Gb (Q (.bytes (frmO R))) σ) : CC W (k + 31) l σ (.ref 164) [R] Q X := by
  obtain ⟨x, ds, rfl, h1, h2, h3⟩ := h
  exact framed_01 S (n := 2) (by decide) h1 (by omega) hq
theorem rows_get {n : Nat} (h : n < 4) {a b c d : V} {P : V → Prop} (ha : P a) (hb : P b) (hc : P c) (hd : P d) : ∃ r, [a, b, c, d][n]? = some r ∧ P r := by
  match n, h with
  | 0, _ => exact ⟨_, rfl, ha⟩
  | 1, _ => exact ⟨_, rfl, hb⟩
  | 2, _ => exact ⟨_, rfl, hc⟩
  | 3, _ => exact ⟨_, rfl, hd⟩

theorem if_mono {F : Fm} {ρ : LEnv} {c : Bool} {b o : List Stmt} {Qn Qn' : LEnv → Store → Prop} {Qr : V → Store → Prop} (hT : c = true → SX W k F ρ σ b Qn' Qr X) (hE : c = false → SX W k F ρ σ o Qn' Qr X) (hn : ∀ ρ' σ', Qn' ρ' σ' → Qn ρ' σ') :
    if c = true then SX W k F ρ σ b Qn Qr X else SX W k F ρ σ o Qn Qr X := by
  cases c with
  | true => exact iteT rfl ((hT rfl).mono hn (fun _ _ q => q) fun _ q => q)
  | false => exact iteF rfl ((hE rfl).mono hn (fun _ _ q => q) fun _ q => q)

theorem law_laid_01 (S : Sys W (Pre.h1.heap_1_1 P) gt01 bt01) {x : Int} {g : Store} (hq : ∀ (data : List UInt8) (ps : List V) (y y0 : Int) (G g' : Store), data.length ≤ 200 → (∀ p ∈ ps, PlaceOK data p) → ps.length ≤ 3 →
      Q (.tup [.bytes data, .obj (σ ++ .list [.int y0] :: G).length]) (σ ++ .list [.int y] :: G ++ .list ps :: g')) :
    CC W (k + 40) l (σ ++ .list [.int x] :: g) (.ref 197) [.obj σ.length] Q X := by
  have hK := W.hK
  rw [S.hK] at hK
  refine CC_def (ps := ["bag"]) ⟨⟨_, hK 197 _ rfl, rfl⟩, ⟨_, _, _, _, rfl, hK 196 _ rfl, rfl, rfl⟩⟩ rfl rfl rfl rfl (bind1 fun _ => rfl) rfl (by decide) (by decide) rfl rfl rfl (by decide) ?_
  intro F fn hl hsc
  dsimp only at hsc
  clear hK
  walk_at "ms"
  refine CC.le (law_junk_01 (k := 0) S fun d0 y0 g0 hd0 => ?_) (by omega)
  generalize g ++ g0 = G
  walk_at "ms"
  refine ⟨by simp, ?_⟩
  walk_at "ms"
  refine ⟨by simp, ?_⟩
  refine ⟨_, _, rfl, ?_⟩
  walk_at "ms"
  refine S1_for (walk_sk fn (by assumption) (by rfl)) fn ?_ (fun _ => rfl)
  refine SIt_range (Sys.blt S (by walk_at "m_kind") (by rfl) (by rfl)) ?_
  walk_at "ms"
  refine CC.le (law_take_01 (k := 0) S get_one (by decide) (by decide) ?_) (by omega)
  rw [set_one]
  have hm1 := Int.emod_nonneg y0 (show (3 : Int) ≠ 0 by decide)
  have hm2 := Int.emod_lt_of_pos y0 (show (0 : Int) < 3 by decide)
  generalize y0 % 3 = mt at hm1 hm2
  generalize y0 / 3 = y1
  walk_at "ms"
  refine ⟨0, _, .inl ⟨rfl, rfl⟩, ⟨by decide, by decide, by omega, by omega⟩, ?_⟩
  refine ⟨fun i ρ' σ' => ∃ (data : List UInt8) (ps : List V) (y : Int) (g2 : Store), Sub [("bag", .obj σ.length), ("places", .obj (σ ++ MO.list [V.int y0] :: G).length), ("data", .bytes data)] ρ' ∧ σ' = σ ++ .list [.int y] :: G ++ .list ps :: g2 ∧ data.length ≤ 3 + 30 * i ∧ (∀ p ∈ ps, PlaceOK data p) ∧ ps.length ≤ i,
    ⟨d0, [], y1, [], ?_, rfl, by omega, by simp, Nat.zero_le _⟩, fun _ _ _ _ => trivial, ?_, ?_⟩
  · walk_at "m_sub"
  · rintro i d ρ' σ' ⟨data, ps, y, g2, hs, rfl, hdl, hps, hpl⟩ hd
    have hi : i < 3 := by
      have := (List.getElem?_eq_some_iff.mp hd).1
      simp at this; omega
    clear hd
    refine SS.sub ?_ hs.upd
    walk_at "ms"
    refine ⟨by simp, ?_⟩
    walk_at "ms"
    refine CC.le (law_take_01 (k := 0) S get_one (by decide) (by decide) ?_) (by omega)
    rw [set_one]
    have ha1 := Int.emod_nonneg y (show (300 : Int) ≠ 0 by decide)
    have ha2 := Int.emod_lt_of_pos y (show (0 : Int) < 300 by decide)
    generalize y % 300 = z at ha1 ha2
    generalize y / 300 = y2
    walk_at "ms"
    refine ⟨by simp, ?_⟩
    walk_at "ms"
    refine ⟨by simp, ?_⟩
    walk_at "ms"
    refine ⟨by simp, ?_⟩
    walk_at "ms"
    refine ⟨by simp, ?_⟩
    walk_at "ms"
    refine ⟨by simp, ?_⟩
    walk_at "ms"
    refine ⟨by simp, ?_⟩
    walk_at "ms"
    refine CC.le (law_take_01 (k := 0) S (by rw [List.append_assoc]; exact get_one) (by decide) (by decide) ?_) (by omega)
    rw [List.append_assoc (σ ++ _ :: G), set_one, List.cons_append]
    have hb1 := Int.emod_nonneg y2 (show (4 : Int) ≠ 0 by decide)
    have hb2 := Int.emod_lt_of_pos y2 (show (0 : Int) < 4 by decide)
    generalize y2 % 4 = b at hb1 hb2
    generalize y2 / 4 = y3
    obtain ⟨R, hR, hG⟩ := rows_get (n := b.toNat) (by omega) rowG_a (rowG_bc (z := z - 150) (by omega) (by omega)) rowG_d rowG_x
    refine SI_obj (fun _ _ => rfl) (get_three (r := G) (t := g2)) hb1 (by omega) hR ?_
    clear hR ha1 ha2 hb1 hb2
    generalize g2 ++ [_] = g2
    walk_at "ms"
    refine CC.le (framed_G_01 (k := 0) S hG fun g3 => ?_) (by omega)
    rw [List.append_assoc (σ ++ _ :: G), List.cons_append]
    generalize g2 ++ g3 = g2
    obtain ⟨-, hf1, hf2⟩ := hG.frm
    walk_at "ms"
    refine CC.le (law_take_01 (k := 0) S get_one (by decide) (by decide) ?_) (by omega)
    rw [set_one]
    generalize y3 / 4 = y4
    walk_at "ms"
    refine if_mono (Qn' := fun ρ' σ' => ∃ (fr : List UInt8) (ps' : List V) (y' : Int) (g' : Store), Sub [("bag", .obj σ.length), ("places", .obj (σ ++ MO.list [V.int y0] :: G).length), ("data", .bytes data), ("frame", .bytes fr)] ρ' ∧ σ' = σ ++ .list [.int y'] :: G ++ .list ps' :: g' ∧
      fr.length ≤ 25 ∧ (∀ p ∈ ps', PlaceOK (data ++ fr) p) ∧ ps'.length ≤ i + 1) (fun h => ?_) (fun h => ?_) ?_
    · walk_at "ms"
      refine CC.le (law_take_01 (k := 0) S get_one (by omega) (by omega) ?_) (by omega)
      rw [set_one]
      obtain ⟨j, hj, hj2⟩ := nat_of (x := y4) (m := ((frmO R).length : Nat)) (by omega)
      rw [hj]
      refine ⟨_, rfl, ?_⟩
      refine SSl_bytes (fun _ _ => rfl) (by omega) ?_
      rw [cut_0n]
      walk_at "ms"
      refine ⟨(frmO R).take j, ps, _, g2, ?_, rfl, ?_, fun p hp => (hps p hp).more _, by omega⟩
      · walk_at "m_sub"
      · rw [List.length_take]; omega
    · walk_at "ms"
      walk_at "m_appl"
      walk_at "ms"
      refine ⟨HasT.list get_two, ?_⟩
      walk_at "ms"
      refine ⟨by simp, ?_⟩
      refine CC_append_list get_two (by omega) ?_
      rw [set_two]
      walk_at "ms"
      refine ⟨frmO R, _, _, g2, ?_, rfl, by omega, ?_, ?_⟩
      · walk_at "m_sub"
      · intro p hp
        rcases List.mem_append.mp hp with hp | hp
        · exact (hps p hp).more _
        · rw [List.mem_singleton.mp hp]
          exact ⟨data, R, [], hG, by push_cast; rfl, by simp⟩
      · rw [List.length_append, List.length_singleton]; omega
    · rintro ρ' σ' ⟨fr, ps', y', g', hs', rfl, h1, h2, h3⟩
      refine SS.sub ?_ hs'
      walk_at "ms"
      refine BO_addB (by omega) ?_
      walk_at "ms"
      rw [List.append_assoc, List.cons_append]
      refine CC.le (law_junk_01 (k := 0) S fun jk y5 g4 hjk => ?_) (by omega)
      refine BO_addB (by rw [List.length_append]; omega) ?_
      walk_at "ms"
      refine ⟨data ++ fr ++ jk, ps', y5, g' ++ g4, ?_, by simp, ?_, fun p hp => (h2 p hp).more _, h3⟩
      · walk_at "m_sub"
      · rw [List.length_append, List.length_append]; omega
  · rintro ρ' σ' ⟨data, ps, y, g2, hs, rfl, hdl, hps, hpl⟩
    simp only [List.length_map, List.length_range] at hdl hpl
    refine SS.sub ?_ hs
    walk_at "ms"
    refine ⟨by simp, ?_⟩
    exact hq _ _ _ _ _ _ (by omega) hps (by omega)
end


section
variable {W : Wk} {P : Params} {k : Nat} {l : List Env} {σ : Store} {X : Store → Prop} {Q : V → Store → Prop}
theorem CO_row {R : V} {n : Nat} {z : Int} {QB : Bool → Store → Prop} (hp : V.pure R 3 = true) (hz : z = (n : Int)) (h : QB false σ) : CO W k l σ .NotEq (rowV (some (R, n))) (.tup [R, .int z]) QB X := by
  subst hz
  exact CO_neT (n := 3) (by simp [V.pures, hp, V.pure]) (by decide) h
theorem cut_m1 {b : List UInt8} (h : 1 ≤ b.length) : cutB b none (some (-1)) = b.take (b.length - 1) := by
  have e : clipAt b.length (-1) = b.length - 1 := by unfold clipAt; simp; omega
  unfold cutB
  simp only [Option.elim_none, Option.elim_some, e, List.drop_zero, Nat.sub_zero]

theorem law_01 (S : Sys W (Pre.h1.heap_1_1 P) gt01 bt01) (FO : FltOK W 59) (hz : W.ns.length ≤ 16777216) (hq : ∀ σ', Q (.bool true) σ') : CC W (k + 101) l σ (.ref 217) [.src] Q X := by
  have hK := W.hK
  rw [S.hK] at hK
  refine CC_def (ps := ["script"]) ⟨⟨_, hK 217 _ rfl, rfl⟩, ⟨_, _, _, _, rfl, hK 216 _ rfl, rfl, rfl⟩⟩ rfl rfl rfl rfl (bind1 fun _ => rfl) rfl (by decide) (by decide) rfl rfl rfl (by decide) ?_
  intro F fn hl hsc
  dsimp only at hsc
  clear hK
  have rowat : ∀ (a : Nat) (r : Option (V × Nat)) (l : List Env) (σ : Store) (Q : V → Store → Prop) (X : Store → Prop) (data : List UInt8) (z : Int), z = (a : Int) → rowAt data a = r → data.length ≤ 1000 → Gb (Q (rowV r)) σ → CC W (k + 100) l σ (.ref 171) [.bytes data, .int z] Q X := by
    intro a r l σ Q X data z h1 h2 h3 h4
    subst h1 h2
    exact CC.le (row_at_01 (k := 0) S FO (by omega) h4) (by omega)
  walk_at "ms"
  refine ⟨by simp, ?_⟩
  walk_at "ms"
  refine CC.le (framed_G_01 (k := 0) S rowG_a fun g0 => ?_) (by omega)
  walk_at "ms"
  refine ⟨_, rfl, ?_⟩
  walk_at "ms"
  refine ⟨by simp, ?_⟩
  walk_at "ms"
  have hGb := rowG_bc (z := -5) (by decide) (by decide)
  refine CC.le (framed_G_01 (k := 0) S hGb fun g1 => ?_) (by omega)
  rw [List.append_assoc]
  generalize g0 ++ g1 = g1
  walk_at "ms"
  refine ⟨by simp, _, _, rfl, ?_⟩
  walk_at "ms"
  refine ⟨by simp, ?_⟩
  walk_at "ms"
  refine CC_bytes_list (ns := [128, 7]) get_last (by decide) (by simp) ?_
  rw [show octs [128, 7] = [128, 7] from rfl]
  obtain ⟨-, ha1, ha2⟩ := rowG_a.frm
  obtain ⟨-, hb1, hb2⟩ := hGb.frm
  have f4 := fun m => log_one (m := m)
  have f1 := fun suf => rowG_a.at (pre := [128, 7]) (suf := suf) rfl
  have f2 := fun pre => hGb.at (pre := pre) (suf := []) rfl
  have f3 := fun pre => hGb.cut (pre := pre) (j := (frmO (.tup [.str (Str.ofString "bc"), .int (-5)])).length - 1) (by omega) (by omega) rfl
  generalize frmO (.tup [.str (Str.ofString "a")]) = fa at *
  generalize frmO (.tup [.str (Str.ofString "bc"), .int (-5)]) = fb at *
  walk_at "ms"
  refine BO_addB (by simp; omega) ?_
  walk_at "ms"
  refine BO_addB (by simp; omega) ?_
  walk_at "ms"
  refine BO_addB (by simp; omega) ?_
  have hlog : ([128, 7] ++ fa ++ [116] ++ fb : List UInt8).length = 3 + fa.length + fb.length := by simp; omega
  have r1 : rowAt ([128, 7] ++ fa ++ [116] ++ fb) 2 = some (.tup [.str (Str.ofString "a")], 2 + fa.length) := by
    have := f1 ([116] ++ fb)
    rw [List.append_assoc]
    exact this
  have r2 : rowAt ([128, 7] ++ fa ++ [116] ++ fb) (3 + fa.length) = some (.tup [.str (Str.ofString "bc"), .int (-5)], 3 + fa.length + fb.length) := by
    have := f2 ([128, 7] ++ fa ++ [116])
    rw [List.append_nil, show ([128, 7] ++ fa ++ [116] : List UInt8).length = 3 + fa.length by simp; omega] at this
    exact this
  have r3 : rowAt (([128, 7] ++ fa ++ [116] ++ fb).take (3 + fa.length + fb.length - 1)) (3 + fa.length) = none := by
    have := f3 ([128, 7] ++ fa ++ [116])
    rw [show ([128, 7] ++ fa ++ [116] : List UInt8).length = 3 + fa.length by simp; omega] at this
    rw [List.take_append, show ([128, 7] ++ fa ++ [116] : List UInt8).length = 3 + fa.length by simp; omega, List.take_of_length_le (by simp; omega), show 3 + fa.length + fb.length - 1 - (3 + fa.length) = fb.length - 1 by omega]
    exact this
  have r4 : rowAt ([128, 7] ++ fa ++ [116] ++ fb) 1 = none := by
    have := f4 fb
    rw [List.append_assoc ([128, 7] ++ fa)]
    exact this
  clear f1 f2 f3 f4
  generalize [128, 7] ++ fa ++ [116] ++ fb = log at *
  rw [List.append_assoc]
  generalize g1 ++ [_] = g1
  walk_at "ms"
  refine rowat 2 _ _ _ _ _ _ _ rfl r1 (by omega) fun g2 => ?_
  rw [List.append_assoc]
  generalize g1 ++ g2 = g1
  walk_at "ms"
  refine ⟨by simp, ?_⟩
  walk_at "ms"
  refine ⟨by simp, ?_⟩
  refine CO_row (by simp [V.pure, V.pures]) (by push_cast; rfl) ?_
  refine iteF rfl ?_
  walk_at "ms"
  refine rowat (3 + fa.length) _ _ _ _ _ _ _ (by push_cast; rfl) r2 (by omega) fun g2 => ?_
  rw [List.append_assoc]
  generalize g1 ++ g2 = g1
  walk_at "ms"
  refine ⟨_, rfl, ?_⟩
  walk_at "ms"
  refine ⟨by simp, ?_⟩
  walk_at "ms"
  refine ⟨by simp, ?_⟩
  refine CO_row (by simp [V.pure, V.pures]) (by rw [hlog]) ?_
  refine iteF rfl ?_
  walk_at "ms"
  refine CC.le (law_is_read_01 (k := 0) S FO (by omega) fun g2 => ?_) (by omega)
  rw [List.append_assoc]
  generalize g1 ++ g2 = g1
  walk_at "ms"
  refine iteF rfl ?_
  walk_at "ms"
  refine iteF rfl ?_
  walk_at "ms"
  refine ⟨_, rfl, _, rfl, ?_⟩
  refine SSl_bytes (fun _ _ => rfl) (by omega) ?_
  rw [cut_m1 (by omega), hlog]
  walk_at "ms"
  refine rowat (3 + fa.length) _ _ _ _ _ _ _ (by push_cast; rfl) r3 (by rw [List.length_take]; omega) fun g2 => ?_
  rw [List.append_assoc]
  generalize g1 ++ g2 = g1
  walk_at "ms"
  refine CO_isNot ?_
  refine iteF rfl ?_
  walk_at "ms"
  refine rowat 1 _ _ _ _ _ _ _ rfl r4 (by omega) fun g2 => ?_
  rw [List.append_assoc]
  generalize g1 ++ g2 = g1
  walk_at "ms"
  refine CO_isNot ?_
  refine iteF rfl ?_
  walk_at "ms"
  refine rowat 0 none _ _ _ _ _ _ rfl (rowAt_end (by simp)) (by simp) fun g2 => ?_
  rw [List.append_assoc]
  generalize g1 ++ g2 = g1
  walk_at "ms"
  refine CO_isNot ?_
  refine iteF rfl ?_
  walk_at "ms"
  refine rowat fa.length none _ _ _ _ _ _ rfl (rowAt_end (Nat.le_refl _)) (by omega) fun g2 => ?_
  rw [List.append_assoc]
  generalize g1 ++ g2 = g1
  walk_at "ms"
  refine CO_isNot ?_
  refine iteF rfl ?_
  walk_at "ms"
  refine iteF rfl ?_
  clear r1 r2 r3 r4 hlog ha1 ha2 hb1 hb2 hGb
  walk_at "ms"
  refine CC.le (law_bag_01 (k := 0) S hz fun x0 g2 => ?_) (by omega)
  generalize σ ++ g1 ++ g2 = σA
  walk_at "ms"
  refine CC.le (law_laid_01 (k := 0) S fun data ps y y0 G g2 hd hps hpl => ?_) (by omega)
  refine ⟨_, _, rfl, ?_⟩
  walk_at "ms"
  refine SE_comp [("data", .bytes data)] (free_of (xs := ["data"]) rfl (by intro x hx; rw [List.mem_singleton.mp hx]; walk_at "m_kind")) (by decide) rfl (by decide) (rho1 rfl rfl rho0) ?_ (fun _ => rfl)
  refine SIt_obj ?_
  walk_at "ms"
  refine ⟨_, ps, rfl, get_two, ?_⟩
  refine ⟨by omega, fun i acc σ' => acc = [] ∧ ∃ g3, σ' = (σA ++ .list [.int y] :: G ++ .list ps :: g2) ++ .list [] :: g3, ⟨rfl, [], rfl⟩, ?_, ?_, ?_⟩
  · rintro i acc σ' ⟨rfl, g3, rfl⟩
    refine ⟨?_, get_mid, by simp⟩
    rw [List.append_assoc (σA ++ _ :: G), List.cons_append]
    exact get_two
  · rintro Fc ce i acc σ' d ⟨rfl, g3, rfl⟩ hdi
    obtain ⟨pre, R, suf, hG, rfl, hdat⟩ := hps d (List.mem_of_getElem? hdi)
    refine ⟨_, ?_, SAsg_three (.inl (ce.loc _ rfl)) (.inl (ce.loc _ rfl)) (.inl (ce.loc _ rfl)), ?_⟩
    · walk_at "m_sub"
    refine CT_one ?_
    walk_at "ms"
    refine rowat pre.length _ _ _ _ _ _ _ rfl (hG.at hdat) (by omega) fun g4 => ?_
    walk_at "ms"
    refine ⟨by simp, ?_⟩
    obtain ⟨_, _, _, _, hpu, _⟩ := hG
    exact CO_row hpu rfl (iteF rfl ⟨rfl, g3 ++ g4, by simp⟩)
  · rintro acc σ' ⟨rfl, g3, rfl⟩
    walk_at "ms"
    refine ⟨by simp, ?_⟩
    refine CO_neL (by simp) get_last ?_
    refine iteF rfl ?_
    walk_at "ms"
    simp only [List.append_assoc, List.cons_append]
    generalize G ++ MO.list ps :: (g2 ++ MO.list [] :: (g3 ++ [MO.list []])) = gg
    clear hps hpl ps
    refine CC.le (law_take_01 (k := 0) S get_mid (by decide) (by decide) ?_) (by omega)
    rw [set_mid]
    generalize y / 2 = y1
    walk_at "ms"
    by_cases h : y % 2 = 0
    · refine iteT (decide_eq_true h) ?_
      walk_at "ms"
      by_cases hne : data = []
      · refine iteF (by simp [hne]) ?_
        refine iteF rfl ?_
        walk_at "ms"
        exact CC.le (law_is_read_01 (k := 0) S FO (by omega) fun g => hq _) (by omega)
      · have hpos : 0 < data.length := List.length_pos_iff.mpr hne
        refine iteT (by simp [hne]) ?_
        walk_at "ms"
        refine iteT rfl ?_
        walk_at "ms"
        refine CC.le (law_take_01 (k := 0) S get_mid (by omega) (by omega) ?_) (by omega)
        rw [set_mid]
        obtain ⟨sp, hsp, hsp2⟩ := nat_of (x := y1) (m := (data.length : Nat)) (by omega)
        rw [hsp]
        generalize y1 / (data.length : Int) = y2
        clear hsp
        walk_at "ms"
        refine ⟨_, rfl, ?_⟩
        refine SSl_bytes (fun _ _ => rfl) (by omega) ?_
        rw [cut_0n]
        walk_at "ms"
        refine CC.le (law_take_01 (k := 0) S get_mid (by decide) (by decide) ?_) (by omega)
        rw [set_mid]
        have ht1 := Int.emod_nonneg y2 (show (255 : Int) ≠ 0 by decide)
        have ht2 := Int.emod_lt_of_pos y2 (show (0 : Int) < 255 by decide)
        generalize y2 % 255 = tu at ht1 ht2
        generalize y2 / 255 = y3
        walk_at "ms"
        refine ⟨by simp, ?_⟩
        walk_at "ms"
        refine CC_bytes_list (ns := [(((data.getD sp 0).toNat : Int) + 1 + tu) % 256]) get_last ?_ (by simp) ?_
        · intro n hn; rw [List.mem_singleton.mp hn]; omega
        rw [show octs [(((data.getD sp 0).toNat : Int) + 1 + tu) % 256] = [((((data.getD sp 0).toNat : Int) + 1 + tu) % 256).toNat.toUInt8] from rfl]
        generalize ((((data.getD sp 0).toNat : Int) + 1 + tu) % 256).toNat.toUInt8 = tc
        refine BO_addB (by simp; omega) ?_
        walk_at "ms"
        refine ⟨_, rfl, ?_⟩
        refine OP_none ?_
        refine SSl_bytes (fun _ _ => rfl) (by omega) ?_
        rw [cut_s0]
        walk_at "ms"
        refine BO_addB (by simp; omega) ?_
        walk_at "ms"
        exact CC.le (law_is_read_01 (k := 0) S FO (by simp; omega) fun g => hq _) (by omega)
    · refine iteF (decide_eq_false h) ?_
      refine iteF rfl ?_
      walk_at "ms"
      exact CC.le (law_is_read_01 (k := 0) S FO (by omega) fun g => hq _) (by omega)
end


/-- a table of names, read off the heap -/
def AllIn (K : Frag) : List (String × Value) → Prop
  | [] => True
  | (x, v) :: r => nsIn K mainGlobals (Str.ofString x) = some (some v) ∧ AllIn K r
def AllOut (K : Frag) : List (String × Value) → Prop
  | [] => True
  | (x, v) :: r => (nsIn K mainGlobals (Str.ofString x) = some none ∧ bootBuiltins (Str.ofString x) = some v ∧ Str.ofString x ≠ "__name__") ∧ AllOut K r
theorem allIn_mg {K : Frag} {h : Heap} {mg : Str → Option Value} (X : K.In h) (G : h.Ns mainGlobals mg) : ∀ t : List (String × Value), AllIn K t → ∀ x v, t.lookup x = some v → mg (Str.ofString x) = some v
  | [], _, x, v, e => by cases e
  | (y, u) :: r, a, x, v, e => by
    rw [List.lookup_cons] at e
    by_cases q : x == y
    · rw [q] at e
      obtain rfl : u = v := by simpa using e
      rw [eq_of_beq q]
      exact mg_of X G a.1
    · rw [Bool.not_eq_true] at q
      rw [q] at e
      exact allIn_mg X G r a.2 x v e
theorem allOut_mb {K : Frag} {h : Heap} {mg mb : Str → Option Value} (X : K.In h) (G : h.Ns mainGlobals mg) (B : ∀ x : Str, x ≠ "__name__" → mb x = bootBuiltins x) : ∀ t : List (String × Value), AllOut K t → ∀ x v, t.lookup x = some v → mg (Str.ofString x) = none ∧ mb (Str.ofString x) = some v
  | [], _, x, v, e => by cases e
  | (y, u) :: r, a, x, v, e => by
    rw [List.lookup_cons] at e
    by_cases q : x == y
    · rw [q] at e
      obtain rfl : u = v := by simpa using e
      rw [eq_of_beq q]
      exact ⟨mg_none_of X G a.1.1, (B _ a.1.2.2).trans a.1.2.1⟩
    · rw [Bool.not_eq_true] at q
      rw [q] at e
      exact allOut_mb X G B r a.2 x v e
theorem gt_in (P : Params) : AllIn (Pre.h1.heap_1_1 P) gt01 := by
  repeat' (first | exact True.intro | refine ⟨?_, ?_⟩ | kernel_rfl | rfl)
theorem law_in (P : Params) : nsIn (Pre.h1.heap_1_1 P) mainGlobals (Str.ofString "law") = some (some (.ref 217)) := by first | kernel_rfl | rfl
theorem bt_out (P : Params) : AllOut (Pre.h1.heap_1_1 P) bt01 := by
  repeat' (first | exact True.intro | refine ⟨?_, ?_⟩ | kernel_rfl | rfl | decide +kernel)
abbrev bx01 : List (String × Value) := [("Exception", .type "Exception")]
theorem bx_out (P : Params) : AllOut (Pre.h1.heap_1_1 P) bx01 := by
  repeat' (first | exact True.intro | refine ⟨?_, ?_⟩ | kernel_rfl | rfl | decide +kernel)
theorem flt_in (P : Params) : fltIn (Pre.h1.heap_1_1 P) 59 46 36 = true := by first | kernel_rfl | rfl
theorem flt_keep (P : Params) : keepIn (Pre.h1.heap_1_1 P) (.ref 59) = true := by first | kernel_rfl | rfl
theorem ini_ok {W : Wk} {P : Params} (hk : W.K = Pre.h1.heap_1_1 P) (hm : W.mg (Str.ofString "Exception") = none ∧ W.mb (Str.ofString "Exception") = some (.type "Exception")) : ∃ fd, IniFn W 36 fd := by
  have hK := W.hK
  rw [hk] at hK
  refine ⟨_, ⟨⟨⟨_, hK 36 _ rfl, rfl⟩, ⟨_, _, _, _, rfl, hK 35 _ rfl, rfl, rfl⟩⟩, ⟨_, _, _, _, _, _, _, _, _, _, _, _, _, _, ?_, rfl⟩, rfl, rfl, rfl, rfl, rfl, rfl, ?_, hm.1, hm.2⟩⟩
  · rfl
  · intro s a b c st
    exact BindsTo.of_defaults rfl (st _ _ (hK 29 _ rfl)) rfl rfl rfl
theorem flt_ok {W : Wk} {P : Params} (hk : W.K = Pre.h1.heap_1_1 P) (hl : W.lf = 59) (hm : W.mg (Str.ofString "Exception") = none ∧ W.mb (Str.ofString "Exception") = some (.type "Exception")) : FltOK W 59 := by
  obtain ⟨fd, h⟩ := ini_ok hk hm
  exact ⟨hl, ⟨46, 36, fd, by rw [hk, hl]; exact .of (flt_in P), h⟩, by rw [hk, hl]; exact flt_keep P⟩


theorem h2.tw10036674746372902628 : True := trivial
theorem h2.tw10078391315764512624 : True := trivial
theorem h2.tw1013793396448382074 : True := trivial
theorem h2.tw10147449254894606025 : True := trivial
theorem h2.tw10189657926484025744 : True := trivial
theorem h2.tw10216473770845128076 : True := trivial
theorem h2.tw10233338283909479188 : True := trivial
theorem h2.tw10283909177391900416 : True := trivial
theorem h2.tw10472621485931726994 : True := trivial
theorem h2.tw10526789187252406623 : True := trivial
theorem h2.tw10774780424892671462 : True := trivial
theorem h2.tw10832789507783900681 : True := trivial
theorem h2.tw10938439521797259720 : True := trivial
theorem h2.tw10945989664590805333 : True := trivial
theorem h2.tw10951625728671655807 : True := trivial
theorem h2.tw10995670167983354557 : True := trivial
theorem h2.tw10996432829174827521 : True := trivial
theorem h2.tw11055525141513299724 : True := trivial
theorem h2.tw11154582548107695225 : True := trivial
theorem h2.tw11231033010650787125 : True := trivial
theorem h2.tw11267281093668471403 : True := trivial
theorem h2.tw1127762722601174215 : True := trivial
theorem h2.tw11330189494669386933 : True := trivial
theorem h2.tw11487918962426707744 : True := trivial
theorem h2.tw11488703383608864799 : True := trivial
theorem h2.tw11610288697046111191 : True := trivial
theorem h2.tw11686976515240518957 : True := trivial
theorem h2.tw11708931782457387763 : True := trivial
theorem h2.tw11817552832471906193 : True := trivial
theorem h2.tw11927619889478360183 : True := trivial
theorem h2.tw1202874399764779077 : True := trivial
theorem h2.tw12093336481236502927 : True := trivial
theorem h2.tw12200538202210634311 : True := trivial
theorem h2.tw12218463707820665030 : True := trivial
theorem h2.tw12254512417572391210 : True := trivial
theorem h2.tw12272230290806499846 : True := trivial
theorem h2.tw12275817722219390374 : True := trivial
theorem h2.tw12375951338227964507 : True := trivial
theorem h2.tw12490134849729406481 : True := trivial
theorem h2.tw12614720966432388755 : True := trivial
theorem h2.tw12690506189461010344 : True := trivial
theorem h2.tw12760607555889043045 : True := trivial
theorem h2.tw12841876852045703186 : True := trivial
theorem h2.tw13017708225320072587 : True := trivial
theorem h2.tw13101813858496693202 : True := trivial
theorem h2.tw13220868981668911722 : True := trivial
theorem h2.tw13226708159865727748 : True := trivial
theorem h2.tw13289377752839519494 : True := trivial
theorem h2.tw13301086746945527847 : True := trivial
theorem h2.tw1353677226673475020 : True := trivial
theorem h2.tw13541320785344173623 : True := trivial
theorem h2.tw135586619768530653 : True := trivial
theorem h2.tw13701522658325470278 : True := trivial
theorem h2.tw13737496747132662883 : True := trivial
theorem h2.tw13752529572783621186 : True := trivial
theorem h2.tw13801302265556693723 : True := trivial
theorem h2.tw13852117900143546406 : True := trivial
theorem h2.tw13879922529450679549 : True := trivial
theorem h2.tw13920676422908261339 : True := trivial
theorem h2.tw1398086118584400937 : True := trivial
theorem h2.tw14003345251848873427 : True := trivial
theorem h2.tw14291987546194024743 : True := trivial
theorem h2.tw14393561407759958697 : True := trivial
theorem h2.tw1439487208871141422 : True := trivial
theorem h2.tw14499709851478748627 : True := trivial
theorem h2.tw14613918215457765610 : True := trivial
theorem h2.tw14617159604041332808 : True := trivial
theorem h2.tw14641332391203512357 : True := trivial
theorem h2.tw14743357222253333542 : True := trivial
theorem h2.tw14743989190890090403 : True := trivial
theorem h2.tw14830719775547245890 : True := trivial
theorem h2.tw14855636404012964477 : True := trivial
theorem h2.tw1494714437060691348 : True := trivial
theorem h2.tw15050652579656518964 : True := trivial
theorem h2.tw15140655236546033331 : True := trivial
theorem h2.tw15396990969624364133 : True := trivial
theorem h2.tw15527715882191055892 : True := trivial
theorem h2.tw15527911637437943123 : True := trivial
theorem h2.tw15662012321274189295 : True := trivial
theorem h2.tw1580892075121888681 : True := trivial
theorem h2.tw1602964672718376161 : True := trivial
theorem h2.tw16139953168053044892 : True := trivial
theorem h2.tw16165916973873929967 : True := trivial
theorem h2.tw16221686885357022570 : True := trivial
theorem h2.tw16262917120080160171 : True := trivial
theorem h2.tw16472919352610883878 : True := trivial
theorem h2.tw16569815830941164087 : True := trivial
theorem h2.tw16635386019916353018 : True := trivial
theorem h2.tw16780915274769906947 : True := trivial
theorem h2.tw16782945333674463745 : True := trivial
theorem h2.tw16941386951120374510 : True := trivial
theorem h2.tw16946625372513839739 : True := trivial
theorem h2.tw17041380789275688872 : True := trivial
theorem h2.tw17055494910238713736 : True := trivial
theorem h2.tw17092079741555978218 : True := trivial
theorem h2.tw17190354840820908718 : True := trivial
theorem h2.tw17250664877115596150 : True := trivial
theorem h2.tw17312721151429830309 : True := trivial
theorem h2.tw17424245915532329579 : True := trivial
theorem h2.tw17497169994490962317 : True := trivial
theorem h2.tw17772794116656113572 : True := trivial
theorem h2.tw17927584271497260182 : True := trivial
theorem h2.tw17973626457469825923 : True := trivial
theorem h2.tw18019800811225561655 : True := trivial
theorem h2.tw18165410991614569828 : True := trivial
theorem h2.tw18196362387639112972 : True := trivial
theorem h2.tw18333174966094669196 : True := trivial
theorem h2.tw18390151740213018553 : True := trivial
theorem h2.tw1860304888419974534 : True := trivial
theorem h2.tw2059491784567885658 : True := trivial
theorem h2.tw2066851355069098293 : True := trivial
theorem h2.tw2444416418878353238 : True := trivial
theorem h2.tw2531902821423506165 : True := trivial
theorem h2.tw2614872646895770125 : True := trivial
theorem h2.tw2763014416373282621 : True := trivial
theorem h2.tw2930942452231889311 : True := trivial
theorem h2.tw294425022926518926 : True := trivial
theorem h2.tw3009555461237983074 : True := trivial
theorem h2.tw3386385968644429831 : True := trivial
theorem h2.tw3471564201853059216 : True := trivial
theorem h2.tw3482257406642456226 : True := trivial
theorem h2.tw350551897743180181 : True := trivial
theorem h2.tw3513263430426384570 : True := trivial
theorem h2.tw360180261274611724 : True := trivial
theorem h2.tw3728892839510516852 : True := trivial
theorem h2.tw3757899572328248872 : True := trivial
theorem h2.tw3792273179851609252 : True := trivial
theorem h2.tw3862312523184812978 : True := trivial
theorem h2.tw3945236365189323899 : True := trivial
theorem h2.tw4010609794258511212 : True := trivial
theorem h2.tw4111325970078916790 : True := trivial
theorem h2.tw4175837770663729339 : True := trivial
theorem h2.tw4179705268504465533 : True := trivial
theorem h2.tw4182006873320481516 : True := trivial
theorem h2.tw421660068006618768 : True := trivial
theorem h2.tw425729014827399187 : True := trivial
theorem h2.tw4323530518049013330 : True := trivial
theorem h2.tw4456092112234707900 : True := trivial
theorem h2.tw4506964384121656991 : True := trivial
theorem h2.tw4553994530633651073 : True := trivial
theorem h2.tw4785334248318248947 : True := trivial
theorem h2.tw4873534808421932756 : True := trivial
theorem h2.tw4887638184661900767 : True := trivial
theorem h2.tw499864694560277405 : True := trivial
theorem h2.tw5059663131761399894 : True := trivial
theorem h2.tw5187024985788902366 : True := trivial
theorem h2.tw5219638669737220795 : True := trivial
theorem h2.tw5440959248549810669 : True := trivial
theorem h2.tw5566023432111333532 : True := trivial
theorem h2.tw559171762040434340 : True := trivial
theorem h2.tw5678505300646945039 : True := trivial
theorem h2.tw5724285956057914471 : True := trivial
theorem h2.tw576028820203869609 : True := trivial
theorem h2.tw5919207471164998286 : True := trivial
theorem h2.tw5936655746070236085 : True := trivial
theorem h2.tw6053110237650607281 : True := trivial
theorem h2.tw6095792284649457031 : True := trivial
theorem h2.tw612827800644354964 : True := trivial
theorem h2.tw6172061359426615965 : True := trivial
theorem h2.tw6184957560394058190 : True := trivial
theorem h2.tw6281485227786825011 : True := trivial
theorem h2.tw6409509799970562138 : True := trivial
theorem h2.tw6471949003721491284 : True := trivial
theorem h2.tw6514471596107472895 : True := trivial
theorem h2.tw6557416947871789317 : True := trivial
theorem h2.tw6721625034065198048 : True := trivial
theorem h2.tw6762386963304036190 : True := trivial
theorem h2.tw6909718698012222983 : True := trivial
theorem h2.tw7107823304517355821 : True := trivial
theorem h2.tw7142856660541009913 : True := trivial
theorem h2.tw7206292695877830729 : True := trivial
theorem h2.tw7319121593372033912 : True := trivial
theorem h2.tw7349380802935745765 : True := trivial
theorem h2.tw748895357549891685 : True := trivial
theorem h2.tw7496559312650446450 : True := trivial
theorem h2.tw7614083997948044946 : True := trivial
theorem h2.tw7855764636359013244 : True := trivial
theorem h2.tw7866261079273180053 : True := trivial
theorem h2.tw7877885359557485358 : True := trivial
theorem h2.tw7890098796375407822 : True := trivial
theorem h2.tw8094962406823220053 : True := trivial
theorem h2.tw8099675298715602244 : True := trivial
theorem h2.tw8119317280366264865 : True := trivial
theorem h2.tw8225517768554048767 : True := trivial
theorem h2.tw8335352918515699974 : True := trivial
theorem h2.tw8361764799748235756 : True := trivial
theorem h2.tw8544167344953074487 : True := trivial
theorem h2.tw8760143636663502098 : True := trivial
theorem h2.tw9022125296129138159 : True := trivial
theorem h2.tw9070772203448638755 : True := trivial
theorem h2.tw9264348735168513115 : True := trivial
theorem h2.tw9455919355314486165 : True := trivial
theorem h2.tw9507362930639132832 : True := trivial
theorem h2.tw9588911065289128019 : True := trivial
theorem h2.tw9614681816472053890 : True := trivial
theorem h2.tw9661113388682816690 : True := trivial
theorem h2.tw9800857154623334875 : True := trivial
theorem h2.tw9852913676040756346 : True := trivial
theorem h2.tw9958024084615511503 : True := trivial
set_option Elab.async true in
theorem h2 : PySem.Challenge.rw_or0044_01.Holds := by
  w_on; o_law; k_head
  case hw => w_witness2
  intro w s₀ s₁ mg mb G Y fa o pm cd doc dV kV ho hd hcd hD hmg hg args vals as hpre hlay hrd hwl hlo
  have KX : (Pre.h1.heap_1_1 w.params).In s₁.heap := kIn_of Y
  clear hd hcd hD
  refine Ground.open G ?_
  intro T B D TE TW
  wrow_args hpre hlay hrd hwl hlo
  rename_i ns _ _ _ _ _ _ _ scr xs _ hL _ _ _ hI _ hmost _
  obtain rfl : fa = 217 := by
    have e : mg (Str.ofString "law") = some (.ref fa) := hmg
    rw [mg_of KX T.g (law_in w.params)] at e
    injection e with e
    injection e with e
    exact e.symm
  have S : Sys ⟨Challenge.rw_or0044_01.row.prog, w, Pre.h1.heap_1_1 w.params, s₁.heap, _, _, mg, mb, _, _, 59, KX, topRead_of T, ⟨_, hL, hI⟩⟩ (Pre.h1.heap_1_1 w.params) gt01 bt01 :=
    ⟨rfl, allIn_mg KX T.g _ (gt_in _), allOut_mb KX T.g T.builtins _ (bt_out _)⟩
  have FO := flt_ok S.hK rfl (allOut_mb KX T.g T.builtins _ (bx_out w.params) "Exception" _ rfl)
  have C := law_01 (k := 0) (l := []) (σ := []) (X := fun _ => False) (Q := fun d _ => d = .bool true) S FO (by show ns.length ≤ 16777216; omega) (fun _ => rfl)
  refine C callerA [] s₁ _ ⟨rfl, rfl, by decide +kernel, by decide +kernel, rfl⟩ ⟨fun _ _ e => e, (fun _ m => nomatch m), rfl, (fun _ _ _ e => by simp at e), List.nodup_nil, (fun _ m => nomatch m)⟩ ⟨_, _, rfl, rfl, rfl⟩ _ _ (fun a d σ' β' h' tk wd go hv hd => ?_) (fun e σ' β' h' tk fl x => x.elim)
  subst hd
  obtain rfl : a = .bool true := hv
  have keep : ∀ b o, s₁.heap.get? b = some o → h'.get? b = some o := fun b o e => go.keep b o e (by simp) (by simp) (by simp)
  refine GoodW.toG ⟨.inl ⟨_, _, _, rfl, raisesW_false (by wrow_none_raised), .bool true, ?_, ?_⟩, keep, rfl, hg⟩
  · wrow_post
  · exact fun _ => ⟨List.nodup_nil, fun _ m => nomatch m⟩
theorem joined_01 : PySem.Challenge.rw_or0044_01.Holds := h2


end Mine
set_option maxRecDepth 100000 in
set_option maxHeartbeats 8000000 in
theorem PySem.Challenge.cw_or0044_01_holds : PySem.Challenge.rw_or0044_01.Holds := by
  exact Mine.joined_01
