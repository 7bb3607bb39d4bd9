import PyProof.Rows.All
import Wide.All
import OpenK.AllK
import Wide.FinOn
import PySem.Challenge.RW_xw0334_04
set_option Elab.async false
set_option maxRecDepth 100000
set_option genSizeOf false
set_option compiler.extract_closed false
set_option genInjectivity false
set_option maxHeartbeats 8000000
set_option linter.unusedVariables false
set_option linter.unusedSimpArgs false
section
open PySem PySem.W PyProof.Rows PySem.Calls
namespace Mine

noncomputable def holders : List String := ["bytearray.__contains__", "bytearray.__mod__", "bytearray.__rmod__", "_struct.pack_into.held", "bytearray.find.held"] ++ PySem.Builtin.Bytes.decodersThatHold
noncomputable def fine : Code → Bool
  | .builtin id _ => !holders.contains id
  | _ => true
noncomputable abbrev Cl (Γ : Ctx) : Prop := fine Γ.code = true ∧ ∀ x ∈ Γ.below, fine x.1 = true

noncomputable def wpC {α : Type} (M : Model) (A : Around) (t : Sem α) (Q : α → Shared → Prop) (E : Value → Shared → Prop) (s : Shared) : Prop :=
  ∀ Γ p, Γ.In A → Cl Γ → Sem.wp M Γ t (fun a _ s' => Q a s') (fun e _ s' => E e s') p s
noncomputable def codeC (M : Model) (A : Around) (c : Code) (R : Result → Shared → Prop) (s : Shared) : Prop :=
  ∀ Γ p, Γ.code = c → Γ.Below A → (∀ x ∈ Γ.below, fine x.1 = true) → wpCode M Γ R p s

section
variable {α β : Type} {M : Model} {A : Around} {E : Value → Shared → Prop} {s : Shared} {env : Env}
theorem wpC.of {t : Sem α} {Q : α → Shared → Prop} (h : wpAny M A t Q E s) : wpC M A t Q E s := fun Γ p i _ => h Γ p i
theorem codeC.of {c : Code} {R : Result → Shared → Prop} (h : codeAny M A c R s) : codeC M A c R s := fun Γ p e i _ => h Γ p e i
theorem wpC_pure {a : α} {Q : α → Shared → Prop} (h : Q a s) : wpC M A (pure a) Q E s := fun _ _ _ _ => h
theorem wpC_mono {t : Sem α} {Q Q' : α → Shared → Prop} {E' : Value → Shared → Prop} (h : wpC M A t Q E s) (q : ∀ a s, Q a s → Q' a s) (e : ∀ x s, E x s → E' x s) : wpC M A t Q' E' s :=
  fun Γ p i c => Sem.wp_mono M Γ t (fun a _ s => q a s) (fun x _ s => e x s) p s (h Γ p i c)
theorem wpC_bind {m : Sem α} {f : α → Sem β} {Q : β → Shared → Prop} (h : wpC M A m (fun a s1 => wpC M A (f a) Q E s1) E s) : wpC M A (m >>= f) Q E s := fun Γ p i c => by
  rw [Sem.wp_bind']
  exact Sem.wp_mono M Γ m (fun a p1 s1 h1 => h1 Γ p1 i c) (fun _ _ _ x => x) p s (h Γ p i c)
theorem wpC_holding {vs : List Value} {m : Sem α} {Q : α → Shared → Prop} (h : wpC M A m Q E s) : wpC M A (holding vs m) Q E s := fun Γ p i c => by rw [Sem.wp_holding]; exact h Γ p i c
theorem wpC_keep {vs : List Value} {m : Sem α} {Q : α → Shared → Prop} (h : wpC M A m Q E s) : wpC M A (m.keep vs) Q E s := fun Γ p i c => by rw [Sem.wp_keep]; exact h Γ p i c
theorem wpC_operate {vs : List Value} {m : Sem Value} {Q : Value → Shared → Prop} (h : wpC M A m Q E s) : wpC M A (operate vs m) Q E s := fun Γ p i c => by rw [Sem.wp_operate]; exact h Γ p i c
theorem wpC_onRaise {m : Sem α} {k : Value → Sem Unit} {Q : α → Shared → Prop} (h : wpC M A m Q (fun e s1 => wpC M A (k e) (fun _ s2 => E e s2) E s1) s) : wpC M A (m.onRaise k) Q E s := fun Γ p i c => by
  rw [Sem.wp_onRaise]
  exact Sem.wp_mono M Γ m (fun _ _ _ x => x) (fun e p1 s1 x => x Γ p1 i c) p s (h Γ p i c)
theorem wpC_at {p : Pos} {f : Unit → Sem α} {Q : α → Shared → Prop} (h : wpC M A (f ()) Q E s) : wpC M A (standAt p >>= f) Q E s := wpC_bind (.of (wpAny_standAt h))
theorem wpC_then {m : Sem α} {f : α → Sem β} {P : α → Shared → Prop} {Q : β → Shared → Prop} (h : wpC M A m P E s) (k : ∀ a s1, P a s1 → wpC M A (f a) Q E s1) : wpC M A (m >>= f) Q E s := wpC_bind (wpC_mono h k fun _ _ x => x)
theorem wpC_stack {Q : List (Code × Pos) → Shared → Prop} (h : ∀ st : List (Code × Pos), (∀ x ∈ st, fine x.1 = true) → Q st s) : wpC M A stack Q E s := fun Γ p i c => by
  show Q ((Γ.code, p) :: Γ.below) s
  exact h _ fun x hx => by
    rcases List.mem_cons.mp hx with rfl | hx
    · exact c.1
    · exact c.2 x hx
theorem codeC_mono {c : Code} {R R' : Result → Shared → Prop} (h : codeC M A c R s) (q : ∀ r s, R r s → R' r s) : codeC M A c R' s := fun Γ p e i b => wpCode_mono q (h Γ p e i b)
theorem wpC_call {f : Value} {pos : List Value} {kw : List (Str × Value)} {Q : Value → Shared → Prop}
    (h : codeC M A (.call f ⟨pos, kw⟩) (fun r s1 => match r with | .ok (.ret v) => Q v s1 | .ok _ => False | .error e => E e s1) s) : wpC M A (call f pos kw) Q E s := fun Γ p i c => by
  show Sem.wp M Γ (runValue (.call f ⟨pos, kw⟩)) _ _ p s
  rw [Sem.wp_runValue]
  refine h _ p rfl (i.enter _ none p (by intro x; cases x)) fun x hx => ?_
  rcases List.mem_cons.mp hx with rfl | hx
  · exact c.1
  · exact c.2 x hx
theorem wpC_run {c : Code} {hd : Option Value} {Q : Flow → Shared → Prop} (h : codeC M (A.mark hd) c (fun r s1 => match r with | .ok f => Q f s1 | .error e => E e s1) s) (hnb : hd ≠ some byPass := by intro x; cases x) :
    wpC M A (run c hd) Q E s := fun Γ p i cl => by
  rw [Sem.wp_run]
  refine h _ p rfl (i.enter _ hd p hnb) fun x hx => ?_
  rcases List.mem_cons.mp hx with rfl | hx
  · exact cl.1
  · exact cl.2 x hx
theorem codeC_tree {c : Code} {R : Result → Shared → Prop} (hf : fine c = true)
    (h : wpC M (A.under c) (M.den c) (fun fin s1 => match fin with | .done f => R (.ok f) s1 | .again c' => c'.quiet = true ∧ codeC M A c' R s1) (fun e s1 => R (.error e) s1) s) : codeC M A c R s := fun Γ p e i b => by
  rw [wpCode_iff_wp, e]
  refine Sem.wp_mono M Γ _ (fun fin p1 s1 h1 => ?_) (fun _ _ _ x => x) p s (h Γ p (e ▸ i.in) ⟨by rw [e]; exact hf, b⟩)
  cases fin with
  | done f => exact h1
  | again c' => exact ⟨h1.1, h1.2 (Γ.goto c') p1 rfl (i.goto c') b⟩

/-! expressions -/
variable {Q : Value → Shared → Prop} {QB : Bool → Shared → Prop}
theorem wc_unop {op x pos} (h : wpC M A (eval x env) (fun v s1 => wpC M A (unaryOp op v) Q E s1) E s) : wpC M A (eval (.UnaryOp op x pos) env) Q E s := by
  rw [eval_UnaryOp]
  exact wpC_then h fun v s1 h1 => wpC_at (wpC_holding h1)
theorem wc_binop {l op r pos} (h : wpC M A (eval l env) (fun a s1 => wpC M A (eval r env) (fun b s2 => wpC M A (binaryOp op a b) Q E s2) E s1) E s) : wpC M A (eval (.BinOp l op r pos) env) Q E s := by
  rw [eval_BinOp]
  exact wpC_then h fun a s1 h1 => wpC_then (wpC_holding h1) fun b s2 h2 => wpC_at (wpC_operate h2)
theorem wc_cmp {l op r pos} (h : wpC M A (eval l env) (fun a s1 => wpC M A (eval r env) (fun b s2 => wpC M A (compareOp op a b) Q E s2) E s1) E s) (hm : behindInMarks op r = false) : wpC M A (eval (.Compare l [op] [r] pos) env) Q E s := by
  rw [eval_Compare1, markedBehindIn_of_false hm]
  exact wpC_then h fun a s1 h1 => wpC_then (wpC_holding h1) fun b s2 h2 => wpC_at (wpC_operate h2)
theorem wc_ifexp {t b o pos} (h : wpC M A (PySem.isTrue t env (eval t env)) (fun c s1 => if c then wpC M A (eval b env) Q E s1 else wpC M A (eval o env) Q E s1) E s) : wpC M A (eval (.IfExp t b o pos) env) Q E s := by
  rw [arm_eval_IfExp]
  exact wpC_then h fun c s1 h1 => by cases c <;> exact h1
theorem wc_one {op e pos} (h : wpC M A (eval e env) Q E s) : wpC M A (eval (.BoolOp op [e] pos) env) Q E s := h
theorem wc_and {e1 e2 rest pos} (h : wpC M A (eval e1 env) (fun v s1 => wpC M A (truthy v) (fun c s2 => if c then wpC M A (eval (.BoolOp .And (e2 :: rest) pos) env) Q E s2 else Q v s2) E s1) E s) :
    wpC M A (eval (.BoolOp .And (e1 :: e2 :: rest) pos) env) Q E s :=
  wpC_then (f := fun v => standAt pos >>= fun _ => holding [v] (truthy v) >>= fun c => match BoolOp.And, c with | .And, false | .Or, true => pure v | _, _ => boolOp pos .And (eval e2 env :: evalEach rest env)) h
    fun v s1 h1 => wpC_at (wpC_then (wpC_holding h1) fun c s2 h2 => by
      cases c
      · exact wpC_pure h2
      · exact h2)
theorem wc_or {e1 e2 rest pos} (h : wpC M A (eval e1 env) (fun v s1 => wpC M A (truthy v) (fun c s2 => if c then Q v s2 else wpC M A (eval (.BoolOp .Or (e2 :: rest) pos) env) Q E s2) E s1) E s) :
    wpC M A (eval (.BoolOp .Or (e1 :: e2 :: rest) pos) env) Q E s :=
  wpC_then (f := fun v => standAt pos >>= fun _ => holding [v] (truthy v) >>= fun c => match BoolOp.Or, c with | .And, false | .Or, true => pure v | _, _ => boolOp pos .Or (eval e2 env :: evalEach rest env)) h
    fun v s1 h1 => wpC_at (wpC_then (wpC_holding h1) fun c s2 h2 => by
      cases c
      · exact h2
      · exact wpC_pure h2)
theorem wc_chain {l o1 o2 ops r1 r2 rs pos} (h : wpC M A (eval l env) (fun a s1 => wpC M A (compareChain pos a (o1 :: o2 :: ops) (eval r1 env :: eval r2 env :: evalEach rs env)) Q E s1) E s) (hm : lastMarks (o1 :: o2 :: ops) (r1 :: r2 :: rs) = false) :
    wpC M A (eval (.Compare l (o1 :: o2 :: ops) (r1 :: r2 :: rs) pos) env) Q E s := by
  show wpC M A (eval l env >>= fun a => compareChain pos a (o1 :: o2 :: ops) (markedEach (o1 :: o2 :: ops) (r1 :: r2 :: rs) (evalEach (r1 :: r2 :: rs) env))) Q E s
  rw [markedEach_of_false _ _ _ hm]
  exact wpC_bind h
theorem wc_link {pos a op op' ops} {r r' : Sem Value} {rs : List (Sem Value)} (h : wpC M A r (fun b s1 => wpC M A (compareOp op a b) (fun c s2 => wpC M A (truthy c) (fun t s3 => if t then wpC M A (compareChain pos b (op' :: ops) (r' :: rs)) Q E s3 else Q c s3) E s2) E s1) E s) :
    wpC M A (compareChain pos a (op :: op' :: ops) (r :: r' :: rs)) Q E s :=
  wpC_then (f := fun b => standAt pos >>= fun _ => holding [a, b] (compareOp op a b) >>= fun c => release [a, b] [c] >>= fun _ => holding [c, b] (truthy c) >>= fun t => if t then compareChain pos b (op' :: ops) (r' :: rs) else pure c) (wpC_holding h)
    fun b s1 h1 => wpC_at (wpC_then (wpC_holding h1) fun c s2 h2 => wpC_bind (.of (wpAny_release' (wpC_then (wpC_holding h2) fun t s3 h3 => by
      cases t
      · exact wpC_pure h3
      · exact h3))))
theorem wc_last {pos a op} {r : Sem Value} (h : wpC M A r (fun b s1 => wpC M A (compareOp op a b) Q E s1) E s) : wpC M A (compareChain pos a [op] [r]) Q E s :=
  wpC_then (f := fun b => standAt pos >>= fun _ => operate [a, b] (compareOp op a b)) (wpC_holding h) fun b s1 h1 => wpC_at (wpC_operate h1)

/-! tests -/
theorem wt_plain {e : Expr} {whole : Sem Value} (h : wpC M A whole (fun v s1 => wpC M A (truthy v) QB E s1) E s) (he : PySem.isTrue e env whole = (do let v ← whole; standAt e.pos; holding [v] (truthy v))) : wpC M A (PySem.isTrue e env whole) QB E s := by
  rw [he]
  exact wpC_then h fun v s1 h1 => wpC_at (wpC_holding h1)
theorem wt_cmp {l op r pos whole} (h : wpC M A (eval l env) (fun a s1 => wpC M A (eval r env) (fun b s2 => wpC M A (compareOp op a b) (fun c s3 => wpC M A (truthy c) QB E s3) E s2) E s1) E s) (hm : behindInMarks op r = false) :
    wpC M A (PySem.isTrue (.Compare l [op] [r] pos) env whole) QB E s := by
  rw [isTrue_Compare1, markedBehindIn_of_false hm]
  exact wpC_then h fun a s1 h1 => wpC_then (wpC_holding h1) fun b s2 h2 => wpC_at (wpC_then (wpC_operate h2) fun c s3 h3 => wpC_holding h3)
theorem wt_not {x pos whole} (h : wpC M A (PySem.isTrue x env (eval x env)) (fun c s1 => QB (!c) s1) E s) : wpC M A (PySem.isTrue (.UnaryOp .Not x pos) env whole) QB E s := by
  rw [arm_isTrue_UnaryOp]
  exact wpC_then h fun c s1 h1 => wpC_pure h1
theorem wt_and_nil {pos whole} (h : QB true s) : wpC M A (PySem.isTrue (.BoolOp .And [] pos) env whole) QB E s := .of (isTrue_and_nil h)
theorem wt_or_nil {pos whole} (h : QB false s) : wpC M A (PySem.isTrue (.BoolOp .Or [] pos) env whole) QB E s := .of (isTrue_or_nil h)
theorem wt_and {x rest pos whole} (h : wpC M A (PySem.isTrue x env (eval x env)) (fun c s1 => if c then wpC M A (PySem.isTrue (.BoolOp .And rest pos) env whole) QB E s1 else QB false s1) E s) : wpC M A (PySem.isTrue (.BoolOp .And (x :: rest) pos) env whole) QB E s :=
  by
  show wpC M A (do
    match BoolOp.And, ← PySem.isTrue x env (eval x env) with
    | .And, false => pure false
    | .Or, true => pure true
    | _, _ => allTrue .And rest env) QB E s
  exact wpC_then h fun c s1 h1 => by
      cases c
      · exact wpC_pure h1
      · exact h1
theorem wt_or {x rest pos whole} (h : wpC M A (PySem.isTrue x env (eval x env)) (fun c s1 => if c then QB true s1 else wpC M A (PySem.isTrue (.BoolOp .Or rest pos) env whole) QB E s1) E s) : wpC M A (PySem.isTrue (.BoolOp .Or (x :: rest) pos) env whole) QB E s :=
  by
  show wpC M A (do
    match BoolOp.Or, ← PySem.isTrue x env (eval x env) with
    | .And, false => pure false
    | .Or, true => pure true
    | _, _ => allTrue .Or rest env) QB E s
  exact wpC_then h fun c s1 h1 => by
      cases c
      · exact h1
      · exact wpC_pure h1
theorem wt_chain {l o1 o2 ops r1 r2 rs pos whole} (h : wpC M A (eval l env) (fun a s1 => wpC M A (testChain pos a (o1 :: o2 :: ops) (eval r1 env :: eval r2 env :: evalEach rs env)) QB E s1) E s) (hm : lastMarks (o1 :: o2 :: ops) (r1 :: r2 :: rs) = false) :
    wpC M A (PySem.isTrue (.Compare l (o1 :: o2 :: ops) (r1 :: r2 :: rs) pos) env whole) QB E s := by
  show wpC M A (eval l env >>= fun a => testChain pos a (o1 :: o2 :: ops) (markedEach (o1 :: o2 :: ops) (r1 :: r2 :: rs) (evalEach (r1 :: r2 :: rs) env))) QB E s
  rw [markedEach_of_false _ _ _ hm]
  exact wpC_bind h
theorem wt_link {pos a op op' ops} {r r' : Sem Value} {rs : List (Sem Value)} (h : wpC M A r (fun b s1 => wpC M A (compareOp op a b) (fun c s2 => wpC M A (truthy c) (fun t s3 => if t then wpC M A (testChain pos b (op' :: ops) (r' :: rs)) QB E s3 else QB false s3) E s2) E s1) E s) :
    wpC M A (testChain pos a (op :: op' :: ops) (r :: r' :: rs)) QB E s :=
  wpC_then (f := fun b => standAt pos >>= fun _ => holding [a, b] (compareOp op a b) >>= fun c => release [a, b] [c] >>= fun _ => holding [c, b] (truthy c) >>= fun t => if t then testChain pos b (op' :: ops) (r' :: rs) else pure false) (wpC_holding h)
    fun b s1 h1 => wpC_at (wpC_then (wpC_holding h1) fun c s2 h2 => wpC_bind (.of (wpAny_release' (wpC_then (wpC_holding h2) fun t s3 h3 => by
      cases t
      · exact wpC_pure h3
      · exact h3))))
theorem wt_last {pos a op} {r : Sem Value} (h : wpC M A r (fun b s1 => wpC M A (compareOp op a b) (fun c s2 => wpC M A (truthy c) QB E s2) E s1) E s) : wpC M A (testChain pos a [op] [r]) QB E s :=
  wpC_then (f := fun b => standAt pos >>= fun _ => operate [a, b] (compareOp op a b) >>= fun c => holding [c] (truthy c)) (wpC_holding h) fun b s1 h1 => wpC_at (wpC_then (wpC_operate h1) fun c s2 h2 => wpC_holding h2)
theorem wc_not {v : Value} (h : wpC M A (truthy v) (fun c s1 => Q (.bool (!c)) s1) E s) : wpC M A (unaryOp .Not v) Q E s :=
  wpC_holding (vs := [v]) (wpC_then (f := fun c => pure (Value.bool (!c))) h fun c s1 h1 => wpC_pure h1)

/-! calls -/
theorem wc_spliced {x : Sem Value} {rest : List (Bool × Sem Value)} {Q : List Value → Shared → Prop} (h : wpC M A x (fun v s1 => wpC M A (spliced rest) (fun vs s2 => Q (v :: vs) s2) E s1) E s) : wpC M A (spliced ((false, x) :: rest)) Q E s := by
  rw [spliced]
  refine wpC_then h fun v s1 h1 => ?_
  simp only [Bool.false_eq_true, if_false]
  exact wpC_bind (wpC_pure (wpC_then (wpC_holding h1) fun vs s2 h2 => wpC_pure h2))
theorem wc_args {f : Value} {x : Sem Value} {rest : List (Bool × Sem Value)} {Q : Args → Shared → Prop} (h : wpC M A (spliced ((false, x) :: rest)) (fun vs s1 => Q ⟨vs, []⟩ s1) E s) : wpC M A (evalArgs f true ((false, x) :: rest) []) Q E s := by
  unfold evalArgs
  show wpC M A (spliced ((false, x) :: rest) >>= _) Q E s
  refine wpC_then h fun vs s1 h1 => ?_
  refine wpC_holding ?_
  exact wpC_bind (wpC_pure (wpC_bind (wpC_pure (wpC_pure h1))))
theorem wc_with {pos : Pos} {f : Value} {first : List Value} {P : Heap → Prop} {args : List (Bool × Sem Value)} (hp : args.any (·.1) = false)
    (hk : ∀ h, P h → ∃ k, (k = Keeper.frame ∨ k = Keeper.machine ∨ k = Keeper.boundFrame) ∧ Looks M h (keeperOf f) k)
    (h : wpC M A (evalArgs f true args []) (fun a s1 => P s1.heap ∧ wpC M A (call f (first ++ a.pos) a.kw) Q E s1) E s) : wpC M A (callWith pos f first args []) Q E s := by
  unfold callWith
  refine wpC_then (wpC_holding h) fun a s1 ⟨hP, h1⟩ => wpC_at ?_
  obtain ⟨k, hk', L⟩ := hk _ hP
  simp only [hp, List.any_nil, Bool.or_false]
  have fin : ∀ {t : Sem Value}, wpC M A t Q E s1 → wpC M A (t >>= fun r => holding [r] point >>= fun _ => pure r) Q E s1 := fun ht => wpC_then ht fun r s2 hr => wpC_bind (wpC_holding (.of (wpAny_point (wpC_pure hr))))
  refine wpC_bind (.of (L.here ?_))
  have mk : ∀ m, wpC M A (callMarked m f (first ++ a.pos) a.kw) Q E s1 := fun m => wpC_keep h1
  rcases hk' with rfl | rfl | rfl
  · dsimp only; split
    · exact fin h1
    · exact fin (mk _)
  · exact fin h1
  · dsimp only; split
    · exact fin h1
    · exact fin (mk _)
theorem wc_withK {K : Frag} {pos : Pos} {f : Value} {first : List Value} {e : Expr} {rest : List Expr} (hk : keepIn K f = true)
    (h : wpC M A (spliced (backTo pos (starEach (e :: rest) env))) (fun vs s1 => K.In s1.heap ∧ wpC M A (call f (first ++ vs)) Q E s1) E s)
    (he : starEach (e :: rest) env = (false, eval e env) :: starEach rest env) (hp : (backTo pos (starEach rest env)).any (·.1) = false) :
    wpC M A (callWith pos f first (backTo pos (starEach (e :: rest) env)) []) Q E s := by
  rw [he] at h ⊢
  exact wc_with (by show (false || (backTo pos (starEach rest env)).any (·.1)) = false; rw [hp]; rfl) (keeps_K hk) (wc_args h)
theorem wc_withK0 {K : Frag} {pos : Pos} {f : Value} {first : List Value} (X : K.In s.heap) (hk : keepIn K f = true) (h : wpC M A (call f (first ++ [])) Q E s) : wpC M A (callWith pos f first (backTo pos (starEach [] env)) []) Q E s :=
  wc_with rfl (keeps_K hk) (.of (evalArgs_nil3 ⟨X, h⟩))
theorem looks_blt {id : String} {h : Heap} : Looks M h (keeperOf (.builtin id)) .machine := Looks.of_pure rfl
theorem looks_typ {id : String} {h : Heap} : Looks M h (keeperOf (.type id)) .machine := Looks.of_pure rfl
theorem wc_withB {pos : Pos} {f : Value} {first : List Value} {e : Expr} {rest : List Expr} (hf : ∀ h, Looks M h (keeperOf f) .machine)
    (h : wpC M A (spliced (backTo pos (starEach (e :: rest) env))) (fun vs s1 => wpC M A (call f (first ++ vs)) Q E s1) E s)
    (he : starEach (e :: rest) env = (false, eval e env) :: starEach rest env) (hp : (backTo pos (starEach rest env)).any (·.1) = false) :
    wpC M A (callWith pos f first (backTo pos (starEach (e :: rest) env)) []) Q E s := by
  rw [he] at h ⊢
  exact wc_with (P := fun _ => True) (by show (false || (backTo pos (starEach rest env)).any (·.1)) = false; rw [hp]; rfl) (fun h _ => ⟨_, .inr (.inl rfl), hf h⟩) (wc_args (wpC_mono h (fun _ _ x => ⟨trivial, x⟩) fun _ _ x => x))
theorem wc_withB0 {pos : Pos} {f : Value} {first : List Value} (hf : ∀ h, Looks M h (keeperOf f) .machine) (h : wpC M A (call f (first ++ [])) Q E s) : wpC M A (callWith pos f first (backTo pos (starEach [] env)) []) Q E s :=
  wc_with (P := fun _ => True) rfl (fun h _ => ⟨_, .inr (.inl rfl), hf h⟩) (.of (evalArgs_nil3 ⟨trivial, h⟩))
theorem wc_mcall {o : Expr} {name : Str} {ap pos : Pos} {args : List Expr} {pl : Sem Bool} (h : wpC M A (eval o env) (fun ov s1 => wpC M A (getMethod ov name pl) (fun fx s2 => wpC M A (callWith pos fx.1 fx.2 (backTo pos (starEach args env)) []) Q E s2) E s1) E s)
    (he : eval (.Call (.Attribute o name ap) args [] pos) env = (do let ov ← eval o env; standAt ap.atName; let (f, first) ← holding [ov] (getMethod ov name pl); callWith pos f first (backTo pos (starEach args env)) [])) :
    wpC M A (eval (.Call (.Attribute o name ap) args [] pos) env) Q E s := by
  rw [he]
  exact wpC_then h fun ov s1 h1 => wpC_at (wpC_then (wpC_holding h1) fun fx s2 h2 => h2)
theorem wc_call {func : Expr} {args : List Expr} {pos : Pos} (h : wpC M A (eval func env) (fun f s1 => wpC M A (callWith pos f [] (backTo pos (starEach args env)) []) Q E s1) E s)
    (he : eval (.Call func args [] pos) env = (do callWith pos (← eval func env) [] (backTo pos (starEach args env)) (backToKw pos (keywordEach [] env)))) : wpC M A (eval (.Call func args [] pos) env) Q E s := by
  rw [he]; exact wpC_bind h
theorem wc_list {elts pos} (h : wpC M A (spliced (backTo pos (starEach elts env))) (fun vs s1 => wpC M A (newList vs) Q E s1) E s) : wpC M A (eval (.List elts pos) env) Q E s :=
  wpC_at (f := fun _ => spliced (backTo pos (starEach elts env)) >>= newList) (wpC_bind h)
theorem wc_tuple {elts k pos} (h : wpC M A (spliced (backTo pos (starEach elts env))) (fun vs s1 => wpC M A (newTuple vs) Q E s1) E s) : wpC M A (eval (.Tuple elts k pos) env) Q E s :=
  wpC_at (f := fun _ => spliced (backTo pos (starEach elts env)) >>= newTuple) (wpC_bind h)
theorem wc_sub {value slice pos} (h : wpC M A (eval value env) (fun o s1 => wpC M A (eval slice env) (fun i s2 => wpC M A (subscriptTail value slice o i) Q E s2) E s1) E s) : wpC M A (eval (.Subscript value slice pos) env) Q E s := by
  rw [PySem.eval_Subscript]
  exact wpC_then h fun o s1 h1 => wpC_then (wpC_holding h1) fun i s2 h2 => wpC_at h2
theorem wc_slice {lower upper step p} (h : wpC M A (evalPart lower env) (fun l s1 => wpC M A (evalPart upper env) (fun u s2 => wpC M A (evalPart step env) (fun st s3 =>
      Q (.ref s3.heap.objs.size) { s3 with heap := s3.heap.push { cls := .type "slice", data := .fields #[l, u, st] } }) E s2) E s1) E s) : wpC M A (eval (.Slice lower upper step p) env) Q E s := by
  rw [arm_eval_Slice]
  exact wpC_then h fun l s1 h1 => wpC_then (wpC_holding h1) fun u s2 h2 => wpC_then (wpC_holding h2) fun st s3 h3 => .of (wpAny_newObj_type h3)

/-! statements -/
variable {QF : Flow → Shared → Prop}
theorem ws_cons {st rest} (h : wpC M A (exec st env) (fun f s1 => match f with | .next => wpC M A (execs rest env) QF E s1 | f => QF f s1) E s) : wpC M A (execs (st :: rest) env) QF E s := by
  rw [PySem.execs_cons]
  exact wpC_then h fun f s1 h1 => by cases f <;> first | exact h1 | exact wpC_pure h1
theorem ws_ret {e pos} (h : wpC M A (eval e env) (fun v s1 => QF (.ret v) s1) E s) : wpC M A (exec (.Return (some e) pos) env) QF E s := by
  rw [exec_Return_some]
  exact wpC_at (wpC_then h fun v s1 h1 => wpC_pure h1)
theorem ws_if {t b o pos} (h : wpC M A (PySem.isTrue t env (eval t env)) (fun c s1 => if c then wpC M A (execs b env) QF E s1 else wpC M A (execs o env) QF E s1) E s) : wpC M A (exec (.If t b o pos) env) QF E s := by
  rw [exec_If]
  exact wpC_at (wpC_then h fun c s1 h1 => by cases c <;> exact h1)
theorem ws_name {x pos' value pos} (h : wpC M A (eval value env) (fun v s1 => wpC M A (storeName env x v) (fun _ => QF .next) E s1) E s) (hs : swapsWith value (some (.Name x pos')) pos.line env = pure false) : wpC M A (exec (.Assign [.Name x pos'] value pos) env) QF E s := by
  rw [exec_Assign_Name env x pos' value pos hs]
  exact wpC_at (wpC_then h fun v s1 h1 => wpC_at (wpC_then (P := fun _ s2 => QF .next s2) (fun Γ p i c => by rw [Sem.wp_bindName]; exact h1 Γ p i c) fun _ s2 h2 => wpC_pure h2))
theorem ws_attr {o attr pos' value pos} (h : wpC M A (eval value env) (fun v s1 => wpC M A (eval o env) (fun ov s2 => wpC M A (setAttr ov attr v) (fun _ => QF .next) E s2) E s1) E s) (hs : swapsWith value (some (.Attribute o attr pos')) pos.line env = pure false) :
    wpC M A (exec (.Assign [.Attribute o attr pos'] value pos) env) QF E s := by
  rw [plainObj_exec_Assign_Attribute o attr pos' value pos hs]
  refine wpC_at (wpC_then h fun v s1 h1 => wpC_then (P := fun _ s2 => QF .next s2) ?_ fun _ s2 h2 => wpC_pure h2)
  rw [assign_Attribute]
  exact wpC_then (wpC_holding h1) fun ov s2 h2 => wpC_at (wpC_then (wpC_holding h2) fun _ s3 h3 => .of (wpAny_release' h3))
theorem ws_sub {o i pos' value pos} (h : wpC M A (eval value env) (fun v s1 => wpC M A (eval o env) (fun ov s2 => wpC M A (eval i env) (fun iv s3 => wpC M A (setItem ov iv v) (fun _ => QF .next) E s3) E s2) E s1) E s)
    (hs : swapsWith value (some (.Subscript o i pos')) pos.line env = pure false) : wpC M A (exec (.Assign [.Subscript o i pos'] value pos) env) QF E s := by
  rw [exec_Assign_Subscript o i pos' value pos hs]
  refine wpC_at (wpC_then h fun v s1 h1 => wpC_then (P := fun _ s2 => QF .next s2) ?_ fun _ s2 h2 => wpC_pure h2)
  rw [assign_Subscript]
  exact wpC_then (wpC_holding h1) fun ov s2 h2 => wpC_then (wpC_holding h2) fun iv s3 h3 => wpC_at (wpC_then (wpC_holding h3) fun _ s4 h4 => .of (wpAny_release' h4))
end

/-! a def's code -/
section
variable {prog : Program} {w : World} {A : Around} {s : Shared} {R : Result → Shared → Prop}
theorem wc_attr {E : Value → Shared → Prop} {Q : Value → Shared → Prop} {env : Env} {o attr pos} {b : Bool} (h : wpC (model prog w) A (eval o env) (fun ov s1 => wpC (model prog w) A (getAttr ov attr b) Q E s1) E s)
    (he : eval (.Attribute o attr pos) env = (do let ov ← eval o env; standAt pos.atName; let r ← holding [ov] (getAttr ov attr b); letTemporaryGo o ov r; pure r)) : wpC (model prog w) A (eval (.Attribute o attr pos) env) Q E s := by
  rw [he]
  exact wpC_then h fun ov s1 h1 => wpC_at (wpC_then (wpC_holding h1) fun r s2 h2 => wpC_bind (.of (wpAny_letTemporaryGo (wpC_pure h2))))
theorem codeC_func {body env} (h : wpC (model prog w) (A.deeper env) (execs body env) (fun f s1 => R (.ok (.ret (match f with | .ret v => v | _ => .none))) s1)
      (fun e s1 => wpC (model prog w) (A.deeper env) (leaving env e) (fun _ s2 => R (.error e) s2) (fun e' s2 => R (.error e') s2) s1) s) : codeC (model prog w) A (.func body env) R s := by
  refine codeC_tree rfl ?_
  show wpC _ (A.deeper env) (do point; match ← (execs body env).onRaise (leaving env) with | .ret v => ret v | _ => ret .none) _ _ s
  refine wpC_bind (.of (wpAny_point (wpC_bind (wpC_onRaise (wpC_mono h (fun f s1 h1 => ?_) fun _ _ x => x)))))
  cases f <;> exact wpC_pure h1
theorem codeC_def {a : Addr} {o : Obj} {fd : FuncData} {body : List Stmt} {args : Args} {binds : List (Str × Value)}
    (hroom : A.depth < recursionLimit) (ho : s.heap.get? a = some o) (hdata : o.data = .func fd) (hlim : s.heap.NoLimit) (hcd : s.heap.CodeRec fd.code fd.qualname)
    (hbody : fd.body = .stmts body) (hbind : BindsTo s fd args binds) (hcell : ∀ x ∈ fd.scope.names, x.2 ≠ .cell) (hloc : ∀ x ∈ binds, fd.scope.names.lookup x.1 = some .local)
    (h : ∀ h₀, h₀.Ns s.heap.objs.size (fun x => binds.reverse.lookup x) → (∀ b o, s.heap.get? b = some o → h₀.get? b = some o) →
      wpC (model prog w) (A.deeper (callEnv fd s.heap.objs.size a)) (execs body (callEnv fd s.heap.objs.size a)) (fun f s1 => R (.ok (.ret (match f with | .ret v => v | _ => .none))) s1)
        (fun e s1 => wpC (model prog w) (A.deeper (callEnv fd s.heap.objs.size a)) (leaving (callEnv fd s.heap.objs.size a) e) (fun _ s2 => R (.error e) s2) (fun e' s2 => R (.error e') s2) s1)
        { s with heap := h₀, toks := s.toks + binds.length })
    (hco : fd.scope.isCoroutine = false) (hgen : fd.scope.isGenerator = false) (hk : fd.scope.kind = .function) : codeC (model prog w) A (.call (.ref a) args) R s := by
  refine codeC_tree rfl ?_
  show wpC _ A.in1 (callAny (.ref a) args) _ _ s
  simp only [callAny]
  refine wpC_bind (.of (wpAny_load ho ?_))
  obtain ⟨c, oc, vs, tq, hc, hoc, hdc, hq⟩ := hcd
  simp only [hdata, callFunction, hco, hgen, hbody, hc]
  refine wpC_bind (m := field (.ref c) 1) (.of (wpAny_field hoc hdc hq (wpC_bind (wpC_pure ?_))))
  refine wpC_bind (.of (hbind _ _ _ _ ?_))
  refine wpC_bind (.of ?_)
  rw [← hc]
  refine wpAny_newFunctionEnv hcell hloc (fun h₀ hns hsb => ?_) hk
  refine wpC_bind (.of (wpAny_enterFrame (hlim.fresh _ hsb) hroom (wpC_pure (And.intro rfl (codeC_func (h h₀ hns fun b o e => ?_))))))
  exact hsb.extBut b o (Nat.ne_of_lt (Heap.lt_size e)) (Heap.get?_push_of_some _ e)
end
end Mine
end
section
open PySem PySem.W PyProof.Rows PySem.Calls
namespace Mine

noncomputable abbrev WalkC (q : Program) (loose : List Str) (XP : (Str → Option Value) → Heap → Prop) (YP : World → Heap → Prop) (r : RowW) (d : DefRec) (kwd : List (Str × Expr)) : Prop :=
  ∀ (w : World) (s₀ s₁ : Shared) (mg mb : Str → Option Value), Ground q loose r.records XP w s₀ mg mb s₁.heap → YP w s₁.heap → ∀ (a : Addr), mg d.name = some (.ref a) → s₁.gens = #[] →
    ∀ (args : List WData) (vals : List Value) (as : List Addr), r.claim.pre args = true → WData.layableAll args = true → ReadsAllW r.records (classAt s₀.heap) s₁.heap vals args as → WellAll w.params s₁.heap vals args →
      wpC (model r.prog w) callerA (PySem.call (.ref a) vals) (fun v s' => GoodW r.claim (classAt s₀.heap) (ExcName.means s₀.heap) args s₁ (.ok (.ret v)) s') (fun _ _ => False) s₁

theorem holdsC {r : OpenRow} {q : Program} {loose : List Str} {Xt : Shared → Bool} {XP : (Str → Option Value) → Heap → Prop} {α : Type} {Yf : Shared → α} {Ya : World → α} {YP : World → Heap → Prop} {d : DefRec} {kwd : List (Str × Expr)} {N : Nat}
    (left : LeftO r.prog q loose Xt Yf Ya N) (hY : ∀ w s, Yf s = Ya w → YP w s.heap) (hYk : ∀ w h h', YP w h → (∀ b o, h.get? b = some o → h'.get? b = some o) → YP w h')
    (hX : ∀ s, Xt s = true → XP (s.heap.nsMap mainGlobals) s.heap) (hXk : ∀ mg h h', XP mg h → (∀ b o, h.get? b = some o → h'.get? b = some o) → XP mg h')
    (hdef : defOf q r.name = some (d, kwd)) (hp : r.prog.theDef r.name = some (d.params, d.body, d.scope)) (hk : kwWritten? d.params.kwonlyargs d.params.kw_defaults = some kwd) (hRf : ∀ s, Xt s = true → RecFacts r.records s.heap) (hwr : (!r.writes || r.records.isEmpty) = true)
    (k1 : r.wellSaid = true) (ok : (chainsOk q && opensWell r.prog && (frees r.toRowW && r.within.isEmpty)) = true) (hb : r.prog.bare) (hw : r.toRowW.promised)
    (call : WalkC q loose XP YP r.toRowW d kwd) : r.Holds := by
  obtain ⟨ok, k5⟩ := Bool.and_eq_true_iff.mp ok
  obtain ⟨hch, o1⟩ := Bool.and_eq_true_iff.mp ok
  obtain ⟨k5, k6⟩ := Bool.and_eq_true_iff.mp k5
  obtain ⟨hsame, hu, ha, hap, hm⟩ := frees_parts k5
  have hi := ident_freeW hu ha hap
  have hwi : r.claim.within = [] := List.isEmpty_iff.mp k6
  refine ⟨k1, hw, ⟨hb, o1, by show r.toRowW.makers.map _ = []; rw [hm]; rfl⟩, hw.witness, fun w => ⟨(left.behind hX hch w).1, fun s' hs' => ?_⟩⟩
  obtain ⟨s₀, hf, hg0, s, hT, hz, hgens, hg, G00, y⟩ := (left.behind (XP := fun mg h => XP mg h ∧ RecFacts r.records h) (fun s hs => ⟨hX s hs, hRf s hs⟩) hch w).2 s' hs'
  have G0 : Ground q loose [] XP w s (s.heap.nsMap mainGlobals) (s.heap.nsMap builtinsNs) s.heap := ⟨G00.T, G00.B, G00.D, G00.TE, G00.TD, G00.W, G00.X.1, G00.cls, G00.has, G00.apart, G00.once, G00.K⟩
  have RF := G00.X.2
  have hgens : s.gens = #[] := Array.eq_empty_of_size_eq_zero (beq_iff_eq.mp hgens)
  have G : Ground q loose r.records XP w s _ _ s.heap := RF.ground G0
  refine ⟨s₀, hf, hg0, s, hT, fun n hn => ?_, RF.1, RF.2.1, fun args hpre hlay ord hord => ?_⟩
  · obtain rfl : n = r.name := by split at hn <;> simp_all
    exact pinned_of_view hg G0 hdef hp hk
  obtain ⟨⟨vs, s₁⟩, hlaid⟩ := Option.isSome_iff_exists.mp (layAllW_isSome (P := w.params) (ord := ord) G.has args r.args s (pre_splitW hpre).1)
  have keeps := layAllW_keeps _ _ _ hlaid
  have hal := layAllW_rest _ _ _ hlaid
  obtain ⟨as, hrd, hin, hold⟩ := reads_layAllW hord _ _ _ hlaid hlay s₁.heap (fun _ _ e => e)
  have L : Laid r.records w s s₁ args vs as := ⟨⟨ord, hord, hlaid⟩, hrd, hin, hold, keeps, hal.1.trans hgens, hal.2.2.1⟩
  have G₁ := G.keeps hXk keeps
  obtain ⟨a, o, pm, cd, doc, dV, kV, h1, h2, h3, h4, h5⟩ := G₁.fn hdef
  have hn : d.name = r.name := defOf_name hdef
  have C := call w s s₁ _ _ G₁ (hYk _ _ _ (hY w s y) keeps) a (hn ▸ h1) L.gens args vs as hpre hlay L.reads L.well
  have T : Sem.wp (model r.prog w) ⟨.builtin "claim.caller" {}, none, none, [], none⟩ (do match ← nsGet mainNs r.name with
      | some f => do ret (← PySem.call f vs)
      | none => unsupported "claim.caller:no-such-global") (Sem.finPost (model r.prog w) ⟨.builtin "claim.caller" {}, none, none, [], none⟩ fun res s' => (∃ v, res = .ok (.ret v) ∧ GoodW r.claim (classAt s.heap) (ExcName.means s.heap) args s₁ (.ok (.ret v)) s') ∧ leftWithCleanup s'.gens = false)
      (fun e _ s' => (∃ v, (Except.error e : Result) = .ok (.ret v) ∧ GoodW r.claim (classAt s.heap) (ExcName.means s.heap) args s₁ (.ok (.ret v)) s') ∧ leftWithCleanup s'.gens = false) default s₁ := by
    have X : wpC (model r.prog w) callerA (do match ← nsGet mainNs r.name with
      | some f => do ret (← PySem.call f vs)
      | none => unsupported "claim.caller:no-such-global") (fun fin s' => ∃ v, fin = .done (.ret v) ∧ GoodW r.claim (classAt s.heap) (ExcName.means s.heap) args s₁ (.ok (.ret v)) s') (fun _ _ => False) s₁ :=
      wpC_bind (.of (wpAny_nsGet (G₁.T.g) (by rw [h1]; exact wpC_then C fun v s' g => wpC_pure ⟨v, rfl, g⟩)))
    refine Sem.wp_mono _ _ _ (fun fin p' s' h' => ?_) (fun _ _ _ h' => h'.elim) default s₁ (X _ default caller_in ⟨by decide +kernel, fun x hx => nomatch hx⟩)
    obtain ⟨v, rfl, g⟩ := h'
    exact ⟨⟨v, rfl, g⟩, by rw [g.2.2.2]; exact leftWithCleanup_false_of_bare (fun x hx => absurd hx (by simp))⟩
  obtain ⟨k, res, s2, s3, hs, hr, hfo, v, rfl, g⟩ := wp_halts_full (M := model r.prog w) (Shared.asleep_of_life hal.2.2.2 hz) T
  obtain ⟨eh, _, _, eo, _⟩ := Shared.forget_eq hfo
  obtain ⟨e1, e2, e3⟩ := (g.toG).laid (c := r.claim) hsame hwi hi L
  have hlife : s3.heap.life = s.heap.life := (runN_life _ _ _ hr).trans hal.2.2.2
  refine ⟨vs, s₁, hlaid, k, _, s3, hs, ?_, (fun _ i x hx => by rw [hgens] at hx; simp at hx), ?_, by rw [hlife], Shared.rest_eq (eo.trans e2)⟩
  · rcases e1.congr eh with ⟨v', q, d1, d2, d3, d4, d5⟩ | ⟨e, ob, cls, q, _⟩
    · exact .inl ⟨v', by cases q; rfl, d1, d2, d3, fun b o y _ => d4 b o y, d5⟩
    · cases q
  · intro q
    rw [eh]
    exact ⟨namesKept_of hT hg _ keeps (g.toG).2.1.old, noTable hwr q⟩
end Mine
end
section
open PySem PySem.W PyProof.Rows PySem.Calls
namespace Mine

inductive MV where
  | none
  | bool (b : Bool)
  | int (i : Int)
  | bytes (b : List UInt8)
  | str (s : Str)
  | ref (a : Addr)
  | tup (l : List MV)

inductive MO where
  | lst (l : List MV)
  | ddi (l : List (Int × MV))
  | dds (l : List (Str × MV))
  | dde (l : List (Int × MV)) (ep : Nat)
  | ins (C : Addr) (vals : List (Option MV))
  | bya (b : List UInt8)

noncomputable abbrev Fz := Addr → Option Obj
noncomputable abbrev Store := Addr → Option MO

noncomputable abbrev tupObj (vs : Array Value) (n : Nat) : Obj := { cls := .type "tuple", data := .seq vs n }
noncomputable abbrev lstObj (vs : Array Value) (n : Nat) : Obj := { cls := .type "list", data := .seq vs n }
noncomputable abbrev byaObj (b : Array UInt8) : Obj := { cls := .type "bytearray", data := .bytearray b }

mutual
inductive RV (φ : Fz) : MV → Value → Prop
  | none : RV φ .none .none
  | bool (b : Bool) : RV φ (.bool b) (.bool b)
  | int (i : Int) (t : Tok) : RV φ (.int i) (.int i t)
  | bytes (b : List UInt8) (t : Tok) : RV φ (.bytes b) (.bytes b.toArray t)
  | str (s : Str) (t : Tok) : RV φ (.str s) (.str s t)
  | ref (a : Addr) : RV φ (.ref a) (.ref a)
  | tup {a : Addr} {l : List MV} {vs : Array Value} {n : Nat} : φ a = some (tupObj vs n) → RVs φ l vs.toList → RV φ (.tup l) (.ref a)
inductive RVs (φ : Fz) : List MV → List Value → Prop
  | nil : RVs φ [] []
  | cons {x : MV} {v : Value} {xs : List MV} {vs : List Value} : RV φ x v → RVs φ xs vs → RVs φ (x :: xs) (v :: vs)
end

noncomputable def Kp (φ φ' : Fz) : Prop := ∀ a o, φ a = some o → φ' a = some o
theorem Kp.refl (φ : Fz) : Kp φ φ := fun _ _ e => e
theorem Kp.trans {φ φ' φ'' : Fz} (x : Kp φ φ') (y : Kp φ' φ'') : Kp φ φ'' := fun a o e => y a o (x a o e)

mutual
theorem RV.mono' {φ φ' : Fz} (k : ∀ a vs n, φ a = some (tupObj vs n) → φ' a = some (tupObj vs n)) : ∀ {x : MV} {v : Value}, RV φ x v → RV φ' x v
  | _, _, .none => .none
  | _, _, .bool b => .bool b
  | _, _, .int i t => .int i t
  | _, _, .bytes b t => .bytes b t
  | _, _, .str s t => .str s t
  | _, _, .ref a => .ref a
  | _, _, .tup e r => .tup (k _ _ _ e) (RVs.mono' k r)
theorem RVs.mono' {φ φ' : Fz} (k : ∀ a vs n, φ a = some (tupObj vs n) → φ' a = some (tupObj vs n)) : ∀ {x : List MV} {v : List Value}, RVs φ x v → RVs φ' x v
  | _, _, .nil => .nil
  | _, _, .cons h r => .cons (RV.mono' k h) (RVs.mono' k r)
end
theorem RV.mono {φ φ' : Fz} (k : Kp φ φ') {x : MV} {v : Value} (h : RV φ x v) : RV φ' x v := h.mono' fun a _ _ e => k a _ e
theorem RVs.mono {φ φ' : Fz} (k : Kp φ φ') {x : List MV} {v : List Value} (h : RVs φ x v) : RVs φ' x v := h.mono' fun a _ _ e => k a _ e
theorem RVs.length {φ : Fz} : ∀ {xs : List MV} {vs : List Value}, RVs φ xs vs → xs.length = vs.length
  | _, _, .nil => rfl
  | _, _, .cons _ r => congrArg (· + 1) r.length
theorem RVs.get {φ : Fz} : ∀ {xs : List MV} {vs : List Value}, RVs φ xs vs → ∀ (i : Nat) (x : MV), xs[i]? = some x → ∃ v, vs[i]? = some v ∧ RV φ x v
  | _, _, .nil, i, x, e => by simp at e
  | _, _, .cons h r, 0, x, e => by simp at e; subst e; exact ⟨_, rfl, h⟩
  | _, _, .cons h r, i + 1, x, e => by simpa using r.get i x (by simpa using e)
theorem RVs.append {φ : Fz} : ∀ {xs ys : List MV} {vs ws : List Value}, RVs φ xs vs → RVs φ ys ws → RVs φ (xs ++ ys) (vs ++ ws)
  | _, _, _, _, .nil, r => r
  | _, _, _, _, .cons h q, r => .cons h (q.append r)
theorem RVs.drop {φ : Fz} : ∀ (n : Nat) {xs : List MV} {vs : List Value}, RVs φ xs vs → RVs φ (xs.drop n) (vs.drop n)
  | 0, _, _, h => h
  | _ + 1, _, _, .nil => .nil
  | n + 1, _, _, .cons _ r => r.drop n
theorem RVs.take {φ : Fz} : ∀ (n : Nat) {xs : List MV} {vs : List Value}, RVs φ xs vs → RVs φ (xs.take n) (vs.take n)
  | 0, _, _, _ => .nil
  | _ + 1, _, _, .nil => .nil
  | n + 1, _, _, .cons h r => .cons h (r.take n)
theorem RVs.set {φ : Fz} {x : MV} {v : Value} (h : RV φ x v) : ∀ (n : Nat) {xs : List MV} {vs : List Value}, RVs φ xs vs → RVs φ (xs.set n x) (vs.set n v)
  | _, _, _, .nil => .nil
  | 0, _, _, .cons _ r => .cons h r
  | n + 1, _, _, .cons h' r => .cons h' (r.set h n)

structure Wd where
  prog : Program
  w : World
  g₀ : Heap
  os₀ : OsState
  K : Frag
  p : Program
  loose : List Str
  mg : Str → Option Value
  mb : Str → Option Value
  X : K.In g₀
  T : TopRead p loose mg mb g₀
  seer : g₀.NoSeer
  given : prog.given.tree = none
  attrs : Addr → List Str
noncomputable abbrev Wd.M (W : Wd) : Model := model W.prog W.w

noncomputable def AR (φ : Fz) (es : List DictEntry) : List Str → List (Option MV) → Prop
  | x :: xs, v :: vs => (match v with
      | some mv => ∃ w, getL x es = some (some w) ∧ RV φ mv w
      | none => getL x es = some none) ∧ AR φ es xs vs
  | [], [] => True
  | _, _ => False

structure InsDict (φ : Fz) (h : Heap) (d : Addr) (names : List Str) (vals : List (Option MV)) (es : List DictEntry) (n : Nat) : Prop where
  at_ : h.get? d = some (dictOf es n)
  ar : AR φ es names vals
  keys : ∀ e ∈ es, ∃ x t, e.key = .str x t ∧ x ∈ names
  len : es.length ≤ names.length
  nodup : (es.map (·.key)).Pairwise fun a b => ∀ x, a.isStr x = true → b.isStr x = false

noncomputable def OR (W : Wd) (φ : Fz) (h : Heap) (d a : Addr) : MO → Prop
  | .lst l => ∃ vs n, h.get? a = some (lstObj vs n) ∧ RVs φ l vs.toList
  | .bya b => h.get? a = some (byaObj b.toArray)
  | .ins C vals => h.get? a = some (instObj C d) ∧ ∃ es n, InsDict φ h d (W.attrs C) vals es n
  | .ddi l => (a == sysModules) = false ∧ ∃ kvs : List (Int × Value), h.DictOf (intKind W.prog W.w) a kvs ∧ l.map (·.1) = kvs.map (·.1) ∧ RVs φ (l.map (·.2)) (kvs.map (·.2))
  | .dds l => (a == sysModules) = false ∧ ∃ kvs : List (Str × Value), h.DictOf (strKind W.prog W.w) a kvs ∧ l.map (·.1) = kvs.map (·.1) ∧ RVs φ (l.map (·.2)) (kvs.map (·.2))
  | .dde l ep => (a == sysModules) = false ∧ ∃ kvs : List (Int × Value), h.DictAt (intKind W.prog W.w) a kvs ep ∧ l.map (·.1) = kvs.map (·.1) ∧ RVs φ (l.map (·.2)) (kvs.map (·.2))

structure St (W : Wd) (φ : Fz) (σ : Store) (δ : Addr → Addr) (s : Shared) : Prop where
  base : ∀ a o, W.g₀.get? a = some o → φ a = some o
  keep : ∀ a o, φ a = some o → s.heap.get? a = some o
  objs : ∀ a o, σ a = some o → OR W φ s.heap (δ a) a o
  sep : ∀ a o, σ a = some o → φ a = none
  sepd : ∀ a C vs, σ a = some (.ins C vs) → φ (δ a) = none ∧ σ (δ a) = none
  inj : ∀ a b C vs C' vs', σ a = some (.ins C vs) → σ b = some (.ins C' vs') → δ a = δ b → a = b
  gens : s.gens = #[]
  os : s.os = W.os₀

noncomputable def VarAt (φ : Fz) (env : Env) (h : Heap) (m : Str → Option Value) (x : Str) (v : Option MV) : Prop :=
  (env.kindOf x = some .local ∧ ∀ mv, v = some mv → ∃ w, m x = some w ∧ RV φ mv w) ∨
  (∃ c, (env.kindOf x = some .cell ∨ env.kindOf x = some .free) ∧ env.cells.lookup x = some c ∧ ∃ ov, h.IsCell c ov ∧ ∀ mv, v = some mv → ∃ w, ov = some w ∧ RV φ mv w)

noncomputable def VR (φ : Fz) (env : Env) (h : Heap) (m : Str → Option Value) : List Str → List (Option MV) → Prop
  | x :: xs, v :: vs => VarAt φ env h m x v ∧ VR φ env h m xs vs
  | [], [] => True
  | _, _ => False

structure EnvOK (env : Env) (ns : List Str) : Prop where
  kind : env.scope.kind = .function
  nodup : ns.Nodup
  plain : ∀ x ∈ ns, (x == ("__debug__" : Str)) = false ∧ (x == ("__classdict__" : Str)) = false
  glob : env.globals = mainGlobals
  blt : env.builtins = builtinsNs
  cells : env.cells.Pairwise fun a b => a.2 ≠ b.2
  keys : env.cells.Pairwise fun a b => a.1 ≠ b.1

structure Fm (W : Wd) (φ : Fz) (σ : Store) (δ : Addr → Addr) (env : Env) (ns : List Str) (vals : List (Option MV)) (s : Shared) : Prop where
  st : St W φ σ δ s
  ok : EnvOK env ns
  Lφ : φ env.locals = none
  Lσ : σ env.locals = none
  Lδ : ∀ a C vs, σ a = some (.ins C vs) → δ a ≠ env.locals
  cφ : ∀ p ∈ env.cells, φ p.2 = none ∧ σ p.2 = none ∧ p.2 ≠ env.locals ∧ ∀ a C vs, σ a = some (.ins C vs) → δ a ≠ p.2
  cat : ∀ p ∈ env.cells, ∃ ov, s.heap.IsCell p.2 ov
  vars : ∃ m, s.heap.Ns env.locals m ∧ VR φ env s.heap m ns vals

structure Ok (k : Nat) (A : Around) : Prop where
  h : A.handled = none
  d : A.depth + 3 * k + 100 < recursionLimit
  u : A.units + 40 * k < cLine
  fr : ∃ l, A.frames = some l
theorem Ok.le {k k' : Nat} {A : Around} (h : Ok k A) (e : k' ≤ k) : Ok k' A := ⟨h.h, by have := h.d; omega, by have := h.u; omega, h.fr⟩
structure OkE (k : Nat) (A : Around) (env : Env) : Prop extends Ok k A where
  top : ∃ e l, A.frames = some (e :: l) ∧ e.scope.isGenerator = false ∧ e.scope.isCoroutine = false ∧ e.builtins = builtinsNs ∧ e.globals = mainGlobals

noncomputable def ME {α β : Type} (R : Fz → β → α → Prop) (W : Wd) (k : Nat) (t : Sem α) (env : Env) (ns : List Str) (vals : List (Option MV)) (σ : Store) (Q : β → Store → Prop) : Prop :=
  ∀ (A : Around) (φ : Fz) (δ : Addr → Addr) (s : Shared), OkE k A env → Fm W φ σ δ env ns vals s →
    wpC W.M A t (fun v s' => ∃ mv σ' φ' δ', Kp φ φ' ∧ R φ' mv v ∧ Fm W φ' σ' δ' env ns vals s' ∧ Q mv σ') (fun _ _ => False) s

noncomputable def RB (_ : Fz) (b : Bool) (c : Bool) : Prop := c = b

inductive MFlow where
  | next | brk | cont
  | ret (v : MV)
inductive RF (φ : Fz) : MFlow → Flow → Prop
  | next : RF φ .next .next
  | brk : RF φ .brk .brk
  | cont : RF φ .cont .cont
  | ret {x v} : RV φ x v → RF φ (.ret x) (.ret v)
noncomputable def RU (_ : Fz) (_ : Unit) (_ : Unit) : Prop := True

noncomputable def MG {α β : Type} (R : Fz → β → α → Prop) (W : Wd) (k : Nat) (t : Sem α) (env : Env) (ns : List Str) (vals : List (Option MV)) (σ : Store) (Q : β → List (Option MV) → Store → Prop) : Prop :=
  ∀ (A : Around) (φ : Fz) (δ : Addr → Addr) (s : Shared), OkE k A env → Fm W φ σ δ env ns vals s →
    wpC W.M A t (fun v s' => ∃ mv vals' σ' φ' δ', Kp φ φ' ∧ R φ' mv v ∧ Fm W φ' σ' δ' env ns vals' s' ∧ Q mv vals' σ') (fun _ _ => False) s

theorem OR.grow {W : Wd} {φ φ' : Fz} {h h' : Heap} {d a : Addr} {o : MO} (x : OR W φ h d a o) (kφ : ∀ a vs n, φ a = some (tupObj vs n) → φ' a = some (tupObj vs n))
    (ha : ∀ o, h.get? a = some o → h'.get? a = some o) (hd : ∀ C vs, o = .ins C vs → ∀ o', h.get? d = some o' → h'.get? d = some o') : OR W φ' h' d a o := by
  cases o with
  | lst l => obtain ⟨vs, n, e, r⟩ := x; exact ⟨vs, n, ha _ e, r.mono' kφ⟩
  | bya b => exact ha _ x
  | ins C vals =>
    obtain ⟨e, es, n, D⟩ := x
    refine ⟨ha _ e, es, n, hd C vals rfl _ D.at_, ?_, D.keys, D.len, D.nodup⟩
    have : ∀ (xs : List Str) (vs : List (Option MV)), AR φ es xs vs → AR φ' es xs vs := by
      intro xs
      induction xs with
      | nil => intro vs h; cases vs <;> first | exact h | exact h.elim
      | cons x xs ih =>
        intro vs h
        cases vs with
        | nil => exact h.elim
        | cons v vs =>
          refine ⟨?_, ih vs h.2⟩
          cases v with
          | none => exact h.1
          | some mv => obtain ⟨w, a, b⟩ := h.1; exact ⟨w, a, b.mono' kφ⟩
    exact this _ _ D.ar
  | ddi l => obtain ⟨hs, kvs, ⟨o, es, ep, e, r⟩, e2, rv⟩ := x; exact ⟨hs, kvs, ⟨o, es, ep, ha _ e, r⟩, e2, rv.mono' kφ⟩
  | dds l => obtain ⟨hs, kvs, ⟨o, es, ep, e, r⟩, e2, rv⟩ := x; exact ⟨hs, kvs, ⟨o, es, ep, ha _ e, r⟩, e2, rv.mono' kφ⟩
  | dde l ep => obtain ⟨hs, kvs, ⟨o, es, e, r⟩, e2, rv⟩ := x; exact ⟨hs, kvs, ⟨o, es, ha _ e, r⟩, e2, rv.mono' kφ⟩

theorem VR.grow {φ φ' : Fz} {env : Env} {h h' : Heap} {m : Str → Option Value} (kφ : ∀ a vs n, φ a = some (tupObj vs n) → φ' a = some (tupObj vs n))
    (hc : ∀ p ∈ env.cells, ∀ o, h.get? p.2 = some o → h'.get? p.2 = some o) : ∀ {ns : List Str} {vals : List (Option MV)}, VR φ env h m ns vals → VR φ' env h' m ns vals
  | [], [], _ => trivial
  | [], _ :: _, x => x.elim
  | _ :: _, [], x => x.elim
  | x :: xs, v :: vs, r => by
    refine ⟨?_, VR.grow kφ hc r.2⟩
    rcases r.1 with ⟨a, b⟩ | ⟨c, a, b, ov, ⟨o, ho, hd⟩, e⟩
    · exact .inl ⟨a, fun mv q => let ⟨w, y, z⟩ := b mv q; ⟨w, y, z.mono' kφ⟩⟩
    · refine .inr ⟨c, a, b, ov, ⟨o, hc (x, c) ?_ _ ho, hd⟩, fun mv q => let ⟨w, y, z⟩ := e mv q; ⟨w, y, z.mono' kφ⟩⟩
      have : ∀ (l : List (Str × Addr)), l.lookup x = some c → (x, c) ∈ l := by
        intro l
        induction l with
        | nil => intro h; cases h
        | cons p l ih =>
          intro h
          rw [List.lookup_cons] at h
          split at h
          · rename_i q; cases h; rw [beq_iff_eq.mp q]; exact .head _
          · exact .tail _ (ih h)
      exact this _ b

theorem St.grow {W : Wd} {φ : Fz} {σ : Store} {δ : Addr → Addr} {s s' : Shared} (F : St W φ σ δ s) (hk : ∀ b o, s.heap.get? b = some o → s'.heap.get? b = some o)
    (hg : s'.gens = s.gens) (ho : s'.os = s.os) : St W φ σ δ s' :=
  ⟨F.base, fun a o e => hk _ _ (F.keep a o e), fun a o e => (F.objs a o e).grow (fun _ _ _ e => e) (fun _ q => hk _ _ q) (fun _ _ _ _ q => hk _ _ q), F.sep, F.sepd, F.inj, hg.trans F.gens, ho.trans F.os⟩

theorem Fm.grow {W : Wd} {φ : Fz} {σ : Store} {δ : Addr → Addr} {env : Env} {ns : List Str} {vals : List (Option MV)} {s s' : Shared} (F : Fm W φ σ δ env ns vals s) (hk : ∀ b o, s.heap.get? b = some o → s'.heap.get? b = some o)
    (hg : s'.gens = s.gens) (ho : s'.os = s.os) : Fm W φ σ δ env ns vals s' :=
  ⟨F.st.grow hk hg ho, F.ok, F.Lφ, F.Lσ, F.Lδ, F.cφ, fun p hp => (let ⟨ov, o, a, b⟩ := F.cat p hp; ⟨ov, o, hk _ _ a, b⟩), let ⟨m, a, b⟩ := F.vars; ⟨m, a.keeps hk, b.grow (fun _ _ _ e => e) fun _ _ _ q => hk _ _ q⟩⟩

noncomputable def Fz.put (φ : Fz) (a : Addr) (o : Obj) : Fz := fun b => if b = a then some o else φ b
noncomputable def Store.put (σ : Store) (a : Addr) (o : MO) : Store := fun b => if b = a then some o else σ b
theorem Fz.put_kp {φ : Fz} {a : Addr} {o : Obj} (h : φ a = none) : Kp φ (φ.put a o) := by
  intro b o' e
  unfold Fz.put
  split
  · rename_i q; subst q; rw [h] at e; cases e
  · exact e
@[simp] theorem Fz.put_self {φ : Fz} {a : Addr} {o : Obj} : φ.put a o a = some o := by simp [Fz.put]
theorem Fz.put_ne {φ : Fz} {a b : Addr} {o : Obj} (h : b ≠ a) : φ.put a o b = φ b := by simp [Fz.put, h]
@[simp] theorem Store.put_self {σ : Store} {a : Addr} {o : MO} : σ.put a o a = some o := by simp [Store.put]
theorem Store.put_ne {σ : Store} {a b : Addr} {o : MO} (h : b ≠ a) : σ.put a o b = σ b := by simp [Store.put, h]

theorem OR.at_ {W : Wd} {φ : Fz} {h : Heap} {d a : Addr} {o : MO} (x : OR W φ h d a o) : ∃ ob, h.get? a = some ob := by
  cases o with
  | lst l => obtain ⟨vs, n, e, r⟩ := x; exact ⟨_, e⟩
  | bya b => exact ⟨_, x⟩
  | ins C vals => exact ⟨_, x.1⟩
  | ddi l => obtain ⟨_, kvs, ⟨o, es, ep, e, r⟩, _⟩ := x; exact ⟨_, e⟩
  | dds l => obtain ⟨_, kvs, ⟨o, es, ep, e, r⟩, _⟩ := x; exact ⟨_, e⟩
  | dde l ep => obtain ⟨_, kvs, ⟨o, es, e, r⟩, _⟩ := x; exact ⟨_, e⟩

section
variable {W : Wd} {φ : Fz} {σ : Store} {δ : Addr → Addr} {env : Env} {ns : List Str} {vals : List (Option MV)} {s : Shared}
theorem St.fresh_φ (F : St W φ σ δ s) {a : Addr} (h : s.heap.objs.size ≤ a) : φ a = none := by
  cases q : φ a with
  | none => rfl
  | some o => exact absurd (Heap.lt_size (F.keep a o q)) (Nat.not_lt.mpr h)
theorem St.fresh_σ (F : St W φ σ δ s) {a : Addr} (h : s.heap.objs.size ≤ a) : σ a = none := by
  cases q : σ a with
  | none => rfl
  | some o => obtain ⟨ob, e⟩ := (F.objs a o q).at_; exact absurd (Heap.lt_size e) (Nat.not_lt.mpr h)
theorem St.fresh_δ (F : St W φ σ δ s) {a x : Addr} {C vs} (h : s.heap.objs.size ≤ a) (e : σ x = some (.ins C vs)) : δ x ≠ a := by
  intro q
  obtain ⟨_, es, n, D⟩ := F.objs _ _ e
  exact absurd (Heap.lt_size D.at_) (by rw [q]; exact Nat.not_lt.mpr h)
theorem Fm.fresh_L (F : Fm W φ σ δ env ns vals s) {a : Addr} (h : s.heap.objs.size ≤ a) : env.locals ≠ a := by
  obtain ⟨m, N, _⟩ := F.vars
  exact fun q => absurd N.lt (by rw [q]; exact Nat.not_lt.mpr h)

theorem St.freeze (F : St W φ σ δ s) {a : Addr} {o : Obj} (hφ : φ a = none) (hσ : σ a = none) (hδ : ∀ x C vs, σ x = some (.ins C vs) → δ x ≠ a) (ho : s.heap.get? a = some o) : St W (φ.put a o) σ δ s := by
  have k := Fz.put_kp (o := o) hφ
  refine ⟨fun b o' e => k _ _ (F.base b o' e), fun b o' e => ?_, fun b o' e => (F.objs b o' e).grow (fun _ _ _ e => k _ _ e) (fun _ q => q) (fun _ _ _ _ q => q), fun b o' e => ?_, fun b C vs e => ?_, F.inj, F.gens, F.os⟩
  · by_cases q : b = a
    · subst q; rw [Fz.put_self] at e; cases e; exact ho
    · rw [Fz.put_ne q] at e; exact F.keep b o' e
  · rw [Fz.put_ne (fun q => by subst q; rw [hσ] at e; cases e)]; exact F.sep b o' e
  · rw [Fz.put_ne (hδ b C vs e)]; exact F.sepd b C vs e

theorem Fm.freeze (F : Fm W φ σ δ env ns vals s) {a : Addr} {o : Obj} (hφ : φ a = none) (hσ : σ a = none) (hδ : ∀ x C vs, σ x = some (.ins C vs) → δ x ≠ a) (hL : a ≠ env.locals) (hc : ∀ p ∈ env.cells, p.2 ≠ a) (ho : s.heap.get? a = some o) :
    Fm W (φ.put a o) σ δ env ns vals s := by
  have k := Fz.put_kp (o := o) hφ
  refine ⟨F.st.freeze hφ hσ hδ ho, F.ok, ?_, F.Lσ, F.Lδ, fun p hp => ?_, F.cat, let ⟨m, x, y⟩ := F.vars; ⟨m, x, y.grow (fun _ _ _ e => k _ _ e) fun _ _ _ q => q⟩⟩
  · rw [Fz.put_ne (Ne.symm hL)]; exact F.Lφ
  · obtain ⟨q1, q2, q3, q4⟩ := F.cφ p hp
    exact ⟨by rw [Fz.put_ne (hc p hp)]; exact q1, q2, q3, q4⟩
end

end Mine
end
section
open PySem PySem.W PyProof.Rows PySem.Calls
namespace Mine

/-! adaptors to the library's ledgers: everything but the locals, in one list -/
noncomputable def allNews (h : Heap) (L : Addr) : List (Addr × Obj) := (List.range h.objs.size).filterMap fun b => if b = L then none else (h.get? b).map fun o => (b, o)
theorem mem_allNews {h : Heap} {L : Addr} {p : Addr × Obj} : p ∈ allNews h L ↔ p.1 ≠ L ∧ h.get? p.1 = some p.2 := by
  unfold allNews
  rw [List.mem_filterMap]
  constructor
  · rintro ⟨b, _, e⟩
    split at e
    · cases e
    · rename_i hb
      obtain ⟨o, ho, rfl⟩ := Option.map_eq_some_iff.mp e
      exact ⟨hb, ho⟩
  · rintro ⟨h1, h2⟩
    refine ⟨p.1, List.mem_range.mpr (Heap.lt_size h2), ?_⟩
    rw [if_neg h1, h2]
    rfl
noncomputable def nowhere : Heap := {}
theorem nowhere_get (a : Addr) : nowhere.get? a = none := by simp [nowhere, Heap.get?]
theorem news_all (h : Heap) (L : Addr) : News nowhere L h (allNews h L) := fun p hp => ⟨(mem_allNews.mp hp).2, (mem_allNews.mp hp).1, nowhere_get _⟩
theorem fr_all {h : Heap} {L : Addr} {m : Str → Option Value} (N : h.Ns L m) : Fr nowhere L h m := ⟨N, fun b o e => absurd e (by rw [nowhere_get]; simp), Nat.zero_le _⟩
theorem keeps_of_all {h h' : Heap} {L : Addr} (N : News nowhere L h' (allNews h L)) : ∀ b o, b ≠ L → h.get? b = some o → h'.get? b = some o := fun b o hb e => (N (b, o) (mem_allNews.mpr ⟨hb, e⟩)).1

section
variable {W : Wd} {φ : Fz} {σ : Store} {δ : Addr → Addr} {env : Env} {ns : List Str} {vals : List (Option MV)} {s : Shared}

theorem Fm.fr (F : Fm W φ σ δ env ns vals s) : ∃ m, Fr nowhere env.locals s.heap m ∧ News nowhere env.locals s.heap (allNews s.heap env.locals) ∧ VR φ env s.heap m ns vals :=
  let ⟨m, N, V⟩ := F.vars; ⟨m, fr_all N, news_all _ _, V⟩

theorem St.keep' {φ : Fz} {σ : Store} {δ : Addr → Addr} {s s' : Shared} (F : St W φ σ δ s) {L : Addr} (hL : φ L = none) (hσ : σ L = none) (hδ : ∀ a C vs, σ a = some (.ins C vs) → δ a ≠ L)
    (hk : ∀ b o, b ≠ L → s.heap.get? b = some o → s'.heap.get? b = some o) (hg : s'.gens = s.gens) (ho : s'.os = s.os) : St W φ σ δ s' := by
  refine ⟨F.base, fun a o e => hk _ _ (fun q => by subst q; rw [hL] at e; cases e) (F.keep a o e), fun a o e => ?_, F.sep, F.sepd, F.inj, hg.trans F.gens, ho.trans F.os⟩
  have ha : a ≠ L := fun q => by subst q; rw [hσ] at e; cases e
  exact (F.objs a o e).grow (fun _ _ _ e => e) (fun _ q => hk _ _ ha q) (fun C vs q _ z => hk _ _ (hδ a C vs (q ▸ e)) z)

theorem Fm.keepL (F : Fm W φ σ δ env ns vals s) {m m' : Str → Option Value} {vals' : List (Option MV)} {h' : Heap} {tk : Nat}
    (hk : ∀ b o, b ≠ env.locals → s.heap.get? b = some o → h'.get? b = some o) (N : h'.Ns env.locals m') (V : VR φ env h' m' ns vals') : Fm W φ σ δ env ns vals' { s with heap := h', toks := tk } :=
  ⟨F.st.keep' (s' := { s with heap := h', toks := tk }) F.Lφ F.Lσ F.Lδ hk rfl rfl, F.ok, F.Lφ, F.Lσ, F.Lδ, F.cφ, fun p hp => (let ⟨ov, o, a, b⟩ := F.cat p hp; ⟨ov, o, hk _ _ (F.cφ p hp).2.2.1 a, b⟩), m', N, V⟩

theorem Fm.of_fr (F : Fm W φ σ δ env ns vals s) {m : Str → Option Value} (V : VR φ env s.heap m ns vals) {h' : Heap} {tk : Nat} (F' : Fr nowhere env.locals h' m) (N' : News nowhere env.locals h' (allNews s.heap env.locals)) :
    Fm W φ σ δ env ns vals { s with heap := h', toks := tk } :=
  F.keepL (m := m) (keeps_of_all N') F'.ns (V.grow (fun _ _ _ e => e) fun p hp o e => keeps_of_all N' _ _ (F.cφ p hp).2.2.1 e)

theorem Fm.toks (F : Fm W φ σ δ env ns vals s) (tk : Nat) : Fm W φ σ δ env ns vals { s with toks := tk } := F.grow (fun _ _ e => e) rfl rfl
theorem Fm.ext (F : Fm W φ σ δ env ns vals s) {h' : Heap} {tk : Nat} (hk : ∀ b o, s.heap.get? b = some o → h'.get? b = some o) : Fm W φ σ δ env ns vals { s with heap := h', toks := tk } := F.grow hk rfl rfl
theorem Fm.base (F : Fm W φ σ δ env ns vals s) : ∀ b o, W.g₀.get? b = some o → s.heap.get? b = some o := fun b o e => F.st.keep _ _ (F.st.base _ _ e)
theorem Fm.X (F : Fm W φ σ δ env ns vals s) : W.K.In s.heap := W.X.keeps F.base
theorem St.baseh (F : St W φ σ δ s) : ∀ b o, W.g₀.get? b = some o → s.heap.get? b = some o := fun b o e => F.keep _ _ (F.base _ _ e)

theorem Fm.alloc (F : Fm W φ σ δ env ns vals s) {a : Addr} {o : MO} {h' : Heap} {tk : Nat} (hk : ∀ b o, s.heap.get? b = some o → h'.get? b = some o) (ha : s.heap.objs.size ≤ a) (hn : ∀ C vs, o ≠ .ins C vs) (ho : OR W φ h' (δ a) a o) :
    Fm W φ (σ.put a o) δ env ns vals { s with heap := h', toks := tk } := by
  have G := F.ext (tk := tk) hk
  have fφ := F.st.fresh_φ ha
  have fσ := F.st.fresh_σ ha
  have ins : ∀ x C vs, (σ.put a o) x = some (.ins C vs) → σ x = some (.ins C vs) := by
    intro x C vs e
    by_cases q : x = a
    · subst q; rw [Store.put_self] at e; exact absurd (Option.some.inj e) (hn C vs)
    · rwa [Store.put_ne q] at e
  refine ⟨⟨G.st.base, G.st.keep, fun b o' e => ?_, fun b o' e => ?_, fun b C vs e => ?_, fun x y C vs C' vs' e e' q => G.st.inj x y C vs C' vs' (ins _ _ _ e) (ins _ _ _ e') q, G.st.gens, G.st.os⟩, G.ok, G.Lφ, ?_, fun x C vs e => G.Lδ x C vs (ins _ _ _ e), fun p hp => ?_, G.cat, G.vars⟩
  · by_cases q : b = a
    · subst q; rw [Store.put_self] at e; cases e; exact ho
    · rw [Store.put_ne q] at e; exact G.st.objs b o' e
  · by_cases q : b = a
    · subst q; exact fφ
    · rw [Store.put_ne q] at e; exact G.st.sep b o' e
  · have e' := ins _ _ _ e
    refine ⟨(G.st.sepd b C vs e').1, ?_⟩
    rw [Store.put_ne (F.st.fresh_δ ha e')]; exact (G.st.sepd b C vs e').2
  · rw [Store.put_ne (F.fresh_L ha)]; exact G.Lσ
  · obtain ⟨q1, q2, q3, q4⟩ := G.cφ p hp
    refine ⟨q1, ?_, q3, fun x C vs e => q4 x C vs (ins _ _ _ e)⟩
    obtain ⟨ov, oc, hc, _⟩ := F.cat p hp
    rw [Store.put_ne (fun q => absurd (Heap.lt_size hc) (by rw [q]; exact Nat.not_lt.mpr ha))]; exact q2

theorem Fm.update (F : Fm W φ σ δ env ns vals s) {a : Addr} {o₀ o : MO} {h' : Heap} {tk : Nat} (h₀ : σ a = some o₀) (hk : ∀ b o, b ≠ a → s.heap.get? b = some o → h'.get? b = some o) (hn : ∀ C vs, o ≠ .ins C vs) (ho : OR W φ h' (δ a) a o) :
    Fm W φ (σ.put a o) δ env ns vals { s with heap := h', toks := tk } := by
  have ins : ∀ x C vs, (σ.put a o) x = some (.ins C vs) → σ x = some (.ins C vs) := by
    intro x C vs e
    by_cases q : x = a
    · subst q; rw [Store.put_self] at e; exact absurd (Option.some.inj e) (hn C vs)
    · rwa [Store.put_ne q] at e
  have aφ := F.st.sep a o₀ h₀
  have aL : env.locals ≠ a := fun q => by have := F.Lσ; rw [q, h₀] at this; cases this
  have aδ : ∀ x C vs, σ x = some (.ins C vs) → δ x ≠ a := fun x C vs e q => by have := (F.st.sepd x C vs e).2; rw [q, h₀] at this; cases this
  have ac : ∀ p ∈ env.cells, p.2 ≠ a := fun p hp q => by have := (F.cφ p hp).2.1; rw [q, h₀] at this; cases this
  obtain ⟨m, N, V⟩ := F.vars
  refine ⟨⟨F.st.base, fun b o' e => hk _ _ (fun q => by subst q; rw [aφ] at e; cases e) (F.st.keep b o' e), fun b o' e => ?_, fun b o' e => ?_, fun b C vs e => ?_, fun x y C vs C' vs' e e' q => F.st.inj x y C vs C' vs' (ins _ _ _ e) (ins _ _ _ e') q, F.st.gens, F.st.os⟩, F.ok, F.Lφ, ?_, fun x C vs e => F.Lδ x C vs (ins _ _ _ e), fun p hp => ?_, fun p hp => ?_, m, N.at fun o e => hk _ _ aL e, V.grow (fun _ _ _ e => e) fun p hp o e => hk _ _ (ac p hp) e⟩
  · by_cases q : b = a
    · subst q; rw [Store.put_self] at e; cases e; exact ho
    · rw [Store.put_ne q] at e
      exact (F.st.objs b o' e).grow (fun _ _ _ e => e) (fun _ z => hk _ _ q z) (fun C vs z _ y => hk _ _ (aδ b C vs (z ▸ e)) y)
  · by_cases q : b = a
    · subst q; exact aφ
    · rw [Store.put_ne q] at e; exact F.st.sep b o' e
  · have e' := ins _ _ _ e
    refine ⟨(F.st.sepd b C vs e').1, ?_⟩
    rw [Store.put_ne (aδ b C vs e')]; exact (F.st.sepd b C vs e').2
  · rw [Store.put_ne aL]; exact F.Lσ
  · obtain ⟨q1, q2, q3, q4⟩ := F.cφ p hp
    exact ⟨q1, by rw [Store.put_ne (ac p hp)]; exact q2, q3, fun x C vs e => q4 x C vs (ins _ _ _ e)⟩
  · obtain ⟨ov, oc, hc, hd⟩ := F.cat p hp
    exact ⟨ov, oc, hk _ _ (ac p hp) hc, hd⟩

theorem Fm.updateIns (F : Fm W φ σ δ env ns vals s) {a C : Addr} {vs₀ vs : List (Option MV)} {h' : Heap} {tk : Nat} (h₀ : σ a = some (.ins C vs₀)) (hk : ∀ b o, b ≠ δ a → s.heap.get? b = some o → h'.get? b = some o) (ho : OR W φ h' (δ a) a (.ins C vs)) :
    Fm W φ (σ.put a (.ins C vs)) δ env ns vals { s with heap := h', toks := tk } := by
  have ins : ∀ x C' vs', (σ.put a (.ins C vs)) x = some (.ins C' vs') → ∃ vs'', σ x = some (.ins C' vs'') := by
    intro x C' vs' e
    by_cases q : x = a
    · subst q; rw [Store.put_self] at e; cases e; exact ⟨_, h₀⟩
    · rw [Store.put_ne q] at e; exact ⟨_, e⟩
  obtain ⟨dφ, dσ⟩ := F.st.sepd a C vs₀ h₀
  have dL := F.Lδ a C vs₀ h₀
  have dc : ∀ p ∈ env.cells, p.2 ≠ δ a := fun p hp q => (F.cφ p hp).2.2.2 a C vs₀ h₀ q.symm
  obtain ⟨m, N, V⟩ := F.vars
  have pn : ∀ b, σ b = none → (σ.put a (.ins C vs)) b = none := fun b e => by rw [Store.put_ne (fun q => by subst q; rw [h₀] at e; cases e)]; exact e
  refine ⟨⟨F.st.base, fun b o' e => hk _ _ (fun q => by subst q; rw [dφ] at e; cases e) (F.st.keep b o' e), fun b o' e => ?_, fun b o' e => ?_, fun b C' vs' e => ?_, fun x y C1 v1 C2 v2 e e' q => ?_, F.st.gens, F.st.os⟩, F.ok, F.Lφ, pn _ F.Lσ, fun x C' vs' e => ?_, fun p hp => ?_, fun p hp => ?_, m, N.at fun o e => hk _ _ (Ne.symm dL) e, V.grow (fun _ _ _ e => e) fun p hp o e => hk _ _ (dc p hp) e⟩
  · by_cases q : b = a
    · subst q; rw [Store.put_self] at e; cases e; exact ho
    · rw [Store.put_ne q] at e
      refine (F.st.objs b o' e).grow (fun _ _ _ e => e) (fun _ z => hk _ _ (fun y => ?_) z) (fun C' vs' z _ y => hk _ _ (fun x => ?_) y)
      · rw [y, dσ] at e; cases e
      · exact q (F.st.inj b a C' vs' C vs₀ (z ▸ e) h₀ x)
  · by_cases q : b = a
    · subst q; exact F.st.sep _ _ h₀
    · rw [Store.put_ne q] at e; exact F.st.sep b o' e
  · obtain ⟨vs'', e'⟩ := ins _ _ _ e
    exact ⟨(F.st.sepd b C' vs'' e').1, pn _ (F.st.sepd b C' vs'' e').2⟩
  · obtain ⟨w1, e1⟩ := ins _ _ _ e
    obtain ⟨w2, e2⟩ := ins _ _ _ e'
    exact F.st.inj x y C1 w1 C2 w2 e1 e2 q
  · obtain ⟨w1, e1⟩ := ins _ _ _ e
    exact F.Lδ x C' w1 e1
  · obtain ⟨q1, q2, q3, q4⟩ := F.cφ p hp
    refine ⟨q1, pn _ q2, q3, fun x C' vs' e => ?_⟩
    obtain ⟨w1, e1⟩ := ins _ _ _ e
    exact q4 x C' w1 e1
  · obtain ⟨ov, oc, hc, hd⟩ := F.cat p hp
    exact ⟨ov, oc, hk _ _ (dc p hp) hc, hd⟩
end

/-! names -/
inductive At : List Str → List (Option MV) → Str → MV → Prop
  | head {x : Str} {ns : List Str} {v : MV} {l : List (Option MV)} : At (x :: ns) (some v :: l) x v
  | tail {y x : Str} {ns : List Str} {v : MV} {o : Option MV} {l : List (Option MV)} : At ns l x v → At (y :: ns) (o :: l) x v
inductive Put : List Str → List (Option MV) → Str → MV → List (Option MV) → Prop
  | head {x : Str} {ns : List Str} {v : MV} {o : Option MV} {l : List (Option MV)} : Put (x :: ns) (o :: l) x v (some v :: l)
  | tail {y x : Str} {ns : List Str} {v : MV} {o : Option MV} {l l' : List (Option MV)} : Put ns l x v l' → Put (y :: ns) (o :: l) x v (o :: l')
theorem At.mem {ns : List Str} {vals : List (Option MV)} {x : Str} {v : MV} (h : At ns vals x v) : x ∈ ns := by
  induction h with
  | head => exact .head _
  | tail _ ih => exact .tail _ ih
theorem Put.mem {ns : List Str} {vals vals' : List (Option MV)} {x : Str} {v : MV} (h : Put ns vals x v vals') : x ∈ ns := by
  induction h with
  | head => exact .head _
  | tail _ ih => exact .tail _ ih
theorem VR.at {φ : Fz} {env : Env} {h : Heap} {m : Str → Option Value} {ns : List Str} {vals : List (Option MV)} {x : Str} {v : MV} (V : VR φ env h m ns vals) (a : At ns vals x v) : VarAt φ env h m x (some v) := by
  induction a with
  | head => exact V.1
  | tail _ ih => exact ih V.2
theorem VR.off {φ : Fz} {env : Env} {h h' : Heap} {m m' : Str → Option Value} {x : Str} (hm : ∀ y, y ≠ x → m' y = m y) (hc : ∀ y c, y ≠ x → env.cells.lookup y = some c → ∀ o, h.get? c = some o → h'.get? c = some o) :
    ∀ {ns : List Str} {vals : List (Option MV)}, x ∉ ns → VR φ env h m ns vals → VR φ env h' m' ns vals
  | [], [], _, _ => trivial
  | [], _ :: _, _, r => r.elim
  | _ :: _, [], _, r => r.elim
  | y :: ns, v :: vals, hx, r => by
    refine ⟨?_, VR.off hm hc (fun q => hx (.tail _ q)) r.2⟩
    have hy : y ≠ x := fun q => hx (q ▸ .head _)
    rcases r.1 with ⟨a, b⟩ | ⟨c, a, b, ov, ⟨o, ho, hd⟩, e⟩
    · exact .inl ⟨a, fun mv q => by rw [hm y hy]; exact b mv q⟩
    · exact .inr ⟨c, a, b, ov, ⟨o, hc y c hy b _ ho, hd⟩, e⟩
theorem VR.put {φ : Fz} {env : Env} {h h' : Heap} {m m' : Str → Option Value} {ns : List Str} {vals vals' : List (Option MV)} {x : Str} {v : MV} (nd : ns.Nodup) (hm : ∀ y, y ≠ x → m' y = m y) (hc : ∀ y c, y ≠ x → env.cells.lookup y = some c → ∀ o, h.get? c = some o → h'.get? c = some o)
    (hx : VarAt φ env h' m' x (some v)) (V : VR φ env h m ns vals) (p : Put ns vals x v vals') : VR φ env h' m' ns vals' := by
  induction p with
  | head => exact ⟨hx, V.2.off hm hc (List.nodup_cons.mp nd).1⟩
  | @tail y x ns v o l l' p ih =>
    have hy : y ≠ x := fun q => (List.nodup_cons.mp nd).1 (q ▸ p.mem)
    refine ⟨?_, ih (List.nodup_cons.mp nd).2 hm hc hx V.2⟩
    have : VR φ env h m [y] [o] := ⟨V.1, trivial⟩
    exact (this.off hm hc (by simpa using fun q => hy q.symm)).1
theorem lookup_mem {α β : Type} [BEq α] [LawfulBEq α] {x : α} {c : β} : ∀ {l : List (α × β)}, l.lookup x = some c → (x, c) ∈ l
  | [], h => by cases h
  | (y, d) :: l, h => by
    rw [List.lookup_cons] at h
    split at h
    · rename_i q; cases h; rw [beq_iff_eq.mp q]; exact .head _
    · exact .tail _ (lookup_mem h)

section
variable {W : Wd} {φ : Fz} {σ : Store} {δ : Addr → Addr} {env : Env} {ns : List Str} {vals vals' : List (Option MV)} {s : Shared} {A : Around} {E : Value → Shared → Prop}

theorem Fm.name (F : Fm W φ σ δ env ns vals s) {x : Str} {v : MV} {p : Pos} {Q : Value → Shared → Prop} (a : At ns vals x v) (h : ∀ w, RV φ v w → Q w s) : wpAny W.M A (eval (.Name x p) env) Q E s := by
  obtain ⟨m, N, V⟩ := F.vars
  obtain ⟨p1, p2⟩ := F.ok.plain x a.mem
  refine wpAny_Name ?_ p1
  rcases V.at a with ⟨k, e⟩ | ⟨c, k, l, ov, hc, e⟩
  · obtain ⟨w, mw, r⟩ := e v rfl
    exact wpAny_loadName_local F.ok.kind k N mw (h w r)
  · obtain ⟨w, rfl, r⟩ := e v rfl
    rcases k with k | k
    · exact wpAny_loadName_cell F.ok.kind k l hc (h w r)
    · exact wpAny_loadName_free F.ok.kind k l hc (h w r) p2

theorem Fm.store (F : Fm W φ σ δ env ns vals s) {x : Str} {v : MV} {w : Value} {Q : Unit → Shared → Prop} (hk : env.kindOf x = some .local ∨ env.kindOf x = some .cell) (r : RV φ v w) (p : Put ns vals x v vals') (h : ∀ h' tk, Fm W φ σ δ env ns vals' { s with heap := h', toks := tk } → Q () { s with heap := h', toks := tk }) :
    wpAny W.M A (storeName env x w) Q E s := by
  obtain ⟨m, N, V⟩ := F.vars
  rcases hk with k | k
  · refine wpAny_storeName_local k N (fun h' N' SB => h h' _ ?_) (by rw [F.ok.kind]; rfl)
    refine F.keepL (m := m) (fun b o hb e => SB.extBut b o hb e) N' ?_
    refine V.put F.ok.nodup (fun y hy => by simp [hy]) (fun y c hy hc o e => SB.extBut c o (F.cφ (y, c) (lookup_mem hc)).2.2.1 e) (.inl ⟨k, fun mv q => ?_⟩) p
    cases q
    exact ⟨w, by simp, r⟩
  · have : ∃ c ov, env.cells.lookup x = some c ∧ s.heap.IsCell c ov := by
      have : ∀ {ns : List Str} {vals vals' : List (Option MV)} {x : Str} {v : MV}, Put ns vals x v vals' → env.kindOf x = some .cell → VR φ env s.heap m ns vals → ∃ c ov, env.cells.lookup x = some c ∧ s.heap.IsCell c ov := by
        intro ns vals vals' x v p
        induction p with
        | head =>
          intro k V
          rcases V.1 with ⟨k', _⟩ | ⟨c, _, l, ov, hc, _⟩
          · rw [k] at k'; cases k'
          · exact ⟨c, ov, l, hc⟩
        | tail _ ih => exact fun k V => ih k V.2
      exact this p k V
    obtain ⟨c, ov, l, hc⟩ := this
    refine wpAny_storeName_cell F.ok.kind k l hc fun h' hc' SB => h h' s.toks ?_
    obtain ⟨c1, c2, c3, c4⟩ := F.cφ (x, c) (lookup_mem l)
    have hk' : ∀ b o, b ≠ c → s.heap.get? b = some o → h'.get? b = some o := fun b o hb e => SB.extBut b o hb e
    have oc : ∀ y d, y ≠ x → env.cells.lookup y = some d → d ≠ c := by
      intro y d hy hd q
      have m1 := lookup_mem hd
      have m2 := lookup_mem l
      have : ∀ {l : List (Str × Addr)}, l.Pairwise (fun a b => a.2 ≠ b.2) → (y, d) ∈ l → (x, c) ∈ l → False := by
        intro l pw a b
        induction pw with
        | nil => cases a
        | cons h _ ih =>
          cases a with
          | head => cases b with
            | head => exact hy rfl
            | tail _ b => exact h _ b q
          | tail _ a => cases b with
            | head => exact h _ a q.symm
            | tail _ b => exact ih a b
      exact this F.ok.cells m1 m2
    have St' := F.st.keep' (s' := { s with heap := h', toks := s.toks }) c1 c2 c4 hk' rfl rfl
    refine ⟨St', F.ok, F.Lφ, F.Lσ, F.Lδ, F.cφ, fun p hp => ?_, m, N.at fun o e => hk' _ _ (Ne.symm c3) e, ?_⟩
    · obtain ⟨ov', oo, ho, hd⟩ := F.cat p hp
      by_cases q : p.2 = c
      · exact ⟨_, q ▸ hc'⟩
      · exact ⟨ov', oo, hk' _ _ q ho, hd⟩
    · exact V.put F.ok.nodup (fun _ _ => rfl) (fun y d hy hd o e => hk' _ _ (oc y d hy hd) e) (.inr ⟨c, .inl k, l, some w, hc', fun mv q => by cases q; exact ⟨w, rfl, r⟩⟩) p
end

end Mine
end
section
open PySem PySem.W PyProof.Rows PySem.Calls
namespace Mine

noncomputable abbrev NoE : Value → Shared → Prop := fun _ _ => False
noncomputable abbrev PE {α β : Type} (R : Fz → β → α → Prop) (W : Wd) (φ : Fz) (env : Env) (ns : List Str) (vals : List (Option MV)) (Q : β → Store → Prop) (v : α) (s' : Shared) : Prop :=
  ∃ mv σ' φ' δ', Kp φ φ' ∧ R φ' mv v ∧ Fm W φ' σ' δ' env ns vals s' ∧ Q mv σ'
noncomputable abbrev PG {α β : Type} (R : Fz → β → α → Prop) (W : Wd) (φ : Fz) (env : Env) (ns : List Str) (Q : β → List (Option MV) → Store → Prop) (v : α) (s' : Shared) : Prop :=
  ∃ mv vals' σ' φ' δ', Kp φ φ' ∧ R φ' mv v ∧ Fm W φ' σ' δ' env ns vals' s' ∧ Q mv vals' σ'

noncomputable abbrev MX := @ME Value MV RV
noncomputable abbrev ML := @ME (List Value) (List MV) RVs
noncomputable abbrev MT := @ME Bool Bool RB
noncomputable abbrev MS := @MG Flow MFlow RF

noncomputable def M1 {α β : Type} (R : Fz → β → α → Prop) (W : Wd) (k : Nat) (f : Value → Sem α) (a : MV) (env : Env) (ns : List Str) (vals : List (Option MV)) (σ : Store) (Q : β → Store → Prop) : Prop :=
  ∀ (A : Around) (φ : Fz) (δ : Addr → Addr) (s : Shared) (w : Value), OkE k A env → Fm W φ σ δ env ns vals s → RV φ a w → wpC W.M A (f w) (PE R W φ env ns vals Q) NoE s
noncomputable def M2 {α β : Type} (R : Fz → β → α → Prop) (W : Wd) (k : Nat) (f : Value → Value → Sem α) (a b : MV) (env : Env) (ns : List Str) (vals : List (Option MV)) (σ : Store) (Q : β → Store → Prop) : Prop :=
  ∀ (A : Around) (φ : Fz) (δ : Addr → Addr) (s : Shared) (w u : Value), OkE k A env → Fm W φ σ δ env ns vals s → RV φ a w → RV φ b u → wpC W.M A (f w u) (PE R W φ env ns vals Q) NoE s
noncomputable def MN {α β : Type} (R : Fz → β → α → Prop) (W : Wd) (k : Nat) (f : List Value → Sem α) (as : List MV) (env : Env) (ns : List Str) (vals : List (Option MV)) (σ : Store) (Q : β → Store → Prop) : Prop :=
  ∀ (A : Around) (φ : Fz) (δ : Addr → Addr) (s : Shared) (ws : List Value), OkE k A env → Fm W φ σ δ env ns vals s → RVs φ as ws → wpC W.M A (f ws) (PE R W φ env ns vals Q) NoE s
noncomputable def G1 {α β : Type} (R : Fz → β → α → Prop) (W : Wd) (k : Nat) (f : Value → Sem α) (a : MV) (env : Env) (ns : List Str) (vals : List (Option MV)) (σ : Store) (Q : β → List (Option MV) → Store → Prop) : Prop :=
  ∀ (A : Around) (φ : Fz) (δ : Addr → Addr) (s : Shared) (w : Value), OkE k A env → Fm W φ σ δ env ns vals s → RV φ a w → wpC W.M A (f w) (PG R W φ env ns Q) NoE s

noncomputable def MCall (W : Wd) (k : Nat) (f : Addr) (args : List MV) (σ : Store) (Q : MV → Store → Prop) : Prop :=
  ∀ (A : Around) (φ : Fz) (δ : Addr → Addr) (s : Shared) (vs : List Value), Ok k A → St W φ σ δ s → RVs φ args vs →
    codeC W.M A (.call (.ref f) ⟨vs, []⟩) (fun r s' => ∃ v, r = .ok (.ret v) ∧ ∃ mv σ' φ' δ', Kp φ φ' ∧ RV φ' mv v ∧ St W φ' σ' δ' s' ∧ Q mv σ') s

section
variable {W : Wd} {k : Nat} {env : Env} {ns : List Str} {vals : List (Option MV)} {σ : Store} {A : Around} {φ : Fz} {δ : Addr → Addr} {s : Shared}

theorem ME.seq {α β : Type} {R : Fz → β → α → Prop} {t : Sem α} {Q : β → Store → Prop} (h : ME R W k t env ns vals σ Q) (hA : OkE k A env) (F : Fm W φ σ δ env ns vals s) {P : α → Shared → Prop}
    (c : ∀ mv σ1 φ1 δ1 v s1, Kp φ φ1 → R φ1 mv v → Fm W φ1 σ1 δ1 env ns vals s1 → Q mv σ1 → P v s1) : wpC W.M A t P NoE s :=
  wpC_mono (h A φ δ s hA F) (fun v s1 ⟨mv, σ1, φ1, δ1, k1, r, F1, q⟩ => c mv σ1 φ1 δ1 v s1 k1 r F1 q) fun _ _ e => e
theorem MG.seq {α β : Type} {R : Fz → β → α → Prop} {t : Sem α} {Q : β → List (Option MV) → Store → Prop} (h : MG R W k t env ns vals σ Q) (hA : OkE k A env) (F : Fm W φ σ δ env ns vals s) {P : α → Shared → Prop}
    (c : ∀ mv vals1 σ1 φ1 δ1 v s1, Kp φ φ1 → R φ1 mv v → Fm W φ1 σ1 δ1 env ns vals1 s1 → Q mv vals1 σ1 → P v s1) : wpC W.M A t P NoE s :=
  wpC_mono (h A φ δ s hA F) (fun v s1 ⟨mv, vals1, σ1, φ1, δ1, k1, r, F1, q⟩ => c mv vals1 σ1 φ1 δ1 v s1 k1 r F1 q) fun _ _ e => e
theorem PE.up {α β : Type} {R : Fz → β → α → Prop} {Q : β → Store → Prop} {φ1 : Fz} {t : Sem α} (k1 : Kp φ φ1) (h : wpC W.M A t (PE R W φ1 env ns vals Q) NoE s) : wpC W.M A t (PE R W φ env ns vals Q) NoE s :=
  wpC_mono h (fun _ _ ⟨mv, σ', φ', δ', k2, r⟩ => ⟨mv, σ', φ', δ', k1.trans k2, r⟩) fun _ _ e => e
theorem PG.up {α β : Type} {R : Fz → β → α → Prop} {Q : β → List (Option MV) → Store → Prop} {φ1 : Fz} {t : Sem α} (k1 : Kp φ φ1) (h : wpC W.M A t (PG R W φ1 env ns Q) NoE s) : wpC W.M A t (PG R W φ env ns Q) NoE s :=
  wpC_mono h (fun _ _ ⟨mv, vals', σ', φ', δ', k2, r⟩ => ⟨mv, vals', σ', φ', δ', k1.trans k2, r⟩) fun _ _ e => e
theorem PE.here {α β : Type} {R : Fz → β → α → Prop} {Q : β → Store → Prop} {mv : β} {v : α} (r : R φ mv v) (F : Fm W φ σ δ env ns vals s) (q : Q mv σ) : PE R W φ env ns vals Q v s := ⟨mv, σ, φ, δ, Kp.refl φ, r, F, q⟩

theorem ME.mono {α β : Type} {R : Fz → β → α → Prop} {t : Sem α} {Q Q' : β → Store → Prop} (h : ME R W k t env ns vals σ Q) (c : ∀ b σ', Q b σ' → Q' b σ') : ME R W k t env ns vals σ Q' :=
  fun A φ δ s hA F => h.seq hA F fun mv σ1 φ1 δ1 v s1 k1 r F1 q => ⟨mv, σ1, φ1, δ1, k1, r, F1, c _ _ q⟩
theorem MG.mono {α β : Type} {R : Fz → β → α → Prop} {t : Sem α} {Q Q' : β → List (Option MV) → Store → Prop} (h : MG R W k t env ns vals σ Q) (c : ∀ b vals' σ', Q b vals' σ' → Q' b vals' σ') : MG R W k t env ns vals σ Q' :=
  fun A φ δ s hA F => h.seq hA F fun mv vals1 σ1 φ1 δ1 v s1 k1 r F1 q => ⟨mv, vals1, σ1, φ1, δ1, k1, r, F1, c _ _ _ q⟩
theorem MCall.mono {f : Addr} {args : List MV} {Q Q' : MV → Store → Prop} (h : MCall W k f args σ Q) (c : ∀ b σ', Q b σ' → Q' b σ') : MCall W k f args σ Q' :=
  fun A φ δ s vs hA F hv => codeC_mono (h A φ δ s vs hA F hv) fun r s' ⟨v, e, mv, σ1, φ1, δ1, k1, r, F1, q⟩ => ⟨v, e, mv, σ1, φ1, δ1, k1, r, F1, c _ _ q⟩
theorem MCall.le {k' : Nat} {f : Addr} {args : List MV} {Q : MV → Store → Prop} (h : MCall W k' f args σ Q) (e : k' ≤ k) : MCall W k f args σ Q := fun A φ δ s vs hA => h A φ δ s vs (hA.le e)

/-! expressions -/
variable {Q : MV → Store → Prop}
theorem mx_name {x : Str} {p : Pos} {v : MV} (a : At ns vals x v) (q : Q v σ) : MX W k (eval (.Name x p) env) env ns vals σ Q :=
  fun A φ δ s hA F => wpC.of (F.name a fun w r => PE.here r F q)
theorem mx_int {i : Int} {n : Nat} {p : Pos} (q : Q (.int i) σ) : MX W k (eval (.Constant (.int i) n p) env) env ns vals σ Q :=
  fun A φ δ s hA F => wpC.of (wpAny_Constant_int (PE.here (.int i _) (F.toks _) q))
theorem mx_none {n : Nat} {p : Pos} (q : Q .none σ) : MX W k (eval (.Constant .none n p) env) env ns vals σ Q :=
  fun A φ δ s hA F => wpC.of (wpAny_Constant_none (PE.here .none F q))
theorem mx_bool {b : Bool} {n : Nat} {p : Pos} (q : Q (.bool b) σ) : MX W k (eval (.Constant (.bool b) n p) env) env ns vals σ Q :=
  fun A φ δ s hA F => wpC.of (Constant_bool (PE.here (.bool b) F q))
theorem mx_bytes {b : List UInt8} {n : Nat} {p : Pos} (q : Q (.bytes b) σ) : MX W k (eval (.Constant (.bytes b) n p) env) env ns vals σ Q :=
  fun A φ δ s hA F => wpC.of (Constant_bytes (PE.here (.bytes b _) (F.toks _) q))
theorem mx_str {x : Str} {n : Nat} {p : Pos} (q : Q (.str x) σ) : MX W k (eval (.Constant (.str x) n p) env) env ns vals σ Q :=
  fun A φ δ s hA F => wpC.of (Constant_str (PE.here (.str x _) (F.toks _) q))

theorem mx_binop {l r : Expr} {op : Operator} {p : Pos} (h : MX W k (eval l env) env ns vals σ fun a σ1 => MX W k (eval r env) env ns vals σ1 fun b σ2 => M2 RV W k (binaryOp op) a b env ns vals σ2 Q) :
    MX W k (eval (.BinOp l op r p) env) env ns vals σ Q := fun A φ δ s hA F =>
  wc_binop (h.seq hA F fun a σ1 φ1 δ1 v s1 k1 r1 F1 h1 => h1.seq hA F1 fun b σ2 φ2 δ2 u s2 k2 r2 F2 h2 => PE.up (k1.trans k2) (h2 A φ2 δ2 s2 v u hA F2 (r1.mono k2) r2))
theorem mx_unop {x : Expr} {op : UnaryOp} {p : Pos} (h : MX W k (eval x env) env ns vals σ fun a σ1 => M1 RV W k (unaryOp op) a env ns vals σ1 Q) : MX W k (eval (.UnaryOp op x p) env) env ns vals σ Q := fun A φ δ s hA F =>
  wc_unop (h.seq hA F fun a σ1 φ1 δ1 v s1 k1 r1 F1 h1 => PE.up k1 (h1 A φ1 δ1 s1 v hA F1 r1))
theorem mx_cmp {l r : Expr} {op : CmpOp} {p : Pos} (h : MX W k (eval l env) env ns vals σ fun a σ1 => MX W k (eval r env) env ns vals σ1 fun b σ2 => M2 RV W k (compareOp op) a b env ns vals σ2 Q)
    (hm : behindInMarks op r = false := by rfl) : MX W k (eval (.Compare l [op] [r] p) env) env ns vals σ Q := fun A φ δ s hA F =>
  wc_cmp (h.seq hA F fun a σ1 φ1 δ1 v s1 k1 r1 F1 h1 => h1.seq hA F1 fun b σ2 φ2 δ2 u s2 k2 r2 F2 h2 => PE.up (k1.trans k2) (h2 A φ2 δ2 s2 v u hA F2 (r1.mono k2) r2)) hm
theorem mx_ifexp {t b o : Expr} {p : Pos} (h : MT W k (PySem.isTrue t env (eval t env)) env ns vals σ fun c σ1 => if c = true then MX W k (eval b env) env ns vals σ1 Q else MX W k (eval o env) env ns vals σ1 Q) :
    MX W k (eval (.IfExp t b o p) env) env ns vals σ Q := fun A φ δ s hA F =>
  wc_ifexp (h.seq hA F fun c σ1 φ1 δ1 v s1 k1 r1 F1 h1 => by
    cases r1
    split
    · rename_i e; rw [if_pos e] at h1; exact PE.up k1 (h1 A φ1 δ1 s1 hA F1)
    · rename_i e; rw [if_neg e] at h1; exact PE.up k1 (h1 A φ1 δ1 s1 hA F1))
theorem mx_and {e1 e2 : Expr} {rest : List Expr} {p : Pos} (h : MX W k (eval e1 env) env ns vals σ fun v σ1 => M1 RB W k truthy v env ns vals σ1 fun c σ2 => if c = true then MX W k (eval (.BoolOp .And (e2 :: rest) p) env) env ns vals σ2 Q else Q v σ2) :
    MX W k (eval (.BoolOp .And (e1 :: e2 :: rest) p) env) env ns vals σ Q := fun A φ δ s hA F =>
  wc_and (h.seq hA F fun v σ1 φ1 δ1 w s1 k1 r1 F1 h1 => wpC_mono (h1 A φ1 δ1 s1 w hA F1 r1) (fun c s2 ⟨c', σ2, φ2, δ2, k2, r2, F2, h2⟩ => by
    cases r2
    split
    · rename_i e; rw [if_pos e] at h2; exact PE.up (k1.trans k2) (h2 A φ2 δ2 s2 hA F2)
    · rename_i e; rw [if_neg e] at h2; exact ⟨v, σ2, φ2, δ2, k1.trans k2, r1.mono k2, F2, h2⟩) fun _ _ e => e)
theorem mx_or {e1 e2 : Expr} {rest : List Expr} {p : Pos} (h : MX W k (eval e1 env) env ns vals σ fun v σ1 => M1 RB W k truthy v env ns vals σ1 fun c σ2 => if c = true then Q v σ2 else MX W k (eval (.BoolOp .Or (e2 :: rest) p) env) env ns vals σ2 Q) :
    MX W k (eval (.BoolOp .Or (e1 :: e2 :: rest) p) env) env ns vals σ Q := fun A φ δ s hA F =>
  wc_or (h.seq hA F fun v σ1 φ1 δ1 w s1 k1 r1 F1 h1 => wpC_mono (h1 A φ1 δ1 s1 w hA F1 r1) (fun c s2 ⟨c', σ2, φ2, δ2, k2, r2, F2, h2⟩ => by
    cases r2
    split
    · rename_i e; rw [if_pos e] at h2; exact ⟨v, σ2, φ2, δ2, k1.trans k2, r1.mono k2, F2, h2⟩
    · rename_i e; rw [if_neg e] at h2; exact PE.up (k1.trans k2) (h2 A φ2 δ2 s2 hA F2)) fun _ _ e => e)
theorem mx_one {op : BoolOp} {e : Expr} {p : Pos} (h : MX W k (eval e env) env ns vals σ Q) : MX W k (eval (.BoolOp op [e] p) env) env ns vals σ Q := fun A φ δ s hA F => wc_one (h A φ δ s hA F)

theorem mx_chain {l r1 r2 : Expr} {o1 o2 : CmpOp} {p : Pos}
    (h : MX W k (eval l env) env ns vals σ fun a σ1 => MX W k (eval r1 env) env ns vals σ1 fun b σ2 => M2 RV W k (compareOp o1) a b env ns vals σ2 fun c σ3 => M1 RB W k truthy c env ns vals σ3 fun t σ4 =>
      if t = true then MX W k (eval r2 env) env ns vals σ4 fun d σ5 => M2 RV W k (compareOp o2) b d env ns vals σ5 Q else Q c σ4)
    (hm : lastMarks [o1, o2] [r1, r2] = false := by rfl) : MX W k (eval (.Compare l [o1, o2] [r1, r2] p) env) env ns vals σ Q := fun A φ δ s hA F =>
  wc_chain (h.seq hA F fun a σ1 φ1 δ1 v s1 k1 q1 F1 h1 => wc_link (h1.seq hA F1 fun b σ2 φ2 δ2 u s2 k2 q2 F2 h2 =>
    wpC_mono (h2 A φ2 δ2 s2 v u hA F2 (q1.mono k2) q2) (fun c s3 ⟨c', σ3, φ3, δ3, k3, q3, F3, h3⟩ =>
      wpC_mono (h3 A φ3 δ3 s3 c hA F3 q3) (fun t s4 ⟨t', σ4, φ4, δ4, k4, q4, F4, h4⟩ => by
        cases q4
        split
        · rename_i e; rw [if_pos e] at h4
          exact wc_last (h4.seq hA F4 fun d σ5 φ5 δ5 x s5 k5 q5 F5 h5 => PE.up (k1.trans (k2.trans (k3.trans (k4.trans k5)))) (h5 A φ5 δ5 s5 u x hA F5 (q2.mono (k3.trans (k4.trans k5))) q5))
        · rename_i e; rw [if_neg e] at h4; exact ⟨c', σ4, φ4, δ4, k1.trans (k2.trans (k3.trans k4)), q3.mono k4, F4, h4⟩) fun _ _ e => e) fun _ _ e => e)) hm

/-! tests -/
variable {QB : Bool → Store → Prop}
theorem mt_plain {e : Expr} (h : MX W k (eval e env) env ns vals σ fun v σ1 => M1 RB W k truthy v env ns vals σ1 QB)
    (he : PySem.isTrue e env (eval e env) = (do let v ← eval e env; standAt e.pos; holding [v] (truthy v)) := by rfl) : MT W k (PySem.isTrue e env (eval e env)) env ns vals σ QB := fun A φ δ s hA F =>
  wt_plain (h.seq hA F fun v σ1 φ1 δ1 w s1 k1 r1 F1 h1 => PE.up k1 (h1 A φ1 δ1 s1 w hA F1 r1)) he
theorem mt_cmp {l r : Expr} {op : CmpOp} {p : Pos} {whole : Sem Value} (h : MX W k (eval l env) env ns vals σ fun a σ1 => MX W k (eval r env) env ns vals σ1 fun b σ2 => M2 RV W k (compareOp op) a b env ns vals σ2 fun c σ3 => M1 RB W k truthy c env ns vals σ3 QB)
    (hm : behindInMarks op r = false := by rfl) : MT W k (PySem.isTrue (.Compare l [op] [r] p) env whole) env ns vals σ QB := fun A φ δ s hA F =>
  wt_cmp (h.seq hA F fun a σ1 φ1 δ1 v s1 k1 r1 F1 h1 => h1.seq hA F1 fun b σ2 φ2 δ2 u s2 k2 r2 F2 h2 =>
    wpC_mono (h2 A φ2 δ2 s2 v u hA F2 (r1.mono k2) r2) (fun c s3 ⟨c', σ3, φ3, δ3, k3, r3, F3, h3⟩ => PE.up (k1.trans (k2.trans k3)) (h3 A φ3 δ3 s3 c hA F3 r3)) fun _ _ e => e) hm
theorem mt_not {x : Expr} {p : Pos} {whole : Sem Value} (h : MT W k (PySem.isTrue x env (eval x env)) env ns vals σ fun c σ1 => QB (!c) σ1) : MT W k (PySem.isTrue (.UnaryOp .Not x p) env whole) env ns vals σ QB := fun A φ δ s hA F =>
  wt_not (h.seq hA F fun c σ1 φ1 δ1 v s1 k1 r1 F1 h1 => by cases r1; exact ⟨!c, σ1, φ1, δ1, k1, rfl, F1, h1⟩)
theorem mt_and_nil {p : Pos} {whole : Sem Value} (q : QB true σ) : MT W k (PySem.isTrue (.BoolOp .And [] p) env whole) env ns vals σ QB := fun A φ δ s hA F => wt_and_nil (PE.here rfl F q)
theorem mt_or_nil {p : Pos} {whole : Sem Value} (q : QB false σ) : MT W k (PySem.isTrue (.BoolOp .Or [] p) env whole) env ns vals σ QB := fun A φ δ s hA F => wt_or_nil (PE.here rfl F q)
theorem mt_and {x : Expr} {rest : List Expr} {p : Pos} {whole : Sem Value} (h : MT W k (PySem.isTrue x env (eval x env)) env ns vals σ fun c σ1 => if c = true then MT W k (PySem.isTrue (.BoolOp .And rest p) env whole) env ns vals σ1 QB else QB false σ1) :
    MT W k (PySem.isTrue (.BoolOp .And (x :: rest) p) env whole) env ns vals σ QB := fun A φ δ s hA F =>
  wt_and (h.seq hA F fun c σ1 φ1 δ1 v s1 k1 r1 F1 h1 => by
    cases r1
    split
    · rename_i e; rw [if_pos e] at h1; exact PE.up k1 (h1 A φ1 δ1 s1 hA F1)
    · rename_i e; rw [if_neg e] at h1; exact ⟨false, σ1, φ1, δ1, k1, rfl, F1, h1⟩)
theorem mt_or {x : Expr} {rest : List Expr} {p : Pos} {whole : Sem Value} (h : MT W k (PySem.isTrue x env (eval x env)) env ns vals σ fun c σ1 => if c = true then QB true σ1 else MT W k (PySem.isTrue (.BoolOp .Or rest p) env whole) env ns vals σ1 QB) :
    MT W k (PySem.isTrue (.BoolOp .Or (x :: rest) p) env whole) env ns vals σ QB := fun A φ δ s hA F =>
  wt_or (h.seq hA F fun c σ1 φ1 δ1 v s1 k1 r1 F1 h1 => by
    cases r1
    split
    · rename_i e; rw [if_pos e] at h1; exact ⟨true, σ1, φ1, δ1, k1, rfl, F1, h1⟩
    · rename_i e; rw [if_neg e] at h1; exact PE.up k1 (h1 A φ1 δ1 s1 hA F1))
theorem mt_chain {l r1 r2 : Expr} {o1 o2 : CmpOp} {p : Pos} {whole : Sem Value}
    (h : MX W k (eval l env) env ns vals σ fun a σ1 => MX W k (eval r1 env) env ns vals σ1 fun b σ2 => M2 RV W k (compareOp o1) a b env ns vals σ2 fun c σ3 => M1 RB W k truthy c env ns vals σ3 fun t σ4 =>
      if t = true then MX W k (eval r2 env) env ns vals σ4 fun d σ5 => M2 RV W k (compareOp o2) b d env ns vals σ5 fun e σ6 => M1 RB W k truthy e env ns vals σ6 QB else QB false σ4)
    (hm : lastMarks [o1, o2] [r1, r2] = false := by rfl) : MT W k (PySem.isTrue (.Compare l [o1, o2] [r1, r2] p) env whole) env ns vals σ QB := fun A φ δ s hA F =>
  wt_chain (h.seq hA F fun a σ1 φ1 δ1 v s1 k1 q1 F1 h1 => wt_link (h1.seq hA F1 fun b σ2 φ2 δ2 u s2 k2 q2 F2 h2 =>
    wpC_mono (h2 A φ2 δ2 s2 v u hA F2 (q1.mono k2) q2) (fun c s3 ⟨c', σ3, φ3, δ3, k3, q3, F3, h3⟩ =>
      wpC_mono (h3 A φ3 δ3 s3 c hA F3 q3) (fun t s4 ⟨t', σ4, φ4, δ4, k4, q4, F4, h4⟩ => by
        cases q4
        split
        · rename_i e; rw [if_pos e] at h4
          exact wt_last (h4.seq hA F4 fun d σ5 φ5 δ5 x s5 k5 q5 F5 h5 => wpC_mono (h5 A φ5 δ5 s5 u x hA F5 (q2.mono (k3.trans (k4.trans k5))) q5) (fun y s6 ⟨y', σ6, φ6, δ6, k6, q6, F6, h6⟩ =>
            PE.up (k1.trans (k2.trans (k3.trans (k4.trans (k5.trans k6))))) (h6 A φ6 δ6 s6 y hA F6 q6)) fun _ _ e => e)
        · rename_i e; rw [if_neg e] at h4; exact ⟨false, σ4, φ4, δ4, k1.trans (k2.trans (k3.trans k4)), rfl, F4, h4⟩) fun _ _ e => e) fun _ _ e => e)) hm

theorem tr_bool {b : Bool} (q : QB b σ) : M1 RB W k truthy (.bool b) env ns vals σ QB := fun A φ δ s w hA F r => by cases r; exact wpC.of (wpAny_truthy_bool (PE.here rfl F q))
theorem tr_int {i : Int} (q : QB (i != 0) σ) : M1 RB W k truthy (.int i) env ns vals σ QB := fun A φ δ s w hA F r => by cases r; exact wpC.of (PyProof.Rows.truthy_int (PE.here rfl F q))
theorem tr_none (q : QB false σ) : M1 RB W k truthy .none env ns vals σ QB := fun A φ δ s w hA F r => by cases r; exact wpC.of (truthy_none (PE.here rfl F q))

/-! operators on ints -/
theorem op_add {a b : Int} (q : Q (.int (a + b)) σ) : M2 RV W k (binaryOp .Add) (.int a) (.int b) env ns vals σ Q := fun A φ δ s w u hA F r r' => by cases r; cases r'; exact wpC.of (PyProof.Rows.add_int (PE.here (.int _ _) (F.toks _) q))
theorem op_sub {a b : Int} (q : Q (.int (a - b)) σ) : M2 RV W k (binaryOp .Sub) (.int a) (.int b) env ns vals σ Q := fun A φ δ s w u hA F r r' => by cases r; cases r'; exact wpC.of (PyProof.Rows.sub_int (PE.here (.int _ _) (F.toks _) q))
theorem op_mod {a b : Int} (hb : 0 < b) (q : Q (.int (a % b)) σ) : M2 RV W k (binaryOp .Mod) (.int a) (.int b) env ns vals σ Q := fun A φ δ s w u hA F r r' => by
  cases r; cases r'
  refine wpC.of (PyProof.Rows.mod_int (by omega) ?_)
  rw [Int.fmod_eq_emod_of_nonneg _ (by omega)]
  exact PE.here (.int _ _) (F.toks _) q
theorem op_mul {a b : Int} (h : IntMulOk a b) (q : Q (.int (a * b)) σ) : M2 RV W k (binaryOp .Mult) (.int a) (.int b) env ns vals σ Q := fun A φ δ s w u hA F r r' => by cases r; cases r'; exact wpC.of (PyProof.Rows.mul_int (PE.here (.int _ _) (F.toks _) q) h)
theorem op_pow {a n : Int} (h1 : 0 ≤ n) (h2 : n ≤ 1000000) (h3 : a.natAbs < 2 ^ 64) (q : Q (.int (a ^ n.toNat)) σ) : M2 RV W k (binaryOp .Pow) (.int a) (.int n) env ns vals σ Q := fun A φ δ s w u hA F r r' => by
  cases r; cases r'; exact wpC.of (pow_int_small h1 h2 h3 (PE.here (.int _ _) (F.toks _) q))
theorem op_neg {a : Int} (q : Q (.int (-a)) σ) : M1 RV W k (unaryOp .USub) (.int a) env ns vals σ Q := fun A φ δ s w hA F r => by cases r; exact wpC.of (PyProof.Rows.neg_int (PE.here (.int _ _) (F.toks _) q))
theorem op_not {a : MV} (h : M1 RB W k truthy a env ns vals σ fun c σ1 => Q (.bool (!c)) σ1) : M1 RV W k (unaryOp .Not) a env ns vals σ Q := fun A φ δ s w hA F r =>
  wc_not (wpC_mono (h A φ δ s w hA F r) (fun c s1 ⟨c', σ1, φ1, δ1, k1, r1, F1, h1⟩ => by cases r1; exact ⟨.bool (!c), σ1, φ1, δ1, k1, .bool _, F1, h1⟩) fun _ _ e => e)
theorem op_lt {a b : Int} (q : Q (.bool (decide (a < b))) σ) : M2 RV W k (compareOp .Lt) (.int a) (.int b) env ns vals σ Q := fun A φ δ s w u hA F r r' => by cases r; cases r'; exact wpC.of (PyProof.Rows.lt_int (PE.here (.bool _) F q))
theorem op_gt {a b : Int} (q : Q (.bool (decide (b < a))) σ) : M2 RV W k (compareOp .Gt) (.int a) (.int b) env ns vals σ Q := fun A φ δ s w u hA F r r' => by cases r; cases r'; exact wpC.of (PyProof.Rows.gt_int (PE.here (.bool _) F q))
theorem op_le {a b : Int} (q : Q (.bool (decide (a ≤ b))) σ) : M2 RV W k (compareOp .LtE) (.int a) (.int b) env ns vals σ Q := fun A φ δ s w u hA F r r' => by cases r; cases r'; exact wpC.of (PyProof.Rows.le_int (PE.here (.bool _) F q))
theorem op_ge {a b : Int} (q : Q (.bool (decide (b ≤ a))) σ) : M2 RV W k (compareOp .GtE) (.int a) (.int b) env ns vals σ Q := fun A φ δ s w u hA F r r' => by cases r; cases r'; exact wpC.of (PyProof.Rows.ge_int (PE.here (.bool _) F q))
theorem op_eq {a b : Int} (q : Q (.bool (a == b)) σ) : M2 RV W k (compareOp .Eq) (.int a) (.int b) env ns vals σ Q := fun A φ δ s w u hA F r r' => by cases r; cases r'; exact wpC.of (PyProof.Rows.eq_int (PE.here (.bool _) F q))
theorem op_ne {a b : Int} (q : Q (.bool (a != b)) σ) : M2 RV W k (compareOp .NotEq) (.int a) (.int b) env ns vals σ Q := fun A φ δ s w u hA F r r' => by cases r; cases r'; exact wpC.of (PyProof.Rows.ne_int (PE.here (.bool _) F q))
theorem op_eq_bytes {a b : List UInt8} (q : Q (.bool (a == b)) σ) : M2 RV W k (compareOp .Eq) (.bytes a) (.bytes b) env ns vals σ Q := fun A φ δ s w u hA F r r' => by cases r; cases r'; exact wpC.of (eq_bytes (PE.here (.bool _) F (by simpa using q)))
theorem op_ne_bytes {a b : List UInt8} (q : Q (.bool (a != b)) σ) : M2 RV W k (compareOp .NotEq) (.bytes a) (.bytes b) env ns vals σ Q := fun A φ δ s w u hA F r r' => by cases r; cases r'; exact wpC.of (ne_bytes (PE.here (.bool _) F (by simpa using q)))
theorem op_add_bytes {a b : List UInt8} (h : a.length + b.length ≤ 16777216) (q : Q (.bytes (a ++ b)) σ) : M2 RV W k (binaryOp .Add) (.bytes a) (.bytes b) env ns vals σ Q := fun A φ δ s w u hA F r r' => by
  cases r; cases r'
  refine wpC.of (KBy.add_bytes (by simpa using h) fun t' k' => PE.here (mv := .bytes (a ++ b)) ?_ (F.toks _) q)
  rw [List.append_toArray]; exact .bytes _ _

/-! statements -/
variable {QS : MFlow → List (Option MV) → Store → Prop}
noncomputable def nextOr (P : List (Option MV) → Store → Prop) (QS : MFlow → List (Option MV) → Store → Prop) : MFlow → List (Option MV) → Store → Prop
  | .next, vals, σ => P vals σ
  | .brk, vals, σ => QS .brk vals σ
  | .cont, vals, σ => QS .cont vals σ
  | .ret v, vals, σ => QS (.ret v) vals σ
theorem ms_nil (q : QS .next vals σ) : MS W k (execs [] env) env ns vals σ QS := fun A φ δ s hA F => wpC.of (wpAny_execs_nil ⟨.next, vals, σ, φ, δ, Kp.refl φ, .next, F, q⟩)
theorem ms_cons {st : Stmt} {rest : List Stmt} (h : MS W k (exec st env) env ns vals σ (nextOr (fun vals1 σ1 => MS W k (execs rest env) env ns vals1 σ1 QS) QS)) : MS W k (execs (st :: rest) env) env ns vals σ QS := fun A φ δ s hA F =>
  ws_cons (MG.seq h hA F fun fl vals1 σ1 φ1 δ1 v s1 k1 r1 F1 h1 => by
    cases r1 with
    | next => exact PG.up k1 (h1 A φ1 δ1 s1 hA F1)
    | brk => exact ⟨_, vals1, σ1, φ1, δ1, k1, .brk, F1, h1⟩
    | cont => exact ⟨_, vals1, σ1, φ1, δ1, k1, .cont, F1, h1⟩
    | ret r => exact ⟨_, vals1, σ1, φ1, δ1, k1, .ret r, F1, h1⟩)
theorem ms_ret {e : Expr} {p : Pos} (h : MX W k (eval e env) env ns vals σ fun v σ1 => QS (.ret v) vals σ1) : MS W k (exec (.Return (some e) p) env) env ns vals σ QS := fun A φ δ s hA F =>
  ws_ret (h.seq hA F fun v σ1 φ1 δ1 w s1 k1 r1 F1 q => ⟨.ret v, vals, σ1, φ1, δ1, k1, .ret r1, F1, q⟩)
theorem ms_ret0 {p : Pos} (q : QS (.ret .none) vals σ) : MS W k (exec (.Return none p) env) env ns vals σ QS := fun A φ δ s hA F => wpC.of (wpAny_Return_none ⟨.ret .none, vals, σ, φ, δ, Kp.refl φ, .ret .none, F, q⟩)
theorem ms_brk {p : Pos} (q : QS .brk vals σ) : MS W k (exec (.Break p) env) env ns vals σ QS := fun A φ δ s hA F => wpC.of (wpAny_Break ⟨.brk, vals, σ, φ, δ, Kp.refl φ, .brk, F, q⟩)
theorem ms_cont {p : Pos} (q : QS .cont vals σ) : MS W k (exec (.Continue p) env) env ns vals σ QS := fun A φ δ s hA F => wpC.of (wpAny_Continue ⟨.cont, vals, σ, φ, δ, Kp.refl φ, .cont, F, q⟩)
theorem ms_if {t : Expr} {b o : List Stmt} {p : Pos} (h : MT W k (PySem.isTrue t env (eval t env)) env ns vals σ fun c σ1 => if c = true then MS W k (execs b env) env ns vals σ1 QS else MS W k (execs o env) env ns vals σ1 QS) :
    MS W k (exec (.If t b o p) env) env ns vals σ QS := fun A φ δ s hA F =>
  ws_if (h.seq hA F fun c σ1 φ1 δ1 v s1 k1 r1 F1 h1 => by
    cases r1
    split
    · rename_i e; rw [if_pos e] at h1; exact PG.up k1 (h1 A φ1 δ1 s1 hA F1)
    · rename_i e; rw [if_neg e] at h1; exact PG.up k1 (h1 A φ1 δ1 s1 hA F1))
theorem ms_name {x : Str} {xp p : Pos} {e : Expr} (hk : env.kindOf x = some .local ∨ env.kindOf x = some .cell) (h : MX W k (eval e env) env ns vals σ fun v σ1 => ∃ vals', Put ns vals x v vals' ∧ QS .next vals' σ1)
    (hs : swapsWith e (some (.Name x xp)) p.line env = pure false := by rfl) : MS W k (exec (.Assign [.Name x xp] e p) env) env ns vals σ QS := fun A φ δ s hA F =>
  ws_name (h.seq hA F fun v σ1 φ1 δ1 w s1 k1 r1 F1 ⟨vals', pt, q⟩ => wpC.of (F1.store hk r1 pt fun h' tk F2 => ⟨.next, vals', σ1, φ1, δ1, k1, .next, F2, q⟩)) hs
theorem ms_attr {o e : Expr} {attr : Str} {ap p : Pos} (h : MX W k (eval e env) env ns vals σ fun v σ1 => MX W k (eval o env) env ns vals σ1 fun ov σ2 => M2 RU W k (fun a b => setAttr a attr b) ov v env ns vals σ2 fun _ σ3 => QS .next vals σ3)
    (hs : swapsWith e (some (.Attribute o attr ap)) p.line env = pure false := by rfl) : MS W k (exec (.Assign [.Attribute o attr ap] e p) env) env ns vals σ QS := fun A φ δ s hA F =>
  ws_attr (h.seq hA F fun v σ1 φ1 δ1 w s1 k1 r1 F1 h1 => h1.seq hA F1 fun ov σ2 φ2 δ2 u s2 k2 r2 F2 h2 =>
    wpC_mono (h2 A φ2 δ2 s2 u w hA F2 r2 (r1.mono k2)) (fun _ s3 ⟨_, σ3, φ3, δ3, k3, _, F3, q⟩ => ⟨.next, vals, σ3, φ3, δ3, k1.trans (k2.trans k3), .next, F3, q⟩) fun _ _ e => e) hs
noncomputable def M3 {α β : Type} (R : Fz → β → α → Prop) (W : Wd) (k : Nat) (f : Value → Value → Value → Sem α) (a b c : MV) (env : Env) (ns : List Str) (vals : List (Option MV)) (σ : Store) (Q : β → Store → Prop) : Prop :=
  ∀ (A : Around) (φ : Fz) (δ : Addr → Addr) (s : Shared) (w u x : Value), OkE k A env → Fm W φ σ δ env ns vals s → RV φ a w → RV φ b u → RV φ c x → wpC W.M A (f w u x) (PE R W φ env ns vals Q) NoE s
theorem ms_sub {o i e : Expr} {ap p : Pos} (h : MX W k (eval e env) env ns vals σ fun v σ1 => MX W k (eval o env) env ns vals σ1 fun ov σ2 => MX W k (eval i env) env ns vals σ2 fun iv σ3 => M3 RU W k setItem ov iv v env ns vals σ3 fun _ σ4 => QS .next vals σ4)
    (hs : swapsWith e (some (.Subscript o i ap)) p.line env = pure false := by rfl) : MS W k (exec (.Assign [.Subscript o i ap] e p) env) env ns vals σ QS := fun A φ δ s hA F =>
  ws_sub (h.seq hA F fun v σ1 φ1 δ1 w s1 k1 r1 F1 h1 => h1.seq hA F1 fun ov σ2 φ2 δ2 u s2 k2 r2 F2 h2 => h2.seq hA F2 fun iv σ3 φ3 δ3 x s3 k3 r3 F3 h3 =>
    wpC_mono (h3 A φ3 δ3 s3 u x w hA F3 (r2.mono k3) r3 (r1.mono (k2.trans k3))) (fun _ s4 ⟨_, σ4, φ4, δ4, k4, _, F4, q⟩ => ⟨.next, vals, σ4, φ4, δ4, k1.trans (k2.trans (k3.trans k4)), .next, F4, q⟩) fun _ _ e => e) hs
end

end Mine
end
section
open PySem PySem.W PyProof.Rows PySem.Calls
namespace Mine

/-! a frame's own things, frozen while a callee runs -/
noncomputable def Fz.fill (φ : Fz) (h : Heap) (as : List Addr) : Fz := fun b => if b ∈ as then h.get? b else φ b
noncomputable def Fz.drop (φ : Fz) (as : List Addr) : Fz := fun b => if b ∈ as then none else φ b
noncomputable def own (env : Env) : List Addr := env.locals :: env.cells.map (·.2)

section
variable {W : Wd} {k : Nat} {env : Env} {ns : List Str} {vals : List (Option MV)} {σ : Store} {A : Around} {φ : Fz} {δ : Addr → Addr} {s : Shared}

theorem Fm.own_none (F : Fm W φ σ δ env ns vals s) {a : Addr} (h : a ∈ own env) : φ a = none ∧ σ a = none ∧ (∀ x C vs, σ x = some (.ins C vs) → δ x ≠ a) ∧ ∃ o, s.heap.get? a = some o ∧ ∀ vs n, o ≠ tupObj vs n := by
  rcases List.mem_cons.mp h with rfl | h
  · refine ⟨F.Lφ, F.Lσ, F.Lδ, ?_⟩
    obtain ⟨m, ⟨o, es, ep, ho, hd, _⟩, _⟩ := F.vars
    exact ⟨o, ho, fun vs n q => by rw [q] at hd; cases hd⟩
  · obtain ⟨p, hp, rfl⟩ := List.mem_map.mp h
    obtain ⟨a, b, c, d⟩ := F.cφ p hp
    obtain ⟨ov, o, ho, hd⟩ := F.cat p hp
    exact ⟨a, b, d, o, ho, fun vs n q => by rw [q] at hd; cases hd⟩

theorem Fm.out (F : Fm W φ σ δ env ns vals s) : St W (φ.fill s.heap (own env)) σ δ s ∧ Kp φ (φ.fill s.heap (own env)) := by
  have kp : Kp φ (φ.fill s.heap (own env)) := by
    intro a o e
    unfold Fz.fill
    split
    · exact F.st.keep a o e
    · exact e
  refine ⟨⟨fun a o e => kp _ _ (F.st.base a o e), fun a o e => ?_, fun a o e => (F.st.objs a o e).grow (fun _ _ _ e => kp _ _ e) (fun _ q => q) (fun _ _ _ _ q => q), fun a o e => ?_, fun a C vs e => ⟨?_, (F.st.sepd a C vs e).2⟩, F.st.inj, F.st.gens, F.st.os⟩, kp⟩
  · unfold Fz.fill at e
    split at e
    · exact e
    · exact F.st.keep a o e
  · unfold Fz.fill
    rw [if_neg]
    · exact F.st.sep a o e
    · intro h; rw [(F.own_none h).2.1] at e; cases e
  · unfold Fz.fill
    rw [if_neg]
    · exact (F.st.sepd a C vs e).1
    · intro h; exact (F.own_none h).2.2.1 a C vs e rfl

theorem Fm.back (F : Fm W φ σ δ env ns vals s) {φ2 : Fz} {σ2 : Store} {δ2 : Addr → Addr} {s2 : Shared} (S : St W φ2 σ2 δ2 s2) (kp : Kp (φ.fill s.heap (own env)) φ2) :
    Fm W (φ2.drop (own env)) σ2 δ2 env ns vals s2 ∧ Kp φ (φ2.drop (own env)) ∧ ∀ a vs n, φ2 a = some (tupObj vs n) → (φ2.drop (own env)) a = some (tupObj vs n) := by
  have inφ2 : ∀ a ∈ own env, ∀ o, s.heap.get? a = some o → φ2 a = some o := fun a ha o e => kp a o (by unfold Fz.fill; rw [if_pos ha]; exact e)
  have tup : ∀ a vs n, φ2 a = some (tupObj vs n) → (φ2.drop (own env)) a = some (tupObj vs n) := by
    intro a vs n e
    unfold Fz.drop
    rw [if_neg]
    · exact e
    · intro h
      obtain ⟨_, _, _, o, ho, hne⟩ := F.own_none h
      rw [inφ2 a h o ho] at e
      exact hne vs n (Option.some.inj e)
  have kp' : Kp φ (φ2.drop (own env)) := by
    intro a o e
    unfold Fz.drop
    rw [if_neg]
    · exact kp a o (F.out.2 a o e)
    · intro h; rw [(F.own_none h).1] at e; cases e
  have some2 : ∀ a ∈ own env, φ2 a ≠ none := fun a h => by
    obtain ⟨_, _, _, o, ho, _⟩ := F.own_none h
    rw [inφ2 a h o ho]; simp
  have σ2n : ∀ a ∈ own env, σ2 a = none := fun a h => by
    cases q : σ2 a with
    | none => rfl
    | some o => exact absurd (S.sep a o q) (some2 a h)
  have δ2n : ∀ a ∈ own env, ∀ x C vs, σ2 x = some (.ins C vs) → δ2 x ≠ a := fun a h x C vs e q => some2 a h (q ▸ (S.sepd x C vs e).1)
  have dn : ∀ a ∈ own env, (φ2.drop (own env)) a = none := fun a h => by unfold Fz.drop; rw [if_pos h]
  have dle : ∀ a, φ2 a = none → (φ2.drop (own env)) a = none := fun a e => by unfold Fz.drop; split <;> first | rfl | exact e
  have hk : ∀ a ∈ own env, ∀ o, s.heap.get? a = some o → s2.heap.get? a = some o := fun a h o e => S.keep a o (inφ2 a h o e)
  have lin : env.locals ∈ own env := .head _
  have cin : ∀ p ∈ env.cells, p.2 ∈ own env := fun p hp => .tail _ (List.mem_map_of_mem hp)
  obtain ⟨m, N, V⟩ := F.vars
  refine ⟨⟨⟨fun a o e => kp' _ _ (F.st.base a o e), fun a o e => ?_, fun a o e => (S.objs a o e).grow (fun a vs n e => tup a vs n e) (fun _ q => q) (fun _ _ _ _ q => q), fun a o e => dle a (S.sep a o e), fun a C vs e => ⟨dle _ (S.sepd a C vs e).1, (S.sepd a C vs e).2⟩, S.inj, S.gens, S.os⟩, F.ok, dn _ lin, σ2n _ lin, δ2n _ lin, fun p hp => ⟨dn _ (cin p hp), σ2n _ (cin p hp), (F.cφ p hp).2.2.1, δ2n _ (cin p hp)⟩, fun p hp => ?_, m, N.at fun o e => hk _ lin o e, V.grow (fun a vs n e => kp' a _ e) fun p hp o e => hk _ (cin p hp) o e⟩, kp', tup⟩
  · unfold Fz.drop at e
    split at e
    · cases e
    · exact S.keep a o e
  · obtain ⟨ov, o, ho, hd⟩ := F.cat p hp
    exact ⟨ov, o, hk _ (cin p hp) o ho, hd⟩

variable {Q : MV → Store → Prop}
theorem wp_call {f : Addr} {as : List MV} {ws : List Value} (hA : OkE k A env) (F : Fm W φ σ δ env ns vals s) (r : RVs φ as ws) (h : MCall W k f as σ Q) : wpC W.M A (call (.ref f) ws) (PE RV W φ env ns vals Q) NoE s := by
  obtain ⟨S, kp⟩ := F.out
  refine wpC_call (codeC_mono (h A _ δ s ws hA.toOk S (r.mono kp)) ?_)
  rintro res s2 ⟨v, rfl, mv, σ2, φ2, δ2, k2, r2, S2, q⟩
  obtain ⟨F2, k3, tp⟩ := F.back S2 k2
  exact ⟨mv, σ2, _, δ2, k3, r2.mono' tp, F2, q⟩
end

structure FnOK (W : Wd) (x : Str) (f : Addr) : Prop where
  ns : nsIn W.K mainGlobals x = some (some (.ref f))
  keep : keepIn W.K (.ref f) = true
  plain : (x == ("__debug__" : Str)) = false

section
variable {W : Wd} {k : Nat} {env : Env} {ns : List Str} {vals : List (Option MV)} {σ : Store} {A : Around} {φ : Fz} {δ : Addr → Addr} {s : Shared} {Q : MV → Store → Prop}

theorem Fm.global (F : Fm W φ σ δ env ns vals s) {x : Str} {v : Value} {p : Pos} {E : Value → Shared → Prop} {P : Value → Shared → Prop} (hk : env.kindOf x = some .globalImplicit) (e : nsIn W.K mainGlobals x = some (some v)) (hd : (x == ("__debug__" : Str)) = false) (h : P v s) :
    wpAny W.M A (eval (.Name x p) env) P E s := by
  refine Name_function_global F.ok.kind hk (loadGlobal_global (mg := W.mg) ?_ (mg_of W.X W.T.g e) h) hd
  rw [F.ok.glob]; exact W.T.g.keeps F.base
theorem Fm.builtin (F : Fm W φ σ δ env ns vals s) {x : Str} {v : Value} {p : Pos} {E : Value → Shared → Prop} {P : Value → Shared → Prop} (hk : env.kindOf x = some .globalImplicit) (e : nsIn W.K mainGlobals x = some none) (hb : bootBuiltins x = some v) (hn : x ≠ "__name__") (hd : (x == ("__debug__" : Str)) = false) (h : P v s) :
    wpAny W.M A (eval (.Name x p) env) P E s := by
  refine Name_function_global F.ok.kind hk (loadGlobal_builtin (mg := W.mg) (mb := W.mb) ?_ (mg_none_of W.X W.T.g e) ?_ ((W.T.builtins x hn).trans hb) h) hd
  · rw [F.ok.glob]; exact W.T.g.keeps F.base
  · rw [F.ok.blt]; exact W.T.b.keeps F.base

/-! lists of arguments -/
variable {QL : List MV → Store → Prop}
theorem ml_nil {p : Pos} (q : QL [] σ) : ML W k (spliced (backTo p (starEach [] env))) env ns vals σ QL := fun A φ δ s hA F => .of (Calls.spliced_nil (PE.here .nil F q))
theorem ml_cons {p : Pos} {e : Expr} {es : List Expr} (h : MX W k (eval e env) env ns vals σ fun v σ1 => ML W k (spliced (backTo p (starEach es env))) env ns vals σ1 fun vs σ2 => QL (v :: vs) σ2)
    (he : starEach (e :: es) env = (false, eval e env) :: starEach es env := by rfl) : ML W k (spliced (backTo p (starEach (e :: es) env))) env ns vals σ QL := fun A φ δ s hA F => by
  rw [he]
  show wpC _ _ (spliced ((false, eval e env) :: backTo p (starEach es env))) _ _ _
  exact wc_spliced (h.seq hA F fun v σ1 φ1 δ1 w s1 k1 r1 F1 h1 => h1.seq hA F1 fun vs σ2 φ2 δ2 ws s2 k2 r2 F2 q => ⟨v :: vs, σ2, φ2, δ2, k1.trans k2, .cons (r1.mono k2) r2, F2, q⟩)

theorem mx_call {x : Str} {f : Addr} {xp p : Pos} {e : Expr} {es : List Expr} (hf : FnOK W x f) (hk : env.kindOf x = some .globalImplicit)
    (h : ML W k (spliced (backTo p (starEach (e :: es) env))) env ns vals σ fun vs σ1 => MCall W k f vs σ1 Q)
    (hc : eval (.Call (.Name x xp) (e :: es) [] p) env = (do callWith p (← eval (.Name x xp) env) [] (backTo p (starEach (e :: es) env)) (backToKw p (keywordEach [] env))) := by rfl)
    (he : starEach (e :: es) env = (false, eval e env) :: starEach es env := by rfl) (hp : (backTo p (starEach es env)).any (·.1) = false := by rfl) :
    MX W k (eval (.Call (.Name x xp) (e :: es) [] p) env) env ns vals σ Q := fun A φ δ s hA F =>
  wc_call (.of (F.global hk hf.ns hf.plain (wc_withK (K := W.K) hf.keep (h.seq hA F fun vs σ1 φ1 δ1 ws s1 k1 r1 F1 h1 => ⟨F1.X, PE.up k1 (wp_call hA F1 r1 h1)⟩) he hp))) hc

/-! objects of classes -/
theorem AR.at {φ : Fz} {es : List DictEntry} {names : List Str} {vals : List (Option MV)} {x : Str} {v : MV} (h : AR φ es names vals) (a : At names vals x v) : ∃ w, getL x es = some (some w) ∧ RV φ v w := by
  induction a with
  | head => exact h.1
  | tail _ ih => exact ih h.2

structure AtOK (W : Wd) (C : Addr) (x : Str) : Prop where
  get : plainGet W.K C x = true
  dict : hasDictIn W.K C = true
  free : findIn W.K (.ref C) x = some none
theorem RV.handed {φ : Fz} {v : MV} {w : Value} (r : RV φ v w) : handedIn w = true := by cases r <;> rfl

theorem St.inst (S : St W φ σ δ s) {x C : Addr} {vs : List (Option MV)} (hx : σ x = some (.ins C vs)) : ∃ es n, PySem.W.InstAt s.heap x (instObj C (δ x)) C (some (dictOf es n)) ∧ InsDict φ s.heap (δ x) (W.attrs C) vs es n := by
  obtain ⟨e, es, n, D⟩ := S.objs _ _ hx
  exact ⟨es, n, ⟨e, rfl, rfl, D.at_⟩, D⟩
theorem St.X (S : St W φ σ δ s) : W.K.In s.heap := W.X.keeps S.baseh

theorem op_attr {x C : Addr} {vs : List (Option MV)} {names : List Str} {attr : Str} {v : MV} (hx : σ x = some (.ins C vs)) (hn : W.attrs C = names) (ho : AtOK W C attr) (a : At names vs attr v) (q : Q v σ) :
    M1 RV W k (fun o => getAttr o attr true) (.ref x) env ns vals σ Q := fun A φ δ s w hA F r => by
  cases r
  obtain ⟨es, n, I, D⟩ := F.st.inst hx
  subst hn
  obtain ⟨w, e, r⟩ := D.ar.at a
  exact .of (get_value F.X I (plainGet_of ho.get).1 (findObj_own ho.dict ho.free rfl (by rw [lookIn_dict]; exact e)) r.handed (PE.here r (F.toks _) q))
theorem mx_attr {value : Expr} {attr : Str} {p : Pos} (h : MX W k (eval value env) env ns vals σ fun v σ1 => M1 RV W k (fun o => getAttr o attr true) v env ns vals σ1 Q)
    (hb : eval (.Attribute value attr p) env = (do let o ← eval value env; standAt p.atName; let r ← holding [o] (getAttr o attr true); letTemporaryGo value o r; pure r) := by rfl) :
    MX W k (eval (.Attribute value attr p) env) env ns vals σ Q := fun A φ δ s hA F =>
  wc_attr (h.seq hA F fun v σ1 φ1 δ1 w s1 k1 r1 F1 h1 => PE.up k1 (h1 A φ1 δ1 s1 w hA F1 r1)) hb

structure MeOK (W : Wd) (C : Addr) (nm : Str) (f : Addr) : Prop where
  get : plainGet W.K C nm = true
  find : findIn W.K (.ref C) nm = some (some (.ref f))
  fn : typeIn W.K (.ref f) = some (.type "function")
  keep : keepIn W.K (.ref f) = true
  off : nm ∉ W.attrs C
theorem getL_def {name : Str} {es : List DictEntry} : getL name es = (match es.find? (·.key.isStr name) with | some e => some (some e.val) | none => if es.any (·.refKey) then none else some none) := rfl
theorem getL_off {es : List DictEntry} {names : List Str} {nm : Str} (hk : ∀ e ∈ es, ∃ x t, e.key = .str x t ∧ x ∈ names) (hn : nm ∉ names) : getL nm es = some none := by
  delta getL
  have h1 : es.find? (·.key.isStr nm) = none := by
    rw [List.find?_eq_none]
    intro e he
    obtain ⟨x, t, q, hx⟩ := hk e he
    rw [q]
    simp only [Value.isStr, beq_iff_eq]
    exact fun z => hn (z ▸ hx)
  have h2 : es.any (·.refKey) = false := by
    rw [List.any_eq_false]
    intro e he
    obtain ⟨x, t, q, hx⟩ := hk e he
    simp [DictEntry.refKey, q]
  rw [h1, h2]
  rfl
theorem wp_method {x C f : Addr} {vs : List (Option MV)} {nm : Str} {pl : Sem Bool} {E : Value → Shared → Prop} {P : Value × List Value → Shared → Prop} (S : St W φ σ δ s) (hx : σ x = some (.ins C vs)) (ho : MeOK W C nm f) (h : P (.ref f, [.ref x]) s) :
    wpAny W.M A (getMethod (.ref x) nm pl) P E s := by
  obtain ⟨es, n, I, D⟩ := S.inst hx
  refine method_fn S.X I (plainGet_of ho.get).1 (plainGet_of ho.get).2 ho.find ho.fn ?_ h
  show (lookIn nm (dictOf es n)).map _ = _
  rw [lookIn_dict, getL_off D.keys ho.off]
  rfl

noncomputable def MMeth (W : Wd) (k : Nat) (o : MV) (nm : Str) (p : Pos) (args : List Expr) (env : Env) (ns : List Str) (vals : List (Option MV)) (σ : Store) (Q : MV → Store → Prop) : Prop :=
  ∀ (A : Around) (φ : Fz) (δ : Addr → Addr) (s : Shared) (w : Value) (pl : Sem Bool), OkE k A env → Fm W φ σ δ env ns vals s → RV φ o w →
    wpC W.M A (getMethod w nm pl) (fun fx s2 => wpC W.M A (callWith p fx.1 fx.2 (backTo p (starEach args env)) []) (PE RV W φ env ns vals Q) NoE s2) NoE s
theorem mx_mcall {o : Expr} {nm : Str} {ap p : Pos} {args : List Expr} {pl : Sem Bool} (h : MX W k (eval o env) env ns vals σ fun v σ1 => MMeth W k v nm p args env ns vals σ1 Q)
    (hb : eval (.Call (.Attribute o nm ap) args [] p) env = (do let ov ← eval o env; standAt ap.atName; let (f, first) ← holding [ov] (getMethod ov nm pl); callWith p f first (backTo p (starEach args env)) []) := by rfl) :
    MX W k (eval (.Call (.Attribute o nm ap) args [] p) env) env ns vals σ Q := fun A φ δ s hA F =>
  wc_mcall (pl := pl) (h.seq hA F fun v σ1 φ1 δ1 w s1 k1 r1 F1 h1 => wpC_mono (h1 A φ1 δ1 s1 w pl hA F1 r1) (fun fx s2 h2 => PE.up k1 h2) fun _ _ e => e) hb
theorem me_ins {x C f : Addr} {vs : List (Option MV)} {nm : Str} {p : Pos} {e : Expr} {es : List Expr} (hx : σ x = some (.ins C vs)) (ho : MeOK W C nm f)
    (h : ML W k (spliced (backTo p (starEach (e :: es) env))) env ns vals σ fun vs σ1 => MCall W k f (.ref x :: vs) σ1 Q)
    (he : starEach (e :: es) env = (false, eval e env) :: starEach es env := by rfl) (hp : (backTo p (starEach es env)).any (·.1) = false := by rfl) : MMeth W k (.ref x) nm p (e :: es) env ns vals σ Q := fun A φ δ s w pl hA F r => by
  cases r
  exact .of (wp_method F.st hx ho (wc_withK (K := W.K) ho.keep (h.seq hA F fun vs σ1 φ1 δ1 ws s1 k1 r1 F1 h1 => ⟨F1.X, PE.up k1 (wp_call hA F1 (.cons (.ref x) r1) h1)⟩) he hp))
theorem me_ins0 {x C f : Addr} {vs : List (Option MV)} {nm : Str} {p : Pos} (hx : σ x = some (.ins C vs)) (ho : MeOK W C nm f) (h : MCall W k f [.ref x] σ Q) : MMeth W k (.ref x) nm p [] env ns vals σ Q := fun A φ δ s w pl hA F r => by
  cases r
  exact .of (wp_method F.st hx ho (wc_withK0 (K := W.K) F.X ho.keep (wp_call hA F (.cons (.ref x) .nil) h)))

/-! storing an attribute -/
theorem putL_any (name : Str) (hsh : Int) (key v : Value) (hkey : key.isStr name = true) : ∀ es : List DictEntry, (es.any (·.key.isStr name) = true → (putL name hsh key v es).length = es.length) ∧ (putL name hsh key v es).length ≤ es.length + 1
  | [] => ⟨fun h => by simp at h, by simp [putL]⟩
  | e :: r => by
    have ih := putL_any name hsh key v hkey r
    simp only [putL, List.any_cons]
    cases q : e.key.isStr name with
    | true => simp
    | false => simp only [Bool.false_or, Bool.false_eq_true, if_false, List.length_cons]; exact ⟨fun h => by rw [ih.1 h], by omega⟩
theorem isStr_str {x name : Str} {t : Tok} : (Value.str x t).isStr name = true ↔ x = name := by simp [Value.isStr]
theorem getL_putL_self (name : Str) (hsh : Int) (t : Tok) (v : Value) : ∀ es : List DictEntry, getL name (putL name hsh (.str name t) v es) = some (some v)
  | [] => by delta getL; simp [putL, Value.isStr]
  | e :: r => by
    have ih := getL_putL_self name hsh t v r
    unfold putL
    cases q : e.key.isStr name with
    | true => delta getL; simp [q]
    | false =>
      simp only [Bool.false_eq_true, if_false]
      rw [getL_def] at ih ⊢
      rw [List.find?_cons, q]
      dsimp only
      split
      · rename_i e' h; rw [h] at ih; exact ih
      · rename_i h; rw [h] at ih; dsimp only at ih; split at ih <;> cases ih
theorem find_putL_other {name y : Str} (hy : y ≠ name) (hsh : Int) (t : Tok) (v : Value) : ∀ es : List DictEntry, (putL name hsh (.str name t) v es).find? (·.key.isStr y) = es.find? (·.key.isStr y)
  | [] => by
    have : (Value.str name t).isStr y = false := by
      cases q : (Value.str name t).isStr y with
      | false => rfl
      | true => exact absurd (isStr_str.mp q).symm hy
    simp [putL, this]
  | e :: r => by
    have ih := find_putL_other hy hsh t v r
    unfold putL
    cases q : e.key.isStr name with
    | true =>
      have q2 : e.key.isStr y = false := by
        cases hk : e.key with
        | str z u =>
          rw [hk, isStr_str] at q
          cases z2 : (Value.str z u).isStr y with
          | false => rfl
          | true => rw [isStr_str] at z2; exact absurd (z2.symm.trans q) hy
        | _ => rfl
      simp only [if_true, List.find?_cons, q2]
    | false => simp only [Bool.false_eq_true, if_false, List.find?_cons, ih]
theorem ref_putL {name : Str} (hsh : Int) (t : Tok) (v : Value) : ∀ es : List DictEntry, (putL name hsh (.str name t) v es).any (·.refKey) = es.any (·.refKey)
  | [] => by simp [putL, DictEntry.refKey]
  | e :: r => by
    have ih := ref_putL (name := name) hsh t v r
    unfold putL
    cases q : e.key.isStr name with
    | true => simp only [if_true, List.any_cons, DictEntry.refKey]
    | false => simp only [Bool.false_eq_true, if_false, List.any_cons, ih]
theorem getL_putL_other {name y : Str} (hy : y ≠ name) (hsh : Int) (t : Tok) (v : Value) (es : List DictEntry) : getL y (putL name hsh (.str name t) v es) = getL y es := by
  delta getL
  rw [find_putL_other hy, ref_putL]
end

structure SetOK (W : Wd) (C : Addr) (x : Str) : Prop where
  set : findIn W.K (.ref C) "__setattr__" = some (some (.builtin "object.__setattr__"))
  over : plainOver W.K C = true
  taker : takerIn W.K C x = some none
  dict : hasDictIn W.K C = true

section
variable {prog : Program} {w : World} {A : Around} {E : Value → Shared → Prop} {s : Shared} {K : Frag} {x C dx : Addr} {es : List DictEntry} {n : Nat} {name : Str} {v : Value}
theorem set_dict_raw {Q : Unit → Shared → Prop} (X : K.In s.heap) (I : PySem.W.InstAt s.heap x (instObj C dx) C (some (dictOf es n)))
    (hs : findIn K (.ref C) "__setattr__" = some (some (.builtin "object.__setattr__"))) (hp : plainOver K C = true) (ht : takerIn K C name = some none) (hh : hasDictIn K C = true) (hl : (getL name es).isSome = true) (hz : (putL name (PyData.keyHash w.params name) (.str name (s.toks + 1)) v es).length ≤ 1000)
    (h : ∀ h' tk, h'.get? dx = some (dictOf (putL name (PyData.keyHash w.params name) (.str name (s.toks + 1)) v es) (putN name es n)) → Heap.SameBut dx s.heap h' → Q () { s with heap := h', toks := tk }) :
    wpAny (model prog w) A (setAttr (.ref x) name v) Q E s := by
  refine set_plain X I hs (osa_open (r := none) (s := { s with toks := s.toks + 1 }) X I hp ht fun b => ?_)
  obtain ⟨cd, hc, hd'⟩ := any_some hh
  have D : s.heap.get? dx = some (dictOf es n) := I.dict
  refine wpAny_bind (wpAny_pure (wpAny_bind (wpAny_bind (wpAny_loadPart I.at_ (wpAny_bind (looks_clsIn X hc _ _ _ _ (fun _ _ e => e) ?_))))))
  rw [hd']
  refine wpAny_pure (a := some dx) (wpAny_bind (wpAny_pure (wpAny_bind ?_)))
  unfold nsSet
  refine wpAny_bind (wpAny_bind (wpAny_askSetting (wpAny_pure (wpAny_bind (wpAny_mkText (wpAny_bind (wpAny_loadPart D ?_)))))))
  dsimp only
  have c : (!es.toArray.any (·.key.isStr name) && es.toArray.any (·.refKey)) = false := by
    rw [← Array.any_toList, ← Array.any_toList]
    delta getL at hl
    split at hl
    · rename_i en he
      rw [List.any_eq_true.mpr ⟨en, List.mem_of_find?_eq_some he, List.find?_some he⟩]; rfl
    · split at hl
      · cases hl
      · rename_i z; rw [Bool.not_eq_true] at z; rw [z, Bool.and_false]
  rw [aRefKeyMayBeTheName_at, c]
  refine wpAny_updatePart D ?_
  have e : Obj.putName name (PyData.keyHash w.params name) (.str name (s.toks + 1)) v (dictOf es n) = dictOf (putL name (PyData.keyHash w.params name) (.str name (s.toks + 1)) v es) (putN name es n) := putName_dict ..
  have D' := Heap.get?_update_self (f := Obj.putName name (PyData.keyHash w.params name) (.str name (s.toks + 1)) v) D (by rw [e]; rfl)
  rw [e] at D'
  refine wpAny_bind (wpAny_lookBehind D' (pastItsLine_dict (by rw [List.size_toArray, sizeLine_eq]; omega)) ?_)
  exact wpAny_pure (h _ _ D' (Heap.SameBut.update ..))
end

section
variable {W : Wd} {k : Nat} {env : Env} {ns : List Str} {vals : List (Option MV)} {σ : Store} {A : Around} {φ : Fz} {δ : Addr → Addr} {s : Shared} {Q : MV → Store → Prop}

theorem AR.off {φ : Fz} {es es' : List DictEntry} {x : Str} (h : ∀ y, y ≠ x → getL y es' = getL y es) : ∀ {names : List Str} {vs : List (Option MV)}, x ∉ names → AR φ es names vs → AR φ es' names vs
  | [], [], _, _ => trivial
  | [], _ :: _, _, r => r.elim
  | _ :: _, [], _, r => r.elim
  | y :: names, v :: vs, hx, r => by
    refine ⟨?_, AR.off h (fun q => hx (.tail _ q)) r.2⟩
    have hy := h y fun q => hx (q ▸ .head _)
    cases v with
    | none => rw [hy]; exact r.1
    | some mv => rw [hy]; exact r.1
theorem AR.put {φ : Fz} {es es' : List DictEntry} {x : Str} {v : MV} {w : Value} (h : ∀ y, y ≠ x → getL y es' = getL y es) (hw : getL x es' = some (some w)) (r : RV φ v w) {names : List Str} {vs vs' : List (Option MV)} (nd : names.Nodup) (a : AR φ es names vs) (p : Put names vs x v vs') : AR φ es' names vs' := by
  induction p with
  | head => exact ⟨⟨w, hw, r⟩, a.2.off h (List.nodup_cons.mp nd).1⟩
  | @tail y x ns v o l l' p ih =>
    have hy : y ≠ x := fun q => (List.nodup_cons.mp nd).1 (q ▸ p.mem)
    refine ⟨?_, ih h hw r (List.nodup_cons.mp nd).2 a.2⟩
    have : AR φ es [y] [o] := ⟨a.1, trivial⟩
    exact (this.off h (by simpa using fun q => hy q.symm)).1
theorem AR.isSome {φ : Fz} {es : List DictEntry} {x : Str} : ∀ {names : List Str} {vs : List (Option MV)}, AR φ es names vs → x ∈ names → (getL x es).isSome = true
  | [], _, _, h => by cases h
  | _ :: _, [], r, _ => r.elim
  | y :: names, v :: vs, r, h => by
    rcases List.mem_cons.mp h with rfl | h
    · cases v with
      | none => rw [show getL x es = some none from r.1]; rfl
      | some mv => obtain ⟨w, e, _⟩ := r.1; rw [e]; rfl
    · exact AR.isSome r.2 h
theorem keys_of_putL {name : Str} {hsh : Int} {t : Tok} {v : Value} {P : DictEntry → Prop} (hp : ∀ e v', P e → P ⟨e.hash, e.key, v'⟩) (hn : P ⟨hsh, .str name t, v⟩) : ∀ {es : List DictEntry}, (∀ e ∈ es, P e) → ∀ e ∈ putL name hsh (.str name t) v es, P e
  | [], _, e, he => by simp only [putL, List.mem_singleton] at he; rw [he]; exact hn
  | a :: r, h, e, he => by
    unfold putL at he
    split at he
    · rcases List.mem_cons.mp he with rfl | he
      · exact hp _ _ (h a (.head _))
      · exact h e (.tail _ he)
    · rcases List.mem_cons.mp he with rfl | he
      · exact h e (.head _)
      · exact keys_of_putL hp hn (fun e he => h e (.tail _ he)) e he
theorem nodup_putL {name : Str} {hsh : Int} {t : Tok} {v : Value} : ∀ {es : List DictEntry}, ((es.map (·.key)).Pairwise fun a b => ∀ x, a.isStr x = true → b.isStr x = false) →
    (((putL name hsh (.str name t) v es).map (·.key)).Pairwise fun a b => ∀ x, a.isStr x = true → b.isStr x = false)
  | [], _ => by simp [putL]
  | a :: r, h => by
    unfold putL
    rw [List.map_cons, List.pairwise_cons] at h
    cases q : a.key.isStr name with
    | true => simp only [if_true, List.map_cons, List.pairwise_cons]; exact h
    | false =>
      simp only [Bool.false_eq_true, if_false, List.map_cons, List.pairwise_cons]
      refine ⟨?_, nodup_putL h.2⟩
      intro b hb x hx
      obtain ⟨e, he, rfl⟩ := List.mem_map.mp hb
      refine keys_of_putL (P := fun e => e.key.isStr x = false) (fun e v' z => z) ?_ (fun e he => h.1 _ (List.mem_map_of_mem he) x hx) e he
      cases z : (Value.str name t).isStr x with
      | false => rfl
      | true => rw [isStr_str] at z; subst z; rw [q] at hx; cases hx
theorem length_le_names {names : List Str} : ∀ {es : List DictEntry}, (∀ e ∈ es, ∃ x t, e.key = .str x t ∧ x ∈ names) → ((es.map (·.key)).Pairwise fun a b => ∀ x, a.isStr x = true → b.isStr x = false) → es.length ≤ names.length := by
  intro es hk hp
  have : ∀ (es : List DictEntry) (names : List Str), (∀ e ∈ es, ∃ x t, e.key = .str x t ∧ x ∈ names) → ((es.map (·.key)).Pairwise fun a b => ∀ x, a.isStr x = true → b.isStr x = false) → es.length ≤ names.length := by
    intro es
    induction es with
    | nil => intro _ _ _; exact Nat.zero_le _
    | cons e r ih =>
      intro names hk hp
      rw [List.map_cons, List.pairwise_cons] at hp
      obtain ⟨x, t, q, hx⟩ := hk e (.head _)
      have := ih (names.erase x) (fun e' he' => by
        obtain ⟨y, u, q', hy⟩ := hk e' (.tail _ he')
        refine ⟨y, u, q', ?_⟩
        have : y ≠ x := by
          intro z
          have := hp.1 _ (List.mem_map_of_mem he') x (by rw [q]; exact isStr_str.mpr rfl)
          rw [q', z] at this
          rw [isStr_str.mpr rfl] at this
          cases this
        exact (List.mem_erase_of_ne this).mpr hy) hp.2
      have := List.length_erase_of_mem hx
      have := List.length_pos_of_mem hx
      simp only [List.length_cons]
      omega
  exact this es names hk hp

theorem op_setattr {x C : Addr} {vs vs' : List (Option MV)} {names : List Str} {attr : Str} {v : MV} {QU : Unit → Store → Prop} (hx : σ x = some (.ins C vs)) (hn : W.attrs C = names) (nd : names.Nodup) (hl : names.length ≤ 900) (ho : SetOK W C attr) (p : Put names vs attr v vs')
    (q : QU () (σ.put x (.ins C vs'))) : M2 RU W k (fun a b => setAttr a attr b) (.ref x) v env ns vals σ QU := fun A φ δ s w u hA F r r' => by
  cases r
  subst hn
  obtain ⟨es, n, I, D⟩ := F.st.inst hx
  have kp := keys_of_putL (hsh := PyData.keyHash W.w.params attr) (t := s.toks + 1) (v := u) (P := fun e => ∃ x t, e.key = .str x t ∧ x ∈ W.attrs C) (fun e v' z => z) ⟨attr, _, rfl, p.mem⟩ D.keys
  have np := nodup_putL (name := attr) (hsh := PyData.keyHash W.w.params attr) (t := s.toks + 1) (v := u) D.nodup
  have lp := length_le_names kp np
  refine .of (set_dict_raw F.X I ho.set ho.over ho.taker ho.dict (D.ar.isSome p.mem) (by omega) fun h' tk hd SB => ?_)
  have hne : x ≠ δ x := fun q => by have := (F.st.sepd x C vs hx).2; rw [← q, hx] at this; cases this
  refine ⟨(), _, φ, δ, Kp.refl φ, trivial, F.updateIns hx (fun b o hb e => SB.extBut b o hb e) ⟨SB.extBut x _ hne I.at_, _, _, ⟨hd, ?_, kp, lp, np⟩⟩, q⟩
  exact D.ar.put (fun y hy => getL_putL_other hy _ _ _ _) (getL_putL_self ..) r' nd p
end
end Mine
end
section
open PySem PySem.W PyProof.Rows PySem.Calls
namespace Mine

/-! entering a def -/
noncomputable def envCheck (scope : Scope) (ns : List Str) : Bool :=
  scope.kind == .function && !scope.isCoroutine && !scope.isGenerator && (scope.names.all fun x => x.2 != .cell) && decide ns.Nodup &&
    ns.all fun x => scope.names.lookup x == some .local && !(x == ("__debug__" : Str)) && !(x == ("__classdict__" : Str))

theorem lookup_of_nodup {α : Type} [BEq α] [LawfulBEq α] {β : Type} {x : α} {w : β} : ∀ {l : List (α × β)}, (l.map (·.1)).Nodup → (x, w) ∈ l → l.lookup x = some w
  | (y, v) :: l, nd, h => by
    rw [List.map_cons, List.nodup_cons] at nd
    rw [List.lookup_cons]
    cases h with
    | head => simp
    | tail _ h =>
      have : (x == y) = false := by
        simp only [beq_eq_false_iff_ne, ne_eq]
        exact fun q => nd.1 (q ▸ (List.mem_map_of_mem (f := Prod.fst) h : x ∈ l.map Prod.fst))
      rw [this]
      exact lookup_of_nodup nd.2 h
theorem map_zip_fst {α β : Type} : ∀ {xs : List α} {ys : List β}, xs.length = ys.length → (xs.zip ys).map (·.1) = xs
  | [], [], _ => rfl
  | x :: xs, y :: ys, h => by simp [map_zip_fst (xs := xs) (ys := ys) (by simpa using h)]
  | [], _ :: _, h => by simp at h
  | _ :: _, [], h => by simp at h
theorem binds_at {ps : List Str} {ws : List Value} (nd : ps.Nodup) (hl : ps.length = ws.length) {x : Str} {w : Value} (h : (x, w) ∈ ps.zip ws) : (ps.zip ws).reverse.lookup x = some w := by
  refine lookup_of_nodup ?_ (List.mem_reverse.mpr h)
  rw [List.map_reverse, map_zip_fst hl]
  exact (List.reverse_perm ps).nodup_iff.mpr nd

theorem VR.blank {φ : Fz} {env : Env} {h : Heap} {m : Str → Option Value} : ∀ {rest : List Str}, (∀ x ∈ rest, env.kindOf x = some .local) → VR φ env h m rest (rest.map fun _ => none)
  | [], _ => trivial
  | r :: rest, hk => ⟨.inl ⟨hk r (.head _), fun mv q => by cases q⟩, VR.blank fun x hx => hk x (.tail _ hx)⟩
theorem VR.init {φ : Fz} {env : Env} {h : Heap} {m : Str → Option Value} {rest : List Str} {xs : List MV} {ws : List Value} (hr : RVs φ xs ws) : ∀ {ps : List Str}, (∀ x w, (x, w) ∈ ps.zip ws → m x = some w) → ps.length = xs.length → (∀ x ∈ ps ++ rest, env.kindOf x = some .local) →
    VR φ env h m (ps ++ rest) (xs.map some ++ rest.map fun _ => none) := by
  induction xs generalizing ws with
  | nil =>
    intro ps _ hl hk
    have : ps = [] := List.length_eq_zero_iff.mp hl
    subst this
    exact VR.blank hk
  | cons x xs ih =>
    intro ps hm hl hk
    cases hr with
    | cons r hr =>
      cases ps with
      | nil => simp at hl
      | cons p ps =>
        refine ⟨.inl ⟨hk p (.head _), fun mv q => ?_⟩, ih hr (fun y w' h => hm y w' (.tail _ h)) (by simpa using hl) fun y hy => hk y (.tail _ hy)⟩
        cases q
        exact ⟨_, hm p _ (.head _), r⟩

noncomputable def retOf : MFlow → MV
  | .ret v => v
  | _ => .none

theorem MCall.enter_d {W : Wd} {k : Nat} {f : Addr} {args dm : List MV} {dv : List Value} {σ : Store} {Q : MV → Store → Prop} {oc : Value} {od : Option Addr} {osl : Array (Option Value)} {name qual : Str} {params : Arguments} {body : List Stmt} {scope : Scope} {dV kV doc pm cdv ct : Value} {an : Option Addr} {ps rest : List Str}
    (hK : W.K.lookup f = some ⟨oc, od, .func (fnOf name qual params body scope dV kV doc pm an cdv ct), osl⟩) (hcd : codeIn W.K cdv qual = true)
    (hb : ∀ (s : Shared) (vs : List Value), W.K.In s.heap → vs.length = args.length → BindsTo s (fnOf name qual params body scope dV kV doc pm an cdv ct) ⟨vs, []⟩ (ps.zip (vs ++ dv)))
    (hd : ∀ φ, RVs φ dm dv) (hl : ps.length = (args ++ dm).length) (hc : envCheck scope (ps ++ rest) = true)
    (h : ∀ L, MS W k (execs body (envOf qual scope L f cdv)) (envOf qual scope L f cdv) (ps ++ rest) ((args ++ dm).map some ++ rest.map fun _ => none) σ fun fl _ σ' => Q (retOf fl) σ') : MCall W (k + 1) f args σ Q := by
  intro A φ δ s vs hA S hv
  simp only [envCheck, Bool.and_eq_true, beq_iff_eq, Bool.not_eq_true', decide_eq_true_eq, List.all_eq_true, bne_iff_ne, ne_eq] at hc
  obtain ⟨⟨⟨⟨⟨c1, c2⟩, c3⟩, c4⟩, c5⟩, c6⟩ := hc
  have hlen := hv.length
  have X := S.X
  have hloc : ∀ x ∈ ps.zip (vs ++ dv), scope.names.lookup x.1 = some .local := fun x hx => (c6 x.1 (List.mem_append_left _ (List.of_mem_zip hx).1)).1.1
  have ndp : ps.Nodup := (List.nodup_append.mp c5).1
  have rv := (hv.append (hd φ))
  have hl2 : ps.length = (vs ++ dv).length := by rw [hl, rv.length]
  refine codeC_def (fd := fnOf name qual params body scope dV kV doc pm an cdv ct) (body := body) (by have := hA.d; omega) (X _ _ hK) rfl (W.T.nolimit.keeps S.baseh) (codeRec_of X hcd) rfl (hb s vs X hlen.symm) c4 hloc (fun h₀ hns hk => ?_) c2 c3 c1
  obtain ⟨l, hfr⟩ := hA.fr
  have hA' : OkE k (A.deeper (envOf qual scope s.heap.objs.size f cdv)) (envOf qual scope s.heap.objs.size f cdv) := ⟨⟨hA.h, by have := hA.d; show A.depth + 1 + 3 * k + 100 < _; omega, by have := hA.u; show A.units + 3 + 40 * k < _; omega, _, by show A.frames.map _ = _; rw [hfr]; rfl⟩, envOf qual scope s.heap.objs.size f cdv, l, by show A.frames.map _ = _; rw [hfr]; rfl, c3, c2, rfl, rfl⟩
  have S' : St W φ σ δ { s with heap := h₀, toks := s.toks + (ps.zip (vs ++ dv)).length } := S.grow hk rfl rfl
  have F : Fm W φ σ δ (envOf qual scope s.heap.objs.size f cdv) (ps ++ rest) ((args ++ dm).map some ++ rest.map fun _ => none) { s with heap := h₀, toks := s.toks + (ps.zip (vs ++ dv)).length } := by
    refine ⟨S', ⟨c1, c5, fun x hx => ⟨(c6 x hx).1.2, (c6 x hx).2⟩, rfl, rfl, .nil, .nil⟩, S.fresh_φ (Nat.le_refl _), S.fresh_σ (Nat.le_refl _), fun a C vs e => S.fresh_δ (Nat.le_refl _) e, fun p hp => absurd hp List.not_mem_nil, fun p hp => absurd hp List.not_mem_nil, _, hns, ?_⟩
    exact VR.init rv (fun x w hx => binds_at ndp hl2 hx) (by rw [hl]) fun x hx => (c6 x hx).1.1
  refine wpC_mono (h _ _ φ δ _ hA' F) ?_ fun _ _ e => e.elim
  rintro fl s2 ⟨mv, vals', σ', φ', δ', k2, r, F2, q⟩
  refine ⟨_, rfl, retOf mv, σ', φ', δ', k2, ?_, F2.st, q⟩
  cases r with
  | ret r => exact r
  | _ => exact .none
theorem MCall.enter {W : Wd} {k : Nat} {f : Addr} {args : List MV} {σ : Store} {Q : MV → Store → Prop} {oc : Value} {od : Option Addr} {osl : Array (Option Value)} {name qual : Str} {params : Arguments} {body : List Stmt} {scope : Scope} {dV kV doc pm cdv ct : Value} {an : Option Addr} {ps ns : List Str} {vals : List (Option MV)} (rest : List Str)
    (hK : W.K.lookup f = some ⟨oc, od, .func (fnOf name qual params body scope dV kV doc pm an cdv ct), osl⟩) (hcd : codeIn W.K cdv qual = true)
    (hb : ∀ (s : Shared) (vs : List Value), vs.length = args.length → BindsTo s (fnOf name qual params body scope dV kV doc pm an cdv ct) ⟨vs, []⟩ (ps.zip vs))
    (hl : ps.length = args.length) (hn : ps ++ rest = ns) (hv : (args.map some ++ rest.map fun _ => none) = vals) (hc : envCheck scope ns = true)
    (h : ∀ L, MS W k (execs body (envOf qual scope L f cdv)) (envOf qual scope L f cdv) ns vals σ fun fl _ σ' => Q (retOf fl) σ') : MCall W (k + 1) f args σ Q := by
  subst hn
  subst hv
  refine MCall.enter_d (dm := []) (dv := []) (rest := rest) hK hcd (fun s vs _ hv => ?_) (fun φ => .nil) (by simpa using hl) hc (by simpa using h)
  rw [List.append_nil]
  exact hb s vs hv

theorem len1 {α : Type} {l : List α} (h : l.length = 1) : ∃ a, l = [a] := by match l, h with | [a], _ => exact ⟨a, rfl⟩
theorem len2 {α : Type} {l : List α} (h : l.length = 2) : ∃ a b, l = [a, b] := by match l, h with | [a, b], _ => exact ⟨a, b, rfl⟩
theorem len3 {α : Type} {l : List α} (h : l.length = 3) : ∃ a b c, l = [a, b, c] := by match l, h with | [a, b, c], _ => exact ⟨a, b, c, rfl⟩
theorem len4 {α : Type} {l : List α} (h : l.length = 4) : ∃ a b c d, l = [a, b, c, d] := by match l, h with | [a, b, c, d], _ => exact ⟨a, b, c, d, rfl⟩
theorem len5 {α : Type} {l : List α} (h : l.length = 5) : ∃ a b c d e, l = [a, b, c, d, e] := by match l, h with | [a, b, c, d, e], _ => exact ⟨a, b, c, d, e, rfl⟩
theorem len6 {α : Type} {l : List α} (h : l.length = 6) : ∃ a b c d e f, l = [a, b, c, d, e, f] := by match l, h with | [a, b, c, d, e, f], _ => exact ⟨a, b, c, d, e, f, rfl⟩

end Mine
end
section
open PySem PySem.W PyProof.Rows PySem.Calls
namespace Mine

section
variable {W : Wd} {k : Nat} {env : Env} {ns : List Str} {vals : List (Option MV)} {σ : Store} {A : Around} {φ : Fz} {δ : Addr → Addr} {s : Shared} {Q : MV → Store → Prop} {QL : List MV → Store → Prop} {QU : Unit → Store → Prop}

theorem big_size {n : Nat} (h : n ≤ 1000000) : n ≤ sizeLine := by rw [sizeLine_eq]; omega

theorem Fm.cells_fresh (F : Fm W φ σ δ env ns vals s) {a : Addr} (h : s.heap.objs.size ≤ a) : ∀ p ∈ env.cells, p.2 ≠ a := fun p hp q => by
  obtain ⟨ov, o, ho, _⟩ := F.cat p hp
  exact absurd (Heap.lt_size ho) (by rw [q]; exact Nat.not_lt.mpr h)
theorem Fm.newFrozen (F : Fm W φ σ δ env ns vals s) {a : Addr} {o : Obj} {h' : Heap} {tk : Nat} (hk : ∀ b o, s.heap.get? b = some o → h'.get? b = some o) (ha : s.heap.objs.size ≤ a) (ho : h'.get? a = some o) :
    Fm W (φ.put a o) σ δ env ns vals { s with heap := h', toks := tk } ∧ Kp φ (φ.put a o) :=
  ⟨(F.ext (tk := tk) hk).freeze (F.st.fresh_φ ha) (F.st.fresh_σ ha) (fun x C vs e => F.st.fresh_δ ha e) (fun q => F.fresh_L ha q.symm) (F.cells_fresh ha) ho, Fz.put_kp (F.st.fresh_φ ha)⟩

theorem push_keeps (h : Heap) (o : Obj) : ∀ b o', h.get? b = some o' → (h.push o).get? b = some o' := fun _ _ e => Heap.get?_push_of_some _ e

theorem mx_list {elts : List Expr} {p : Pos} (h : ML W k (spliced (backTo p (starEach elts env))) env ns vals σ fun vs σ1 => vs.length ≤ 1000000 ∧ ∀ a, σ1 a = none → Q (.ref a) (σ1.put a (.lst vs))) : MX W k (eval (.List elts p) env) env ns vals σ Q := fun A φ δ s hA F =>
  wc_list (h.seq hA F fun vs σ1 φ1 δ1 ws s1 k1 r1 F1 ⟨hl, q⟩ => .of (wpAny_newObj_type ⟨_, _, φ1, δ1, k1, .ref _, F1.alloc (tk := s1.toks) (push_keeps _ _) (Nat.le_refl _) (o := .lst vs) (fun _ _ e => by cases e) ⟨ws.toArray, 0, Heap.get?_push_size _ rfl, by simpa using r1⟩, q _ (F1.st.fresh_σ (Nat.le_refl _))⟩ (by show ws.toArray.size ≤ sizeLine; rw [List.size_toArray, ← r1.length]; exact big_size hl)))
theorem mx_tuple {elts : List Expr} {n : Nat} {p : Pos} (h : ML W k (spliced (backTo p (starEach elts env))) env ns vals σ fun vs σ1 => vs.length ≤ 1000000 ∧ Q (.tup vs) σ1) : MX W k (eval (.Tuple elts n p) env) env ns vals σ Q := fun A φ δ s hA F =>
  wc_tuple (h.seq hA F fun vs σ1 φ1 δ1 ws s1 k1 r1 F1 ⟨hl, q⟩ => .of (wpAny_newObj_type (by
    obtain ⟨F2, k2⟩ := F1.newFrozen (tk := s1.toks) (o := tupObj ws.toArray 0) (push_keeps s1.heap (tupObj ws.toArray 0)) (Nat.le_refl _) (Heap.get?_push_size _ rfl)
    exact ⟨_, _, _, δ1, k1.trans k2, .tup Fz.put_self (by simpa using r1.mono k2), F2, q⟩) (by show ws.toArray.size ≤ sizeLine; rw [List.size_toArray, ← r1.length]; exact big_size hl)))

/-! subscripts -/
theorem mx_sub {value slice : Expr} {p : Pos} (h : MX W k (eval value env) env ns vals σ fun o σ1 => MX W k (eval slice env) env ns vals σ1 fun i σ2 => M2 RV W k (subscriptTail value slice) o i env ns vals σ2 Q) :
    MX W k (eval (.Subscript value slice p) env) env ns vals σ Q := fun A φ δ s hA F =>
  wc_sub (h.seq hA F fun o σ1 φ1 δ1 w s1 k1 r1 F1 h1 => h1.seq hA F1 fun i σ2 φ2 δ2 u s2 k2 r2 F2 h2 => PE.up (k1.trans k2) (h2 A φ2 δ2 s2 w u hA F2 (r1.mono k2) r2))
theorem OR.list {h : Heap} {d a : Addr} {l : List MV} (x : OR W φ h d a (.lst l)) : ∃ vs n, h.get? a = some (lstObj vs n) ∧ h.IsList a vs ∧ RVs φ l vs.toList := by
  obtain ⟨vs, n, e, r⟩ := x; exact ⟨vs, n, e, ⟨_, e, rfl, n, rfl⟩, r⟩
theorem sub_list {value slice : Expr} {a : Addr} {l : List MV} {i : Int} {v : MV} (ha : σ a = some (.lst l)) (h0 : 0 ≤ i) (hb : i < 2 ^ 63) (hv : l[i.toNat]? = some v) (q : Q v σ)
    (hs : ∀ o i, subscripted slice false o i = operate [o, i] (getItem o i)) : M2 RV W k (subscriptTail value slice) (.ref a) (.int i) env ns vals σ Q := fun A φ δ s w u hA F r r' => by
  cases r; cases r'
  obtain ⟨vs, n, e, L, rv⟩ := (F.st.objs a _ ha).list
  obtain ⟨w, hw, rw'⟩ := rv.get _ _ hv
  exact wpC.of (tail_any L.typeIs slot_list_getitem.lookup (wpAny_getItem_list L h0 hb (by simpa using hw) (PE.here rw' F q)) (hs _ _))
theorem sub_last {value slice : Expr} {a : Addr} {l : List MV} {v : MV} (ha : σ a = some (.lst (l ++ [v]))) (q : Q v σ)
    (hs : ∀ o i, subscripted slice false o i = operate [o, i] (getItem o i)) : M2 RV W k (subscriptTail value slice) (.ref a) (.int (-1)) env ns vals σ Q := fun A φ δ s w u hA F r r' => by
  cases r; cases r'
  obtain ⟨vs, n, e, L, rv⟩ := (F.st.objs a _ ha).list
  obtain ⟨w, hw, rw'⟩ := rv.get l.length v (by simp)
  have hlen := rv.length
  simp only [List.length_append, List.length_cons, List.length_nil, Array.length_toList] at hlen
  refine wpC.of (tail_any L.typeIs slot_list_getitem.lookup (wpAny_getItem_list_neg L (by decide) (by omega) (by decide) ?_ (PE.here rw' F q)) (hs _ _))
  have : (-1 + (vs.size : Int)).toNat = l.length := by omega
  rw [this]; simpa using hw
theorem RV.tup_inv {φ : Fz} {l : List MV} {w : Value} (r : RV φ (.tup l) w) : ∃ a vs n, w = .ref a ∧ φ a = some (tupObj vs n) ∧ RVs φ l vs.toList := by
  cases r with
  | tup e r => exact ⟨_, _, _, rfl, e, r⟩
theorem sub_tup {value slice : Expr} {l : List MV} {i : Int} {v : MV} (h0 : 0 ≤ i) (hb : i < 2 ^ 63) (hv : l[i.toNat]? = some v) (q : Q v σ)
    (hs : ∀ o i, subscripted slice false o i = operate [o, i] (getItem o i)) : M2 RV W k (subscriptTail value slice) (.tup l) (.int i) env ns vals σ Q := fun A φ δ s w u hA F r r' => by
  cases r'
  obtain ⟨a, vs, n, rfl, e, rv⟩ := r.tup_inv
  obtain ⟨w, hw, rw'⟩ := rv.get _ _ hv
  have T : IsTup s.heap a vs := ⟨_, F.st.keep _ _ e, rfl, n, rfl⟩
  have hlt : i.toNat < vs.size := by
    have := List.getElem?_eq_some_iff.mp hw
    obtain ⟨h, _⟩ := this
    simpa using h
  refine wpC.of (tail_any (T := "tuple") T.typeIs slot_tuple_getitem.lookup (getItem_tuple (j := i.toNat) T (by omega) hb ?_ (by simpa using hw) (PE.here rw' F q)) (hs _ _))
  unfold seqIndex?
  have h1 : ¬ i < 0 := by omega
  have h2 : i < (vs.size : Int) := by omega
  simp [h1, h0, h2]
theorem sub_bytes {value slice : Expr} {b : List UInt8} {i : Int} (h0 : 0 ≤ i) (hi : i < b.length) (hl : b.length ≤ 1000000) (q : Q (.int (b.getD i.toNat 0).toNat) σ)
    (hs : ∀ o i, subscripted slice false o i = operate [o, i] (getItem o i)) : M2 RV W k (subscriptTail value slice) (.bytes b) (.int i) env ns vals σ Q := fun A φ δ s w u hA F r r' => by
  cases r; cases r'
  exact wpC.of (tail_any (typeIs_bytes _ _ _) FB.slot_bytes_getitem.lookup (getItem_bytes (l := b) (by omega) h0 hi (PE.here (RV.int _ _) (F.toks _) q)) (hs _ _))

/-! slices -/
noncomputable def cut (b : List UInt8) (lo hi : Option Int) : List UInt8 := (b.drop (lo.elim 0 (clipAt b.length))).take (hi.elim b.length (clipAt b.length) - lo.elim 0 (clipAt b.length))
noncomputable def MP (W : Wd) (k : Nat) (e : Option Expr) (env : Env) (ns : List Str) (vals : List (Option MV)) (σ : Store) (Q : Option Int → Store → Prop) : Prop :=
  ME (fun φ (o : Option Int) w => IsPart w o) W k (evalPart e env) env ns vals σ Q
theorem mp_none {QP : Option Int → Store → Prop} (q : QP none σ) : MP W k none env ns vals σ QP := fun A φ δ s hA F => .of (evalPart_none_step (PE.here (mv := (none : Option Int)) (R := fun φ (o : Option Int) w => IsPart w o) IsPart.none F q))
theorem mp_some {e : Expr} {QP : Option Int → Store → Prop} (h : MX W k (eval e env) env ns vals σ fun v σ1 => ∃ i, v = .int i ∧ QP (some i) σ1) : MP W k (some e) env ns vals σ QP := fun A φ δ s hA F =>
  id (h.seq hA F fun v σ1 φ1 δ1 w s1 k1 r1 F1 ⟨i, hv, q⟩ => by subst hv; cases r1; exact ⟨some i, σ1, φ1, δ1, k1, IsPart.int _ _, F1, q⟩)
noncomputable def MSl (W : Wd) (k : Nat) (value slice : Expr) (o : MV) (lo hi : Option Int) (env : Env) (ns : List Str) (vals : List (Option MV)) (σ : Store) (Q : MV → Store → Prop) : Prop :=
  ∀ (A : Around) (φ : Fz) (δ : Addr → Addr) (s : Shared) (w l u : Value), OkE k A env → Fm W φ σ δ env ns vals s → RV φ o w → IsPart l lo → IsPart u hi →
    wpC W.M A (subscriptTail value slice w (.ref s.heap.objs.size)) (PE RV W φ env ns vals Q) NoE { s with heap := s.heap.push { cls := .type "slice", data := .fields #[l, u, .none] } }
theorem mx_slice {value : Expr} {lo hi : Option Expr} {p sp : Pos} (h : MX W k (eval value env) env ns vals σ fun o σ1 => MP W k lo env ns vals σ1 fun l σ2 => MP W k hi env ns vals σ2 fun u σ3 => MSl W k value (.Slice lo hi none sp) o l u env ns vals σ3 Q) :
    MX W k (eval (.Subscript value (.Slice lo hi none sp) p) env) env ns vals σ Q := fun A φ δ s hA F =>
  wc_sub (h.seq hA F fun o σ1 φ1 δ1 w s1 k1 r1 F1 h1 => wc_slice (ME.seq h1 hA F1 fun l σ2 φ2 δ2 x s2 k2 p2 F2 h2 => ME.seq h2 hA F2 fun u σ3 φ3 δ3 y s3 k3 p3 F3 h3 =>
    .of (evalPart_none_step (PE.up (k1.trans (k2.trans k3)) (h3 A φ3 δ3 s3 w x y hA F3 (r1.mono (k2.trans k3)) p2 p3)))))
theorem sl_bytes {value : Expr} {lo hi : Option Expr} {sp : Pos} {b : List UInt8} {l u : Option Int} (hl : b.length ≤ 1000000) (q : Q (.bytes (cut b l u)) σ) : MSl W k value (.Slice lo hi none sp) (.bytes b) l u env ns vals σ Q := fun A φ δ s w x y hA F r p1 p2 => by
  cases r
  have e : (KBy.picked b.toArray l u) = (cut b l u).toArray := by rw [KBc.picked_eq]; simp [cut]
  have hsz : (KBy.picked b.toArray l u).size ≤ sizeLine := Nat.le_trans (KBc.size_picked_le _ _ _) (by simpa using big_size hl)
  refine wpC.of ?_
  refine tail_any (ops := [.ref s.heap.objs.size, .bytes b.toArray _]) (typeIs_bytes _ _ _) FB.slot_bytes_getitem.lookup (getItem_meets (typeIs_bytes _ _ _) (by decide) FB.slot_bytes_getitem FB.entry_bytes_getitem (FB.args_bytes_getitem_2 _ _) (KBc.meets_slice2 b.toArray _ _ p1 p2)
    ⟨Heap.IsSliceOf.new _ _ _ _, hsz, fun t' k' => ?_⟩) rfl
  rw [e]
  exact ⟨_, σ, φ, δ, Kp.refl φ, .bytes _ _, F.ext (push_keeps _ _), q⟩

/-! None -/
noncomputable def MV.isNone : MV → Bool
  | .none => true
  | _ => false
theorem RV.isNone {v : MV} {w : Value} (r : RV φ v w) : (w == Value.none) = v.isNone := by cases r <;> rfl
theorem op_is_none {v : MV} (q : Q (.bool v.isNone) σ) : M2 RV W k (compareOp .Is) v .none env ns vals σ Q := fun A φ δ s w u hA F r r' => by
  cases r'; exact wpC.of (is_none (by rw [r.isNone]; exact PE.here (RV.bool _) F q))
theorem op_isnot_none {v : MV} (q : Q (.bool (!v.isNone)) σ) : M2 RV W k (compareOp .IsNot) v .none env ns vals σ Q := fun A φ δ s w u hA F r r' => by
  cases r'; exact wpC.of (isNot_none (by rw [r.isNone]; exact PE.here (RV.bool _) F q))
theorem op_eq_none_int {i : Int} (q : Q (.bool false) σ) : M2 RV W k (compareOp .Eq) .none (.int i) env ns vals σ Q := fun A φ δ s w u hA F r r' => by
  cases r; cases r'; exact wpC.of (EqNone.eq_none_int (PE.here (RV.bool _) F q))
theorem op_eq_int_none {i : Int} (q : Q (.bool false) σ) : M2 RV W k (compareOp .Eq) (.int i) .none env ns vals σ Q := fun A φ δ s w u hA F r r' => by
  cases r; cases r'; exact wpC.of (EqNone.eq_int_none (PE.here (RV.bool _) F q))
theorem op_eq_none_none (q : Q (.bool true) σ) : M2 RV W k (compareOp .Eq) .none .none env ns vals σ Q := fun A φ δ s w u hA F r r' => by
  cases r; cases r'; exact wpC.of (EqNone.eq_none_none (PE.here (RV.bool _) F q))

/-! built-ins and types by their names -/
structure BtOK (W : Wd) (x : Str) (v : Value) : Prop where
  ns : nsIn W.K mainGlobals x = some none
  boot : bootBuiltins x = some v
  name : x ≠ "__name__"
  plain : (x == ("__debug__" : Str)) = false
theorem mx_bcall {x : Str} {id : String} {xp p : Pos} {e : Expr} {es : List Expr} (hf : BtOK W x (.builtin id)) (hk : env.kindOf x = some .globalImplicit)
    (h : ML W k (spliced (backTo p (starEach (e :: es) env))) env ns vals σ fun vs σ1 => MN RV W k (fun ws => call (.builtin id) ws) vs env ns vals σ1 Q)
    (hc : eval (.Call (.Name x xp) (e :: es) [] p) env = (do callWith p (← eval (.Name x xp) env) [] (backTo p (starEach (e :: es) env)) (backToKw p (keywordEach [] env))) := by rfl)
    (he : starEach (e :: es) env = (false, eval e env) :: starEach es env := by rfl) (hp : (backTo p (starEach es env)).any (·.1) = false := by rfl) :
    MX W k (eval (.Call (.Name x xp) (e :: es) [] p) env) env ns vals σ Q := fun A φ δ s hA F =>
  wc_call (.of (F.builtin hk hf.ns hf.boot hf.name hf.plain (wc_withB (fun _ => looks_blt) (h.seq hA F fun vs σ1 φ1 δ1 ws s1 k1 r1 F1 h1 => PE.up k1 (h1 A φ1 δ1 s1 ws hA F1 r1)) he hp))) hc
theorem mx_tcall {x : Str} {id : String} {xp p : Pos} {e : Expr} {es : List Expr} (hf : BtOK W x (.type id)) (hk : env.kindOf x = some .globalImplicit)
    (h : ML W k (spliced (backTo p (starEach (e :: es) env))) env ns vals σ fun vs σ1 => MN RV W k (fun ws => call (.type id) ws) vs env ns vals σ1 Q)
    (hc : eval (.Call (.Name x xp) (e :: es) [] p) env = (do callWith p (← eval (.Name x xp) env) [] (backTo p (starEach (e :: es) env)) (backToKw p (keywordEach [] env))) := by rfl)
    (he : starEach (e :: es) env = (false, eval e env) :: starEach es env := by rfl) (hp : (backTo p (starEach es env)).any (·.1) = false := by rfl) :
    MX W k (eval (.Call (.Name x xp) (e :: es) [] p) env) env ns vals σ Q := fun A φ δ s hA F =>
  wc_call (.of (F.builtin hk hf.ns hf.boot hf.name hf.plain (wc_withB (fun _ => looks_typ) (h.seq hA F fun vs σ1 φ1 δ1 ws s1 k1 r1 F1 h1 => PE.up k1 (h1 A φ1 δ1 s1 ws hA F1 r1)) he hp))) hc
theorem RVs.one {x : MV} {ws : List Value} (r : RVs φ [x] ws) : ∃ w, ws = [w] ∧ RV φ x w := by cases r with | cons h r => cases r; exact ⟨_, rfl, h⟩
theorem RVs.two {x y : MV} {ws : List Value} (r : RVs φ [x, y] ws) : ∃ w u, ws = [w, u] ∧ RV φ x w ∧ RV φ y u := by cases r with | cons h r => cases r with | cons h' r => cases r; exact ⟨_, _, rfl, h, h'⟩
theorem bl_len_bytes {b : List UInt8} (hl : b.length ≤ 1000000) (q : Q (.int b.length) σ) : MN RV W k (fun ws => call (.builtin "len") ws) [.bytes b] env ns vals σ Q := fun A φ δ s ws hA F r => by
  show wpC _ _ (call (.builtin "len") ws) _ _ _
  obtain ⟨w, rfl, q1⟩ := r.one; cases q1
  refine wpC.of (len_bytes (by simp; omega) ?_)
  simp only [List.size_toArray]
  exact PE.here (RV.int _ _) (F.toks _) q
theorem bl_len_list {a : Addr} {l : List MV} (ha : σ a = some (.lst l)) (hl : l.length ≤ 1000000) (q : Q (.int l.length) σ) : MN RV W k (fun ws => call (.builtin "len") ws) [.ref a] env ns vals σ Q := fun A φ δ s ws hA F r => by
  show wpC _ _ (call (.builtin "len") ws) _ _ _
  obtain ⟨w, rfl, q1⟩ := r.one; cases q1
  obtain ⟨vs, n, e, L, rv⟩ := (F.st.objs a _ ha).list
  have hlen : vs.size = l.length := by simpa using rv.length.symm
  refine wpC.of (Calls.call_len_list L (by omega) ?_)
  rw [hlen]
  exact PE.here (RV.int _ _) (F.toks _) q
theorem bl_max {a b : Int} (q : Q (.int (max a b)) σ) : MN RV W k (fun ws => call (.builtin "max") ws) [.int a, .int b] env ns vals σ Q := fun A φ δ s ws hA F r => by
  show wpC _ _ (call (.builtin "max") ws) _ _ _
  obtain ⟨w, u, rfl, q1, q2⟩ := r.two; cases q1; cases q2
  obtain ⟨m, F', N, V⟩ := F.fr
  refine wpC.of (max_two_N hA.h F' N fun h' tk F2 N2 => ?_)
  have : (if b > a then b else a) = max a b := by split <;> omega
  rw [this]
  exact PE.here (RV.int _ _) (F.of_fr V F2 N2) q
theorem ty_int_bool {b : Bool} (q : Q (.int (if b = true then 1 else 0)) σ) : MN RV W k (fun ws => call (.type "int") ws) [.bool b] env ns vals σ Q := fun A φ δ s ws hA F r => by
  show wpC _ _ (call (.type "int") ws) _ _ _
  obtain ⟨w, rfl, q1⟩ := r.one; cases q1
  exact wpC.of (call_int_bool (PE.here (RV.int _ _) (F.toks _) q))

/-! methods of lists -/
theorem me_list_append {a : Addr} {l : List MV} {p : Pos} {e : Expr} (ha : σ a = some (.lst l))
    (h : MX W k (eval e env) env ns vals σ fun v σ1 => ∃ l1, σ1 a = some (.lst l1) ∧ l1.length ≤ 1000000 ∧ Q .none (σ1.put a (.lst (l1 ++ [v]))))
    (he : starEach [e] env = [(false, eval e env)] := by rfl) : MMeth W k (.ref a) "append" p [e] env ns vals σ Q := fun A φ δ s w pl hA F r => by
  cases r
  obtain ⟨vs, n, eo, L, rv⟩ := (F.st.objs a _ ha).list
  refine .of (Calls.getMethod_list_append eo rfl rfl (wc_withB (fun _ => looks_blt) ?_ (by rw [he]; rfl) rfl))
  rw [he]
  refine wc_spliced (h.seq hA F fun v σ1 φ1 δ1 u s1 k1 r1 F1 ⟨l1, ha1, hl1, q⟩ => .of (Calls.spliced_nil (.of ?_)))
  obtain ⟨vs1, n1, eo1, L1, rv1⟩ := (F1.st.objs a _ ha1).list
  have hlen : vs1.size = l1.length := by simpa using rv1.length.symm
  refine append_at (hsz := by rw [hlen]; exact big_size hl1) eo1 fun h' hs ho' => ?_
  exact ⟨.none, _, φ1, δ1, k1, .none, F1.update (o := .lst (l1 ++ [v])) ha1 (fun b o hb e => hs.extBut b o hb e) (fun _ _ e => by cases e) ⟨vs1.push u, n1 + 1, ho', by simpa using rv1.append (.cons r1 .nil)⟩, q⟩
theorem me_list_pop0 {a : Addr} {x : MV} {l : List MV} {p ip : Pos} {kk : Nat} (ha : σ a = some (.lst (x :: l))) (hl : l.length < 1000000) (q : Q x (σ.put a (.lst l))) : MMeth W k (.ref a) "pop" p [.Constant (.int 0) kk ip] env ns vals σ Q := fun A φ δ s w pl hA F r => by
  cases r
  obtain ⟨vs, n, eo, L, rv⟩ := (F.st.objs a _ ha).list
  refine .of (getMethod_builtin (T := "list") L.typeIs PySem.F.plainAttrs_list PySem.F.slot_list_pop PySem.F.type_list_pop (fun b e => by cases e; exact ⟨_, eo, rfl⟩) (wc_withB (fun _ => looks_blt) ?_ rfl rfl))
  refine wc_spliced (.of (wpAny_Constant_int (k := kk) (pos := ip) (.of (Calls.spliced_nil (.of ?_)))))
  obtain ⟨vl⟩ := vs
  cases rv with
  | cons rx rl =>
    rename_i w' ws
    have F1 := F.toks (s.toks + 1)
    have hlen := rl.length
    refine call_meets PySem.F.slot_list_pop ⟨_, eo, rfl⟩ PySem.F.entry_list_pop (PySem.F.args_list_pop_2 _ _) (PySem.MeetsSeq.list_pop_at a _ n 0 _ 0 w' (by decide) (by simp [seqIndex?]) rfl (by simp only [List.size_toArray, List.length_cons]; exact big_size (by omega))) ⟨eo, ?_⟩
    refine ⟨x, _, φ, δ, Kp.refl φ, rx, F1.update ha (fun b o hb e => (Heap.SameBut.update ..).extBut b o hb e) (fun _ _ e => by cases e) ?_, q⟩
    have q := PySem.IsL.update eo (fun xs => xs.eraseIdxIfInBounds 0)
    exact ⟨_, _, q, by simpa using rl⟩
end
end Mine
end
section
open PySem PySem.W PyProof.Rows PySem.Calls
namespace Mine

theorem fine_b {id : String} {args : Args} (h : holders.contains id = false) : fine (.builtin id args) = true := by show (!holders.contains id) = true; rw [h]; rfl

theorem codeC_builtin_at {prog : Program} {w : World} {A : Around} {R : Result → Shared → Prop} {s : Shared} {id : String} {args : Args} {b : Builtin} (hq : (Code.builtin id args).quiet = true) (hf : holders.contains id = false) (hb : entryFor table id = some b)
    (h : wpAny (model prog w) A.in1 (checkBuiltinCall id args) (fun _ s1 => wpC (model prog w) (A.under (.builtin id args)) (b args)
      (fun fin s2 => match fin with | .done f => R (.ok f) s2 | .again c' => c'.quiet = true ∧ codeC (model prog w) A c' R s2) (fun e s2 => R (.error e) s2) s1) (fun e s2 => R (.error e) s2) s) :
    codeC (model prog w) A (.call (.builtin id) args) R s := by
  refine codeC_tree rfl ?_
  show wpC _ A.in1 (do checkBuiltinCall id args; again (.builtin id args)) _ _ s
  refine wpC_then (.of h) fun _ s1 h1 => wpC_pure (And.intro hq (codeC_tree (fine_b hf) ?_))
  show wpC _ _ (match entryFor table id with | some b => b args | none => unsupported ((withoutEnding? id "#data").getD id)) _ _ s1
  rw [hb]; exact h1

section
variable {prog : Program} {w : World} {A : Around} {K : Frag} {C : Addr} {R : Result → Shared → Prop} {h : Heap} {g : Array GenState} {d : Drawn} {t : Nat} {os : OsState}
theorem codeC_make {rest : List Value} {fI : Addr} (X : K.In h) (hm : makesIn K C = true) (hi' : findIn K (.ref C) "__init__" = some (some (.ref fI))) (hf : typeIn K (.ref fI) = some (.type "function"))
    (hq : codeC (model prog w) (A.under (.builtin "type.__call__" ⟨.ref C :: rest, []⟩)) (.call (.ref fI) ⟨.ref (h.objs.size + 1) :: rest, []⟩) (InitBack (h.objs.size + 1) R) ⟨(h.push emptyDict).push (instObj C h.objs.size), g, d, t, os⟩) :
    codeC (model prog w) A (.call (.ref C) ⟨rest, []⟩) R ⟨h, g, d, t, os⟩ := by
  have Y' := makes_of (M := model prog w) X hm
  have hi := looks_findIn (M := model prog w) X hi'
  have hb := fun self => bind_fn (M := model prog w) X self hf
  obtain ⟨⟨oc, od, cd, sl, hC, e1, e2, e4⟩, made, base, self, top, call, typ⟩ := makes_of (M := model prog w) X hm
  refine codeC_tree rfl ?_
  show wpC _ _ (callAny (.ref C) _) _ _ _
  simp only [callAny]
  refine wpC_bind (.of (wpAny_load hC ?_))
  show wpC _ _ (callAny.viaDunder (.ref C) _) _ _ _
  unfold callAny.viaDunder
  refine wpC_bind (.of (call.at ?_))
  dsimp only
  rw [tc_bind]
  refine wpC_bind (wpC_pure (wpC_bind (wpC_pure ?_)))
  refine wpC_pure (a := Fin.again (.call (.builtin "type.__call__") ⟨.ref C :: rest, []⟩)) (And.intro rfl ?_)
  refine codeC_builtin_at (Code.quiet_builtin _ (by decide +kernel)) (by decide +kernel) entry_typeCall (check_slot tc_kind tc_split typ (tc_args _ _ _) ?_)
  unfold Builtin.«type.__call__»
  have hm : Looks (model prog w) h (mroOf (.ref C)) cd.mro := ((Looks.ld (part := none) hC).andThen .now).andThen .now
  dsimp only
  rw [if_neg (by simp)]
  refine wpC_bind (.of (hm.at ?_))
  rw [if_neg (by rw [e4]; decide)]
  refine wpC_bind (.of (made.at ?_))
  dsimp only
  refine wpC_bind (wpC_pure (wpC_bind (wpC_holding (.of (wpAny_call (new_K Y' hi (.inl rfl) ?_))))))
  dsimp only
  have k : ∀ b o, h.get? b = some o → ((h.push emptyDict).push (instObj C h.objs.size)).get? b = some o := fun b o e => Heap.get?_push_of_some _ (Heap.get?_push_of_some _ e)
  have hx : ((h.push emptyDict).push (instObj C h.objs.size)).get? (h.objs.size + 1) = some (instObj C h.objs.size) := by heap_get
  have t1 : Looks (model prog w) ((h.push emptyDict).push (instObj C h.objs.size)) (typeOf (.ref (h.objs.size + 1))) (.ref C) := (Looks.ld hx).andThen .now
  have s1 := self.keeps k
  have i1 := hi.keeps k
  have b1 := (hb (.ref (h.objs.size + 1))).keeps k
  have ii : Looks (model prog w) ((h.push emptyDict).push (instObj C h.objs.size)) (isInstance (.ref (h.objs.size + 1)) (.ref C)) true := t1.andThen s1
  refine wpC_bind (.of (ii.at ?_))
  rw [if_neg (by simp)]
  have sp : Looks (model prog w) ((h.push emptyDict).push (instObj C h.objs.size)) (specialOf (.ref (h.objs.size + 1)) "__init__") (some (.ref fI)) := t1.andThen i1
  refine wpC_bind (wpC_holding ?_)
  unfold callSpecial?
  refine wpC_bind (.of (sp.at ?_))
  dsimp only
  refine wpC_holding (wpC_bind (.of (b1.at ?_)))
  refine wpC_bind (wpC_call (codeC_mono hq fun r s' z => ?_))
  rcases r with e | (v | _ | _ | _) <;> first | exact z | exact z.elim | skip
  obtain ⟨rfl, z⟩ := z
  exact wpC_pure (wpC_pure z)
end
end Mine
end
section
open PySem PySem.W PyProof.Rows PySem.Calls
namespace Mine

section
variable {W : Wd} {k : Nat} {σ : Store} {A : Around} {φ : Fz} {δ : Addr → Addr} {s : Shared}
theorem AR.blank {φ : Fz} : ∀ names : List Str, AR φ [] names (names.map fun _ => none)
  | [] => trivial
  | x :: xs => ⟨rfl, AR.blank xs⟩
theorem St.allocIns (S : St W φ σ δ s) {x dx C : Addr} {h' : Heap} (hk : ∀ b o, s.heap.get? b = some o → h'.get? b = some o) (hx : s.heap.objs.size ≤ x) (hd : s.heap.objs.size ≤ dx) (hne : dx ≠ x)
    (ex : h'.get? x = some (instObj C dx)) (ed : h'.get? dx = some emptyDict) : St W φ (σ.put x (.ins C ((W.attrs C).map fun _ => none))) (fun b => if b = x then dx else δ b) { s with heap := h' } := by
  have G := S.grow (s' := { s with heap := h' }) hk rfl rfl
  have ne : ∀ b C' vs, σ b = some (.ins C' vs) → b ≠ x := fun b C' vs e q => by rw [q, S.fresh_σ hx] at e; cases e
  refine ⟨G.base, G.keep, fun b o e => ?_, fun b o e => ?_, fun b C' vs e => ?_, fun b c C1 v1 C2 v2 e1 e2 q => ?_, G.gens, G.os⟩
  · by_cases q : b = x
    · subst q
      rw [Store.put_self] at e
      cases e
      rw [if_pos rfl]
      exact ⟨ex, [], 0, ⟨ed, AR.blank _, fun e he => absurd he List.not_mem_nil, Nat.zero_le _, List.Pairwise.nil⟩⟩
    · rw [Store.put_ne q] at e
      rw [if_neg q]
      exact G.objs b o e
  · by_cases q : b = x
    · subst q; exact S.fresh_φ hx
    · rw [Store.put_ne q] at e; exact S.sep b o e
  · by_cases q : b = x
    · rw [if_pos q]
      exact ⟨S.fresh_φ hd, by rw [Store.put_ne hne]; exact S.fresh_σ hd⟩
    · rw [Store.put_ne q] at e
      rw [if_neg q, Store.put_ne (S.fresh_δ hx e)]
      exact S.sepd b C' vs e
  · try dsimp only at q
    by_cases qb : b = x
    · by_cases qc : c = x
      · rw [qb, qc]
      · rw [if_pos qb, if_neg qc] at q
        rw [Store.put_ne qc] at e2
        exact absurd q.symm (S.fresh_δ hd e2)
    · rw [Store.put_ne qb] at e1
      by_cases qc : c = x
      · rw [if_neg qb, if_pos qc] at q
        exact absurd q (S.fresh_δ hd e1)
      · rw [if_neg qb, if_neg qc] at q
        rw [Store.put_ne qc] at e2
        exact S.inj b c C1 v1 C2 v2 e1 e2 q

structure MkOK (W : Wd) (C f : Addr) : Prop where
  makes : makesIn W.K C = true
  init : findIn W.K (.ref C) "__init__" = some (some (.ref f))
  fn : typeIn W.K (.ref f) = some (.type "function")

theorem MCall.make {C f : Addr} {args : List MV} {Q : MV → Store → Prop} {blank : List (Option MV)} (ho : MkOK W C f) (hb : ((W.attrs C).map fun _ => none) = blank)
    (h : ∀ x, σ x = none → MCall W k f (.ref x :: args) (σ.put x (.ins C blank)) fun v σ' => v = .none ∧ Q (.ref x) σ') : MCall W (k + 1) C args σ Q := by
  intro A φ δ s vs hA S hv
  subst hb
  obtain ⟨hh, g, d, t, os⟩ := s
  have w1 : (Code.builtin "type.__call__" ⟨.ref C :: vs, []⟩).weight = 1 := by kernel_rfl
  have u1 : (Code.builtin "type.__call__" ⟨.ref C :: vs, []⟩).cUnits = 1 := by kernel_rfl
  have hA' : Ok k (A.under (.builtin "type.__call__" ⟨.ref C :: vs, []⟩)) := ⟨hA.h, by have := hA.d; show A.depth + _ + 3 * k + 100 < _; rw [w1]; omega, by have := hA.u; show A.units + _ + 40 * k < _; rw [u1]; omega, hA.fr⟩
  have hx : ((hh.push emptyDict).push (instObj C hh.objs.size)).get? (hh.objs.size + 1) = some (instObj C hh.objs.size) := by heap_get
  have hd : ((hh.push emptyDict).push (instObj C hh.objs.size)).get? hh.objs.size = some emptyDict := Heap.get?_push_of_some _ (Heap.get?_push_size _ rfl)
  have S' := S.allocIns (x := hh.objs.size + 1) (dx := hh.objs.size) (C := C) (fun b o e => Heap.get?_push_of_some _ (Heap.get?_push_of_some _ e)) (Nat.le_succ _) (Nat.le_refl _) (Nat.ne_of_lt (Nat.lt_succ_self _)) hx hd
  refine codeC_make (K := W.K) S.X ho.makes ho.init ho.fn (codeC_mono (h _ (S.fresh_σ (Nat.le_succ _)) _ φ _ _ (.ref (hh.objs.size + 1) :: vs) hA' S' (.cons (.ref _) hv)) ?_)
  rintro r s' ⟨v, rfl, mv, σ', φ', δ', k1, r1, S1, rfl, q⟩
  cases r1
  exact ⟨rfl, .ref (hh.objs.size + 1), rfl, .ref (hh.objs.size + 1), σ', φ', δ', k1, .ref _, S1, q⟩
end
end Mine
end
section
open PySem PySem.W PyProof.Rows PySem.Calls
namespace Mine
/-! bytearray: what the tables say -/
theorem ba_mro : mroOf (.type "bytearray") = pure [.type "bytearray", .type "object"] := by rw [mroOf_type]; kernel_rfl
theorem ba_lookup_new : typeLookup (.type "bytearray") "__new__" = pure (some (.builtin "bytearray.__new__")) := by rw [typeLookup_type, builtinLookup_eq_fast]; kernel_rfl
theorem ba_sub : isSubtype (.type "bytearray") (.type "bytearray") = pure true := by rw [isSubtype_type]; kernel_rfl
theorem ba_slot {name : Str} {id n : String} (hl : fastLookup "bytearray" name = some (some (.builtin id))) (hs : splitId id = some ("bytearray", n)) (hop : withoutEnding? id "#opaque" = none) (hdat : withoutEnding? id "#data" = none)
    (hk : (Manifest.find? "bytearray").bind (·.attrs.lookup n) = some .slot ∨ (Manifest.find? "bytearray").bind (·.attrs.lookup n) = some .method) (hq : plainId id = true) : Slot "bytearray" name id :=
  Slot.of (by rw [typeLookup_type, builtinLookup_eq_fast, hl]) hs hop hdat hk ba_sub hq
theorem ba_init : Slot "bytearray" "__init__" "bytearray.__init__" := ba_slot (n := "__init__") (by kernel_rfl) (by decide +kernel) (by decide +kernel) (by decide +kernel) (.inl (by decide +kernel)) (by decide +kernel)
theorem ba_extend : Slot "bytearray" "extend" "bytearray.extend" := ba_slot (n := "extend") (by kernel_rfl) (by decide +kernel) (by decide +kernel) (by decide +kernel) (.inr (by decide +kernel)) (by decide +kernel)
theorem ba_called : TypeCalled "bytearray" "bytearray.__new__" "bytearray.__init__" :=
  ⟨by decide +kernel, by decide +kernel, ⟨_, _, ba_mro⟩, madeBy_type ba_mro ba_lookup_new (by decide +kernel), by decide +kernel, ba_sub, ba_init⟩
theorem ba_typeCall : checkTypeCall "bytearray" ⟨[], []⟩ = pure () := by kernel_rfl
theorem ba_newCall : checkBuiltinCall "bytearray.__new__" ⟨[.type "bytearray"], []⟩ = pure () := by kernel_rfl
theorem ba_entry_new : entryFor table "bytearray.__new__" = some Builtin.«list.__new__» := entryFor_alias (id' := "list.__new__") (by kernel_rfl) (by first | rfl | decide +kernel) (by decide +kernel) (by kernel_rfl)
theorem ba_entry_init : entryFor table "bytearray.__init__" = some Builtin.«bytearray.__init__» := entryFor_of_tree (by kernel_rfl)
theorem ba_entry_extend : entryFor table "bytearray.extend" = some Builtin.«bytearray.extend» := entryFor_of_tree (by kernel_rfl)
theorem ba_plain : PlainAttrs "bytearray" :=
  ⟨⟨"bytearray.__getattribute__", by rw [typeLookup_type, builtinLookup_eq_fast]; kernel_rfl, by decide +kernel⟩, by rw [typeLookup_type, builtinLookup_eq_fast]; kernel_rfl⟩
theorem ba_type_extend : typeOf (.builtin "bytearray.extend") = pure (.type "method_descriptor") := by show builtinType _ = _; rw [builtinType_eq_fast]; kernel_rfl
theorem ba_release : typeLookup (.type "bytearray") "__release_buffer__" = pure (some (.builtin "bytearray.__release_buffer__")) := by rw [typeLookup_type, builtinLookup_eq_fast]; kernel_rfl
set_option maxRecDepth 1000000 in
theorem ba_owner : ("bytearray.__new__".splitOn ".__new__").headD "" = "bytearray" := by simp +decide [String.splitOn, String.splitOnAux]

section
variable {prog : Program} {w : World} {A : Around} {E : Value → Shared → Prop} {s : Shared}
theorem ba_code_new {Q₁ : Value → Shared → Prop} (h : Q₁ (.ref s.heap.objs.size) { s with heap := s.heap.push { cls := .type "bytearray", data := .bytearray #[] } }) :
    codeAny (model prog w) A (.call (.builtin "bytearray.__new__") ⟨[.type "bytearray"], []⟩) (wants Q₁ E) s := by
  refine codeAny_of_tree ?_
  show wpAny _ A.in1 (do checkBuiltinCall "bytearray.__new__" ⟨[.type "bytearray"], []⟩; again (.builtin "bytearray.__new__" ⟨[.type "bytearray"], []⟩)) _ _ s
  refine wpAny_bind (wpAny_of_eq ba_newCall (wpAny_pure ⟨plainId_quiet ba_called.plain _, codeAny_builtin_stack ba_entry_new rfl fun p st => ?_⟩))
  rw [Around.under_plainId ba_called.plain _]
  have hsub := ba_sub
  have hown := ba_owner
  obtain ⟨hp, g, d, tk, os⟩ := s
  simp only [hown]
  wp_walk
  exact h
theorem fine_not {id : String} {args : Args} (h : fine (.builtin id args) = true) : holders.contains id = false := by
  have h' : (!holders.contains id) = true := h
  simpa using h'
theorem no_decoder {id : String} (h : holders.contains id = false) : PySem.Builtin.Bytes.decodersThatHold.contains id = false := by
  rw [List.contains_eq_mem, decide_eq_false_iff_not] at h ⊢
  exact fun q => h (List.mem_append_right _ q)
theorem wpC_exported {v : Value} {Q : Bool → Shared → Prop} (h : Q false s) : wpC (model prog w) A (PySem.Builtin.Bytes.exported v) Q E s := by
  refine wpC_then (wpC_stack (Q := fun st s1 => s1 = s ∧ ∀ x ∈ st, fine x.1 = true) fun st hs => ⟨rfl, hs⟩) fun st s1 ⟨e, hs⟩ => ?_
  subst e
  refine wpC_pure ?_
  have e : ∀ b : Bool, b = false → Q b s1 := fun b q => q ▸ h
  refine e _ ?_
  rw [List.any_eq_false]
  rintro ⟨c, p⟩ hx
  have hf := hs _ hx
  dsimp only at hf ⊢
  cases c with
  | builtin id args =>
    have hn := fine_not hf
    have n : ∀ t, holders.contains t = true → id ≠ t := fun t ht q => by rw [q, ht] at hn; cases hn
    have h1 := n "bytearray.__contains__" (by decide +kernel)
    have h2 := n "bytearray.__mod__" (by decide +kernel)
    have h3 := n "bytearray.__rmod__" (by decide +kernel)
    have h4 := n "_struct.pack_into.held" (by decide +kernel)
    have h5 := n "bytearray.find.held" (by decide +kernel)
    delta PySem.Builtin.Bytes.exported.match_1
    dsimp only
    simp only [h1, h2, h3, h4, h5, dif_neg, not_false_eq_true]
    obtain ⟨pos, kw⟩ := args
    cases pos with
    | nil => exact Bool.false_ne_true
    | cons x r =>
      show ¬ (PySem.Builtin.Bytes.sameRef x v && PySem.Builtin.Bytes.decodersThatHold.contains id) = true
      rw [no_decoder hn, Bool.and_false]
      exact Bool.false_ne_true
  | _ => exact Bool.false_ne_true
end
end Mine
end
section
open PySem PySem.W PyProof.Rows PySem.Calls PySem.Builtin PySem.Builtin.Bytes
namespace Mine
section
variable {prog : Program} {w : World} {A : Around} {E : Value → Shared → Prop} {s : Shared} {R : Result → Shared → Prop}
noncomputable abbrev FinQ (M : Model) (A : Around) (R : Result → Shared → Prop) (fin : PySem.Fin) (s2 : Shared) : Prop := match fin with
  | .done f => R (.ok f) s2
  | .again c' => c'.quiet = true ∧ codeC M A c' R s2
theorem codeC_builtin {id : String} {args : Args} {b : Builtin} (hf : holders.contains id = false) (hb : entryFor table id = some b)
    (h : wpC (model prog w) (A.under (.builtin id args)) (b args) (FinQ (model prog w) A R) (fun e s2 => R (.error e) s2) s) : codeC (model prog w) A (.builtin id args) R s := by
  refine codeC_tree (fine_b hf) ?_
  show wpC _ _ (match entryFor table id with | some b => b args | none => unsupported ((withoutEnding? id "#data").getD id)) _ _ s
  rw [hb]; exact h

theorem ba_is {a : Addr} {b : Array UInt8} (h : s.heap.get? a = some (byaObj b)) : s.TypeIs (.ref a) "bytearray" := ⟨_, h, rfl⟩
theorem wpC_load {a : Addr} {o : Obj} {Q : Obj → Shared → Prop} {M : Model} (ho : s.heap.get? a = some o) (h : Q o s) : wpC M A (load a) Q E s := .of (wpAny_load ho h)
theorem wpC_exportsOf {a : Addr} {b : Array UInt8} {Q : Nat → Shared → Prop} (ho : s.heap.get? a = some (byaObj b)) (h : Q 0 s) : wpC (model prog w) A (exportsOf (.ref a)) Q E s :=
  wpC_bind (wpC_load ho (wpC_pure h))
theorem wpC_noExport {α : Type} {a : Addr} {b : Array UInt8} {x y : Sem α} {Q : α → Shared → Prop} (ho : s.heap.get? a = some (byaObj b)) (h : wpC (model prog w) A y Q E s) :
    wpC (model prog w) A (do if ← exported (.ref a) <||> (do return (← exportsOf (.ref a)) > 0) then x else y) Q E s := by
  refine wpC_bind ?_
  refine wpC_then (P := fun c s1 => c = false ∧ s1 = s) (wpC_exported ⟨rfl, rfl⟩) fun c s1 ⟨e1, e2⟩ => ?_
  subst e1; subst e2
  refine wpC_bind (wpC_exportsOf ho (wpC_pure ?_))
  exact h
theorem ba_update {a : Addr} {b b' : Array UInt8} {f : Array UInt8 → Array UInt8} {Q : Unit → Shared → Prop} (ho : s.heap.get? a = some (byaObj b)) (hf : f b = b') (hl : b'.size ≤ sizeLine)
    (h : ∀ h', h'.get? a = some (byaObj b') → Heap.SameBut a s.heap h' → Q () { s with heap := h' }) : wpAny (model prog w) A (write (.ref a) f) Q E s := by
  show wpAny _ _ (updateBytearray a f) _ _ _
  unfold updateBytearray
  refine wpAny_bind (wpAny_load ho ?_)
  dsimp only
  refine wpAny_bind (wpAny_update ho ?_)
  have e : (s.heap.update a (Obj.mapBytearray f)).get? a = some (byaObj b') := by rw [Heap.get?_update_self _ ho rfl, ← hf]; rfl
  refine wpAny_lookBehind e ?_ (h _ e (Heap.SameBut.update ..))
  show (if b'.size > sizeLine then _ else _) = _
  rw [if_neg (Nat.not_lt.mpr hl)]
theorem ba_own {a : Addr} {b : Array UInt8} {Q : Bool → Shared → Prop} (ho : s.heap.get? a = some (byaObj b)) (h : Q false s) : wpAny (model prog w) A (ownRelease (.ref a)) Q E s := by
  unfold ownRelease
  refine wpAny_bind ?_
  unfold slotIsOwn
  refine wpAny_bind (wpAny_specialOf (ba_is ho) ba_release ?_)
  dsimp only
  have e1 : ("bytearray.__release_buffer__".endsWith ("." ++ "__release_buffer__")) = true := by decide +kernel
  have e2 : ("bytearray.__release_buffer__".dropRight ("__release_buffer__".length + 1)) = "bytearray" := by decide +kernel
  rw [e1, e2]
  simp only [Bool.not_true, Bool.false_eq_true, if_false]
  refine wpAny_bind (wpAny_typeOf (ba_is ho) (wpAny_of_eq ba_sub ?_))
  exact wpAny_pure h
theorem ba_initC {A' : Around} {a : Addr} {b : Array UInt8} (ho : s.heap.get? a = some (byaObj b))
    (h : ∀ h', h'.get? a = some (byaObj #[]) → Heap.SameBut a s.heap h' → R (.ok (.ret .none)) { s with heap := h' }) :
    wpC (model prog w) A' (Builtin.«bytearray.__init__» ⟨[.ref a], []⟩) (FinQ (model prog w) A R) (fun e s2 => R (.error e) s2) s := by
  unfold Builtin.«bytearray.__init__»
  dsimp only
  refine wpC_bind (.of (ba_own ho ?_))
  rw [if_neg (by simp)]
  have e : Bytes.bindOptional "bytearray.__init__" "bytearray" ["source", "encoding", "errors"] [] [] = pure [none, none, none] := rfl
  rw [e]
  refine wpC_bind (wpC_pure ?_)
  dsimp only
  have e2 : ∀ x, checkCodecArg "bytearray.__init__" "bytearray" x none = pure () := fun x => rfl
  rw [e2, e2]
  refine wpC_bind (wpC_pure (wpC_bind (wpC_pure ?_)))
  refine wpC_noExport ho ?_
  refine wpC_bind (.of (ba_update ho rfl (by simp) fun h' e SB => ?_))
  refine wpC_bind (wpC_pure ?_)
  exact wpC_pure (h h' e SB)
theorem ba_init_args (a : Value) : argsOk "bytearray.__init__" ⟨[a], []⟩ := by unfold argsOk; kernel_rfl
theorem ba_init_call {a : Addr} {b : Array UInt8} (ho : s.heap.get? a = some (byaObj b))
    (h : ∀ h', h'.get? a = some (byaObj #[]) → Heap.SameBut a s.heap h' → R (.ok (.ret .none)) { s with heap := h' }) : codeC (model prog w) A (.call (.builtin "bytearray.__init__") ⟨[.ref a], []⟩) R s :=
  codeC_builtin_at (Code.quiet_builtin _ (by decide +kernel)) (by decide +kernel) ba_entry_init (ba_init.check _ _ _ _ _ _ _ _ (ba_is ho) (ba_init_args _) (ba_initC ho h))
theorem ba_newC (h : ∀ h', h'.get? s.heap.objs.size = some (byaObj #[]) → (∀ b o, s.heap.get? b = some o → h'.get? b = some o) → R (.ok (.ret (.ref s.heap.objs.size))) { s with heap := h' }) :
    codeC (model prog w) A (.call (.type "bytearray") ⟨[], []⟩) R s := by
  obtain ⟨c, tl, hmro⟩ := ba_called.mro
  have hmade := ba_called.made
  have hsub := ba_called.sub
  refine codeC_tree rfl ?_
  show wpC _ _ (callAny (.type "bytearray") _) _ _ _
  refine wpC_pure (a := Fin.again (.builtin "type.__call__" ⟨[.type "bytearray"], []⟩)) ⟨Code.quiet_builtin _ (by decide +kernel), codeC_builtin (by decide +kernel) entry_typeCall ?_⟩
  unfold Builtin.«type.__call__»
  dsimp only
  rw [if_neg (by rw [ba_called.notType]; simp), if_neg (by rw [ba_called.canCreate]; simp), ba_typeCall]
  refine wpC_bind (wpC_pure ?_)
  rw [hmro]
  refine wpC_bind (wpC_pure ?_)
  rw [if_neg (by simp), hmade]
  refine wpC_bind (wpC_pure ?_)
  dsimp only
  refine wpC_bind (wpC_pure (wpC_bind (wpC_holding (.of (wpAny_call (codeAny_mono (ba_code_new (Q₁ := fun v s1 => v = .ref s.heap.objs.size ∧ s1 = { s with heap := s.heap.push { cls := .type "bytearray", data := .bytearray #[] } }) (E := fun _ _ => False) ⟨rfl, rfl⟩) ?_))))))
  rintro (e | (v | _ | _ | _)) s1 z <;> first | exact z.elim | skip
  obtain ⟨rfl, rfl⟩ := z
  dsimp only
  have ho : (s.heap.push { cls := .type "bytearray", data := .bytearray #[] }).get? s.heap.objs.size = some (byaObj #[]) := Heap.get?_push_size _ rfl
  have hT : Shared.TypeIs { s with heap := s.heap.push { cls := .type "bytearray", data := .bytearray #[] } } (.ref s.heap.objs.size) "bytearray" := ⟨_, ho, rfl⟩
  refine wpC_bind (.of (wpAny_bind (wpAny_typeOf hT (wpAny_of_eq hsub ?_))))
  rw [if_neg (by simp)]
  refine wpC_bind (wpC_holding ?_)
  unfold callSpecial?
  refine wpC_bind (.of (wpAny_specialOf hT ba_init.lookup ?_))
  dsimp only
  refine wpC_holding (wpC_bind (.of (wpAny_of_eq (ba_init.bind _) ?_)))
  refine wpC_bind (wpC_call (ba_init_call (s := { s with heap := s.heap.push { cls := .type "bytearray", data := .bytearray #[] } }) ho fun h' e SB => ?_))
  refine wpC_pure ?_
  exact wpC_pure (h h' e fun b o q => SB.extBut b o (Nat.ne_of_lt (Heap.lt_size q)) (Heap.get?_push_of_some _ q))
end
end Mine
end
section
open PySem PySem.W PyProof.Rows PySem.Calls PySem.Builtin PySem.Builtin.Bytes
namespace Mine
section
variable {prog : Program} {w : World} {A : Around} {E : Value → Shared → Prop} {s : Shared} {R : Result → Shared → Prop}
theorem take_eq {id : String} {b : Array UInt8} {t : Tok} : takeBuffer? id (.bytes b t) 0 = pure (some (b, none)) := by
  unfold takeBuffer?
  have e : ((0 : Int) == fullReadOnly) = false := by decide
  rw [KBy.special_eq KBy.look_buffer, KBy.own_buffer, e, KBy.buffer_eq]
  kernel_rfl
theorem takeQ_eq {id : String} {b : Array UInt8} {t : Tok} : takeBufferQuiet? id (.bytes b t) 0 = pure (some (b, none)) := by
  unfold takeBufferQuiet?
  rw [take_eq]
  rfl
theorem ba_payload {a : Addr} {b : Array UInt8} {Q : Array UInt8 → Shared → Prop} (ho : s.heap.get? a = some (byaObj b)) (h : Q b s) : wpAny (model prog w) A (payload (.ref a)) Q E s :=
  wpAny_bind (wpAny_bind (wpAny_load ho (wpAny_pure (wpAny_pure h))))
theorem ba_extend_args (a x : Value) : argsOk "bytearray.extend" ⟨[a, x], []⟩ := by unfold argsOk; kernel_rfl
theorem ba_extendC {A' : Around} {a : Addr} {b more : Array UInt8} {t : Tok} (ho : s.heap.get? a = some (byaObj b)) (hl : (b ++ more).size ≤ sizeLine)
    (h : ∀ h', h'.get? a = some (byaObj (b ++ more)) → Heap.SameBut a s.heap h' → R (.ok (.ret .none)) { s with heap := h' }) :
    wpC (model prog w) A' (Builtin.«bytearray.extend» ⟨[.ref a, .bytes more t], []⟩) (FinQ (model prog w) A R) (fun e s2 => R (.error e) s2) s := by
  unfold Builtin.«bytearray.extend»
  refine wpC_bind (m := selfAndOne "bytearray.extend" _) (.of (wpAny_of_eq (a := (.ref a, .bytes more t)) rfl ?_))
  dsimp only
  refine wpC_bind (.of (wpAny_of_eq (KBy.special_eq KBy.look_buffer) ?_))
  rw [if_pos (show (some (Value.builtin "bytes.__buffer__")).isSome = true from rfl)]
  refine wpC_bind (.of (wpAny_rule (wpC_bind (.of (ba_payload ho ?_)))))
  refine wpC_bind (.of (wpAny_of_eq takeQ_eq ?_))
  dsimp only
  rw [if_pos (show (none : Option Value).isNone = true from rfl)]
  show wpC _ _ (do
    if !more.isEmpty then checkResize (.ref a)
    write (.ref a) (· ++ more)
    ret .none) _ _ _
  have fin : wpC (model prog w) A' (do write (.ref a) (· ++ more); ret .none) (FinQ (model prog w) A R) (fun e s2 => R (.error e) s2) s :=
    wpC_bind (.of (ba_update ho rfl hl fun h' e SB => wpC_pure (h h' e SB)))
  cases more.isEmpty
  · show wpC _ _ (checkResize (.ref a) >>= fun _ => _) _ _ _
    refine wpC_bind ?_
    unfold checkResize
    exact wpC_noExport ho (wpC_pure fin)
  · exact fin
theorem ba_extend_call {a : Addr} {b more : Array UInt8} {t : Tok} (ho : s.heap.get? a = some (byaObj b)) (hl : (b ++ more).size ≤ sizeLine)
    (h : ∀ h', h'.get? a = some (byaObj (b ++ more)) → Heap.SameBut a s.heap h' → R (.ok (.ret .none)) { s with heap := h' }) : codeC (model prog w) A (.call (.builtin "bytearray.extend") ⟨[.ref a, .bytes more t], []⟩) R s :=
  codeC_builtin_at (Code.quiet_builtin _ (by decide +kernel)) (by decide +kernel) ba_entry_extend (ba_extend.check _ _ _ _ _ _ _ _ (ba_is ho) (ba_extend_args _ _) (ba_extendC ho hl h))
end
end Mine
end
section
open PySem PySem.W PyProof.Rows PySem.Calls PySem.Builtin PySem.Builtin.Bytes
namespace Mine
section
variable {prog : Program} {w : World} {A : Around} {E : Value → Shared → Prop} {s : Shared} {R : Result → Shared → Prop}
theorem bs_ba : typeLookup (.type "bytearray") "__bytes__" = pure none := by rw [typeLookup_type, builtinLookup_eq_fast]; kernel_rfl
theorem bs_ba_index : typeLookup (.type "bytearray") "__index__" = pure none := by rw [typeLookup_type, builtinLookup_eq_fast]; kernel_rfl
theorem bs_ba_buffer : typeLookup (.type "bytearray") "__buffer__" = pure (some (.builtin "bytearray.__buffer__")) := by rw [typeLookup_type, builtinLookup_eq_fast]; kernel_rfl
theorem bs_call {x : Value} {Q : Value → Shared → Prop} (h : codeAny (model prog w) A.in1 (.call (.builtin "bytes.__new__") ⟨[.type "bytes", x], []⟩) (wants (fun obj s1 => s1.TypeIs obj "bytes" ∧ Q obj s1) E) s) : wpAny (model prog w) A (call (.type "bytes") [x]) Q E s :=
  callType_codes (Q₁ := fun obj s₁ => s₁.TypeIs obj "bytes" ∧ Q obj s₁) PySem.F.bm_called (PySem.F.bm_typeCall _) PySem.F.entry_object_init h fun obj s₁ h₁ =>
    ⟨h₁.1, PySem.F.args_object_init_2 obj _, object_init_meets PySem.F.bm_called.init.lookup PySem.F.bm_called.made (by decide) prog w A.in1 _ s₁ ⟨h₁.1, rfl, h₁.2⟩⟩
theorem ba_own_buffer {a : Addr} {b : Array UInt8} {Q : Bool → Shared → Prop} (ho : s.heap.get? a = some (byaObj b)) (h : Q true s) : wpAny (model prog w) A (slotIsOwn (.ref a) "__buffer__") Q E s := by
  unfold slotIsOwn
  refine wpAny_bind (wpAny_specialOf (ba_is ho) bs_ba_buffer ?_)
  try dsimp only
  have e1 : ("bytearray.__buffer__".endsWith ("." ++ "__buffer__")) = true := by decide +kernel
  have e2 : ("bytearray.__buffer__".dropRight ("__buffer__".length + 1)) = "bytearray" := by decide +kernel
  rw [e1, e2]
  simp only [Bool.not_true, Bool.false_eq_true, if_false]
  exact wpAny_bind (wpAny_typeOf (ba_is ho) (wpAny_of_eq ba_sub h))
theorem bs_new_ba {a : Addr} {b : Array UInt8} (ho : s.heap.get? a = some (byaObj b)) (hl : b.size ≤ sizeLine) (h : ∀ t' k, R (.ok (.ret (.bytes b t'))) { s with toks := k }) : codeAny (model prog w) A (.call (.builtin "bytes.__new__") ⟨[.type "bytes", .ref a], []⟩) R s := by
  refine codeAny_of_tree ?_
  show wpAny _ A.in1 (do checkBuiltinCall "bytes.__new__" ⟨[.type "bytes", .ref a], []⟩; again (.builtin "bytes.__new__" ⟨[.type "bytes", .ref a], []⟩)) _ _ s
  refine wpAny_bind (wpAny_of_eq (PySem.F.bm_newCall _) (wpAny_pure ⟨plainId_quiet PySem.F.bm_plain _, codeAny_builtin PySem.F.bm_entry ?_⟩))
  rw [Around.under_plainId PySem.F.bm_plain _]
  unfold Builtin.«bytes.__new__»
  refine wpAny_bind (wpAny_of_eq (a := true) rfl ?_)
  rw [if_neg (by simp)]
  refine wpAny_bind (wpAny_of_eq PySem.F.bm_sub ?_)
  rw [if_neg (by simp)]
  refine wpAny_bind (wpAny_of_eq (PySem.F.bm_bind _) ?_)
  refine wpAny_bind (wpAny_of_eq (a := ()) rfl ?_)
  refine wpAny_bind (wpAny_of_eq (a := ()) rfl ?_)
  try dsimp only
  rw [if_neg (by simp)]
  refine wpAny_bind (wpAny_specialOf (ba_is ho) bs_ba ?_)
  try dsimp only
  refine wpAny_bind (wpAny_bind (wpAny_bind (wpAny_load ho (wpAny_pure (wpAny_pure ?_)))))
  rw [if_neg (by simp)]
  refine wpAny_bind (wpAny_specialOf (ba_is ho) bs_ba_index ?_)
  rw [if_pos (by rfl)]
  show wpAny _ _ (buffer? "bytes.__new__" (.ref a) true >>= _) _ _ _
  refine wpAny_bind ?_
  unfold buffer?
  refine wpAny_bind (wpAny_specialOf (ba_is ho) bs_ba_buffer ?_)
  try dsimp only
  refine wpAny_bind (ba_own_buffer ho ?_)
  rw [if_neg (by simp)]
  refine wpAny_bind (wpAny_specialOf (ba_is ho) bs_ba_buffer ?_)
  try dsimp only
  refine wpAny_bind (ba_own ho ?_)
  rw [if_neg (by simp)]
  refine wpAny_bind (ba_payload ho (wpAny_pure ?_))
  try dsimp only
  refine wpAny_bind (wpAny_rule (wpAny_bind (wpAny_mkBytes (wpAny_bind (wpAny_pure ?_)) hl)))
  exact wpAny_pure (h _ _)
end
end Mine
end
section
open PySem PySem.W PyProof.Rows PySem.Calls PySem.Builtin PySem.Builtin.Bytes PySem.W.KBy PySem.W.KBc
namespace Mine
section
variable {prog : Program} {w : World} {A : Around} {E : Value → Shared → Prop} {s : Shared} {R : Result → Shared → Prop}
end
end Mine
end
section
open PySem PySem.W PyProof.Rows PySem.Calls
namespace Mine
section
variable {W : Wd} {k : Nat} {env : Env} {ns : List Str} {vals : List (Option MV)} {σ : Store} {A : Around} {φ : Fz} {δ : Addr → Addr} {s : Shared} {Q : MV → Store → Prop} {QL : List MV → Store → Prop} {QU : Unit → Store → Prop}

theorem mx_tcall0 {x : Str} {id : String} {xp p : Pos} (hf : BtOK W x (.type id)) (hk : env.kindOf x = some .globalImplicit) (h : MN RV W k (fun ws => call (.type id) ws) [] env ns vals σ Q)
    (hc : eval (.Call (.Name x xp) [] [] p) env = (do callWith p (← eval (.Name x xp) env) [] (backTo p (starEach [] env)) (backToKw p (keywordEach [] env))) := by rfl) : MX W k (eval (.Call (.Name x xp) [] [] p) env) env ns vals σ Q := fun A φ δ s hA F =>
  wc_call (.of (F.builtin hk hf.ns hf.boot hf.name hf.plain (wc_withB0 (fun _ => looks_typ) (h A φ δ s [] hA F .nil)))) hc
theorem ty_bytearray (q : ∀ a, σ a = none → Q (.ref a) (σ.put a (.bya []))) : MN RV W k (fun ws => call (.type "bytearray") ws) [] env ns vals σ Q := fun A φ δ s ws hA F r => by
  cases r
  refine wpC_call (ba_newC fun h' e hk => ?_)
  exact ⟨.ref s.heap.objs.size, _, φ, δ, Kp.refl φ, .ref _, F.alloc (o := .bya []) (tk := s.toks) hk (Nat.le_refl _) (fun _ _ e => by cases e) e, q _ (F.st.fresh_σ (Nat.le_refl _))⟩
theorem OR.bya {h : Heap} {d a : Addr} {b : List UInt8} (x : OR W φ h d a (.bya b)) : h.get? a = some (byaObj b.toArray) := x
theorem big_bytes {b : List UInt8} (h : b.length ≤ 1000000) : b.toArray.size ≤ sizeLine := by rw [List.size_toArray]; exact big_size h
theorem me_extend {a : Addr} {b : List UInt8} {p : Pos} {e : Expr} (ha : σ a = some (.bya b))
    (h : MX W k (eval e env) env ns vals σ fun v σ1 => ∃ b1 more, v = .bytes more ∧ σ1 a = some (.bya b1) ∧ (b1 ++ more).length ≤ 1000000 ∧ Q .none (σ1.put a (.bya (b1 ++ more))))
    (he : starEach [e] env = [(false, eval e env)] := by rfl) : MMeth W k (.ref a) "extend" p [e] env ns vals σ Q := fun A φ δ s w pl hA F r => by
  cases r
  have eo := (F.st.objs a _ ha).bya
  refine .of (getMethod_builtin (T := "bytearray") (ba_is eo) ba_plain ba_extend ba_type_extend (fun c e => by cases e; exact ⟨_, eo, rfl⟩) (wc_withB (fun _ => looks_blt) ?_ (by rw [he]; rfl) rfl))
  rw [he]
  refine wc_spliced (h.seq hA F fun v σ1 φ1 δ1 u s1 k1 r1 F1 ⟨b1, more, hv, ha1, hl, q⟩ => .of (Calls.spliced_nil ?_))
  subst hv
  cases r1
  have eo1 := (F1.st.objs a _ ha1).bya
  have e2 : b1.toArray ++ more.toArray = (b1 ++ more).toArray := by simp
  refine wpC_call (ba_extend_call eo1 (by rw [e2]; exact big_bytes hl) fun h' e SB => ?_)
  exact ⟨.none, _, φ1, δ1, k1, .none, F1.update (o := .bya (b1 ++ more)) ha1 (fun c o hb e => SB.extBut c o hb e) (fun _ _ e => by cases e) (by rw [e2] at e; exact e), q⟩
theorem ty_bytes_bya {a : Addr} {b : List UInt8} (ha : σ a = some (.bya b)) (hl : b.length ≤ 1000000) (q : Q (.bytes b) σ) : MN RV W k (fun ws => call (.type "bytes") ws) [.ref a] env ns vals σ Q := fun A φ δ s ws hA F r => by
  show wpC _ _ (call (.type "bytes") ws) _ _ _
  obtain ⟨w, rfl, q1⟩ := r.one; cases q1
  exact wpC.of (bs_call (bs_new_ba (F.st.objs a _ ha).bya (big_bytes hl) fun t n => ⟨PySem.W.typeIs_bytes _ _ _, PE.here (RV.bytes _ _) (F.toks _) q⟩))
end
end Mine
end
section
open PySem PySem.W PyProof.Rows PySem.Calls
namespace Mine
section
variable {W : Wd} {k : Nat} {env : Env} {ns : List Str} {vals : List (Option MV)} {σ : Store} {A : Around} {φ : Fz} {δ : Addr → Addr} {s : Shared} {Q : MV → Store → Prop} {QL : List MV → Store → Prop} {QU : Unit → Store → Prop}
theorem Fm.pylong (hA : OkE k A env) (F : Fm W φ σ δ env ns vals s) (hg : env.scope.isGenerator = false) (hc : env.scope.isCoroutine = false) : PySem.PylongRoom W.M A s := by
  obtain ⟨e, l, hl, e1, e2, e3, e4⟩ := hA.top
  exact PySem.PylongRoom.of (W.T.nolimit.keeps F.base) (by have := hA.d; show A.depth + 100 < _; omega) (PySem.SeerAt.of (W.seer.keeps F.base) W.given hl e1 e2 e3 e4)
theorem op_floordiv {a b : Int} (hb : 0 < b) (hg : env.scope.isGenerator = false) (hc : env.scope.isCoroutine = false) (q : Q (.int (a / b)) σ) : M2 RV W k (binaryOp .FloorDiv) (.int a) (.int b) env ns vals σ Q := fun A φ δ s w u hA F r r' => by
  cases r; cases r'
  refine wpC.of (PyProof.Rows.floordiv_int (by omega) ?_ (.inr (F.pylong hA hg hc)))
  rw [Int.fdiv_eq_ediv_of_nonneg _ (by omega)]
  exact PE.here (.int _ _) (F.toks _) q
theorem RVs.set' {φ : Fz} {x : MV} {v : Value} (h : RV φ x v) (n : Nat) {xs : List MV} {vs : Array Value} (r : RVs φ xs vs.toList) : RVs φ (xs.set n x) (vs.setIfInBounds n v).toList := by
  rw [Array.toList_setIfInBounds]; exact r.set h n
theorem set_list_raw {prog : Program} {w : World} {E : Value → Shared → Prop} {l : Addr} {vs : Array Value} {n : Nat} {j : Int} {t : Tok} {v : Value} {Q : Unit → Shared → Prop} (eo : s.heap.get? l = some (lstObj vs n)) (h0 : 0 ≤ j) (hn : j < vs.size) (hz : vs.size ≤ 1000000)
    (h : ∀ h' n', h'.get? l = some (lstObj (vs.setIfInBounds j.toNat v) n') → Heap.SameBut l s.heap h' → Q () { s with heap := h' }) : wpAny (model prog w) A (setItem (.ref l) (.int j t) v) Q E s := by
  have hl : s.heap.IsList l vs := ⟨_, eo, rfl, n, rfl⟩
  have hfit : j < 2 ^ 63 := by omega
  unfold setItem
  refine wpAny_holding (wpAny_bind (wpAny_sequenceKey hl.typeIs (by decide) ?_))
  refine wpAny_bind (wpAny_callSpecial?_slot (name := Str.ofString "__setitem__") hl.typeIs slot_list_setitem
    (wpAny_call_entry slot_list_setitem hl.typeIs entry_list_setitem ?_ (args_list_setitem _ _ _)))
  show wpAny _ _ (Builtin.List.listSubscript? (.int j t) >>= _) _ _ s
  refine wpAny_bind (wpAny_listSubscript_int (fitsIndex_of h0 hfit) ?_)
  clear hfit
  obtain ⟨j, rfl⟩ := Int.eq_ofNat_of_zero_le h0
  have hn' : j < vs.size := by omega
  have hx' : vs[j]? = some vs[j] := Array.getElem?_eq_getElem hn'
  show wpAny _ _ ((seqItemAt l j >>= fun r => pure (r.map (j, ·))) >>= _) _ _ s
  refine wpAny_bind (wpAny_bind (wpAny_seqItemAt eo rfl (wpAny_pure ?_)))
  rw [hx']
  show wpAny _ _ (setSeqItemAt l j v >>= _) _ _ s
  have q := PySem.IsL.update eo (fun xs => xs.setIfInBounds j v)
  refine wpAny_bind (wpAny_setSeqItemAt eo rfl ?_)
  first
    | exact wpAny_bind (wpAny_pure (wpAny_pure ⟨.none, rfl, wpAny_pure (h _ _ q (Heap.SameBut.update ..))⟩))
    | exact wpAny_pure ⟨.none, rfl, wpAny_pure (h _ _ q (Heap.SameBut.update ..))⟩
theorem op_setitem {a : Addr} {l : List MV} {i : Int} {v : MV} (ha : σ a = some (.lst l)) (h0 : 0 ≤ i) (h1 : i < l.length) (hl : l.length ≤ 1000000) (q : QU () (σ.put a (.lst (l.set i.toNat v)))) : M3 RU W k setItem (.ref a) (.int i) v env ns vals σ QU := fun A φ δ s w u x hA F r r' r3 => by
  cases r; cases r'
  obtain ⟨vs, n, eo, L, rv⟩ := (F.st.objs a _ ha).list
  have hlen := rv.length
  have hsz : vs.size = l.length := by simpa using hlen.symm
  refine wpC.of (set_list_raw eo h0 (by omega) (by omega) fun h' n' e SB => ?_)
  exact ⟨(), _, φ, δ, Kp.refl φ, trivial, F.update (o := .lst (l.set i.toNat v)) ha (fun b o hb e => SB.extBut b o hb e) (fun _ _ e => by cases e) ⟨_, n', e, rv.set' r3 _⟩, q⟩
theorem op_eq_nil {a b : Addr} {l : List MV} (ha : σ a = some (.lst l)) (hb : σ b = some (.lst [])) (q : Q (.bool l.isEmpty) σ) : M2 RV W k (compareOp .Eq) (.ref a) (.ref b) env ns vals σ Q := fun A φ δ s w u hA F r r' => by
  cases r; cases r'
  obtain ⟨vs, n, eo, L, rv⟩ := (F.st.objs a _ ha).list
  obtain ⟨vs2, n2, eo2, L2, rv2⟩ := (F.st.objs b _ hb).list
  have hu : A.units < cLine := by have := hA.u; omega
  have e2 : vs2.size = 0 := by simpa using rv2.length.symm
  have e1 : vs.size = l.length := by simpa using rv.length.symm
  cases l with
  | nil =>
    refine wpC.of (PySem.SeqAt.eq_listAt (e := fun _ => true) L L2 (by rw [e1, e2]; rfl) hu (fun j h1 _ => absurd h1 (by rw [e1]; exact Nat.not_lt_zero _)) ?_)
    rw [e1]
    exact PE.here (RV.bool _) F q
  | cons x l => exact wpC.of (PySem.SeqAt.eq_list_lengthsAt L L2 (by rw [e1, e2]; rfl) hu (PE.here (RV.bool _) F q))
theorem op_ne_nil {a b : Addr} {l : List MV} (ha : σ a = some (.lst l)) (hb : σ b = some (.lst [])) (q : Q (.bool (!l.isEmpty)) σ) : M2 RV W k (compareOp .NotEq) (.ref a) (.ref b) env ns vals σ Q := fun A φ δ s w u hA F r r' => by
  cases r; cases r'
  obtain ⟨vs, n, eo, L, rv⟩ := (F.st.objs a _ ha).list
  obtain ⟨vs2, n2, eo2, L2, rv2⟩ := (F.st.objs b _ hb).list
  have hu : A.units < cLine := by have := hA.u; omega
  have e2 : vs2.size = 0 := by simpa using rv2.length.symm
  have e1 : vs.size = l.length := by simpa using rv.length.symm
  cases l with
  | nil =>
    refine wpC.of (PySem.SeqAt.RcNeAt.lists (e := fun _ => false) L L2 (by rw [e1, e2]; rfl) hu (fun j h1 _ => absurd h1 (by rw [e1]; exact Nat.not_lt_zero _)) _ _ _ _ ?_)
    rw [e1]
    exact PE.here (RV.bool _) F q
  | cons x l => exact wpC.of (PySem.SeqAt.RcNeAt.lists_lengths L L2 (by rw [e1, e2]; rfl) hu _ _ _ _ (PE.here (RV.bool _) F q))
theorem op_add_list {a b : Addr} {l m : List MV} (ha : σ a = some (.lst l)) (hb : σ b = some (.lst m)) (hl : l.length + m.length ≤ 1000000) (q : ∀ x, σ x = none → Q (.ref x) (σ.put x (.lst (l ++ m)))) : M2 RV W k (binaryOp .Add) (.ref a) (.ref b) env ns vals σ Q := fun A φ δ s w u hA F r r' => by
  cases r; cases r'
  obtain ⟨vs, n, eo, L, rv⟩ := (F.st.objs a _ ha).list
  obtain ⟨vs2, n2, eo2, L2, rv2⟩ := (F.st.objs b _ hb).list
  have e2 : vs2.size = m.length := by simpa using rv2.length.symm
  have e1 : vs.size = l.length := by simpa using rv.length.symm
  refine wpC.of (PySem.P.add_list eo eo2 ?_ (by rw [e1, e2]; exact big_size hl))
  exact ⟨_, _, φ, δ, Kp.refl φ, .ref _, F.alloc (o := .lst (l ++ m)) (tk := s.toks) (push_keeps _ _) (Nat.le_refl _) (fun _ _ e => by cases e) ⟨_, 0, Heap.get?_push_size _ rfl, by simpa using rv.append rv2⟩, q _ (F.st.fresh_σ (Nat.le_refl _))⟩
theorem ty_list_list {a : Addr} {l : List MV} (ha : σ a = some (.lst l)) (hl : l.length ≤ 1000000) (q : ∀ x, σ x = none → Q (.ref x) (σ.put x (.lst l))) : MN RV W k (fun ws => call (.type "list") ws) [.ref a] env ns vals σ Q := fun A φ δ s ws hA F r => by
  show wpC _ _ (call (.type "list") ws) _ _ _
  obtain ⟨w, rfl, q1⟩ := r.one; cases q1
  obtain ⟨vs, n, eo, L, rv⟩ := (F.st.objs a _ ha).list
  have e1 : vs.size = l.length := by simpa using rv.length.symm
  refine wpC.of (call_list_seq (hsz := by rw [e1]; exact big_size hl) a (.inl rfl) eo rfl rfl fun h' c' hk hD => ?_)
  exact ⟨_, _, φ, δ, Kp.refl φ, .ref _, F.alloc (o := .lst l) (tk := s.toks) hk (Nat.le_refl _) (fun _ _ e => by cases e) ⟨_, c', hD, rv⟩, q _ (F.st.fresh_σ (Nat.le_refl _))⟩
end
end Mine
end
section
open PySem PySem.W PyProof.Rows PySem.Calls
namespace Mine
theorem wpC_quiet {α : Type} {M : Model} {A : Around} {s : Shared} {E : Value → Shared → Prop} {m : Sem α} {k : Value → Sem Unit} {Q : α → Shared → Prop} (h : wpC M A m Q NoE s) : wpC M A (m.onRaise k) Q E s := wpC_onRaise (wpC_mono h (fun _ _ q => q) fun _ _ e => e.elim)
section
variable {W : Wd} {k : Nat} {env : Env} {ns : List Str} {vals : List (Option MV)} {σ : Store} {A : Around} {φ : Fz} {δ : Addr → Addr} {s : Shared} {QS : MFlow → List (Option MV) → Store → Prop}

structure Off (φ : Fz) (σ : Store) (δ : Addr → Addr) (env : Env) (x : Addr) : Prop where
  f : φ x = none
  s : σ x = none
  d : ∀ a C vs, σ a = some (.ins C vs) → δ a ≠ x
  l : x ≠ env.locals
  c : ∀ p ∈ env.cells, p.2 ≠ x
theorem Fm.offFresh (F : Fm W φ σ δ env ns vals s) {x : Addr} (h : s.heap.objs.size ≤ x) : Off φ σ δ env x := ⟨F.st.fresh_φ h, F.st.fresh_σ h, fun a C vs e => F.st.fresh_δ h e, fun q => F.fresh_L h q.symm, F.cells_fresh h⟩
theorem Fm.change (F : Fm W φ σ δ env ns vals s) {x : Addr} (o : Off φ σ δ env x) {h' : Heap} {tk : Nat} (hk : ∀ b o, b ≠ x → s.heap.get? b = some o → h'.get? b = some o) : Fm W φ σ δ env ns vals { s with heap := h', toks := tk } := by
  obtain ⟨m, N, V⟩ := F.vars
  refine ⟨F.st.keep' (s' := { s with heap := h', toks := tk }) o.f o.s o.d hk rfl rfl, F.ok, F.Lφ, F.Lσ, F.Lδ, F.cφ, fun p hp => (let ⟨ov, oo, a, b⟩ := F.cat p hp; ⟨ov, oo, hk _ _ (o.c p hp) a, b⟩), m, N.at fun oo e => hk _ oo (Ne.symm o.l) e, V.grow (fun _ _ _ e => e) fun p hp oo e => hk _ _ (o.c p hp) e⟩
theorem Fm.thaw (F : Fm W φ σ δ env ns vals s) {x : Addr} {o : Obj} (ho : φ x = some o) (hn : ∀ vs n, o ≠ tupObj vs n) (hb : W.g₀.get? x = none) (hl : x ≠ env.locals) (hc : ∀ p ∈ env.cells, p.2 ≠ x) :
    Fm W (φ.drop [x]) σ δ env ns vals s ∧ Off (φ.drop [x]) σ δ env x ∧ s.heap.get? x = some o ∧ ∀ a vs n, φ a = some (tupObj vs n) → (φ.drop [x]) a = some (tupObj vs n) := by
  have dx : ∀ a, a ≠ x → (φ.drop [x]) a = φ a := fun a h => by unfold Fz.drop; rw [if_neg (by simpa using h)]
  have ds : (φ.drop [x]) x = none := by unfold Fz.drop; rw [if_pos (by simp)]
  have dn : ∀ a, φ a = none → (φ.drop [x]) a = none := fun a h => by unfold Fz.drop; split <;> first | rfl | exact h
  have tup : ∀ a vs n, φ a = some (tupObj vs n) → (φ.drop [x]) a = some (tupObj vs n) := fun a vs n e => by
    rw [dx a fun q => by subst q; rw [ho] at e; exact hn vs n (Option.some.inj e)]; exact e
  obtain ⟨m, N, V⟩ := F.vars
  refine ⟨⟨⟨fun a oo e => ?_, fun a oo e => ?_, fun a oo e => (F.st.objs a oo e).grow (fun a vs n e => tup a vs n e) (fun _ q => q) (fun _ _ _ _ q => q), fun a oo e => dn a (F.st.sep a oo e), fun a C vs e => ⟨dn _ (F.st.sepd a C vs e).1, (F.st.sepd a C vs e).2⟩, F.st.inj, F.st.gens, F.st.os⟩, F.ok, dn _ F.Lφ, F.Lσ, F.Lδ, fun p hp => ⟨dn _ (F.cφ p hp).1, (F.cφ p hp).2⟩, F.cat, m, N, V.grow (fun a vs n e => tup a vs n e) fun _ _ _ q => q⟩, ⟨ds, ?_, fun a C vs e q => ?_, hl, hc⟩, F.st.keep _ _ ho, tup⟩
  · rw [dx a fun q => by subst q; rw [hb] at e; cases e]; exact F.st.base a oo e
  · by_cases q : a = x
    · subst q; rw [ds] at e; cases e
    · rw [dx a q] at e; exact F.st.keep a oo e
  · cases q : σ x with
    | none => rfl
    | some oo => have := F.st.sep x oo q; rw [ho] at this; cases this
  · have := (F.st.sepd a C vs e).1; rw [q, ho] at this; cases this
theorem Fm.freezeOff (F : Fm W φ σ δ env ns vals s) {x : Addr} {o : Obj} (h : Off φ σ δ env x) (ho : s.heap.get? x = some o) : Fm W (φ.put x o) σ δ env ns vals s := F.freeze h.f h.s h.d h.l h.c ho
theorem RF.mono' {φ φ' : Fz} (k : ∀ a vs n, φ a = some (tupObj vs n) → φ' a = some (tupObj vs n)) {x : MFlow} {f : Flow} (r : RF φ x f) : RF φ' x f := by
  cases r with
  | next => exact .next
  | brk => exact .brk
  | cont => exact .cont
  | ret r => exact .ret (r.mono' k)
noncomputable def plainTarget : Expr → Bool
  | .List .. => false
  | _ => true
theorem own_none {target : Expr} {it a : Addr} {i : Nat} {v : Value} {prog : Program} {w : World} {E : Value → Shared → Prop} {Q : Unit → Shared → Prop} (hp : plainTarget target = true) (hit : s.heap.IsListIter it a i) (h : Q () s) : wpAny (model prog w) A (letOwnedTupleGo target (.ref it) v) Q E s := by
  cases target <;> first | cases hp; done | exact wpAny_pure h | skip
  cases v <;> first | exact wpAny_letOwnedTupleGo_listiter hit h | exact wpAny_pure h

noncomputable abbrev LoopR (W : Wd) (env : Env) (ns : List Str) (QS : MFlow → List (Option MV) → Store → Prop) (φ : Fz) (r : Result) (s' : Shared) : Prop :=
  ∃ fl, r = .ok fl ∧ ∃ mfl vals' σ' φ' δ', Kp φ φ' ∧ RF φ' mfl fl ∧ Fm W φ' σ' δ' env ns vals' s' ∧ QS mfl vals' σ'
theorem codeC_block {R : Result → Shared → Prop} (h : R (.ok .next) s) : codeC W.M A (.block [] env) R s := .of (codeAny_block (wpAny_execs_nil h))

theorem for_core {target : Expr} {body : List Stmt} {a : Addr} {l : List MV} (ht : plainTarget target = true) (I : Nat → List (Option MV) → Store → Prop) (hI : ∀ i vals σ, I i vals σ → σ a = some (.lst l))
    (step : ∀ i v vals σ, l[i]? = some v → I i vals σ → G1 RU W k (assign target env) v env ns vals σ fun _ vals1 σ1 => MS W k (execs body env) env ns vals1 σ1 fun fl vals2 σ2 => match fl with
      | .next | .cont => I (i + 1) vals2 σ2
      | .brk => QS .next vals2 σ2
      | .ret v => QS (.ret v) vals2 σ2)
    (fin : ∀ vals σ, I l.length vals σ → QS .next vals σ) : ∀ (n i : Nat) (A : Around) (φ : Fz) (δ : Addr → Addr) (s : Shared) (vals : List (Option MV)) (σ : Store) (it : Addr), l.length - i = n → i ≤ l.length → OkE k A env → Fm W φ σ δ env ns vals s → I i vals σ → Off φ σ δ env it → s.heap.IsListIter it a i →
      codeC W.M A (.forLoop target (.ref it) body [] env) (LoopR W env ns QS φ) s := by
  intro n
  induction n with
  | zero =>
    intro i A φ δ s vals σ it hn hle hA F hi off hit
    have hie : i = l.length := by omega
    obtain ⟨vs, nn, eo, L, rv⟩ := (F.st.objs a _ (hI _ _ _ hi)).list
    have hlen : vs.size = l.length := by simpa using rv.length.symm
    refine codeC_tree rfl ?_
    show wpC _ A ((forTurn target (.ref it) body [] env).onRaise (fun x => do noteFrame x env; theTreesLotGoes x)) _ _ s
    refine wpC_quiet ?_
    unfold forTurn
    refine wpC_at (wpC_bind (wpC_quiet (.of (wpAny_pyNext_list_end hA.h hit L (by simp [hlen, hie]) fun h' eb => ?_))))
    refine wpC_pure (And.intro rfl (codeC_block ?_))
    exact ⟨.next, rfl, .next, vals, σ, φ, δ, Kp.refl φ, .next, F.change (tk := s.toks) off fun b o hb e => eb b o hb e, fin _ _ (hie ▸ hi)⟩
  | succ n ih =>
    intro i A φ δ s vals σ it hn hle hA F hi off hit
    have hlt : i < l.length := by omega
    obtain ⟨vs, nn, eo, L, rv⟩ := (F.st.objs a _ (hI _ _ _ hi)).list
    obtain ⟨v, hv⟩ : ∃ v, l[i]? = some v := ⟨l[i], List.getElem?_eq_getElem hlt⟩
    obtain ⟨w, hw, rw'⟩ := rv.get _ _ hv
    refine codeC_tree rfl ?_
    show wpC _ A ((forTurn target (.ref it) body [] env).onRaise (fun x => do noteFrame x env; theTreesLotGoes x)) _ _ s
    refine wpC_quiet ?_
    unfold forTurn
    refine wpC_at (wpC_bind (wpC_quiet (.of (wpAny_pyNext_list_item hit L (by simpa using hw) fun h' hit' SB => ?_))))
    have F1 : Fm W φ σ δ env ns vals { s with heap := h' } := F.change (tk := s.toks) off fun b o hb e => SB.extBut b o hb e
    have hb : W.g₀.get? it = none := by
      cases q : W.g₀.get? it with
      | none => rfl
      | some o => have := F.st.base _ _ q; rw [off.f] at this; cases this
    obtain ⟨o, ho, hc, hd⟩ := id hit'
    have F2 := F1.freezeOff off ho
    have hnt : ∀ vs n, o ≠ tupObj vs n := fun vs n q => by
      rw [q] at hc
      have hc' : Value.type "tuple" = Value.type "list_iterator" := hc
      exact absurd (Value.type.inj hc') (by decide)
    refine wpC_bind (.of (own_none ht hit' ?_))
    have kp := Fz.put_kp (o := o) off.f
    refine wpC_bind (wpC_mono (step i v vals σ hv hi A _ δ _ w hA F2 (rw'.mono kp)) (fun _ s3 ⟨_, vals3, σ3, φ3, δ3, k3, _, F3, h3⟩ => ?_) fun _ _ e => e)
    refine wpC_bind (wpC_mono (h3 A φ3 δ3 s3 hA F3) (fun fl s4 ⟨mfl, vals4, σ4, φ4, δ4, k4, r4, F4, h4⟩ => ?_) fun _ _ e => e)
    have hot : φ4 it = some o := k4 _ _ (k3 _ _ Fz.put_self)
    obtain ⟨F5, off5, ho5, tp⟩ := F4.thaw hot hnt hb off.l off.c
    have kp5 : Kp φ (φ4.drop [it]) := fun b ob e => by
      have hne : b ≠ it := fun q => by subst q; rw [off.f] at e; cases e
      unfold Fz.drop
      rw [if_neg (by simpa using hne)]
      exact k4 _ _ (k3 _ _ (kp _ _ e))
    have hit5 : s4.heap.IsListIter it a (i + 1) := ⟨o, ho5, hc, hd⟩
    have again : I (i + 1) vals4 σ4 → codeC W.M A (.forLoop target (.ref it) body [] env) (LoopR W env ns QS φ) s4 := fun q =>
      codeC_mono (ih (i + 1) A _ δ4 s4 vals4 σ4 it (by omega) (by omega) hA F5 q off5 hit5) fun r s' ⟨fl, e, mfl, vals', σ', φ', δ', k', rest⟩ => ⟨fl, e, mfl, vals', σ', φ', δ', kp5.trans k', rest⟩
    cases r4 with
    | next => exact wpC_pure (And.intro rfl (again h4))
    | cont => exact wpC_pure (And.intro rfl (again h4))
    | brk => exact wpC_pure ⟨.next, rfl, .next, vals4, σ4, _, δ4, kp5, .next, F5, h4⟩
    | ret r => exact wpC_pure ⟨_, rfl, .ret _, vals4, σ4, _, δ4, kp5, .ret (r.mono' tp), F5, h4⟩
theorem ms_for {target iter : Expr} {body : List Stmt} {p : Pos} (ht : plainTarget target = true)
    (h : MX W k (eval iter env) env ns vals σ fun v σ1 => ∃ a l, v = .ref a ∧ ∃ I : Nat → List (Option MV) → Store → Prop, I 0 vals σ1 ∧ (∀ i vals σ, I i vals σ → σ a = some (.lst l)) ∧
      (∀ i v vals σ, l[i]? = some v → I i vals σ → G1 RU W k (assign target env) v env ns vals σ fun _ vals1 σ1 => MS W k (execs body env) env ns vals1 σ1 fun fl vals2 σ2 => match fl with
        | .next | .cont => I (i + 1) vals2 σ2
        | .brk => QS .next vals2 σ2
        | .ret v => QS (.ret v) vals2 σ2) ∧ ∀ vals σ, I l.length vals σ → QS .next vals σ)
    (hs : ∀ x, foldedSetIterable iter env x = pure x := by intro _; rfl) : MS W k (exec (.For target iter body [] p) env) env ns vals σ QS := fun A φ δ s hA F => by
  rw [exec_For]
  refine wpC_at (wpC_bind (h.seq hA F fun v σ1 φ1 δ1 w s1 k1 r1 F1 ⟨a, l, hv, I, i0, hI, step, fin⟩ => ?_))
  subst hv
  cases r1
  rw [hs]
  refine wpC_bind (wpC_pure (wpC_at (wpC_bind (wpC_holding (.of ?_)))))
  obtain ⟨vs, nn, eo, L, rv⟩ := (F1.st.objs a _ (hI _ _ _ i0)).list
  refine wpAny_pyIter_list L ?_
  refine wpC_quiet (wpC_run ?_)
  have off := F1.offFresh (Nat.le_refl s1.heap.objs.size)
  refine codeC_mono (for_core ht I hI step fin l.length 0 A φ1 δ1 _ vals σ1 s1.heap.objs.size rfl (Nat.zero_le _) hA (F1.ext (tk := s1.toks) (push_keeps _ _)) i0 off ⟨_, Heap.get?_push_size _ rfl, rfl, rfl⟩) ?_
  rintro r s' ⟨fl, rfl, mfl, vals', σ', φ', δ', k', rest⟩
  exact ⟨mfl, vals', σ', φ', δ', k1.trans k', rest⟩
end
end Mine
end
section
open PySem PySem.W PyProof.Rows PySem.Calls
namespace Mine
section
variable {W : Wd} {k : Nat} {env : Env} {ns : List Str} {vals : List (Option MV)} {σ : Store} {A : Around} {φ : Fz} {δ : Addr → Addr} {s : Shared} {QS : MFlow → List (Option MV) → Store → Prop}
theorem RVs.reverse {φ : Fz} : ∀ {xs : List MV} {vs : List Value}, RVs φ xs vs → RVs φ xs.reverse vs.reverse
  | _, _, .nil => .nil
  | _, _, .cons h r => by rw [List.reverse_cons, List.reverse_cons]; exact r.reverse.append (.cons h .nil)
noncomputable def puts (ns : List Str) : List Str → List MV → List (Option MV) → (List (Option MV) → Prop) → Prop
  | x :: xs, v :: vs, vals, P => ∃ vals1, Put ns vals x v vals1 ∧ puts ns xs vs vals1 P
  | [], [], vals, P => P vals
  | _, _, _, _ => False
theorem wpC_bindName {M : Model} {x : Str} {w : Value} {Q : Unit → Shared → Prop} {E : Value → Shared → Prop} (h : wpC M A (storeName env x w) Q E s) : wpC M A (bindName env x w) Q E s := fun Γ p i c => by rw [Sem.wp_bindName]; exact h Γ p i c
noncomputable def OkName (env : Env) (x : Str) : Prop := env.kindOf x = some .local ∨ env.kindOf x = some .cell
theorem in_order {P : List (Option MV) → Prop} : ∀ (fs : List (Str × (Value → Sem Unit))) (vs : List MV) (ws : List Value) (vals : List (Option MV)) (s : Shared),
    (∀ f ∈ fs, OkName env f.1 ∧ ∀ (s : Shared) (w : Value) (Q : Unit → Shared → Prop), wpC W.M A (bindName env f.1 w) Q NoE s → wpC W.M A (f.2 w) Q NoE s) → RVs φ vs ws → puts ns (fs.map (·.1)) vs vals P → Fm W φ σ δ env ns vals s →
    wpC W.M A (assignInOrder (fs.map (·.2)) ws) (fun _ s' => ∃ vals', Fm W φ σ δ env ns vals' s' ∧ P vals') NoE s
  | [], [], _, vals, s, hf, .nil, hp, F => wpC_pure ⟨vals, F, hp⟩
  | [], _ :: _, _, _, _, _, _, hp, _ => hp.elim
  | _ :: _, [], _, _, _, _, _, hp, _ => hp.elim
  | f :: fs, v :: vs, _, vals, s, hf, .cons (v := w) (vs := ws) r rs, ⟨vals1, p1, hp⟩, F => by
    obtain ⟨ok, hb⟩ := hf f (.head _)
    show wpC _ _ (holding ws (f.2 w) >>= fun _ => assignInOrder (fs.map (·.2)) ws) _ _ _
    refine wpC_bind (wpC_holding (hb _ _ _ (wpC_bindName (.of (F.store ok r p1 fun h' tk F1 => ?_)))))
    exact in_order fs vs ws vals1 _ (fun g hg => hf g (.tail _ hg)) rs hp F1
theorem each_names : ∀ (xs : List (Str × Pos)), assignEach (xs.map fun x => Expr.Name x.1 x.2) env = xs.map fun x => (false, assign (.Name x.1 x.2) env)
  | [] => rfl
  | x :: xs => congrArg (List.cons _) (each_names xs)
theorem old_kept {h' : Heap} (e : Heap.ExtBut s.heap.objs.size s.heap h') : ∀ b o, s.heap.get? b = some o → h'.get? b = some o := fun b o q => e b o (Nat.ne_of_lt (Heap.lt_size q)) q
theorem assign_name_bind {M : Model} {x : Str} {p : Pos} {w : Value} {Q : Unit → Shared → Prop} {E : Value → Shared → Prop} (h : wpC M A (bindName env x w) Q E s) : wpC M A (assign (.Name x p) env w) Q E s := by
  rw [PySem.assign_Name]; exact wpC_at h
variable {QU : Unit → List (Option MV) → Store → Prop}
theorem as_name {x : Str} {p : Pos} {v : MV} {vals1 : List (Option MV)} (ok : OkName env x) (pt : Put ns vals x v vals1) (q : QU () vals1 σ) : G1 RU W k (assign (.Name x p) env) v env ns vals σ QU := fun A φ δ s w hA F r =>
  assign_name_bind (wpC_bindName (.of (F.store ok r pt fun h' tk F1 => ⟨(), vals1, σ, φ, δ, Kp.refl φ, trivial, F1, q⟩)))
theorem as_tuple {xs : List (Str × Pos)} {elts : List Expr} {n : Nat} {p : Pos} {l : List MV} (he : elts = xs.map fun x => Expr.Name x.1 x.2) (ok : ∀ x ∈ xs, OkName env x.1) (q : puts ns (xs.map (·.1)) l vals fun vals1 => QU () vals1 σ) (hl : xs.length = l.length) :
    G1 RU W k (assign (.Tuple elts n p) env) (.tup l) env ns vals σ QU := fun A φ δ s w hA F r => by
  subst he
  obtain ⟨a, vs, m, rfl, e, rv⟩ := r.tup_inv
  have T : s.heap.IsTuple a vs := ⟨_, F.st.keep _ _ e, rfl, m, rfl⟩
  have hsz : vs.size = l.length := by simpa using rv.length.symm
  rw [arm_assign_Tuple]
  refine wpC_at ?_
  unfold unpack
  rw [each_names, List.length_map, show (xs.map fun x => (false, assign (Expr.Name x.1 x.2) env)).findIdx? (·.1) = none by rw [List.findIdx?_eq_none_iff]; intro y hy; obtain ⟨x, _, rfl⟩ := List.mem_map.mp hy; rfl, hl, ← hsz]
  refine wpC_bind (wpC_holding (.of (wpAny_unpackItems_tuple hA.h T fun h' eb => ?_)))
  have F1 : Fm W φ σ δ env ns vals { s with heap := h' } := F.ext (tk := s.toks) (old_kept eb)
  have key := in_order (P := fun vals1 => QU () vals1 σ) (A := A) (xs.map fun x => (x.1, assign (Expr.Name x.1 x.2) env)) l vs.toList vals { s with heap := h' } (fun f hf => by
    obtain ⟨x, hx, rfl⟩ := List.mem_map.mp hf
    exact ⟨ok x hx, fun s w Q h => assign_name_bind h⟩) rv (by rw [List.map_map]; exact q) F1
  rw [List.map_map] at key ⊢
  exact wpC_mono key (fun _ s2 ⟨vals', F2, q2⟩ => ⟨(), vals', σ, φ, δ, Kp.refl φ, trivial, F2, q2⟩) fun _ _ e => e
theorem ms_tup {elts : List Expr} {n : Nat} {tp p : Pos} {value : Expr} (h : MX W k (eval value env) env ns vals σ fun v σ1 => G1 RU W k (assign (.Tuple elts n tp) env) v env ns vals σ1 fun _ vals1 σ2 => QS .next vals1 σ2)
    (hs : swapsWithSole [.Tuple elts n tp] value p.line env = pure false := by rfl) (hw : swappedStores [.Tuple elts n tp] value env = pure none := by rfl) : MS W k (exec (.Assign [.Tuple elts n tp] value p) env) env ns vals σ QS := fun A φ δ s hA F => by
  rw [PyProof.Rows.exec_Assign]
  refine wpC_at ?_
  rw [hs]
  refine wpC_bind (wpC_pure ?_)
  rw [if_neg (by decide)]
  refine wpC_bind (h.seq hA F fun v σ1 φ1 δ1 w s1 k1 r1 F1 h1 => ?_)
  rw [hw]
  refine wpC_bind (wpC_pure ?_)
  show wpC _ A (assignAll w [assign (.Tuple elts n tp) env] >>= fun _ => pure Flow.next) _ _ s1
  exact wpC_bind (wpC_mono (h1 A φ1 δ1 s1 w hA F1 r1) (fun _ s2 ⟨_, vals2, σ2, φ2, δ2, k2, _, F2, q⟩ => wpC_pure ⟨.next, vals2, σ2, φ2, δ2, k1.trans k2, .next, F2, q⟩) fun _ _ e => e)
theorem ms_swap {elts : List Expr} {n : Nat} {tp p : Pos} {value : Expr} {names : List Str} (ok : ∀ x ∈ names, OkName env x) (h : MX W k (eval value env) env ns vals σ fun v σ1 => ∃ l, v = .tup l ∧ names.length = l.length ∧ puts ns names.reverse l.reverse vals fun vals1 => QS .next vals1 σ1)
    (hw : swappedStores [.Tuple elts n tp] value env = pure (some names)) (hs : swapsWithSole [.Tuple elts n tp] value p.line env = pure false := by rfl) : MS W k (exec (.Assign [.Tuple elts n tp] value p) env) env ns vals σ QS := fun A φ δ s hA F => by
  rw [PyProof.Rows.exec_Assign]
  refine wpC_at ?_
  rw [hs]
  refine wpC_bind (wpC_pure ?_)
  rw [if_neg (by decide)]
  refine wpC_bind (h.seq hA F fun v σ1 φ1 δ1 w s1 k1 r1 F1 ⟨l, hv, hl, q⟩ => ?_)
  subst hv
  rw [hw]
  refine wpC_bind (wpC_pure ?_)
  show wpC _ A (rule "assign.swapped-stores" >>= fun _ => unpackItems w names.length none >>= fun items => assignInOrder (names.reverse.map fun n => bindName env n) items.reverse >>= fun _ => pure Flow.next) _ _ s1
  obtain ⟨a, vs, m, rfl, e, rv⟩ := r1.tup_inv
  have T : s1.heap.IsTuple a vs := ⟨_, F1.st.keep _ _ e, rfl, m, rfl⟩
  have hsz : vs.size = l.length := by simpa using rv.length.symm
  rw [hl, ← hsz]
  refine wpC_bind (.of (wpAny_rule (wpC_bind (.of (wpAny_unpackItems_tuple hA.h T fun h' eb => ?_)))))
  have F2 : Fm W φ1 σ1 δ1 env ns vals { s1 with heap := h' } := F1.ext (tk := s1.toks) (old_kept eb)
  have rvr : RVs φ1 l.reverse vs.toList.reverse := rv.reverse
  have key := in_order (P := fun vals1 => QS .next vals1 σ1) (A := A) (names.reverse.map fun x => (x, bindName env x)) l.reverse vs.toList.reverse vals { s1 with heap := h' } (fun f hf => by
    obtain ⟨x, hx, rfl⟩ := List.mem_map.mp hf
    exact ⟨ok x (List.mem_reverse.mp hx), fun s w Q h => h⟩) rvr (by rw [List.map_map, show ((fun x : Str × (Value → Sem Unit) => x.1) ∘ fun x => (x, bindName env x)) = id from rfl, List.map_id]; exact q) F2
  rw [List.map_map] at key
  exact wpC_bind (wpC_mono key (fun _ s2 ⟨vals', F3, q2⟩ => wpC_pure ⟨.next, vals', σ1, φ1, δ1, k1, .next, F3, q2⟩) fun _ _ e => e)
end
end Mine
end
section
open PySem PySem.W PyProof.Rows PySem.Calls
namespace Mine
section
variable {W : Wd} {k : Nat} {env : Env} {ns : List Str} {vals : List (Option MV)} {σ : Store} {A : Around} {φ : Fz} {δ : Addr → Addr} {s : Shared} {QS : MFlow → List (Option MV) → Store → Prop} {Q : MV → Store → Prop}
theorem while_core {test : Expr} {body : List Stmt} (I : Nat → List (Option MV) → Store → Prop)
    (step : ∀ n vals σ, I n vals σ → MT W k (PySem.isTrue test env (eval test env)) env ns vals σ fun c σ1 => if c = true then MS W k (execs body env) env ns vals σ1 fun fl vals2 σ2 => match fl with
      | .next | .cont => ∃ m, m < n ∧ I m vals2 σ2
      | .brk => QS .next vals2 σ2
      | .ret v => QS (.ret v) vals2 σ2 else QS .next vals σ1) : ∀ (n : Nat) (A : Around) (φ : Fz) (δ : Addr → Addr) (s : Shared) (vals : List (Option MV)) (σ : Store), OkE k A env → Fm W φ σ δ env ns vals s → I n vals σ →
      codeC W.M A (.whileLoop test body [] env) (LoopR W env ns QS φ) s := by
  intro n
  induction n using Nat.strongRecOn with
  | ind n ih =>
    intro A φ δ s vals σ hA F hi
    refine codeC_tree rfl ?_
    show wpC _ A ((whileTurn test body [] env).onRaise (fun x => do noteFrame x env; theTreesLotGoes x)) _ _ s
    refine wpC_quiet ?_
    unfold whileTurn
    refine wpC_bind (ME.seq (step n vals σ hi) hA F fun c σ1 φ1 δ1 b s1 k1 r1 F1 h1 => ?_)
    cases r1
    cases c with
    | false =>
      simp only [Bool.false_eq_true, if_false] at h1 ⊢
      refine wpC_bind (.of (wpAny_execs_nil (wpC_pure ?_)))
      exact ⟨.next, rfl, .next, vals, σ1, φ1, δ1, k1, .next, F1, h1⟩
    | true =>
      simp only [if_true] at h1 ⊢
      refine wpC_bind (MG.seq h1 hA F1 fun mfl vals2 σ2 φ2 δ2 fl s2 k2 r2 F2 h2 => ?_)
      have again : (∃ m, m < n ∧ I m vals2 σ2) → codeC W.M A (.whileLoop test body [] env) (LoopR W env ns QS φ) s2 := fun ⟨m, hm, q⟩ =>
        codeC_mono (ih m hm A φ2 δ2 s2 vals2 σ2 hA F2 q) fun r s' ⟨fl, e, mfl, vals', σ', φ', δ', k', rest⟩ => ⟨fl, e, mfl, vals', σ', φ', δ', k1.trans (k2.trans k'), rest⟩
      cases r2 with
      | next => exact wpC_pure (And.intro rfl (again h2))
      | cont => exact wpC_pure (And.intro rfl (again h2))
      | brk => exact wpC_pure ⟨.next, rfl, .next, vals2, σ2, φ2, δ2, k1.trans k2, .next, F2, h2⟩
      | ret r => exact wpC_pure ⟨_, rfl, .ret _, vals2, σ2, φ2, δ2, k1.trans k2, .ret r, F2, h2⟩
theorem ms_while {test : Expr} {body : List Stmt} {p : Pos} (I : Nat → List (Option MV) → Store → Prop) (n : Nat) (i0 : I n vals σ)
    (step : ∀ n vals σ, I n vals σ → MT W k (PySem.isTrue test env (eval test env)) env ns vals σ fun c σ1 => if c = true then MS W k (execs body env) env ns vals σ1 fun fl vals2 σ2 => match fl with
      | .next | .cont => ∃ m, m < n ∧ I m vals2 σ2
      | .brk => QS .next vals2 σ2
      | .ret v => QS (.ret v) vals2 σ2 else QS .next vals σ1) : MS W k (exec (.While test body [] p) env) env ns vals σ QS := fun A φ δ s hA F => by
  rw [exec_While]
  refine wpC_at (wpC_quiet (wpC_run (codeC_mono (while_core I step n A φ δ s vals σ hA F i0) ?_)))
  rintro r s' ⟨fl, rfl, mfl, vals', σ', φ', δ', k', rest⟩
  exact ⟨mfl, vals', σ', φ', δ', k', rest⟩

end
end Mine
end
section
open PySem PySem.W PyProof.Rows PySem.Calls
namespace Mine
section
variable {W : Wd} {k : Nat} {env : Env} {ns : List Str} {vals : List (Option MV)} {σ : Store} {A : Around} {φ : Fz} {δ : Addr → Addr} {s : Shared} {QS : MFlow → List (Option MV) → Store → Prop} {Q : MV → Store → Prop}
theorem ty_bytes_list {a : Addr} {l : List Int} (ha : σ a = some (.lst (l.map MV.int))) (hl : l.length ≤ 1000000) (hr : ∀ n ∈ l, 0 ≤ n ∧ n < 256) (q : Q (.bytes (l.map fun n => n.toNat.toUInt8)) σ) : MN RV W k (fun ws => call (.type "bytes") ws) [.ref a] env ns vals σ Q := fun A φ δ s ws hA F r => by
  show wpC _ _ (call (.type "bytes") ws) _ _ _
  obtain ⟨w, rfl, q1⟩ := r.one; cases q1
  obtain ⟨vs, n, eo, L, rv⟩ := (F.st.objs a _ ha).list
  have hlen : vs.toList.length = l.length := by simpa using rv.length.symm
  have hi : IntsAre vs.toList l := by
    have : ∀ (l : List Int) (vs : List Value), RVs φ (l.map MV.int) vs → IntsAre vs l := by
      intro l
      induction l with
      | nil => intro vs r; cases r; exact .nil
      | cons x l ih => intro vs r; cases r with | cons h r => cases h; exact .cons _ _ (ih _ r)
    exact this _ _ rv
  refine wpC.of (PySem.call_bytes_ints (by simpa using L) hi hr (by rw [hlen]; exact big_size hl) hA.h fun h' t k hk => ?_)
  exact PE.here (RV.bytes _ _) (F.ext (tk := k) hk) q
end
end Mine
end
section
open PySem PySem.W PyProof.Rows PySem.Calls
namespace Mine
section
variable {W : Wd} {k : Nat} {env : Env} {ns : List Str} {vals : List (Option MV)} {σ : Store} {A : Around} {φ : Fz} {δ : Addr → Addr} {s : Shared} {QS : MFlow → List (Option MV) → Store → Prop} {Q : MV → Store → Prop}
theorem drop_any {prog : Program} {w : World} {e : Expr} {pos : Pos} {v : Value} {E : Value → Shared → Prop} {Q : Flow → Shared → Prop} (h : Q .next s) : wpAny (model prog w) A (dropValue e pos v) Q E s := by
  unfold dropValue
  split
  · exact wpAny_pure h
  · exact wpAny_bind (wpAny_standAt (wpAny_bind (wpAny_runValue (codeAny_builtin entry_let_go (show wpAny _ _ (ret .none) _ _ s from wpAny_pure (wpAny_pure h))))))
  · exact wpAny_pure h
theorem ms_drop {e : Expr} {p : Pos} (h : MX W k (eval e env) env ns vals σ fun v σ1 => QS .next vals σ1) (hi : interactive env = false := by rfl) (hs : swapsWith e none p.line env = pure false := by rfl) :
    MS W k (exec (.Expr e p) env) env ns vals σ QS := fun A φ δ s hA F => by
  rw [exec_Expr env e p hi hs]
  exact wpC_at (wpC_bind (h.seq hA F fun v σ1 φ1 δ1 w s1 k1 r1 F1 q => .of (drop_any ⟨.next, vals, σ1, φ1, δ1, k1, .next, F1, q⟩)))
end
end Mine
end
section
open PySem PySem.W PyProof.Rows PySem.Calls
namespace Mine
section
variable {W : Wd} {φ : Fz} {σ : Store} {δ : Addr → Addr} {env : Env} {ns : List Str} {vals : List (Option MV)} {s : Shared} {k : Nat} {A : Around} {Q : MV → Store → Prop} {QU : Unit → Store → Prop}
theorem set_list_last {prog : Program} {w : World} {E : Value → Shared → Prop} {l : Addr} {vs : Array Value} {n : Nat} {t : Tok} {v : Value} {Q : Unit → Shared → Prop} (eo : s.heap.get? l = some (lstObj vs n)) (hn : 0 < vs.size) (hz : vs.size ≤ 1000000)
    (h : ∀ h' n', h'.get? l = some (lstObj (vs.setIfInBounds (vs.size - 1) v) n') → Heap.SameBut l s.heap h' → Q () { s with heap := h' }) : wpAny (model prog w) A (setItem (.ref l) (.int (-1) t) v) Q E s := by
  have hl : s.heap.IsList l vs := ⟨_, eo, rfl, n, rfl⟩
  unfold setItem
  refine wpAny_holding (wpAny_bind (wpAny_sequenceKey hl.typeIs (by decide) ?_))
  refine wpAny_bind (wpAny_callSpecial?_slot (name := Str.ofString "__setitem__") hl.typeIs slot_list_setitem
    (wpAny_call_entry slot_list_setitem hl.typeIs entry_list_setitem ?_ (args_list_setitem _ _ _)))
  show wpAny _ _ (Builtin.List.listSubscript? (.int (-1) t) >>= _) _ _ s
  refine wpAny_bind (wpAny_listSubscript_int (by decide) ?_)
  have hidx : seqIndex? (-1) vs.size = some (-1 + (vs.size : Int)).toNat := by
    unfold seqIndex?
    simp only [show ((-1 : Int) < 0) from by decide, if_true]
    rw [if_pos (by simp only [Bool.and_eq_true, decide_eq_true_eq]; omega)]
  have he : (-1 + (vs.size : Int)).toNat = vs.size - 1 := by omega
  rw [he] at hidx
  have hx' : vs[vs.size - 1]? = some vs[vs.size - 1] := Array.getElem?_eq_getElem (by omega)
  show wpAny _ _ ((Builtin.List.listItems (.ref l) >>= fun xs => pure ((seqIndex? (Int.negSucc 0) xs.size).bind fun i => xs[i]?.map (i, ·))) >>= _) _ _ s
  refine wpAny_bind (wpAny_bind ?_)
  show wpAny _ _ (seqItems? (.ref l) >>= _) _ _ s
  refine wpAny_bind (wpAny_seqItems eo rfl (wpAny_pure (wpAny_pure ?_)))
  have hidx' : seqIndex? (Int.negSucc 0) vs.size = some (vs.size - 1) := hidx
  simp only [hidx', Option.bind_some, hx', Option.map_some]
  show wpAny _ _ (setSeqItemAt l (vs.size - 1) v >>= _) _ _ s
  have q := PySem.IsL.update eo (fun xs => xs.setIfInBounds (vs.size - 1) v)
  refine wpAny_bind (wpAny_setSeqItemAt eo rfl ?_)
  first
    | exact wpAny_bind (wpAny_pure (wpAny_pure ⟨.none, rfl, wpAny_pure (h _ _ q (Heap.SameBut.update ..))⟩))
    | exact wpAny_pure ⟨.none, rfl, wpAny_pure (h _ _ q (Heap.SameBut.update ..))⟩
theorem op_setlast {a : Addr} {l : List MV} {x v : MV} (ha : σ a = some (.lst (l ++ [x]))) (hl : l.length < 1000000) (q : QU () (σ.put a (.lst (l ++ [v])))) : M3 RU W k setItem (.ref a) (.int (-1)) v env ns vals σ QU := fun A φ δ s w u y hA F r r' r3 => by
  cases r; cases r'
  obtain ⟨vs, n, eo, L, rv⟩ := (F.st.objs a _ ha).list
  have hlen := rv.length
  have hsz : vs.size = l.length + 1 := by simpa using hlen.symm
  refine wpC.of (set_list_last eo (by omega) (by omega) fun h' n' e SB => ?_)
  refine ⟨(), _, φ, δ, Kp.refl φ, trivial, F.update (o := .lst (l ++ [v])) ha (fun b o hb e => SB.extBut b o hb e) (fun _ _ e => by cases e) ⟨_, n', e, ?_⟩, q⟩
  have := rv.set' r3 (vs.size - 1)
  have e1 : vs.size - 1 = l.length := by omega
  rw [e1, List.set_append_right _ _ (Nat.le_refl _), Nat.sub_self] at this
  rw [e1]; exact this
end
end Mine
end
section
open PySem PySem.W PyProof.Rows PySem.Calls
namespace Mine
section
variable {W : Wd} {k : Nat} {env : Env} {ns : List Str} {vals : List (Option MV)} {σ : Store} {A : Around} {φ : Fz} {δ : Addr → Addr} {s : Shared} {QS : MFlow → List (Option MV) → Store → Prop} {Q : MV → Store → Prop}
noncomputable def MRange (W : Wd) (k : Nat) (e : Expr) (env : Env) (ns : List Str) (vals : List (Option MV)) (σ : Store) (P : Int → Int → Store → Prop) : Prop :=
  ∀ (A : Around) (φ : Fz) (δ : Addr → Addr) (s : Shared), OkE k A env → Fm W φ σ δ env ns vals s →
    wpC W.M A (eval e env) (fun v s1 => ∃ r lo hi t u w φ1 σ1 δ1, v = .ref r ∧ IsRange s1.heap r lo hi 1 t u w ∧ Kp φ φ1 ∧ Fm W φ1 σ1 δ1 env ns vals s1 ∧ P lo hi σ1) NoE s
theorem mr_one {rp p : Pos} {e : Expr} {P : Int → Int → Store → Prop} (hr : BtOK W "range" (.type "range")) (hk : env.kindOf "range" = some .globalImplicit)
    (h : MX W k (eval e env) env ns vals σ fun v σ1 => ∃ n, v = .int n ∧ P 0 n σ1)
    (hc : eval (.Call (.Name "range" rp) [e] [] p) env = (do callWith p (← eval (.Name "range" rp) env) [] (backTo p (starEach [e] env)) (backToKw p (keywordEach [] env))) := by rfl)
    (he : starEach [e] env = (false, eval e env) :: starEach [] env := by rfl) (hp : (backTo p (starEach [] env)).any (·.1) = false := by rfl) :
    MRange W k (.Call (.Name "range" rp) [e] [] p) env ns vals σ P := fun A φ δ s hA F =>
  wc_call (.of (F.builtin hk hr.ns hr.boot hr.name hr.plain (wc_withB (fun _ => looks_typ) ((ml_cons (QL := fun vs σ1 => ∃ n, vs = [.int n] ∧ P 0 n σ1) (h.mono fun v σ1 ⟨n, e, q⟩ => ml_nil ⟨n, by rw [e], q⟩) he).seq hA F fun vs σ1 φ1 δ1 ws s1 k1 r1 F1 ⟨n, e, q⟩ => by
    subst e
    obtain ⟨w, rfl, q1⟩ := r1.one; cases q1
    refine .of (call_range_1 ?_)
    exact ⟨_, 0, n, _, _, _, φ1, σ1, δ1, rfl, Heap.get?_push_size _ rfl, k1, F1.ext (push_keeps _ _), q⟩) he hp))) hc
theorem small_of {a b : Int} (h1 : -1000000 ≤ a) (h2 : a ≤ 1000000) (h3 : -1000000 ≤ b) (h4 : b ≤ 1000000) : Builtin.Range.small a b 1 = true := small_one (by omega) (by omega) (by omega) (by omega)
noncomputable def nameTarget : Expr → Bool
  | .Name .. => true
  | _ => false
theorem own_none_r {target : Expr} {it v : Value} {prog : Program} {w : World} {E : Value → Shared → Prop} {Q : Unit → Shared → Prop} (hp : nameTarget target = true) (h : Q () s) : wpAny (model prog w) A (letOwnedTupleGo target it v) Q E s := by
  cases target <;> first | cases hp; done | exact wpAny_pure h
theorem range_core {target : Expr} {body : List Stmt} {lo : Int} {N : Nat} (ht : nameTarget target = true) (I : Nat → List (Option MV) → Store → Prop)
    (step : ∀ i vals σ, i < N → I i vals σ → G1 RU W k (assign target env) (.int (lo + i)) env ns vals σ fun _ vals1 σ1 => MS W k (execs body env) env ns vals1 σ1 fun fl vals2 σ2 => match fl with
      | .next | .cont => I (i + 1) vals2 σ2
      | .brk => QS .next vals2 σ2
      | .ret v => QS (.ret v) vals2 σ2)
    (fin : ∀ vals σ, I N vals σ → QS .next vals σ) : ∀ (n i : Nat) (A : Around) (φ : Fz) (δ : Addr → Addr) (s : Shared) (vals : List (Option MV)) (σ : Store) (it : Addr), N - i = n → i ≤ N → OkE k A env → Fm W φ σ δ env ns vals s → I i vals σ → Off φ σ δ env it → IsRangeIter s.heap it (lo + i) ((N : Int) - i) 1 →
      codeC W.M A (.forLoop target (.ref it) body [] env) (LoopR W env ns QS φ) s := by
  intro n
  induction n with
  | zero =>
    intro i A φ δ s vals σ it hn hle hA F hi off hit
    have hie : i = N := by omega
    refine codeC_tree rfl ?_
    show wpC _ A ((forTurn target (.ref it) body [] env).onRaise (fun x => do noteFrame x env; theTreesLotGoes x)) _ _ s
    refine wpC_quiet ?_
    unfold forTurn
    refine wpC_at (wpC_bind (wpC_quiet (.of (wpAny_pyNext_range_end hA.h hit (by omega) fun h' eb => ?_))))
    refine wpC_pure (And.intro rfl (codeC_block ?_))
    exact ⟨.next, rfl, .next, vals, σ, φ, δ, Kp.refl φ, .next, F.change (tk := s.toks) off fun b o hb e => eb b o hb e, fin _ _ (hie ▸ hi)⟩
  | succ n ih =>
    intro i A φ δ s vals σ it hn hle hA F hi off hit
    have hlt : i < N := by omega
    refine codeC_tree rfl ?_
    show wpC _ A ((forTurn target (.ref it) body [] env).onRaise (fun x => do noteFrame x env; theTreesLotGoes x)) _ _ s
    refine wpC_quiet ?_
    unfold forTurn
    refine wpC_at (wpC_bind (wpC_quiet (.of (wpAny_pyNext_range_item hit (by omega) fun h' hit' SB => ?_))))
    have F1 : Fm W φ σ δ env ns vals { s with heap := h', toks := s.toks + 1 } := F.change (tk := s.toks + 1) off fun b o hb e => SB.extBut b o hb e
    have hb : W.g₀.get? it = none := by
      cases q : W.g₀.get? it with
      | none => rfl
      | some o => have := F.st.base _ _ q; rw [off.f] at this; cases this
    have F2 := F1.freezeOff off hit'
    have hnt : ∀ vs n, ({ cls := .type "range_iterator", dict := none, data := .fields #[rawInt (lo + i + 1), rawInt ((N : Int) - i - 1), rawInt 1], slots := #[] } : Obj) ≠ tupObj vs n := fun vs n q => by
      have hc' : Value.type "range_iterator" = Value.type "tuple" := congrArg Obj.cls q
      exact absurd (Value.type.inj hc') (by decide)
    refine wpC_bind (.of (own_none_r ht ?_))
    have kp := Fz.put_kp (o := ({ cls := .type "range_iterator", dict := none, data := .fields #[rawInt (lo + i + 1), rawInt ((N : Int) - i - 1), rawInt 1], slots := #[] } : Obj)) off.f
    refine wpC_bind (wpC_mono (step i vals σ hlt hi A _ δ _ _ hA F2 (.int _ _)) (fun _ s3 ⟨_, vals3, σ3, φ3, δ3, k3, _, F3, h3⟩ => ?_) fun _ _ e => e)
    refine wpC_bind (wpC_mono (h3 A φ3 δ3 s3 hA F3) (fun fl s4 ⟨mfl, vals4, σ4, φ4, δ4, k4, r4, F4, h4⟩ => ?_) fun _ _ e => e)
    have hot := k4 _ _ (k3 _ _ Fz.put_self)
    obtain ⟨F5, off5, ho5, tp⟩ := F4.thaw hot hnt hb off.l off.c
    have kp5 : Kp φ (φ4.drop [it]) := fun b ob e => by
      have hne : b ≠ it := fun q => by subst q; rw [off.f] at e; cases e
      unfold Fz.drop
      rw [if_neg (by simpa using hne)]
      exact k4 _ _ (k3 _ _ (kp _ _ e))
    have hit5 : IsRangeIter s4.heap it (lo + (i + 1 : Nat)) ((N : Int) - (i + 1 : Nat)) 1 := by
      have e1 : lo + (i : Int) + 1 = lo + (i + 1 : Nat) := by omega
      have e2 : (N : Int) - i - 1 = (N : Int) - (i + 1 : Nat) := by omega
      rw [e1, e2] at ho5
      exact ho5
    have again : I (i + 1) vals4 σ4 → codeC W.M A (.forLoop target (.ref it) body [] env) (LoopR W env ns QS φ) s4 := fun q =>
      codeC_mono (ih (i + 1) A _ δ4 s4 vals4 σ4 it (by omega) (by omega) hA F5 q off5 hit5) fun r s' ⟨fl, e, mfl, vals', σ', φ', δ', k', rest⟩ => ⟨fl, e, mfl, vals', σ', φ', δ', kp5.trans k', rest⟩
    cases r4 with
    | next => exact wpC_pure (And.intro rfl (again h4))
    | cont => exact wpC_pure (And.intro rfl (again h4))
    | brk => exact wpC_pure ⟨.next, rfl, .next, vals4, σ4, _, δ4, kp5, .next, F5, h4⟩
    | ret r => exact wpC_pure ⟨_, rfl, .ret _, vals4, σ4, _, δ4, kp5, .ret (r.mono' tp), F5, h4⟩
theorem small_ok {lo hi : Int} (h0 : 0 ≤ lo) (h1 : lo ≤ 1000000) (h2 : 0 ≤ hi) (h3 : hi ≤ 1000000) : Builtin.Range.small lo hi 1 = true := small_of (by omega) h1 (by omega) h3
theorem rangeSize_nat {lo hi : Int} : Builtin.Range.rangeSize lo hi 1 = ((hi - lo).toNat : Int) := by rw [rangeSize_one]; split <;> omega
theorem ms_forR {target iter : Expr} {body : List Stmt} {p : Pos} (ht : nameTarget target = true)
    (h : MRange W k iter env ns vals σ fun lo hi σ1 => 0 ≤ lo ∧ lo ≤ 1000000 ∧ 0 ≤ hi ∧ hi ≤ 1000000 ∧ ∃ I : Nat → List (Option MV) → Store → Prop, I 0 vals σ1 ∧
      (∀ i vals σ, i < (hi - lo).toNat → I i vals σ → G1 RU W k (assign target env) (.int (lo + i)) env ns vals σ fun _ vals1 σ1 => MS W k (execs body env) env ns vals1 σ1 fun fl vals2 σ2 => match fl with
        | .next | .cont => I (i + 1) vals2 σ2
        | .brk => QS .next vals2 σ2
        | .ret v => QS (.ret v) vals2 σ2) ∧ ∀ vals σ, I (hi - lo).toNat vals σ → QS .next vals σ)
    (hs : ∀ x, foldedSetIterable iter env x = pure x := by intro _; rfl) : MS W k (exec (.For target iter body [] p) env) env ns vals σ QS := fun A φ δ s hA F => by
  rw [exec_For]
  refine wpC_at (wpC_bind (wpC_mono (h A φ δ s hA F) (fun v s1 ⟨r, lo, hi, t, u, w, φ1, σ1, δ1, hv, hr, k1, F1, h0, h1, h2, h3, I, i0, step, fin⟩ => ?_) fun _ _ e => e.elim))
  subst hv
  rw [hs]
  refine wpC_bind (wpC_pure (wpC_at (wpC_bind (wpC_holding (.of ?_)))))
  have hsz := rangeSize_nat (lo := lo) (hi := hi)
  refine wpAny_pyIter_range hr (small_ok h0 h1 h2 h3) ?_
  rw [hsz]
  refine wpC_quiet (wpC_run ?_)
  have off := F1.offFresh (Nat.le_refl s1.heap.objs.size)
  refine codeC_mono (range_core (lo := lo) ht I step fin (hi - lo).toNat 0 A φ1 δ1 _ vals σ1 s1.heap.objs.size rfl (Nat.zero_le _) hA (F1.ext (tk := s1.toks) (push_keeps _ _)) i0 off ?_) ?_
  · have e1 : lo + ((0 : Nat) : Int) = lo := Int.add_zero _
    have e2 : ((hi - lo).toNat : Int) - ((0 : Nat) : Int) = ((hi - lo).toNat : Int) := Int.sub_zero _
    rw [e1, e2]
    exact Heap.get?_push_size _ rfl
  · rintro r s' ⟨fl, rfl, mfl, vals', σ', φ', δ', k', rest⟩
    exact ⟨mfl, vals', σ', φ', δ', k1.trans k', rest⟩
noncomputable def rangeL (lo : Int) (n : Nat) : List Int := (List.range n).map fun i : Nat => lo + (i : Int)
theorem RVs.ints {φ : Fz} : ∀ {l : List Int} {vs : List Value}, RVs φ (l.map MV.int) vs → IntsAre vs l
  | [], _, .nil => .nil
  | _ :: _, _, .cons h r => by cases h; exact .cons _ _ r.ints
end
end Mine
end
section
open PySem PySem.W PyProof.Rows PySem.Calls
namespace Mine
/-! dicts whose keys are ints -/
noncomputable def dAt {K V : Type} [DecidableEq K] (l : List (K × V)) (k : K) : Option V := (l.find? fun kv => kv.1 = k).map (·.2)
noncomputable def dPut {K V : Type} [DecidableEq K] (l : List (K × V)) (k : K) (v : V) : List (K × V) := if l.any (fun kv => kv.1 = k) then l.map (fun kv => if kv.1 = k then (kv.1, v) else kv) else l ++ [(k, v)]
section
variable {K : Type} [DecidableEq K] {φ : Fz}
inductive RP (φ : Fz) : List (K × MV) → List (K × Value) → Prop
  | nil : RP φ [] []
  | cons {k : K} {x : MV} {v : Value} {l : List (K × MV)} {kvs : List (K × Value)} : RV φ x v → RP φ l kvs → RP φ ((k, x) :: l) ((k, v) :: kvs)
theorem RP.of : ∀ {l : List (K × MV)} {kvs : List (K × Value)}, l.map (·.1) = kvs.map (·.1) → RVs φ (l.map (·.2)) (kvs.map (·.2)) → RP φ l kvs
  | [], [], _, _ => .nil
  | [], _ :: _, e, _ => by cases e
  | _ :: _, [], e, _ => by cases e
  | (k, x) :: l, (k', v) :: kvs, e, r => by
    simp only [List.map_cons, List.cons.injEq] at e r
    obtain ⟨e1, e2⟩ := e
    subst e1
    cases r with
    | cons h r => exact .cons h (RP.of e2 r)
theorem RP.to : ∀ {l : List (K × MV)} {kvs : List (K × Value)}, RP φ l kvs → l.map (·.1) = kvs.map (·.1) ∧ RVs φ (l.map (·.2)) (kvs.map (·.2))
  | _, _, .nil => ⟨rfl, .nil⟩
  | _, _, .cons h r => ⟨by simp only [List.map_cons, r.to.1], .cons h r.to.2⟩
theorem RP.at : ∀ {l : List (K × MV)} {kvs : List (K × Value)}, RP φ l kvs → ∀ k, (match dAt l k with | some x => ∃ v, valueAt kvs k = some v ∧ RV φ x v | none => valueAt kvs k = none)
  | _, _, .nil, k => rfl
  | (k', x) :: l, (_, v) :: kvs, .cons h r, k => by
    have ih := r.at k
    unfold dAt valueAt at ih ⊢
    by_cases c : k' = k
    · rw [List.find?_cons_of_pos (by simpa using c), List.find?_cons_of_pos (by simpa using c)]
      exact ⟨v, rfl, h⟩
    · rw [List.find?_cons_of_neg (by simpa using c), List.find?_cons_of_neg (by simpa using c)]
      exact ih
theorem RP.isSome {l : List (K × MV)} {kvs : List (K × Value)} (r : RP φ l kvs) (k : K) : (valueAt kvs k).isSome = (dAt l k).isSome := by
  have := r.at k
  cases q : dAt l k with
  | none => rw [q] at this; dsimp only at this; rw [this]; rfl
  | some x => rw [q] at this; dsimp only at this; obtain ⟨v, e, _⟩ := this; rw [e]; rfl
theorem RP.any : ∀ {l : List (K × MV)} {kvs : List (K × Value)}, RP φ l kvs → ∀ k, l.any (fun kv => kv.1 = k) = kvs.any (fun kv => kv.1 = k)
  | _, _, .nil, k => rfl
  | _, _, .cons h r, k => by simp only [List.any_cons, r.any k]
theorem RP.map {x : MV} {v : Value} {k : K} (hx : RV φ x v) : ∀ {l : List (K × MV)} {kvs : List (K × Value)}, RP φ l kvs → RP φ (l.map (fun kv => if kv.1 = k then (kv.1, x) else kv)) (kvs.map (fun kv => if kv.1 = k then (kv.1, v) else kv))
  | _, _, .nil => .nil
  | (k', y) :: l, _, .cons h r => by
    simp only [List.map_cons]
    by_cases c : k' = k
    · rw [if_pos c, if_pos c]; exact .cons hx (RP.map hx r)
    · rw [if_neg c, if_neg c]; exact .cons h (RP.map hx r)
theorem RP.append : ∀ {l l' : List (K × MV)} {kvs kvs' : List (K × Value)}, RP φ l kvs → RP φ l' kvs' → RP φ (l ++ l') (kvs ++ kvs')
  | _, _, _, _, .nil, r => r
  | _, _, _, _, .cons h q, r => .cons h (q.append r)
theorem RP.put {l : List (K × MV)} {kvs : List (K × Value)} {x : MV} {v : Value} {k : K} (r : RP φ l kvs) (hx : RV φ x v) : RP φ (dPut l k x) (stored kvs k v) := by
  unfold dPut stored
  rw [r.any k]
  split
  · exact r.map hx
  · exact r.append (.cons hx .nil)
theorem RP.length : ∀ {l : List (K × MV)} {kvs : List (K × Value)}, RP φ l kvs → l.length = kvs.length
  | _, _, .nil => rfl
  | _, _, .cons _ r => congrArg (· + 1) r.length
end
section
variable {W : Wd} {k : Nat} {env : Env} {ns : List Str} {vals : List (Option MV)} {σ : Store} {A : Around} {φ : Fz} {δ : Addr → Addr} {s : Shared} {QS : MFlow → List (Option MV) → Store → Prop} {Q : MV → Store → Prop} {QU : Unit → Store → Prop}
theorem OR.ddi {h : Heap} {d a : Addr} {l : List (Int × MV)} (x : OR W φ h d a (.ddi l)) : (a == sysModules) = false ∧ ∃ kvs, h.DictOf (intKind W.prog W.w) a kvs ∧ RP φ l kvs := by
  obtain ⟨hs, kvs, D, e, r⟩ := x; exact ⟨hs, kvs, D, .of e r⟩
theorem OR.ddi_mk {h : Heap} {d a : Addr} {l : List (Int × MV)} {kvs : List (Int × Value)} (hs : (a == sysModules) = false) (D : h.DictOf (intKind W.prog W.w) a kvs) (r : RP φ l kvs) : OR W φ h d a (.ddi l) := ⟨hs, kvs, D, r.to.1, r.to.2⟩
theorem Fm.notModules (F : Fm W φ σ δ env ns vals s) {a : Addr} (h : s.heap.objs.size ≤ a) : (a == sysModules) = false := by
  have h3 : (3 : Nat) < s.heap.objs.size := (W.T.g.keeps F.base).lt
  have h4 : (3 : Nat) < a := Nat.lt_of_lt_of_le h3 h
  refine beq_eq_false_iff_ne.mpr fun e => ?_
  have h1 : (sysModules : Nat) = 1 := rfl
  rw [e, h1] at h4
  exact absurd h4 (by decide)
theorem isInt_self {i : Int} {t : Tok} : (intKind W.prog W.w).is i (.int i t) = true := by simp [intKind, Value.isInt]
theorem op_setkey {d : Addr} {l : List (Int × MV)} {i : Int} {v : MV} (ha : σ d = some (.ddi l)) (hl : l.length ≤ 1000000) (q : QU () (σ.put d (.ddi (dPut l i v)))) : M3 RU W k setItem (.ref d) (.int i) v env ns vals σ QU := fun A φ δ s w u x hA F r r' r3 => by
  cases r; cases r'
  obtain ⟨hs, kvs, D, rp⟩ := (F.st.objs d _ ha).ddi
  refine wpC.of (wpAny_setItem_pairs (knd := intKind W.prog W.w) isInt_self D (fun h' D' SB => ?_) (by rw [← rp.length]; exact big_size hl))
  exact ⟨(), _, φ, δ, Kp.refl φ, trivial, F.update (o := .ddi (dPut l i v)) ha (fun b o hb e => SB.extBut b o hb e) (fun _ _ e => by cases e) (OR.ddi_mk hs D' (rp.put r3)), q⟩
theorem sub_key {value slice : Expr} {d : Addr} {l : List (Int × MV)} {i : Int} {v : MV} (ha : σ d = some (.ddi l)) (hv : dAt l i = some v) (q : Q v σ)
    (hs : ∀ o i, subscripted slice false o i = operate [o, i] (getItem o i)) : M2 RV W k (subscriptTail value slice) (.ref d) (.int i) env ns vals σ Q := fun A φ δ s w u hA F r r' => by
  cases r; cases r'
  obtain ⟨hs', kvs, D, rp⟩ := (F.st.objs d _ ha).ddi
  have := rp.at i
  rw [hv] at this
  obtain ⟨x, hx, rx⟩ := this
  exact wpC.of (tail_any D.typeIs slot_dict_getitem.lookup (wpAny_getItem_of (knd := intKind W.prog W.w) isInt_self D.mapOf hx (PE.here rx (F.toks _) q)) (hs _ _))
theorem op_in_ddi {d : Addr} {l : List (Int × MV)} {i : Int} (ha : σ d = some (.ddi l)) (q : Q (.bool (dAt l i).isSome) σ) : M2 RV W k (compareOp .In) (.int i) (.ref d) env ns vals σ Q := fun A φ δ s w u hA F r r' => by
  cases r; cases r'
  obtain ⟨hs, kvs, D, rp⟩ := (F.st.objs d _ ha).ddi
  refine wpC.of (wpAny_in_of (knd := intKind W.prog W.w) isInt_self hs D.mapOf ?_)
  rw [rp.isSome]
  exact PE.here (.bool _) (F.toks _) q
theorem op_notin_ddi {d : Addr} {l : List (Int × MV)} {i : Int} (ha : σ d = some (.ddi l)) (q : Q (.bool (!(dAt l i).isSome)) σ) : M2 RV W k (compareOp .NotIn) (.int i) (.ref d) env ns vals σ Q := fun A φ δ s w u hA F r r' => by
  cases r; cases r'
  obtain ⟨hs, kvs, D, rp⟩ := (F.st.objs d _ ha).ddi
  refine wpC.of (wpAny_notIn_of (knd := intKind W.prog W.w) isInt_self hs D.mapOf ?_)
  rw [rp.isSome]
  exact PE.here (.bool _) (F.toks _) q
end
end Mine
end
section
open PySem PySem.W PyProof.Rows PySem.Calls
namespace Mine
/-! dicts from ints to ints -/
noncomputable abbrev mi (l : List (Int × Int)) : List (Int × MV) := l.map fun kv => (kv.1, .int kv.2)
theorem dAt_mi {l : List (Int × Int)} {k : Int} : dAt (mi l) k = (dAt l k).map .int := by
  unfold dAt
  induction l with
  | nil => rfl
  | cons x l ih =>
    obtain ⟨k', v⟩ := x
    have e : mi ((k', v) :: l) = (k', .int v) :: mi l := rfl
    rw [e]
    by_cases c : k' = k
    · rw [List.find?_cons_of_pos (by simpa using c), List.find?_cons_of_pos (by simpa using c)]; rfl
    · rw [List.find?_cons_of_neg (by simpa using c), List.find?_cons_of_neg (by simpa using c)]; exact ih
theorem any_mi {l : List (Int × Int)} {k : Int} : (mi l).any (fun kv => kv.1 = k) = l.any (fun kv => kv.1 = k) := by
  induction l with
  | nil => rfl
  | cons x l ih => simp only [List.map_cons, List.any_cons, ih]
theorem dPut_mi {l : List (Int × Int)} {k v : Int} : dPut (mi l) k (.int v) = mi (dPut l k v) := by
  unfold dPut
  rw [any_mi]
  split
  · simp only [List.map_map]
    refine List.map_congr_left fun x _ => ?_
    simp only [Function.comp]
    split <;> rfl
  · simp
section
variable {W : Wd} {k : Nat} {env : Env} {ns : List Str} {vals : List (Option MV)} {σ : Store} {A : Around} {φ : Fz} {δ : Addr → Addr} {s : Shared} {QS : MFlow → List (Option MV) → Store → Prop} {Q : MV → Store → Prop} {QU : Unit → Store → Prop}
end
end Mine
end
section
open PySem PySem.W PyProof.Rows PySem.Calls
namespace Mine
theorem list_no_keys : typeLookup (.type "list") "keys" = pure none := by rw [typeLookup_type, builtinLookup_eq_fast]; kernel_rfl
theorem keys_miss {prog : Program} {w : World} {A : Around} {E : Value → Shared → Prop} {s : Shared} {a : Addr} {xs : Array Value} {k : Nat} {Q : Option Value → Shared → Prop}
    (hx : s.heap.get? a = some (lstObj xs k)) (hA : A.handled = none) (h : ∀ h' tk, (∀ b o, s.heap.get? b = some o → h'.get? b = some o) → Q none { s with heap := h', toks := tk }) :
    wpAny (model prog w) A (getAttr? (.ref a) "keys") Q E s := by
  obtain ⟨hp, g, d, tk, os⟩ := s
  have hT : ∀ tk', (⟨hp, g, d, tk', os⟩ : Shared).TypeIs (.ref a) "list" := fun _ => ⟨_, hx, rfl⟩
  have f1 := sub_AttributeError
  have f3 := F.slot_list_getattribute.lookup
  have f4 := F.slot_list_getattribute.bind (.ref a)
  have f5 := am_list_getattr_none
  unfold getAttr? getAttrBy? getAttrBy
  repeat (any_goals (first | assumption | exact hT _ | ((with_reducible show wpAny _ _ (call (Value.builtin "list.__getattribute__") _ _) _ _ _); refine call_meets F.slot_list_getattribute (hT _) am_entry_list_getattribute (F.args_list_getattribute_2 _ _) (meets_getattribute_miss_list a xs k #[] (Str.ofString "keys") _ list_no_keys (by decide +kernel) (by decide +kernel)) ⟨hx, hA, fun h' tk' e hx' => ?_⟩) | wp_step))
  obtain ⟨t', u', he⟩ := hx'.there
  show wpAny _ _ (getattributeRaised _ _ _ _ _ _ _) _ _ _
  unfold getattributeRaised
  repeat (any_goals (first | assumption | wp_step))
  exact h _ _ hx'.keeps
theorem loop_entry : entryFor table "dict.update.loop" = some Builtin.«dict.update.loop» := entryFor_of_tree (by kernel_rfl)
theorem loop_plain : plainId "dict.update.loop" = true := by decide +kernel
noncomputable def PairsAt (h : Heap) : List Value → List (Int × Value) → Prop
  | [], [] => True
  | v :: vs, (k, x) :: r => (∃ T n t, v = .ref T ∧ h.get? T = some (tupObj #[.int k t, x] n)) ∧ PairsAt h vs r
  | _, _ => False
theorem PairsAt.keep {h h' : Heap} (k : ∀ T vs n, h.get? T = some (tupObj vs n) → h'.get? T = some (tupObj vs n)) : ∀ {vs : List Value} {r : List (Int × Value)}, PairsAt h vs r → PairsAt h' vs r
  | [], [], _ => trivial
  | [], _ :: _, x => x.elim
  | _ :: _, [], x => x.elim
  | _ :: _, (_, _) :: _, ⟨⟨T, n, t, e, g⟩, r⟩ => ⟨⟨T, n, t, e, k _ _ _ g⟩, r.keep k⟩
theorem dict_loop {prog : Program} {w : World} {A : Around} {R : Result → Shared → Prop} {D it a : Addr} {xs : Array Value} (hA : A.handled = none) (hda : D ≠ a) (hdi : D ≠ it) (hia : it ≠ a) (hsz : xs.size ≤ 1000000) :
    ∀ (r : List (Int × Value)) (i : Nat) (acc : List (Int × Value)) (s : Shared), PairsAt s.heap (xs.toList.drop i) r → s.heap.IsListIter it a i → s.heap.IsList a xs → s.heap.DictOf (intKind prog w) D acc → acc.length ≤ i → i ≤ xs.size →
      (∀ h' tk, h'.DictOf (intKind prog w) D (r.foldl (fun acc kv => stored acc kv.1 kv.2) acc) → (∀ b o, b ≠ D → b ≠ it → s.heap.get? b = some o → h'.get? b = some o) → R (.ok (.ret .none)) { s with heap := h', toks := tk }) →
      codeAny (model prog w) A (.builtin "dict.update.loop" ⟨[.ref D, .ref it, rawInt i, .none], []⟩) R s := by
  intro r
  induction r with
  | nil =>
    intro i acc s hp hit L hD hl hi hR
    have hend : ¬ i < xs.size := by
      intro c
      have : xs.toList.drop i = xs[i] :: xs.toList.drop (i + 1) := by rw [List.drop_eq_getElem_cons (by simpa using c)]; simp
      rw [this] at hp
      exact hp.elim
    refine codeAny_builtin loop_entry ?_
    rw [Around.under_plainId loop_plain _]
    show wpAny _ A.in1 (pyNext (.ref it) >>= _) _ _ s
    refine wpAny_bind (wpAny_pyNext_list_end hA hit L (Array.getElem?_eq_none (Nat.le_of_not_lt hend)) fun h' eb => ?_)
    show wpAny _ A.in1 (Builtin.Dict.addKeywords D [] >>= _) _ _ _
    refine wpAny_bind (wpAny_pure (wpAny_pure ?_))
    obtain ⟨o, es, ep, ho, rest⟩ := hD
    exact hR h' s.toks ⟨o, es, ep, eb _ _ hdi ho, rest⟩ fun b o _ hb e => eb b o hb e
  | cons p r ih =>
    obtain ⟨k, x⟩ := p
    intro i acc s hp hit L hD hl hi hR
    have hlt : i < xs.size := by
      apply Classical.byContradiction
      intro c
      rw [List.drop_eq_nil_of_le (by simpa using Nat.le_of_not_lt c)] at hp
      exact hp.elim
    have hdr : xs.toList.drop i = xs[i] :: xs.toList.drop (i + 1) := by rw [List.drop_eq_getElem_cons (by simpa using hlt)]; simp
    rw [hdr] at hp
    obtain ⟨⟨T, n, t, hv, hT⟩, hp'⟩ := hp
    have ox : xs[i]? = some (.ref T) := by rw [Array.getElem?_eq_getElem hlt, hv]
    refine codeAny_builtin loop_entry ?_
    rw [Around.under_plainId loop_plain _]
    show wpAny _ A.in1 (pyNext (.ref it) >>= _) _ _ s
    refine wpAny_bind (wpAny_pyNext_list_item hit L ox fun h1 hit1 SB => ?_)
    have hTi : T ≠ it := by
      rintro rfl
      obtain ⟨o, ho, hc, _⟩ := hit
      rw [hT] at ho; cases ho
      exact absurd (Value.type.inj hc) (by decide)
    have hTD : T ≠ D := by
      rintro rfl
      obtain ⟨o, es, ep, ho, hx, _⟩ := hD
      rw [hT] at ho; cases ho
      exact absurd (Value.type.inj hx.1) (by decide)
    have hT1 : h1.get? T = some (tupObj #[.int k t, x] n) := SB.extBut T _ hTi hT
    have hty : ({ s with heap := h1 } : Shared).TypeIs (.ref T) "tuple" := ⟨_, hT1, rfl⟩
    show wpAny _ A.in1 (holding [.ref T] _ >>= _) _ _ _
    refine wpAny_bind (wpAny_holding (wpAny_bind (wpAny_tryCatch ?_)))
    unfold Builtin.Dict.pairItems
    refine wpAny_bind (wpAny_typeOf hty ?_)
    rw [if_pos (by decide)]
    refine wpAny_bind (wpAny_seqItems hT1 rfl (wpAny_pure ?_))
    have hD1 : h1.DictOf (intKind prog w) D acc := by
      obtain ⟨o, es, ep, ho, rest⟩ := hD
      exact ⟨o, es, ep, SB.extBut D o hdi ho, rest⟩
    show wpAny _ A.in1 (holding [.int k t, x] (dictSet D (.int k t) x)) _ _ _
    refine wpAny_holding (wpAny_dictSet_pairs (knd := intKind prog w) (k := k) (hsz := big_size (by omega)) (by simp [intKind, Value.isInt]) hD1 fun h2 hD2 SB2 => ?_)
    refine wpAny_pure ⟨plainId_quiet loop_plain _, ?_⟩
    have hTD' : ∀ T vs n, h1.get? T = some (tupObj vs n) → h2.get? T = some (tupObj vs n) := fun T' vs n e => SB2.extBut T' _ (by
      rintro rfl
      obtain ⟨o, es, ep, ho, hx, _⟩ := hD1
      rw [e] at ho; cases ho
      exact absurd (Value.type.inj hx.1) (by decide)) e
    have hTi' : ∀ T vs n, s.heap.get? T = some (tupObj vs n) → h1.get? T = some (tupObj vs n) := fun T' vs n e => SB.extBut T' _ (by
      rintro rfl
      obtain ⟨o, ho, hc, _⟩ := hit
      rw [e] at ho; cases ho
      exact absurd (Value.type.inj hc) (by decide)) e
    have hit2 : h2.IsListIter it a (i + 1) := by
      obtain ⟨o, ho, rest⟩ := hit1
      exact ⟨o, SB2.extBut it o (Ne.symm hdi) ho, rest⟩
    have L2 : h2.IsList a xs := by
      obtain ⟨o, ho, rest⟩ := L
      exact ⟨o, SB2.extBut a o (Ne.symm hda) (SB.extBut a o (Ne.symm hia) ho), rest⟩
    have e1 : rawInt ((i : Int) + 1) = rawInt ((i + 1 : Nat) : Int) := rfl
    have sl : (stored acc k x).length ≤ i + 1 := by have := stored_length_le acc k x; omega
    show codeAny _ A (.builtin "dict.update.loop" ⟨[.ref D, .ref it, rawInt ((i : Int) + 1), .none], []⟩) R _
    rw [e1]
    refine ih (i + 1) (stored acc k x) { s with heap := h2, toks := _ } ((hp'.keep hTi').keep hTD') hit2 L2 hD2 sl (by omega) fun h' tk hD' hk => ?_
    exact hR h' tk hD' fun b o hb hb2 e => hk b o hb hb2 (SB2.extBut b o hb (SB.extBut b o hb2 e))
end Mine
end
section
open PySem PySem.W PyProof.Rows PySem.Calls
namespace Mine
section
variable {W : Wd} {k : Nat} {env : Env} {ns : List Str} {vals : List (Option MV)} {σ : Store} {A : Around} {φ : Fz} {δ : Addr → Addr} {s : Shared} {QS : MFlow → List (Option MV) → Store → Prop} {Q : MV → Store → Prop} {QU : Unit → Store → Prop}
noncomputable abbrev pairM (kv : Int × Int) : MV := .tup [.int kv.1, .int kv.2]
theorem pairs_of {h : Heap} (hk : ∀ T vs n, φ T = some (tupObj vs n) → h.get? T = some (tupObj vs n)) : ∀ {l : List (Int × Int)} {vs : List Value}, RVs φ (l.map pairM) vs → ∃ r : List (Int × Value), PairsAt h vs r ∧ RP φ (mi l) r
  | [], _, .nil => ⟨[], trivial, .nil⟩
  | (i, j) :: l, _, .cons h r => by
    obtain ⟨a, vs', n, rfl, e, rv⟩ := h.tup_inv
    obtain ⟨⟨w, u, hw, q1, q2⟩⟩ : Nonempty (∃ w u, vs'.toList = [w, u] ∧ RV φ (.int i) w ∧ RV φ (.int j) u) := ⟨rv.two⟩
    obtain ⟨r', p, q⟩ := pairs_of hk r
    have ev : vs' = #[w, u] := by rw [← Array.toArray_toList (xs := vs'), hw]
    cases q1
    refine ⟨(i, u) :: r', ⟨⟨a, n, _, rfl, by rw [hk _ _ _ e, ev]⟩, p⟩, .cons q2 q⟩
theorem RP.fold : ∀ {l : List (Int × Int)} {r : List (Int × Value)}, RP φ (mi l) r → ∀ {acc : List (Int × Int)} {ra : List (Int × Value)}, RP φ (mi acc) ra → RP φ (mi (l.foldl (fun acc kv => dPut acc kv.1 kv.2) acc)) (r.foldl (fun acc kv => stored acc kv.1 kv.2) ra)
  | [], _, .nil, acc, ra, h => h
  | (i, j) :: l, _, .cons hx r, acc, ra, h => by
    simp only [List.foldl_cons]
    refine RP.fold r ?_
    have := h.put (k := i) hx
    rw [dPut_mi] at this
    exact this
theorem IsList.up' {h h' : Heap} {a : Addr} {vs : Array Value} (L : h.IsList a vs) (k : ∀ b o, h.get? b = some o → h'.get? b = some o) : h'.IsList a vs := by
  obtain ⟨o, e, r⟩ := L; exact ⟨o, k _ _ e, r⟩
theorem ty_dict_pairs {a : Addr} {l : List (Int × Int)} (ha : σ a = some (.lst (l.map pairM))) (hl : l.length ≤ 1000000) (q : ∀ D, σ D = none → Q (.ref D) (σ.put D (.ddi (mi (l.foldl (fun acc kv => dPut acc kv.1 kv.2) []))))) :
    MN RV W k (fun ws => call (.type "dict") ws) [.ref a] env ns vals σ Q := fun A φ δ s ws hA F r => by
  show wpC _ _ (call (.type "dict") ws) _ _ _
  obtain ⟨w, rfl, q1⟩ := r.one; cases q1
  obtain ⟨vs, n, eo, L, rv⟩ := (F.st.objs a _ ha).list
  have hlen : vs.size = l.length := by simpa using rv.length.symm
  obtain ⟨rp, pa, hrp⟩ := pairs_of (h := s.heap) (fun T vs n e => F.st.keep _ _ e) rv
  refine wpC.of ?_
  refine callType_codes (Q₁ := fun obj s₁ => obj = .ref s.heap.objs.size ∧ s₁ = { s with heap := s.heap.push { cls := .type "dict", data := .dict #[] } }) PySem.F.kt_called_dict (PySem.F.kt_typeCall_dict_1 _) PySem.F.entry_dict_init (kt_code_dict_new _ ⟨rfl, rfl⟩) ?_
  rintro obj s₁ ⟨rfl, rfl⟩
  have hnew : (s.heap.push { cls := .type "dict", data := .dict #[] }).DictOf (intKind W.prog W.w) s.heap.objs.size [] := Heap.DictOf.new s.heap
  refine ⟨hnew.typeIs, PySem.F.args_dict_init_2 _ _, ?_⟩
  unfold Builtin.«dict.__init__»
  refine wpAny_bind ?_
  unfold Builtin.Dict.selfAndRest
  refine wpAny_bind (wpAny_notOrdered_dict hnew.typeIs ?_)
  show wpAny _ _ (pure (s.heap.objs.size, [Value.ref a])) _ _ _
  refine wpAny_pure ?_
  show wpAny _ _ (Builtin.Dict.updateFrom "dict.__init__" s.heap.objs.size (.ref a) [] .none) _ _ _
  unfold Builtin.Dict.updateFrom
  have ea : (s.heap.push { cls := .type "dict", data := .dict #[] }).get? a = some (lstObj vs n) := Heap.get?_push_of_some _ eo
  refine wpAny_bind (wpAny_typeOf (T := "list") ⟨_, ea, rfl⟩ ?_)
  rw [if_pos (by decide)]
  have hlt : a < s.heap.objs.size := Heap.lt_size eo
  refine wpAny_bind (keys_miss ea hA.h fun h1 tk1 hk1 => ?_)
  simp only [Option.isNone_none, if_true]
  refine wpAny_bind (wpAny_rule (wpAny_bind ?_))
  have L1 : h1.IsList a vs := ⟨_, hk1 _ _ ea, rfl, n, rfl⟩
  have hD1 : h1.DictOf (intKind W.prog W.w) s.heap.objs.size [] := hnew.keep hk1
  have hsz1 : s.heap.objs.size < h1.objs.size := by
    obtain ⟨o, es, ep, ho, _⟩ := hD1
    exact Heap.lt_size ho
  refine wpAny_pyIter_list L1 (wpAny_pure ⟨plainId_quiet loop_plain _, ?_⟩)
  have hkp : ∀ b o, s.heap.get? b = some o → (h1.push { cls := .type "list_iterator", data := .fields #[.ref a, rawInt 0] }).get? b = some o := fun b o e => push_keeps _ _ _ _ (hk1 _ _ (Heap.get?_push_of_some _ e))
  have hD2 := hD1.keep (push_keeps h1 { cls := .type "list_iterator", data := .fields #[.ref a, rawInt 0] })
  have p2 : PairsAt (h1.push { cls := .type "list_iterator", data := .fields #[.ref a, rawInt 0] }) (vs.toList.drop 0) rp := pa.keep fun T vs n e => hkp _ _ e
  refine dict_loop (A := A.in1) (it := h1.objs.size) (a := a) (xs := vs) hA.h (Nat.ne_of_gt hlt) (Nat.ne_of_lt hsz1) (Nat.ne_of_gt (Nat.lt_trans hlt hsz1)) (by omega) rp 0 [] _ p2 ⟨_, Heap.get?_push_size _ rfl, rfl, rfl⟩ (IsList.up' L hkp) hD2 (Nat.le_refl _) (Nat.zero_le _) fun h' tk hD' hk => ?_
  have hk' : ∀ b o, s.heap.get? b = some o → h'.get? b = some o := fun b o e => hk b o (Nat.ne_of_lt (Heap.lt_size e)) (Nat.ne_of_lt (Nat.lt_trans (Heap.lt_size e) hsz1)) (hkp _ _ e)
  refine ⟨rfl, ?_⟩
  exact ⟨_, _, φ, δ, Kp.refl φ, .ref _, F.alloc (o := .ddi (mi (l.foldl (fun acc kv => dPut acc kv.1 kv.2) []))) (tk := tk) hk' (Nat.le_refl _) (fun _ _ e => by cases e) (OR.ddi_mk (F.notModules (Nat.le_refl _)) hD' (RP.fold (acc := []) hrp .nil)), q _ (F.st.fresh_σ (Nat.le_refl _))⟩
end
end Mine
end
section
open PySem PySem.W PyProof.Rows PySem.Calls
namespace Mine

/-! entering a def some of whose names are cells -/
section
variable {prog : Program} {w : World} {A : Around} {R : Result → Shared → Prop} {s : Shared}
theorem codeC_defC {a : Addr} {o : Obj} {fd : FuncData} {body : List Stmt} {args : Args} {binds : List (Str × Value)}
    (hroom : A.depth < recursionLimit) (ho : s.heap.get? a = some o) (hdata : o.data = .func fd) (hlim : s.heap.NoLimit) (hcd : s.heap.CodeRec fd.code fd.qualname)
    (hbody : fd.body = .stmts body) (hbind : BindsTo s fd args binds) (hclo : fd.closure = [])
    (hkind : ∀ x ∈ binds, fd.scope.names.lookup x.1 = some .local ∨ (fd.scope.names.lookup x.1 = some .cell ∧ ((cellsFrom (s.heap.objs.size + 1) fd.scope.names []).lookup x.1).isSome = true))
    (h : ∀ s₁, InCallC s (callEnvC fd s.heap.objs.size a).locals (bindL (callEnvC fd s.heap.objs.size a).kindOf binds fun _ => none) (callEnvC fd s.heap.objs.size a).cells
        (bindC (callEnvC fd s.heap.objs.size a).kindOf binds fun _ => none) s₁ →
      wpC (model prog w) (A.deeper (callEnvC fd s.heap.objs.size a)) (execs body (callEnvC fd s.heap.objs.size a)) (fun f s1 => R (.ok (.ret (match f with | .ret v => v | _ => .none))) s1)
        (fun e s1 => wpC (model prog w) (A.deeper (callEnvC fd s.heap.objs.size a)) (leaving (callEnvC fd s.heap.objs.size a) e) (fun _ s2 => R (.error e) s2) (fun e' s2 => R (.error e') s2) s1) s₁)
    (hco : fd.scope.isCoroutine = false) (hgen : fd.scope.isGenerator = false) (hk : fd.scope.kind = .function) : codeC (model prog w) A (.call (.ref a) args) R s := by
  refine codeC_tree rfl ?_
  show wpC _ A.in1 (callAny (.ref a) args) _ _ s
  simp only [callAny]
  refine wpC_bind (.of (wpAny_load ho ?_))
  obtain ⟨c, oc, vs, tq, hc, hoc, hdc, hq⟩ := hcd
  simp only [hdata, callFunction, hco, hgen, hbody, hc]
  refine wpC_bind (m := field (.ref c) 1) (.of (wpAny_field hoc hdc hq (wpC_bind (wpC_pure ?_))))
  refine wpC_bind (.of (hbind _ _ _ _ ?_))
  refine wpC_bind (.of ?_)
  rw [← hc, hclo]
  refine wpAny_newFunctionEnv_cells hk hkind (fun env he s' x => ?_)
  subst he
  refine wpC_bind (.of (wpAny_enterFrame (hlim.keeps x.toInCall.keep) hroom (wpC_pure (And.intro rfl (codeC_func (h s' x))))))
end

theorem cellsFrom_names : ∀ (names : List (Str × NameKind)) (n n' : Nat) (acc acc' : List (Str × Addr)), acc.map (·.1) = acc'.map (·.1) → (cellsFrom n names acc).map (·.1) = (cellsFrom n' names acc').map (·.1)
  | [], _, _, _, _, h => h
  | (name, kind) :: r, n, n', acc, acc', h => by
    unfold cellsFrom
    split
    · exact cellsFrom_names r _ _ _ _ (by simp [h])
    · exact cellsFrom_names r _ _ _ _ h

noncomputable def cellNames (scope : Scope) : List Str := (cellsFrom 0 scope.names []).map (·.1)
noncomputable def envCheckC (scope : Scope) (ns : List Str) : Bool :=
  scope.kind == .function && !scope.isCoroutine && !scope.isGenerator && decide (cellNames scope).Nodup && decide ns.Nodup &&
    ns.all fun x => ((scope.names.lookup x == some .local) || (scope.names.lookup x == some .cell && (cellNames scope).contains x)) && !(x == ("__debug__" : Str)) && !(x == ("__classdict__" : Str))

theorem bindL_other {kindOf : Str → Option NameKind} {x : Str} : ∀ {l : List (Str × Value)} {m : Str → Option Value}, (∀ p ∈ l, p.1 ≠ x) → bindL kindOf l m x = m x
  | [], _, _ => rfl
  | (n, v) :: r, m, h => by
    unfold bindL
    rw [bindL_other fun p hp => h p (.tail _ hp)]
    split
    · simp [Ne.symm (h (n, v) (.head _))]
    · rfl
theorem bindC_other {kindOf : Str → Option NameKind} {x : Str} : ∀ {l : List (Str × Value)} {m : Str → Option Value}, (∀ p ∈ l, p.1 ≠ x) → bindC kindOf l m x = m x
  | [], _, _ => rfl
  | (n, v) :: r, m, h => by
    unfold bindC
    rw [bindC_other fun p hp => h p (.tail _ hp)]
    split
    · rfl
    · simp [Ne.symm (h (n, v) (.head _))]
theorem bindL_at {kindOf : Str → Option NameKind} {x : Str} {w : Value} (k : kindOf x = some .local) : ∀ {l : List (Str × Value)} {m : Str → Option Value}, (l.map (·.1)).Nodup → (x, w) ∈ l → bindL kindOf l m x = some w
  | (n, v) :: r, m, nd, h => by
    rw [List.map_cons, List.nodup_cons] at nd
    unfold bindL
    cases h with
    | head =>
      rw [bindL_other fun p hp q => nd.1 (by have h2 : p.1 ∈ r.map (·.1) := List.mem_map_of_mem hp; rw [q] at h2; exact h2), if_pos k]
      simp
    | tail _ h => exact bindL_at k nd.2 h
theorem bindC_at {kindOf : Str → Option NameKind} {x : Str} {w : Value} (k : kindOf x = some .cell) : ∀ {l : List (Str × Value)} {m : Str → Option Value}, (l.map (·.1)).Nodup → (x, w) ∈ l → bindC kindOf l m x = some w
  | (n, v) :: r, m, nd, h => by
    rw [List.map_cons, List.nodup_cons] at nd
    unfold bindC
    cases h with
    | head =>
      rw [bindC_other fun p hp q => nd.1 (by have h2 : p.1 ∈ r.map (·.1) := List.mem_map_of_mem hp; rw [q] at h2; exact h2), if_neg (by rw [k]; decide)]
      simp
    | tail _ h => exact bindC_at k nd.2 h

theorem VR.blankC {φ : Fz} {env : Env} {h : Heap} {m : Str → Option Value} : ∀ {rest : List Str}, (∀ x ∈ rest, env.kindOf x = some .local ∨ (env.kindOf x = some .cell ∧ ∃ c ov, env.cells.lookup x = some c ∧ h.IsCell c ov)) → VR φ env h m rest (rest.map fun _ => none)
  | [], _ => trivial
  | r :: rest, hk => by
    refine ⟨?_, VR.blankC fun x hx => hk x (.tail _ hx)⟩
    rcases hk r (.head _) with k | ⟨k, c, ov, l, hc⟩
    · exact .inl ⟨k, fun mv q => by cases q⟩
    · exact .inr ⟨c, .inl k, l, ov, hc, fun mv q => by cases q⟩
theorem VR.initC {φ : Fz} {env : Env} {h : Heap} {m cm : Str → Option Value} {rest : List Str} {xs : List MV} {ws : List Value} (hr : RVs φ xs ws) : ∀ {ps : List Str}, (∀ x w, (x, w) ∈ ps.zip ws → (env.kindOf x = some .local → m x = some w) ∧ (env.kindOf x = some .cell → cm x = some w)) → ps.length = xs.length →
    (∀ x ∈ ps ++ rest, env.kindOf x = some .local ∨ (env.kindOf x = some .cell ∧ ∃ c, env.cells.lookup x = some c ∧ h.IsCell c (cm x))) → VR φ env h m (ps ++ rest) (xs.map some ++ rest.map fun _ => none) := by
  induction xs generalizing ws with
  | nil =>
    intro ps _ hl hk
    have : ps = [] := List.length_eq_zero_iff.mp hl
    subst this
    refine VR.blankC fun x hx => ?_
    rcases hk x hx with k | ⟨k, c, l, hc⟩
    · exact .inl k
    · exact .inr ⟨k, c, _, l, hc⟩
  | cons x xs ih =>
    intro ps hm hl hk
    cases hr with
    | cons r hr =>
      cases ps with
      | nil => simp at hl
      | cons p ps =>
        refine ⟨?_, ih hr (fun y w' h => hm y w' (.tail _ h)) (by simpa using hl) fun y hy => hk y (.tail _ hy)⟩
        obtain ⟨m1, m2⟩ := hm p _ (.head _)
        rcases hk p (.head _) with k | ⟨k, c, l, hc⟩
        · refine .inl ⟨k, fun mv q => ?_⟩
          cases q
          exact ⟨_, m1 k, r⟩
        · refine .inr ⟨c, .inl k, l, _, hc, fun mv q => ?_⟩
          cases q
          exact ⟨_, m2 k, r⟩

theorem lookup_some_of_mem {α : Type} {x : Str} : ∀ {l : List (Str × α)}, x ∈ l.map (·.1) → ∃ c, l.lookup x = some c
  | (n, v) :: r, h => by
    rw [List.lookup_cons]
    cases hb : x == n with
    | true => exact ⟨v, rfl⟩
    | false =>
      rw [List.map_cons] at h
      cases h with
      | head => simp at hb
      | tail _ h => exact lookup_some_of_mem h

theorem pairwise_map_fst {α : Type} {l : List (Str × α)} (h : (l.map (·.1)).Nodup) : l.Pairwise fun a b => a.1 ≠ b.1 := List.pairwise_map.mp h

theorem MCall.enterC {W : Wd} {k : Nat} {f : Addr} {args : List MV} {σ : Store} {Q : MV → Store → Prop} {oc : Value} {od : Option Addr} {osl : Array (Option Value)} {name qual : Str} {params : Arguments} {body : List Stmt} {scope : Scope} {dV kV doc pm cdv ct : Value} {an : Option Addr} {ps ns : List Str} {vals : List (Option MV)} (rest : List Str)
    (hK : W.K.lookup f = some ⟨oc, od, .func (fnOf name qual params body scope dV kV doc pm an cdv ct), osl⟩) (hcd : codeIn W.K cdv qual = true)
    (hb : ∀ (s : Shared) (vs : List Value), vs.length = args.length → BindsTo s (fnOf name qual params body scope dV kV doc pm an cdv ct) ⟨vs, []⟩ (ps.zip vs))
    (hl : ps.length = args.length) (hn : ps ++ rest = ns) (hv : (args.map some ++ rest.map fun _ => none) = vals) (hc : envCheckC scope ns = true)
    (h : ∀ L, MS W k (execs body (envOfC qual scope L f cdv)) (envOfC qual scope L f cdv) ns vals σ fun fl _ σ' => Q (retOf fl) σ') : MCall W (k + 1) f args σ Q := by
  subst hn
  subst hv
  intro A φ δ s vs hA S hv
  simp only [envCheckC, Bool.and_eq_true, Bool.or_eq_true, beq_iff_eq, Bool.not_eq_true', decide_eq_true_eq, List.all_eq_true, bne_iff_ne, ne_eq, List.contains_iff_mem] at hc
  obtain ⟨⟨⟨⟨⟨c1, c2⟩, c3⟩, c4⟩, c5⟩, c6⟩ := hc
  have hlen := hv.length
  have X := S.X
  have hnm : ∀ n, (cellsFrom n scope.names []).map (·.1) = cellNames scope := fun n => cellsFrom_names _ _ _ _ _ rfl
  have hkd : ∀ x ∈ ps ++ rest, scope.names.lookup x = some .local ∨ (scope.names.lookup x = some .cell ∧ ∃ c, (cellsFrom (s.heap.objs.size + 1) scope.names []).lookup x = some c) := fun x hx => by
    rcases (c6 x hx).1.1 with q | ⟨q, q2⟩
    · exact .inl q
    · exact .inr ⟨q, lookup_some_of_mem (by rw [hnm]; exact q2)⟩
  have ndp : ps.Nodup := (List.nodup_append.mp c5).1
  have hl2 : ps.length = vs.length := by rw [hl, hlen]
  refine codeC_defC (fd := fnOf name qual params body scope dV kV doc pm an cdv ct) (body := body) (by have := hA.d; omega) (X _ _ hK) rfl (W.T.nolimit.keeps S.baseh) (codeRec_of X hcd) rfl (hb s vs hlen.symm) rfl (fun x hx => ?_) (fun s₁ IC => ?_) c2 c3 c1
  · rcases hkd x.1 (List.mem_append_left _ (List.of_mem_zip hx).1) with q | ⟨q, c, q2⟩
    · exact .inl q
    · refine .inr ⟨q, ?_⟩
      show ((cellsFrom (s.heap.objs.size + 1) scope.names []).lookup x.1).isSome = true
      rw [q2]; rfl
  obtain ⟨l, hfr⟩ := hA.fr
  have hA' : OkE k (A.deeper (envOfC qual scope s.heap.objs.size f cdv)) (envOfC qual scope s.heap.objs.size f cdv) := ⟨⟨hA.h, by have := hA.d; show A.depth + 1 + 3 * k + 100 < _; omega, by have := hA.u; show A.units + 3 + 40 * k < _; omega, _, by show A.frames.map _ = _; rw [hfr]; rfl⟩, envOfC qual scope s.heap.objs.size f cdv, l, by show A.frames.map _ = _; rw [hfr]; rfl, c3, c2, rfl, rfl⟩
  have IC' : InCallC s (envOfC qual scope s.heap.objs.size f cdv).locals (bindL (envOfC qual scope s.heap.objs.size f cdv).kindOf (ps.zip vs) fun _ => none) (cellsFrom (s.heap.objs.size + 1) scope.names [])
      (bindC (envOfC qual scope s.heap.objs.size f cdv).kindOf (ps.zip vs) fun _ => none) s₁ := IC
  obtain ⟨h₁, tk, rfl, hk⟩ := IC'.done
  have S' : St W φ σ δ { s with heap := h₁, toks := tk } := S.grow hk rfl rfl
  have hce : ∀ p ∈ cellsFrom (s.heap.objs.size + 1) scope.names [], s.heap.objs.size < p.2 := fun p hp => IC'.above p.1 p.2 hp
  have F : Fm W φ σ δ (envOfC qual scope s.heap.objs.size f cdv) (ps ++ rest) (args.map some ++ rest.map fun _ => none) { s with heap := h₁, toks := tk } := by
    have hnd : ((cellsFrom (s.heap.objs.size + 1) scope.names []).map (·.1)).Nodup := by rw [hnm]; exact c4
    refine ⟨S', ⟨c1, c5, fun x hx => ⟨(c6 x hx).1.2, (c6 x hx).2⟩, rfl, rfl, IC'.apart, pairwise_map_fst hnd⟩, S.fresh_φ (Nat.le_refl _), S.fresh_σ (Nat.le_refl _), fun a C vs e => S.fresh_δ (Nat.le_refl _) e, fun p hp => ?_, fun p hp => ?_, _, IC'.toInCall.ns, ?_⟩
    · have := hce p hp
      exact ⟨S.fresh_φ (Nat.le_of_lt this), S.fresh_σ (Nat.le_of_lt this), Nat.ne_of_gt this, fun a C vs e => S.fresh_δ (Nat.le_of_lt this) e⟩
    · exact ⟨_, IC'.cell p.1 p.2 (lookup_of_nodup hnd hp)⟩
    · refine VR.initC (cm := bindC (envOfC qual scope s.heap.objs.size f cdv).kindOf (ps.zip vs) fun _ => none) hv (fun x w hx => ⟨fun q => bindL_at q (by rw [map_zip_fst hl2]; exact ndp) hx, fun q => bindC_at q (by rw [map_zip_fst hl2]; exact ndp) hx⟩) hl fun x hx => ?_
      rcases hkd x hx with q | ⟨q, c, q2⟩
      · exact .inl q
      · exact .inr ⟨q, c, q2, IC'.cell x c q2⟩
  refine wpC_mono (h _ _ φ δ _ hA' F) ?_ fun _ _ e => e.elim
  rintro fl s2 ⟨mv, vals', σ', φ', δ', k2, r, F2, q⟩
  refine ⟨_, rfl, retOf mv, σ', φ', δ', k2, ?_, F2.st, q⟩
  cases r with
  | ret r => exact r
  | _ => exact .none
end Mine
end
section
open PySem PySem.W PyProof.Rows PySem.Calls
namespace Mine

/-! comprehensions that read cells of the frame around them -/
section
variable {M : Model} {A : Around} {E : Value → Shared → Prop} {s : Shared} {env : Env}
theorem wpC_attempt {α : Type} {m : Sem α} {Q : Except Value α → Shared → Prop} (h : wpC M A m (fun a => Q (.ok a)) (fun e => Q (.error e)) s) : wpC M A m.attempt Q E s := fun Γ p i c => by rw [Sem.wp_attempt]; exact h Γ p i c
theorem wpC_comprehension {e : Expr} {scope : Scope} {pos : Pos} {newAcc first : Sem Value} {g : Comprehension} {gs : List Comprehension} {cl : List (Str × Addr)} {Q : Value → Shared → Prop}
    (hcl : clausesOf e = g :: gs) (hs : ∀ x, foldedSetIterable g.iter env x = pure x) (hclos : closureFor scope env = pure cl)
    (hkind : scope.kind = .function) (hnames : ∀ x ∈ scope.names, x.2 = .local → scope.names.lookup x.1 = some .local)
    (h : wpC M A first (fun x s₁ => wpC M A (pyIter x) (fun it s₂ => wpC M A newAcc (fun acc s₃ =>
      wpC M A (newFunctionEnv scope env.globals cl [] env.qual none .none (some env)) (fun cenv s₄ =>
        codeC M A (.compStart e 0 it acc { cenv with scope := relabel scope env }) (fun r s' => (∃ f, r = .ok f) ∧ ∃ m, s'.heap.Ns cenv.locals m ∧ ∀ h', Heap.SameBut cenv.locals s'.heap h' → Q acc { s' with heap := h' }) s₄) E s₃) E s₂) E s₁) E s) :
    wpC M A (comprehension e scope env pos newAcc false first none) Q E s := by
  unfold comprehension
  rw [hclos, hcl]
  refine wpC_then h fun x s₁ h₁ => wpC_at ?_
  dsimp only
  rw [hs x]
  refine wpC_bind (wpC_pure (wpC_then (wpC_holding h₁) fun it s₂ h₂ => ?_))
  simp only [Option.isSome_none, Bool.false_eq_true, if_false]
  refine wpC_then h₂ fun acc s₃ h₃ => wpC_bind (wpC_pure (wpC_then h₃ fun cenv s₄ h₄ => ?_))
  have hv : ∀ x ∈ (scope.names.filter fun x => (x.2 == .local || x.2 == .cell) && x.1 != (".0" : Str)).reverse, x.2 = .local →
      Env.kindOf { cenv with scope := relabel scope env } x.1 = some .local := fun x hx hl => lookup_relabel_local (hnames x (List.mem_filter.mp (List.mem_reverse.mp hx)).1 hl)
  refine wpC_holding (wpC_bind (wpC_attempt (wpC_holding (wpC_run (codeC_mono h₄ fun r s' hr => ?_)))))
  obtain ⟨⟨f, rfl⟩, m, hn, hr⟩ := hr
  exact wpC_bind (wpC_holding (.of (wpAny_comp_letGo (cenv := { cenv with scope := relabel scope env }) hkind _ s' m hv hn fun h' m' _ hs' => wpC_pure (hr h' hs'))))
end
section
variable {W : Wd} {A : Around} {s : Shared} {env : Env} {R : Result → Shared → Prop}
theorem codeC_compStart {elt target iter ifs scope pos it acc}
    (h0 : codeC W.M A (.compLoop (.ListComp elt [⟨target, iter, ifs, 0⟩] scope pos) 0 it acc env) R s)
    (h : ∀ (P : Value → Shared → Prop), P it s → wpAny W.M A (pyIter it) P NoE s) :
    codeC W.M A (.compStart (.ListComp elt [⟨target, iter, ifs, 0⟩] scope pos) 0 it acc env) R s := by
  refine codeC_tree rfl ?_
  show wpC _ A ((compStart (.ListComp elt [⟨target, iter, ifs, 0⟩] scope pos) 0 it acc env).onRaise (fun x => do noteFrame x env; standAt theWindowsPlace)) _ _ s
  refine wpC_quiet ?_
  unfold compStart
  show wpC _ _ (ask >>= _) _ _ s
  refine wpC_bind (.of (wpAny_askSetting ?_))
  split
  · first
      | exact wpC_bind (wpC_pure (wpC_pure (And.intro rfl h0)))
      | exact wpC_pure (And.intro rfl h0)
  · refine wpC_bind (.of (wpAny_rule ?_))
    show wpC _ _ (standAt iter.pos >>= _) _ _ s
    exact wpC_at (wpC_bind (.of (h _ (wpC_pure (And.intro rfl h0)))))
end

section
variable {W : Wd} {k : Nat} {env : Env} {ns : List Str} {vals : List (Option MV)} {σ : Store} {A : Around} {φ : Fz} {δ : Addr → Addr} {s : Shared}

noncomputable abbrev testsOf (ifs : List Expr) (env : Env) : Sem Bool := forIn ifs true fun c r => if r = true then do let ok ← isTrue c env (eval c env); pure (ForInStep.yield ok) else pure (ForInStep.yield r)
theorem mt_none {Q : Bool → Store → Prop} (q : Q true σ) : MT W k (testsOf [] env) env ns vals σ Q := fun A φ δ s hA F => by
  show wpC _ _ (forIn [] true _) _ _ _
  rw [List.forIn_nil]
  exact wpC_pure ⟨true, σ, φ, δ, Kp.refl φ, rfl, F, q⟩
theorem mt_one {c : Expr} {Q : Bool → Store → Prop} (h : MT W k (isTrue c env (eval c env)) env ns vals σ Q) : MT W k (testsOf [c] env) env ns vals σ Q := fun A φ δ s hA F => by
  simp only [testsOf, List.forIn_cons, List.forIn_nil, if_true]
  exact wpC_bind (wpC_bind (wpC_mono (h A φ δ s hA F) (fun b s1 hb => wpC_pure (wpC_pure hb)) fun _ _ e => e))

structure Steps (W : Wd) (k : Nat) (env : Env) (ns : List Str) (σ₀ : Store) (D I : Addr) (items : List MV) (At : Nat → Obj → Prop) : Prop where
  item : ∀ i v A φ δ s vals acc o, items[i]? = some v → OkE k A env → Fm W φ (σ₀.put D (.lst acc)) δ env ns vals s → At i o → s.heap.get? I = some o → ∀ Q : Option Value → Shared → Prop,
    (∀ w h' tk o', RV φ v w → At (i + 1) o' → h'.get? I = some o' → (∀ b ob, b ≠ I → s.heap.get? b = some ob → h'.get? b = some ob) → Q (some w) { s with heap := h', toks := tk }) → wpAny W.M A (pyNext (.ref I)) Q NoE s
  stop : ∀ A φ δ s vals acc o, OkE k A env → Fm W φ (σ₀.put D (.lst acc)) δ env ns vals s → At items.length o → s.heap.get? I = some o → ∀ Q : Option Value → Shared → Prop,
    (∀ h' tk, (∀ b ob, b ≠ I → s.heap.get? b = some ob → h'.get? b = some ob) → Q none { s with heap := h', toks := tk }) → wpAny W.M A (pyNext (.ref I)) Q NoE s
  free : ∀ i o vs n, At i o → o ≠ tupObj vs n

theorem comp_core {x : Str} {px : Pos} {elt iter : Expr} {ifs : List Expr} {scope : Scope} {pos : Pos} {I D : Addr} {σ₀ : Store} {ys : List Str} {cap : List (Option MV)} {items : List MV} {At : Nat → Obj → Prop} (N : Steps W k env (x :: ys) σ₀ D I items At)
    (hx : env.kindOf x = some .local) (hn : OkName env x) (hD : σ₀ D = none) (Inv : Nat → List MV → Prop) (hlen : ∀ i acc, Inv i acc → acc.length ≤ 1000000)
    (step : ∀ i v acc, items[i]? = some v → Inv i acc → MT W k (testsOf ifs env) env (x :: ys) (some v :: cap) (σ₀.put D (.lst acc)) fun b σ1 => σ1 = σ₀.put D (.lst acc) ∧
      if b = true then MX W k (eval elt env) env (x :: ys) (some v :: cap) (σ₀.put D (.lst acc)) (fun y σ2 => σ2 = σ₀.put D (.lst acc) ∧ Inv (i + 1) (acc ++ [y])) else Inv (i + 1) acc) :
    ∀ (n i : Nat) (A : Around) (φ : Fz) (δ : Addr → Addr) (s : Shared) (v0 : Option MV) (acc : List MV) (o : Obj), items.length - i = n → i ≤ items.length → OkE k A env → Fm W φ (σ₀.put D (.lst acc)) δ env (x :: ys) (v0 :: cap) s → Inv i acc →
      Off φ (σ₀.put D (.lst acc)) δ env I → At i o → s.heap.get? I = some o →
      codeC W.M A (.compLoop (.ListComp elt [⟨.Name x px, iter, ifs, 0⟩] scope pos) 0 (.ref I) (.ref D) env)
        (fun r s' => r = .ok .next ∧ ∃ acc' v0' φ' δ', Kp φ φ' ∧ Fm W φ' (σ₀.put D (.lst acc')) δ' env (x :: ys) (v0' :: cap) s' ∧ Inv items.length acc') s := by
  have pp : ∀ (σ : Store) (a : Addr) (o o' : MO), (σ.put a o).put a o' = σ.put a o' := fun σ a o o' => by funext b; unfold Store.put; split <;> rfl
  intro n
  induction n with
  | zero =>
    intro i A φ δ s v0 acc o hni hle hA F hi off ho hget
    have hie : i = items.length := by omega
    subst hie
    refine codeC_tree rfl ?_
    show wpC _ A ((compTurn (.ListComp elt [⟨.Name x px, iter, ifs, 0⟩] scope pos) 0 (.ref I) (.ref D) env).onRaise (fun x => do noteFrame x env; theTreesLotGoes x)) _ _ s
    refine wpC_quiet ?_
    rw [compTurn_list]
    refine wpC_at (wpC_bind (.of (N.stop A φ δ s _ acc o hA F ho hget _ fun h' tk hk => ?_)))
    exact wpC_pure ⟨rfl, acc, v0, φ, δ, Kp.refl φ, F.change (tk := tk) off hk, hi⟩
  | succ n ih =>
    intro i A φ δ s v0 acc o hni hle hA F hi off ho hget
    have hlt : i < items.length := by omega
    obtain ⟨v, hv⟩ : ∃ v, items[i]? = some v := ⟨items[i], List.getElem?_eq_getElem hlt⟩
    refine codeC_tree rfl ?_
    show wpC _ A ((compTurn (.ListComp elt [⟨.Name x px, iter, ifs, 0⟩] scope pos) 0 (.ref I) (.ref D) env).onRaise (fun x => do noteFrame x env; theTreesLotGoes x)) _ _ s
    refine wpC_quiet ?_
    rw [compTurn_list]
    refine wpC_at (wpC_bind (.of (N.item i v A φ δ s _ acc o hv hA F ho hget _ fun w h' tk o' rw' ho' hget' hk => ?_)))
    have F1 : Fm W φ (σ₀.put D (.lst acc)) δ env (x :: ys) (v0 :: cap) { s with heap := h', toks := tk } := F.change (tk := tk) off hk
    have hb : W.g₀.get? I = none := by
      cases q : W.g₀.get? I with
      | none => rfl
      | some o => have := F.st.base _ _ q; rw [off.f] at this; cases this
    have F2 := F1.freezeOff off hget'
    have kp := Fz.put_kp (o := o') off.f
    refine wpC_bind (wpC_pure ?_)
    have asg : G1 RU W k (assign (.Name x px) env) v env (x :: ys) (v0 :: cap) (σ₀.put D (.lst acc)) fun _ vals1 σ1 => vals1 = some v :: cap ∧ σ1 = σ₀.put D (.lst acc) := as_name hn .head ⟨rfl, rfl⟩
    refine wpC_bind (wpC_mono (asg A _ δ _ w hA F2 (rw'.mono kp)) (fun _ s3 ⟨_, vals3, σ3, φ3, δ3, k3, _, F3, e3, e4⟩ => ?_) fun _ _ e => e)
    subst e3 e4
    refine wpC_bind (wpC_mono (step i v acc hv hi A φ3 δ3 s3 hA F3) (fun b s4 ⟨b', σ4, φ4, δ4, k4, r4, F4, e4, h4⟩ => ?_) fun _ _ e => e)
    subst e4
    cases r4
    have kI : ∀ φx, Kp φ4 φx → φx I = some o' := fun φx kx => kx _ _ (k4 _ _ (k3 _ _ Fz.put_self))
    have fin : ∀ φx δx s' acc', Kp φ4 φx → Fm W φx (σ₀.put D (.lst acc')) δx env (x :: ys) (some v :: cap) s' → Inv (i + 1) acc' → codeC W.M A (.compLoop (.ListComp elt [⟨.Name x px, iter, ifs, 0⟩] scope pos) 0 (.ref I) (.ref D) env)
        (fun r s' => r = .ok .next ∧ ∃ acc' v0' φ' δ', Kp φ φ' ∧ Fm W φ' (σ₀.put D (.lst acc')) δ' env (x :: ys) (v0' :: cap) s' ∧ Inv items.length acc') s' := by
      intro φx δx s' acc' kx Fx hix
      obtain ⟨F5, off5, ho5, tp⟩ := Fx.thaw (kI φx kx) (fun vs n => N.free _ _ vs n ho') hb off.l off.c
      have kp5 : Kp φ (φx.drop [I]) := fun b ob e => by
        have hne : b ≠ I := fun q => by subst q; rw [off.f] at e; cases e
        unfold Fz.drop
        rw [if_neg (by simpa using hne)]
        exact kx _ _ (k4 _ _ (k3 _ _ (kp _ _ e)))
      refine codeC_mono (ih (i + 1) A _ δx s' (some v) acc' o' (by omega) (by omega) hA F5 hix off5 ho' ho5) ?_
      rintro r s'' ⟨rfl, acc2, v2, φ2, δ2, k2, F6, h6⟩
      exact ⟨rfl, acc2, v2, φ2, δ2, kp5.trans k2, F6, h6⟩
    cases b with
    | false => exact wpC_pure (And.intro rfl (fin φ4 δ4 s4 acc (Kp.refl _) F4 h4))
    | true =>
      refine wpC_bind (wpC_bind (wpC_mono (h4 A φ4 δ4 s4 hA F4) (fun y s5 ⟨my, σ5, φ5, δ5, k5, r5, F5, e5, h5⟩ => ?_) fun _ _ e => e))
      subst e5
      obtain ⟨vs, nn, eo, L, rv⟩ := (F5.st.objs D _ Store.put_self).list
      refine wpC_bind (.of (append_at eo (fun h6 SB hD6 => ?_) (by
        have := rv.length
        have h7 := hlen i acc hi
        have : vs.size ≤ 1000000 := by rw [← Array.length_toList, ← this]; exact h7
        exact big_size this)))
      refine wpC_pure (wpC_pure (And.intro rfl (fin φ5 δ5 _ (acc ++ [my]) k5 ?_ h5)))
      have := F5.update (a := D) (o₀ := .lst acc) (o := .lst (acc ++ [my])) (tk := s5.toks) Store.put_self (fun b o hb e => SB.extBut b o hb e) (fun _ _ e => by cases e) ⟨vs.push y, nn + 1, hD6, by rw [Array.toList_push]; exact rv.append (.cons r5 .nil)⟩
      rw [pp] at this
      exact this
end
end Mine
end
section
open PySem PySem.W PyProof.Rows PySem.Calls
namespace Mine

/-! the frame of a comprehension: in and out -/
noncomputable def freesOf (scope : Scope) : List Str := (scope.names.filter fun x => x.2 == .free).map (·.1)
noncomputable def clOf (scope : Scope) (env : Env) : List (Str × Addr) := (freesOf scope).reverse.map fun n => (n, (env.cells.lookup n).getD 0)
noncomputable def compCheck (scope : Scope) (env : Env) (x : Str) (ns ys : List Str) : Bool :=
  scope.kind == .function && (scope.names.all fun y => y.2 != .cell) && (scope.names.all fun y => y.2 != .local || scope.names.lookup y.1 == some .local) && scope.names.lookup x == some .local &&
  (scope.names.all fun y => y.2 != .free || (env.cells.lookup y.1).isSome) && decide (freesOf scope).Nodup && (env.cells.all fun p => (freesOf scope).contains p.1) &&
  (ns.all fun n => env.kindOf n == some .local || ys.contains n) &&
  (ys.all fun y => env.kindOf y == some .cell && (freesOf scope).contains y && scope.names.lookup y == some .free) && decide (x :: ys).Nodup &&
  ((x :: ys).all fun y => !(y == ("__debug__" : Str)) && !(y == ("__classdict__" : Str)))

theorem closure_go {env : Env} : ∀ {names : List (Str × NameKind)} {acc : List (Str × Addr)}, (∀ y ∈ names, y.2 = .free → ∃ c, env.cells.lookup y.1 = some c) →
    (forIn names acc (fun (x : Str × NameKind) (r : List (Str × Addr)) => if (x.2 == NameKind.free) = true then do let a ← cellOf env x.1; pure (ForInStep.yield ((x.1, a) :: r)) else pure (ForInStep.yield r)) : Sem (List (Str × Addr))) =
      pure (((names.filter fun x => x.2 == .free).map (·.1)).reverse.map (fun n => (n, (env.cells.lookup n).getD 0)) ++ acc)
  | [], acc, _ => by rw [List.forIn_nil]; rfl
  | (n, k) :: r, acc, h => by
    rw [List.forIn_cons]
    by_cases hk : (k == NameKind.free) = true
    · obtain ⟨c, hc⟩ := h (n, k) (.head _) (by simpa using hk)
      have hco : cellOf env n = pure c := by unfold cellOf; rw [hc]
      rw [show ((n, k) :: r).filter (fun x => x.2 == .free) = (n, k) :: r.filter (fun x => x.2 == .free) from List.filter_cons_of_pos hk]
      rw [if_pos hk]
      show (cellOf env n >>= fun a => pure (ForInStep.yield ((n, a) :: acc))) >>= _ = _
      rw [hco]
      show (forIn r ((n, c) :: acc) _ : Sem (List (Str × Addr))) = _
      rw [closure_go fun y hy => h y (.tail _ hy)]
      simp [hc]
    · rw [show ((n, k) :: r).filter (fun x => x.2 == .free) = r.filter (fun x => x.2 == .free) from List.filter_cons_of_neg hk]
      rw [if_neg hk]
      exact closure_go fun y hy => h y (.tail _ hy)
theorem closure_eq {scope : Scope} {env : Env} (h : ∀ y ∈ scope.names, y.2 = .free → ∃ c, env.cells.lookup y.1 = some c) : closureFor scope env = pure (clOf scope env) := by
  unfold closureFor
  have := closure_go (acc := []) h
  rw [List.append_nil] at this
  show (forIn scope.names [] _ >>= fun cs => pure cs) = _
  refine Eq.trans ?_ (show (pure (clOf scope env) >>= fun cs => pure cs : Sem _) = pure (clOf scope env) from rfl)
  congr 1
theorem lookup_relabel_free {env : Env} (hk : env.scope.kind = .function) {x : Str} (hc : env.kindOf x = some .cell) : ∀ {names : List (Str × NameKind)}, names.lookup x = some .free →
    (names.map fun (n, k) => if (k == NameKind.free && env.scope.kind == .function && env.kindOf n == some .cell) then (n, NameKind.cell) else (n, k)).lookup x = some .cell
  | [], h => by simp at h
  | (n, k) :: r, h => by
    have ih := @lookup_relabel_free env hk x hc r
    show List.lookup x ((if (k == NameKind.free && env.scope.kind == .function && env.kindOf n == some .cell) = true then (n, NameKind.cell) else (n, k)) :: _) = _
    cases hx : x == n with
    | true =>
      simp only [List.lookup_cons, hx] at h
      cases h
      have := beq_iff_eq.mp hx
      subst this
      simp [List.lookup_cons, hk, hc]
    | false =>
      simp only [List.lookup_cons, hx] at h
      by_cases hcc : (k == NameKind.free && env.scope.kind == .function && env.kindOf n == some .cell) = true
      · rw [if_pos hcc]; simp only [List.lookup_cons, hx]; exact ih h
      · rw [if_neg hcc]; simp only [List.lookup_cons, hx]; exact ih h
theorem lookup_mapF {f : Str → Addr} {y : Str} : ∀ {l : List Str}, y ∈ l → (l.map fun n => (n, f n)).lookup y = some (f y)
  | n :: l, h => by
    simp only [List.map_cons, List.lookup_cons]
    cases hy : y == n with
    | true => rw [beq_iff_eq.mp hy]
    | false => cases h with
      | head => simp at hy
      | tail _ h => exact lookup_mapF h

structure CompOK (scope : Scope) (env : Env) (x : Str) (ns ys : List Str) : Prop where
  kind : scope.kind = .function
  nocell : ∀ y ∈ scope.names, y.2 ≠ .cell
  locals : ∀ y ∈ scope.names, y.2 = .local → scope.names.lookup y.1 = some .local
  hx : scope.names.lookup x = some .local
  frees : ∀ y ∈ scope.names, y.2 = .free → ∃ c, env.cells.lookup y.1 = some c
  nodupF : (freesOf scope).Nodup
  all : ∀ p ∈ env.cells, p.1 ∈ freesOf scope
  outer : ∀ n ∈ ns, env.kindOf n = some .local ∨ n ∈ ys
  yok : ∀ y ∈ ys, env.kindOf y = some .cell ∧ y ∈ freesOf scope ∧ scope.names.lookup y = some .free
  nodup : (x :: ys).Nodup
  plain : ∀ y ∈ x :: ys, (y == ("__debug__" : Str)) = false ∧ (y == ("__classdict__" : Str)) = false
theorem CompOK.of {scope : Scope} {env : Env} {x : Str} {ns ys : List Str} (h : compCheck scope env x ns ys = true) : CompOK scope env x ns ys := by
  unfold compCheck at h
  simp only [Bool.and_eq_true, decide_eq_true_eq] at h
  obtain ⟨⟨⟨⟨⟨⟨⟨⟨⟨⟨a1, a2⟩, a3⟩, a4⟩, a5⟩, a6⟩, a7⟩, a8⟩, a9⟩, a10⟩, a11⟩ := h
  rw [List.all_eq_true] at a2 a3 a5 a7 a8 a9 a11
  refine ⟨by simpa using a1, fun y hy => by simpa using a2 y hy, fun y hy e => ?_, by simpa using a4, fun y hy e => ?_, a6, fun p hp => by simpa using a7 p hp, fun n hn => by simpa using a8 n hn, fun y hy => ?_, a10, fun y hy => by simpa using a11 y hy⟩
  · have := a3 y hy; rw [e] at this; simpa using this
  · have := a5 y hy; rw [e] at this; exact Option.isSome_iff_exists.mp (by simpa using this)
  · have := a9 y hy
    simp only [Bool.and_eq_true, beq_iff_eq, List.contains_iff_mem] at this
    exact ⟨this.1.1, this.1.2, this.2⟩

noncomputable def AtAll (ns : List Str) (vals : List (Option MV)) : List Str → List MV → Prop
  | y :: ys, v :: vs => At ns vals y v ∧ AtAll ns vals ys vs
  | [], [] => True
  | _, _ => False

section
variable {W : Wd} {k : Nat} {env : Env} {ns : List Str} {vals : List (Option MV)} {σ : Store} {A : Around} {φ : Fz} {δ : Addr → Addr} {s : Shared} {scope : Scope} {x : Str} {ys : List Str} {vs : List MV}

theorem CompOK.clIn (c : CompOK scope env x ns ys) : ∀ p ∈ clOf scope env, p ∈ env.cells := by
  intro p hp
  obtain ⟨n, hn, rfl⟩ := List.mem_map.mp hp
  have hn' := List.mem_reverse.mp hn
  obtain ⟨q, hq, rfl⟩ := List.mem_map.mp hn'
  obtain ⟨h1, h2⟩ := List.mem_filter.mp hq
  obtain ⟨d, hd⟩ := c.frees q h1 (by simpa using h2)
  rw [hd]
  exact mem_of_lookup hd
theorem CompOK.clKeys (c : CompOK scope env x ns ys) : ((clOf scope env).map (·.1)).Nodup := by
  have : (clOf scope env).map (·.1) = (freesOf scope).reverse := by unfold clOf; rw [List.map_map]; exact List.map_id _
  rw [this]
  exact (List.reverse_perm _).nodup_iff.mpr c.nodupF
theorem CompOK.clLook (c : CompOK scope env x ns ys) {y : Str} (hy : y ∈ freesOf scope) : (clOf scope env).lookup y = env.cells.lookup y := by
  unfold clOf
  rw [lookup_mapF (List.mem_reverse.mpr hy)]
  obtain ⟨q, hq, rfl⟩ := List.mem_map.mp hy
  obtain ⟨h1, h2⟩ := List.mem_filter.mp hq
  obtain ⟨d, hd⟩ := c.frees q h1 (by simpa using h2)
  rw [hd]; rfl
theorem CompOK.cellsIn (c : CompOK scope env x ns ys) (K : env.cells.Pairwise fun a b => a.1 ≠ b.1) : ∀ p ∈ env.cells, p ∈ clOf scope env := by
  intro p hp
  have hl : env.cells.lookup p.1 = some p.2 := lookup_of_nodup (List.pairwise_map.mpr K) hp
  have := c.clLook (c.all p hp)
  rw [hl] at this
  exact mem_of_lookup this

theorem pairwise_mono {α : Type} {r : α → α → Prop} {l l' : List α} : l'.Pairwise r → (∀ a b, r a b → r b a) → (∀ a ∈ l, a ∈ l') → (∀ a b, a ∈ l → b ∈ l → ¬ r a b → a = b) → l.Nodup → l.Pairwise r := by
  intro h sy hm he nd
  refine List.Pairwise.imp_of_mem ?_ nd
  intro a b ha hb hne
  by_cases q : r a b
  · exact q
  · exact absurd (he a b ha hb q) hne

theorem Fm.inC (F : Fm W φ σ δ env ns vals s) {C : Addr} {m0 : Str → Option Value} (c : CompOK scope env x ns ys) (ha : AtAll ns vals ys vs) (hN : s.heap.Ns C m0) (o : Off φ σ δ env C) :
    Fm W (φ.fill s.heap [env.locals]) σ δ (compEnvC scope (clOf scope env) C env) (x :: ys) (none :: vs.map some) s ∧ Kp φ (φ.fill s.heap [env.locals]) := by
  obtain ⟨m, N, V⟩ := F.vars
  obtain ⟨oL, esL, epL, hoL, hdL, _⟩ := id N
  have kp : Kp φ (φ.fill s.heap [env.locals]) := by
    intro a o e
    unfold Fz.fill
    split
    · exact F.st.keep a o e
    · exact e
  have fn : ∀ a, a ≠ env.locals → (φ.fill s.heap [env.locals]) a = φ a := fun a h => by unfold Fz.fill; rw [if_neg (by simpa using h)]
  have S : St W (φ.fill s.heap [env.locals]) σ δ s := by
    refine ⟨fun a o e => kp _ _ (F.st.base a o e), fun a o e => ?_, fun a o e => (F.st.objs a o e).grow (fun _ _ _ e => kp _ _ e) (fun _ q => q) (fun _ _ _ _ q => q), fun a o e => ?_, fun a C vs e => ⟨?_, (F.st.sepd a C vs e).2⟩, F.st.inj, F.st.gens, F.st.os⟩
    · unfold Fz.fill at e
      split at e
      · exact e
      · exact F.st.keep a o e
    · rw [fn a fun q => by rw [q, F.Lσ] at e; cases e]; exact F.st.sep a o e
    · rw [fn _ (F.Lδ a C vs e)]; exact (F.st.sepd a C vs e).1
  have nd2 : (clOf scope env).Nodup := by
    have := c.clKeys
    exact List.Pairwise.imp (S := (· ≠ ·)) (fun h q => h (congrArg Prod.fst q)) (List.pairwise_map.mp this)
  have ne1 : ∀ p q : Str × Addr, p ∈ env.cells → q ∈ env.cells → p.1 = q.1 → p = q := fun p q hp hq e => by
    have a := lookup_of_nodup (List.pairwise_map.mpr F.ok.keys) hp
    have b := lookup_of_nodup (List.pairwise_map.mpr F.ok.keys) hq
    rw [e] at a
    exact Prod.ext e (Option.some.inj (a.symm.trans b))
  refine ⟨⟨S, ⟨c.kind, c.nodup, c.plain, F.ok.glob, F.ok.blt, ?_, List.pairwise_map.mp c.clKeys⟩, ?_, o.s, o.d, fun p hp => ?_, fun p hp => F.cat p (c.clIn p hp), m0, hN, ?_⟩, kp⟩
  · refine pairwise_mono F.ok.cells (fun _ _ h => Ne.symm h) c.clIn (fun a b h1 h2 q => ?_) nd2
    have q' : a.2 = b.2 := Classical.byContradiction fun h => q h
    have h1' := c.clIn a h1
    have h2' := c.clIn b h2
    have : a.1 = b.1 := name_of_addr F.ok.cells (c := a.2) h1' (by rw [q']; exact h2')
    exact ne1 a b h1' h2' this
  · show (φ.fill s.heap [env.locals]) C = none
    rw [fn C o.l]; exact o.f
  · obtain ⟨q1, q2, q3, q4⟩ := F.cφ p (c.clIn p hp)
    exact ⟨by rw [fn _ q3]; exact q1, q2, o.c p (c.clIn p hp), q4⟩
  · refine ⟨.inl ⟨lookup_relabel_local c.hx, fun mv q => by cases q⟩, ?_⟩
    have : ∀ (ys' : List Str) (vs' : List MV), (∀ y ∈ ys', y ∈ ys) → AtAll ns vals ys' vs' → VR (φ.fill s.heap [env.locals]) (compEnvC scope (clOf scope env) C env) s.heap m0 ys' (vs'.map some) := by
      intro ys'
      induction ys' with
      | nil => intro vs' _ h; cases vs' <;> first | exact trivial | exact h.elim
      | cons y ys' ih =>
        intro vs' hm h
        cases vs' with
        | nil => exact h.elim
        | cons v vs' =>
          refine ⟨?_, ih vs' (fun y hy => hm y (.tail _ hy)) h.2⟩
          obtain ⟨e1, e2, e3⟩ := c.yok y (hm y (.head _))
          rcases V.at h.1 with ⟨k', _⟩ | ⟨d, _, l, ov, hc, hv⟩
          · rw [e1] at k'; cases k'
          · refine .inr ⟨d, .inl (lookup_relabel_free F.ok.kind e1 e3), (c.clLook e2).trans l, ov, hc, fun mv q => ?_⟩
            obtain ⟨w, q1, q2⟩ := hv mv q
            exact ⟨w, q1, q2.mono kp⟩
    exact this ys vs (fun _ h => h) ha

theorem At.uniq {ns : List Str} {vals : List (Option MV)} {x : Str} {v w : MV} (nd : ns.Nodup) (a : At ns vals x v) (b : At ns vals x w) : v = w := by
  induction a with
  | head => cases b with
    | head => rfl
    | tail b => exact absurd b.mem (List.nodup_cons.mp nd).1
  | tail a ih => cases b with
    | head => exact absurd a.mem (List.nodup_cons.mp nd).1
    | tail b => exact ih (List.nodup_cons.mp nd).2 b
theorem AtAll.at {ns : List Str} {vals : List (Option MV)} : ∀ {ys : List Str} {vs : List MV} {y : Str}, AtAll ns vals ys vs → y ∈ ys → ∃ v, At ns vals y v ∧ At ys (vs.map some) y v
  | y' :: ys, v :: vs, y, h, hy => by
    by_cases e : y = y'
    · subst e; exact ⟨v, h.1, .head⟩
    · cases hy with
      | head => exact absurd rfl e
      | tail _ hy => obtain ⟨v', a, b⟩ := h.2.at hy; exact ⟨v', a, .tail b⟩
  | [], _, _, _, hy => by cases hy
  | _ :: _, [], _, h, _ => h.elim
theorem VR.remake {φ φ' : Fz} {env : Env} {h h' : Heap} {m : Str → Option Value} {ns₀ : List Str} {vals₀ : List (Option MV)} : ∀ {ns : List Str} {vals : List (Option MV)}, (∀ n v, At ns vals n v → At ns₀ vals₀ n v) → (∀ n ∈ ns, n ∈ ns₀) →
    (∀ n v, n ∈ ns₀ → (∀ mv, v = some mv → At ns₀ vals₀ n mv) → VarAt φ env h m n v → VarAt φ' env h' m n v) → VR φ env h m ns vals → VR φ' env h' m ns vals
  | [], [], _, _, _, _ => trivial
  | [], _ :: _, _, _, _, r => r.elim
  | _ :: _, [], _, _, _, r => r.elim
  | n :: ns, v :: vals, ha, hm, f, r => by
    refine ⟨f n v (hm n (.head _)) (fun mv q => by subst q; exact ha n mv .head) r.1, VR.remake (fun n v a => ha n v (.tail a)) (fun n hn => hm n (.tail _ hn)) f r.2⟩

theorem Fm.outC (F : Fm W φ σ δ env ns vals s) {C : Addr} (c : CompOK scope env x ns ys) (ha : AtAll ns vals ys vs) (o : Off φ σ δ env C) {φ2 : Fz} {σ2 : Store} {δ2 : Addr → Addr} {s2 : Shared} {v0 : Option MV}
    (F2 : Fm W φ2 σ2 δ2 (compEnvC scope (clOf scope env) C env) (x :: ys) (v0 :: vs.map some) s2) (kp : Kp (φ.fill s.heap [env.locals]) φ2) :
    Fm W (φ2.drop [env.locals]) σ2 δ2 env ns vals s2 ∧ Kp φ (φ2.drop [env.locals]) ∧ Off (φ2.drop [env.locals]) σ2 δ2 env C := by
  obtain ⟨m, N, V⟩ := F.vars
  obtain ⟨oL, esL, epL, hoL, hdL, _⟩ := id N
  have e2 : φ2 env.locals = some oL := kp _ _ (by unfold Fz.fill; rw [if_pos (by simp)]; exact hoL)
  have dn : ∀ a, a ≠ env.locals → (φ2.drop [env.locals]) a = φ2 a := fun a h => by unfold Fz.drop; rw [if_neg (by simpa using h)]
  have dl : (φ2.drop [env.locals]) env.locals = none := by unfold Fz.drop; rw [if_pos (by simp)]
  have dle : ∀ a, φ2 a = none → (φ2.drop [env.locals]) a = none := fun a e => by unfold Fz.drop; split <;> first | rfl | exact e
  have tup : ∀ a vs n, φ2 a = some (tupObj vs n) → (φ2.drop [env.locals]) a = some (tupObj vs n) := fun a vs n e => by
    rw [dn a fun q => by rw [q, e2] at e; rw [Option.some.inj e] at hdL; cases hdL]; exact e
  have kp' : Kp φ (φ2.drop [env.locals]) := by
    intro a o e
    have hne : a ≠ env.locals := fun q => by rw [q, F.Lφ] at e; cases e
    rw [dn a hne]
    exact kp a o (by unfold Fz.fill; rw [if_neg (by simpa using hne)]; exact e)
  have σL : σ2 env.locals = none := by
    cases q : σ2 env.locals with
    | none => rfl
    | some o => have := F2.st.sep _ o q; rw [e2] at this; cases this
  have δL : ∀ a C vs, σ2 a = some (.ins C vs) → δ2 a ≠ env.locals := fun a C vs e q => by have := (F2.st.sepd a C vs e).1; rw [q, e2] at this; cases this
  have hL2 : s2.heap.get? env.locals = some oL := F2.st.keep _ _ e2
  obtain ⟨m2, N2, V2⟩ := F2.vars
  have cellsIn := c.cellsIn F.ok.keys
  refine ⟨⟨⟨fun a o e => kp' _ _ (F.st.base a o e), fun a o e => ?_, fun a o e => (F2.st.objs a o e).grow (fun a vs n e => tup a vs n e) (fun _ q => q) (fun _ _ _ _ q => q), fun a o e => dle a (F2.st.sep a o e), fun a C vs e => ⟨dle _ (F2.st.sepd a C vs e).1, (F2.st.sepd a C vs e).2⟩, F2.st.inj, F2.st.gens, F2.st.os⟩, F.ok, dl, σL, δL, fun p hp => ?_, fun p hp => F2.cat p (cellsIn p hp), m, N.at fun o e => by rw [hoL] at e; cases e; exact hL2, ?_⟩, kp', ?_⟩
  · unfold Fz.drop at e
    split at e
    · cases e
    · exact F2.st.keep a o e
  · obtain ⟨q1, q2, q3, q4⟩ := F2.cφ p (cellsIn p hp)
    exact ⟨dle _ q1, q2, (F.cφ p hp).2.2.1, q4⟩
  · refine VR.remake (ns₀ := ns) (vals₀ := vals) (fun _ _ a => a) (fun _ h => h) (fun n v hn hat hv => ?_) V
    rcases hv with ⟨k1, e⟩ | ⟨d, k1, l, ov, hc, e⟩
    · exact .inl ⟨k1, fun mv q => let ⟨w, a, b⟩ := e mv q; ⟨w, a, b.mono' fun a vs n e => kp' _ _ e⟩⟩
    · have hy : n ∈ ys := by
        rcases c.outer n hn with q | q
        · rw [q] at k1; rcases k1 with k1 | k1 <;> cases k1
        · exact q
      obtain ⟨v', a1, a2⟩ := ha.at hy
      obtain ⟨e1, e2', e3⟩ := c.yok n hy
      rcases V2.2.at a2 with ⟨k', _⟩ | ⟨d', _, l', ov', hc', hv'⟩
      · rw [show (compEnvC scope (clOf scope env) C env).kindOf n = some .cell from lookup_relabel_free F.ok.kind e1 e3] at k'; cases k'
      · have hdd : d' = d := by
          have := (c.clLook e2').symm.trans l'
          rw [l] at this; exact (Option.some.inj this).symm
        subst hdd
        refine .inr ⟨d', .inl e1, l, ov', hc', fun mv q => ?_⟩
        have := At.uniq F.ok.nodup (hat mv q) a1
        subst this
        obtain ⟨w, q1, q2⟩ := hv' _ rfl
        exact ⟨w, q1, q2.mono' tup⟩
  · exact ⟨dle _ F2.Lφ, F2.Lσ, F2.Lδ, o.l, o.c⟩
end
end Mine
end
section
open PySem PySem.W PyProof.Rows PySem.Calls
namespace Mine
section
variable {W : Wd} {k : Nat} {env : Env} {ns : List Str} {vals : List (Option MV)} {σ : Store} {A : Around} {φ : Fz} {δ : Addr → Addr} {s : Shared} {scope : Scope} {x : Str} {ys : List Str} {vs : List MV} {Q : MV → Store → Prop}

noncomputable abbrev StepOK (W : Wd) (k : Nat) (env : Env) (ns : List Str) (cap : List (Option MV)) (σ : Store) (ifs : List Expr) (elt : Expr) (v : MV) (yes : MV → Prop) (no : Prop) : Prop :=
  MT W k (testsOf ifs env) env ns (some v :: cap) σ fun b σ1 => σ1 = σ ∧ if b = true then MX W k (eval elt env) env ns (some v :: cap) σ (fun y σ2 => σ2 = σ ∧ yes y) else no

theorem comp_run {px : Pos} {elt iter : Expr} {ifs : List Expr} {pos : Pos} {I : Addr} {o : Obj} {items : List MV} {At : Nat → Obj → Prop} (hA : OkE k A env) (F : Fm W φ σ δ env ns vals s) (off : Off φ σ δ env I) (ho : At 0 o) (hI : s.heap.get? I = some o)
    (c : CompOK scope env x ns ys) (ha : AtAll ns vals ys vs)
    (N : ∀ C D, σ D = none → Steps W k (compEnvC scope (clOf scope env) C env) (x :: ys) σ D I items At)
    (self : ∀ (s : Shared) (P : Value → Shared → Prop), s.heap.get? I = some o → P (.ref I) s → wpAny W.M A (pyIter (.ref I)) P NoE s)
    (Inv : Nat → List MV → Prop) (i0 : Inv 0 []) (hlen : ∀ i acc, Inv i acc → acc.length ≤ 1000000)
    (step : ∀ C D i v acc, σ D = none → items[i]? = some v → Inv i acc → StepOK W k (compEnvC scope (clOf scope env) C env) (x :: ys) (vs.map some) (σ.put D (.lst acc)) ifs elt v (fun y => Inv (i + 1) (acc ++ [y])) (Inv (i + 1) acc)) :
    wpC W.M A (newList []) (fun acc s₃ => wpC W.M A (newFunctionEnv scope env.globals (clOf scope env) [] env.qual none .none (some env)) (fun cenv s₄ =>
      codeC W.M A (.compStart (.ListComp elt [⟨.Name x px, iter, ifs, 0⟩] scope pos) 0 (.ref I) acc { cenv with scope := relabel scope env })
        (fun r s' => (∃ f, r = .ok f) ∧ ∃ m, s'.heap.Ns cenv.locals m ∧ ∀ h', Heap.SameBut cenv.locals s'.heap h' →
          ∃ D l φ' δ', acc = .ref D ∧ σ D = none ∧ Kp φ φ' ∧ Fm W φ' (σ.put D (.lst l)) δ' env ns vals { s' with heap := h' } ∧ Inv items.length l) s₄) NoE s₃) NoE s := by
  refine wpC.of (wpAny_newObj_type (wpC.of (wpAny_newFunctionEnv c.nocell (by intro y hy; simp at hy) (fun h₁ hns₁ hsb₁ => ?_) c.kind)))
  dsimp only at hns₁ hsb₁ ⊢
  generalize hH2 : s.heap.push { cls := .type "list", dict := none, data := .seq ([] : List Value).toArray } = H2 at hns₁ hsb₁ ⊢
  have hC : H2.objs.size = s.heap.objs.size + 1 := by rw [← hH2, Heap.size_push]
  have hDC : s.heap.objs.size ≠ H2.objs.size := by rw [hC]; exact Nat.ne_of_lt (Nat.lt_succ_self _)
  have up1 : ∀ b o, s.heap.get? b = some o → H2.get? b = some o := fun b o e => hH2 ▸ Heap.get?_push_of_some _ e
  have up2 : ∀ b o, H2.get? b = some o → h₁.get? b = some o := fun b o e => hsb₁.extBut b o (Nat.ne_of_lt (Heap.lt_size e)) (Heap.get?_push_of_some _ e)
  have hD2 : H2.get? s.heap.objs.size = some (lstObj #[] 0) := by rw [← hH2]; exact Heap.get?_push_size _ rfl
  have σD := F.st.fresh_σ (Nat.le_refl s.heap.objs.size)
  have F2 : Fm W φ (σ.put s.heap.objs.size (.lst [])) δ env ns vals { s with heap := H2, toks := s.toks } := F.alloc (o := .lst []) (tk := s.toks) up1 (Nat.le_refl _) (fun _ _ e => by cases e) ⟨#[], 0, hD2, .nil⟩
  have offC := F2.offFresh (Nat.le_refl H2.objs.size)
  have F3 : Fm W φ (σ.put s.heap.objs.size (.lst [])) δ env ns vals { s with heap := h₁, toks := s.toks + ([] : List (Str × Value)).length } := F2.ext up2
  obtain ⟨F4, kp⟩ := F3.inC c ha hns₁ offC
  have hIlt : I < s.heap.objs.size := Heap.lt_size hI
  have hID : I ≠ s.heap.objs.size := Nat.ne_of_lt hIlt
  have hIC : I ≠ H2.objs.size := by rw [hC]; exact Nat.ne_of_lt (Nat.lt_succ_of_lt hIlt)
  have ins : ∀ (l : List MV) a C vs, (σ.put s.heap.objs.size (.lst l)) a = some (.ins C vs) → σ a = some (.ins C vs) := fun l a C vs e => by
    by_cases q : a = s.heap.objs.size
    · subst q; rw [Store.put_self] at e; cases e
    · rwa [Store.put_ne q] at e
  have offI : Off (φ.fill h₁ [env.locals]) (σ.put s.heap.objs.size (.lst [])) δ (compEnvC scope (clOf scope env) H2.objs.size env) I :=
    ⟨by unfold Fz.fill; rw [if_neg (by simpa using off.l)]; exact off.f, by rw [Store.put_ne hID]; exact off.s, fun a C vs e => off.d a C vs (ins _ a C vs e), hIC, fun p hp => off.c p (c.clIn p hp)⟩
  have hI1 : h₁.get? I = some o := up2 _ _ (up1 _ _ hI)
  have hx : (compEnvC scope (clOf scope env) H2.objs.size env).kindOf x = some .local := lookup_relabel_local c.hx
  have core := comp_core (iter := iter) (px := px) (pos := pos) (scope := scope) (N H2.objs.size s.heap.objs.size σD) hx (.inl hx) σD Inv hlen (fun i v acc hv hi => step H2.objs.size s.heap.objs.size i v acc σD hv hi) items.length 0 A _ δ _ none [] o rfl (Nat.zero_le _) ⟨hA.toOk, hA.top⟩ F4 i0 offI ho hI1
  refine codeC_mono (codeC_compStart core fun P hP => self _ P hI1 hP) ?_
  rintro r s' ⟨rfl, acc', v0', φ', δ', k', F5, hi⟩
  obtain ⟨m5, N5, _⟩ := id F5.vars
  refine ⟨⟨_, rfl⟩, m5, N5, fun h' hs' => ?_⟩
  obtain ⟨F6, k6, off6⟩ := F3.outC c ha offC F5 k'
  exact ⟨_, acc', _, δ', rfl, σD, k6, F6.change (tk := s'.toks) off6 fun b o hb e => hs'.extBut b o hb e, hi⟩

theorem Fm.keysAt (F : Fm W φ σ δ env ns vals s) {d : Addr} {l : List (Int × MV)} (hd : σ d = some (.ddi l)) : ∃ ep, Fm W φ (σ.put d (.dde l ep)) δ env ns vals s := by
  obtain ⟨hs, kvs, D, e, r⟩ := F.st.objs d _ hd
  obtain ⟨ep, D'⟩ := D.dictAt
  exact ⟨ep, F.update (tk := s.toks) (o := .dde l ep) hd (fun _ _ _ e => e) (fun _ _ e => by cases e) ⟨hs, kvs, D', e, r⟩⟩
theorem Fm.keysBack (F : Fm W φ σ δ env ns vals s) {d : Addr} {l : List (Int × MV)} {ep : Nat} (hd : σ d = some (.dde l ep)) : Fm W φ (σ.put d (.ddi l)) δ env ns vals s := by
  obtain ⟨hs, kvs, D, e, r⟩ := F.st.objs d _ hd
  exact F.update (tk := s.toks) (o := .ddi l) hd (fun _ _ _ e => e) (fun _ _ e => by cases e) ⟨hs, kvs, D.dictOf, e, r⟩
theorem sub_keye {value slice : Expr} {d : Addr} {l : List (Int × MV)} {ep : Nat} {i : Int} {v : MV} (ha : σ d = some (.dde l ep)) (hv : dAt l i = some v) (q : Q v σ)
    (hs : ∀ o i, subscripted slice false o i = operate [o, i] (getItem o i)) : M2 RV W k (subscriptTail value slice) (.ref d) (.int i) env ns vals σ Q := fun A φ δ s w u hA F r r' => by
  cases r; cases r'
  obtain ⟨hs', kvs, D', e, rv⟩ := F.st.objs d _ ha
  have D := D'.dictOf
  have rp : RP φ l kvs := .of e rv
  have := rp.at i
  rw [hv] at this
  obtain ⟨x, hx, rx⟩ := this
  exact wpC.of (tail_any D.typeIs slot_dict_getitem.lookup (wpAny_getItem_of (knd := intKind W.prog W.w) isInt_self D.mapOf hx (PE.here rx (F.toks _) q)) (hs _ _))

noncomputable abbrev keysM (l : List (Int × MV)) : List MV := l.map fun kv => .int kv.1
noncomputable def KeyAt (d n ep i : Nat) (o : Obj) : Prop := o.cls = .type "dict_keyiterator" ∧ o.data = .fields #[.ref d, .int i 0, .int n 0, .int ep 0]
theorem steps_dict {D I d : Addr} {l : List (Int × MV)} {ep : Nat} {cenv : Env} {ns' : List Str} (hd : σ d = some (.dde l ep)) (hD : σ D = none) : Steps W k cenv ns' σ D I (keysM l) (KeyAt d l.length ep) := by
  have hdD : d ≠ D := fun q => by subst q; rw [hD] at hd; cases hd
  refine ⟨fun i v A φ δ s vals acc o hv hA F ho hget Q hQ => ?_, fun A φ δ s vals acc o hA F ho hget Q hQ => ?_, fun i o vs n h q => ?_⟩
  · obtain ⟨hs, kvs, Dd, e, r⟩ := F.st.objs d (.dde l ep) (by rw [Store.put_ne hdD]; exact hd)
    have hl : l.length = kvs.length := by have := congrArg List.length e; simpa using this
    have hit : s.heap.IsKeyIter I d i kvs.length ep := ⟨o, hget, ho.1, by rw [← hl]; exact ho.2⟩
    rw [List.getElem?_map] at hv
    obtain ⟨kv, e1, e2⟩ := Option.map_eq_some_iff.mp hv
    subst e2
    have e3 : (kvs.map (·.1))[i]? = some kv.1 := by rw [← e, List.getElem?_map, e1]; rfl
    rw [List.getElem?_map] at e3
    obtain ⟨⟨k', v'⟩, e4, e5⟩ := Option.map_eq_some_iff.mp e3
    dsimp only at e5
    subst e5
    refine wpAny_pyNext_dict_item hit Dd e4 fun key h' hk hit' SB => ?_
    obtain ⟨t, rfl⟩ := Value.isInt_shape hk
    obtain ⟨o', g', c', d'⟩ := hit'
    exact hQ _ h' s.toks o' (.int _ _) ⟨c', by rw [hl]; exact d'⟩ g' fun b ob hb e => SB.extBut b ob hb e
  · obtain ⟨hs, kvs, Dd, e, r⟩ := F.st.objs d (.dde l ep) (by rw [Store.put_ne hdD]; exact hd)
    have hl : l.length = kvs.length := by have := congrArg List.length e; simpa using this
    have hkl : (keysM l).length = kvs.length := by simpa using hl
    have hit : s.heap.IsKeyIter I d (keysM l).length kvs.length ep := ⟨o, hget, ho.1, by rw [← hl]; exact ho.2⟩
    exact wpAny_pyNext_dict_end hA.h hit Dd (List.getElem?_eq_none (by rw [hkl]; exact Nat.le_refl _)) fun h' eb => hQ h' s.toks fun b ob hb e => eb b ob hb e
  · rw [q] at h
    exact absurd (Value.type.inj h.1) (by decide)

theorem mx_comp_dict {px yp : Pos} {y : Str} {elt : Expr} {ifs : List Expr} {pos : Pos} {d : Addr} {l : List (Int × MV)} (a : At ns vals y (.ref d)) (hd : σ d = some (.ddi l)) (c : CompOK scope env x ns ys) (ha : AtAll ns vals ys vs)
    (Inv : Nat → List MV → Prop) (i0 : Inv 0 []) (hlen : ∀ i acc, Inv i acc → acc.length ≤ 1000000)
    (step : ∀ C D ep i v acc, σ D = none → (keysM l)[i]? = some v → Inv i acc → StepOK W k (compEnvC scope (clOf scope env) C env) (x :: ys) (vs.map some) ((σ.put d (.dde l ep)).put D (.lst acc)) ifs elt v (fun y => Inv (i + 1) (acc ++ [y])) (Inv (i + 1) acc))
    (q : ∀ D acc, σ D = none → Inv l.length acc → Q (.ref D) (σ.put D (.lst acc))) (hs : ∀ x, foldedSetIterable (.Name y yp) env x = pure x := by intro _; rfl) :
    MX W k (eval (.ListComp elt [⟨.Name x px, .Name y yp, ifs, 0⟩] scope pos) env) env ns vals σ Q := fun A φ δ s hA F => by
  rw [eval_ListComp]
  refine wpC_comprehension rfl hs (closure_eq c.frees) c.kind c.locals ?_
  refine wpC.of (F.name a fun w r => ?_)
  cases r
  obtain ⟨ep, F1⟩ := F.keysAt hd
  obtain ⟨hs', kvs, Dd, e, rv⟩ := F1.st.objs d (.dde l ep) Store.put_self
  have hl : l.length = kvs.length := by have := congrArg List.length e; simpa using this
  refine wpC.of (wpAny_pyIter_dict hs' Dd ?_)
  have off := F1.offFresh (Nat.le_refl s.heap.objs.size)
  have hdn : ∀ D, (σ.put d (.dde l ep)) D = none → d ≠ D ∧ σ D = none := fun D h => by
    by_cases e : D = d
    · subst e; rw [Store.put_self] at h; cases h
    · rw [Store.put_ne e] at h; exact ⟨Ne.symm e, h⟩
  have F2 : Fm W φ (σ.put d (.dde l ep)) δ env ns vals { s with heap := s.heap.push { cls := .type "dict_keyiterator", data := .fields #[.ref d, .int 0 0, .int kvs.length 0, .int ep 0] } } := F1.ext (tk := s.toks) (push_keeps _ _)
  refine wpC_mono (comp_run (ifs := ifs) (elt := elt) (iter := .Name y yp) (px := px) (pos := pos) (items := keysM l) (At := KeyAt d l.length ep) hA F2 off ⟨rfl, by rw [hl]; rfl⟩ (Heap.get?_push_size _ rfl) c ha (fun C D hD => steps_dict Store.put_self hD)
    (fun s' P hg hP => wpAny_pyIter_keyiter ⟨_, hg, rfl, rfl⟩ hP) Inv i0 hlen fun C D i v acc hD hv hi => step C D ep i v acc (hdn D hD).2 hv hi) (fun acc s3 h3 => wpC_mono h3 (fun cenv s4 h4 => codeC_mono h4 ?_) fun _ _ e => e) fun _ _ e => e
  rintro r s' ⟨hr, m, hN, hz⟩
  refine ⟨hr, m, hN, fun h' hs' => ?_⟩
  obtain ⟨D, acc', φ', δ', rfl, hD, kp, F3, hi⟩ := hz h' hs'
  obtain ⟨hne, hD'⟩ := hdn D hD
  have F4 := F3.keysBack (d := d) (by rw [Store.put_ne hne, Store.put_self])
  have es : (((σ.put d (.dde l ep)).put D (.lst acc')).put d (.ddi l)) = σ.put D (.lst acc') := by
    funext b
    by_cases e1 : b = d
    · subst e1; rw [Store.put_self, Store.put_ne hne, hd]
    · rw [Store.put_ne e1]
      by_cases e2 : b = D
      · subst e2; rw [Store.put_self, Store.put_self]
      · rw [Store.put_ne e2, Store.put_ne e1, Store.put_ne e2]
  rw [es] at F4
  exact ⟨.ref D, _, φ', δ', kp, .ref D, F4, q D acc' hD' (by simpa using hi)⟩

noncomputable def RanAt (lo : Int) (N i : Nat) (o : Obj) : Prop := o = { cls := .type "range_iterator", dict := none, data := .fields #[rawInt (lo + i), rawInt ((N : Int) - i), rawInt 1], slots := #[] }
theorem steps_range {D I : Addr} {lo : Int} {N : Nat} {cenv : Env} {ns' : List Str} : Steps W k cenv ns' σ D I ((rangeL lo N).map .int) (RanAt lo N) := by
  have hlen : ((rangeL lo N).map MV.int).length = N := by simp [rangeL]
  refine ⟨fun i v A φ δ s vals acc o hv hA F ho hget Q hQ => ?_, fun A φ δ s vals acc o hA F ho hget Q hQ => ?_, fun i o vs n h q => ?_⟩
  · have hlt : i < N := by
      rcases Nat.lt_or_ge i N with h | h
      · exact h
      · rw [List.getElem?_eq_none (by rw [hlen]; exact h)] at hv; cases hv
    have ev : v = .int (lo + i) := by
      rw [List.getElem?_map] at hv
      simp only [rangeL, List.getElem?_map, List.getElem?_range hlt, Option.map_some, Option.some.injEq] at hv
      rw [← hv]
    subst ev
    have hit : IsRangeIter s.heap I (lo + i) ((N : Int) - i) 1 := by rw [ho] at hget; exact hget
    refine wpAny_pyNext_range_item hit (by omega) fun h' hit' SB => ?_
    have e1 : lo + (i : Int) + 1 = lo + (i + 1 : Nat) := by omega
    have e2 : (N : Int) - i - 1 = (N : Int) - (i + 1 : Nat) := by omega
    rw [e1, e2] at hit'
    exact hQ _ h' (s.toks + 1) _ (.int _ _) rfl hit' fun b ob hb e => SB.extBut b ob hb e
  · have hit : IsRangeIter s.heap I (lo + N) ((N : Int) - N) 1 := by rw [ho, hlen] at hget; exact hget
    exact wpAny_pyNext_range_end hA.h hit (by omega) fun h' eb => hQ h' s.toks fun b ob hb e => eb b ob hb e
  · have h' : Value.type "range_iterator" = Value.type "tuple" := by have := congrArg Obj.cls (h.symm.trans q); exact this
    exact absurd (Value.type.inj h') (by decide)
theorem mx_comp_range {px : Pos} {iter elt : Expr} {ifs : List Expr} {pos : Pos} (c : CompOK scope env x ns ys) (ha : AtAll ns vals ys vs)
    (h : MRange W k iter env ns vals σ fun lo hi σ1 => 0 ≤ lo ∧ lo ≤ 1000000 ∧ 0 ≤ hi ∧ hi ≤ 1000000 ∧ ∃ Inv : Nat → List MV → Prop, Inv 0 [] ∧ (∀ i acc, Inv i acc → acc.length ≤ 1000000) ∧
      (∀ C D i acc, σ1 D = none → i < (hi - lo).toNat → Inv i acc → StepOK W k (compEnvC scope (clOf scope env) C env) (x :: ys) (vs.map some) (σ1.put D (.lst acc)) ifs elt (.int (lo + i)) (fun y => Inv (i + 1) (acc ++ [y])) (Inv (i + 1) acc)) ∧
      ∀ D acc, σ1 D = none → Inv (hi - lo).toNat acc → Q (.ref D) (σ1.put D (.lst acc)))
    (hs : ∀ x, foldedSetIterable iter env x = pure x := by intro _; rfl) :
    MX W k (eval (.ListComp elt [⟨.Name x px, iter, ifs, 0⟩] scope pos) env) env ns vals σ Q := fun A φ δ s hA F => by
  rw [eval_ListComp]
  refine wpC_comprehension rfl hs (closure_eq c.frees) c.kind c.locals ?_
  refine wpC_mono (h A φ δ s hA F) (fun v s1 ⟨r, lo, hi, t, u, w, φ1, σ1, δ1, hv, hr, k1, F1, h0, h1, h2, h3, Inv, i0, hlen, step, q⟩ => ?_) fun _ _ e => e.elim
  subst hv
  have hsz := rangeSize_nat (lo := lo) (hi := hi)
  refine wpC.of (wpAny_pyIter_range hr (small_ok h0 h1 h2 h3) ?_)
  rw [hsz]
  have off := F1.offFresh (Nat.le_refl s1.heap.objs.size)
  have hll : ((rangeL lo (hi - lo).toNat).map MV.int).length = (hi - lo).toNat := by simp [rangeL]
  have F2 := F1.ext (tk := s1.toks) (push_keeps s1.heap { cls := .type "range_iterator", data := .fields #[rawInt lo, rawInt ((hi - lo).toNat : Int), rawInt 1] })
  refine wpC_mono (comp_run (ifs := ifs) (elt := elt) (iter := iter) (px := px) (pos := pos) (items := (rangeL lo (hi - lo).toNat).map .int) (At := RanAt lo (hi - lo).toNat) (I := s1.heap.objs.size) hA F2 off
    (by have e1 : lo + ((0 : Nat) : Int) = lo := Int.add_zero lo
        have e2 : ((hi - lo).toNat : Int) - ((0 : Nat) : Int) = ((hi - lo).toNat : Int) := Int.sub_zero _
        unfold RanAt; rw [e1, e2]) (Heap.get?_push_size _ rfl) c ha (fun C D hD => steps_range)
    (fun s' P hg hP => wpAny_pyIter_rangeiter hg hP) Inv i0 hlen fun C D i v acc hD hv hi' => ?_) (fun acc s3 h3 => wpC_mono h3 (fun cenv s4 h4 => codeC_mono h4 ?_) fun _ _ e => e) fun _ _ e => e
  · have hlt : i < (hi - lo).toNat := by
      rcases Nat.lt_or_ge i (hi - lo).toNat with h | h
      · exact h
      · rw [List.getElem?_eq_none (by rw [hll]; exact h)] at hv; cases hv
    have ev : v = .int (lo + i) := by
      rw [List.getElem?_map] at hv
      simp only [rangeL, List.getElem?_map, List.getElem?_range hlt, Option.map_some, Option.some.injEq] at hv
      rw [← hv]
    subst ev
    exact step C D i acc hD hlt hi'
  · rintro r s' ⟨hr', m, hN, hz⟩
    refine ⟨hr', m, hN, fun h' hs' => ?_⟩
    obtain ⟨D, acc', φ', δ', rfl, hD, kp, F3, hi⟩ := hz h' hs'
    rw [hll] at hi
    exact ⟨.ref D, _, φ', δ', k1.trans kp, .ref D, F3, q D acc' hD hi⟩
end
end Mine
end
section
open PySem PySem.W PyProof.Rows PySem.Calls
namespace Mine
section
variable {W : Wd} {k : Nat} {env : Env} {ns : List Str} {vals : List (Option MV)} {σ : Store} {A : Around} {φ : Fz} {δ : Addr → Addr} {s : Shared} {Q : MV → Store → Prop}
theorem RVs.rep {φ : Fz} {x : MV} {w : Value} (h : RV φ x w) : ∀ n, RVs φ (List.replicate n x) (List.replicate n w)
  | 0 => .nil
  | n + 1 => .cons h (RVs.rep h n)
theorem fold_rep {w : Value} : ∀ (n : Nat) (acc : Array Value), (List.foldl (fun x1 x2 : Array Value => x1 ++ x2) acc (List.replicate n #[w])).toList = acc.toList ++ List.replicate n w
  | 0, acc => by simp
  | n + 1, acc => by
    rw [List.replicate_succ, List.foldl_cons, fold_rep n, Array.toList_append, List.replicate_succ]
    simp
theorem op_mul_list {a : Addr} {x : MV} {n : Int} (ha : σ a = some (.lst [x])) (h0 : 0 ≤ n) (h1 : n ≤ 1000) (q : ∀ D, σ D = none → Q (.ref D) (σ.put D (.lst (List.replicate n.toNat x)))) : M2 RV W k (binaryOp .Mult) (.ref a) (.int n) env ns vals σ Q := fun A φ δ s w u hA Fm' r r' => by
  cases r; cases r'
  rename_i t
  obtain ⟨vs, m, eo, L, rv⟩ := (Fm'.st.objs a _ ha).list
  obtain ⟨z, hz, q1⟩ := rv.one
  have ev : vs = #[z] := by rw [← Array.toArray_toList (xs := vs), hz]
  subst ev
  refine wpC.of (wpAny_binaryOp_repeat_ref (T := "list") (U := "int") (by decide) ⟨_, eo, rfl⟩ (fun s' => typeIs_int s' n t) noFill_list_mul F.fills_int_mul F.slot_int_rmul repeat_list F.slot_int_index.lookup
    (call_meets F.slot_int_rmul (typeIs_int s n t) F.entry_int_rmul (F.args_int_rmul_2 _ _) (int___rmul___int_list n t a #[z] m)
      ⟨eo, rfl, ⟨_, eo, rfl⟩, call_meets F.slot_list_mul ⟨_, eo, rfl⟩ F.entry_list_mul (F.args_list_mul_2 _ _)
        (AutoListH.list___mul___list_int_3 a #[z] m n t (by simp [Builtin.List.listFitsIndex]; omega) (by simp; omega) (by simp [Builtin.List.listTooLong, sizeLine]; omega))
        ⟨eo, ?_⟩⟩))
  refine ⟨.ref _, _, φ, δ, Kp.refl φ, .ref _, Fm'.alloc (o := .lst (List.replicate n.toNat x)) (tk := s.toks) (push_keeps _ _) (Nat.le_refl _) (fun _ _ e => by cases e) ⟨_, 0, Heap.get?_push_size _ rfl, ?_⟩, q _ (Fm'.st.fresh_σ (Nat.le_refl _))⟩
  have : (#[z] : Array Value).isEmpty = false := rfl
  rw [this]
  simp only [Bool.false_eq_true, if_false]
  rw [fold_rep]
  exact RVs.rep q1 _
end
end Mine
end
section
open PySem PySem.W PyProof.Rows PySem.Calls
namespace Mine
/-! a dict's list says what a function says -/
noncomputable def Rep (l : List (Int × Int)) (f : Int → Option Int) : Prop := (l.map (·.1)).Nodup ∧ ∀ k, dAt l k = f k
theorem Rep.nil : Rep [] (fun _ => none) := ⟨List.nodup_nil, fun _ => rfl⟩
theorem Rep.congr {l : List (Int × Int)} {f g : Int → Option Int} (h : Rep l f) (e : ∀ k, f k = g k) : Rep l g := ⟨h.1, fun k => (h.2 k).trans (e k)⟩
theorem dAt_cons {k' v k : Int} {l : List (Int × Int)} : dAt ((k', v) :: l) k = if k' = k then some v else dAt l k := by
  unfold dAt
  by_cases c : k' = k
  · rw [List.find?_cons_of_pos (by simpa using c), if_pos c]; rfl
  · rw [List.find?_cons_of_neg (by simpa using c), if_neg c]
theorem dAt_none {l : List (Int × Int)} {k : Int} : dAt l k = none ↔ k ∉ l.map (·.1) := by
  induction l with
  | nil => simp [dAt]
  | cons x l ih =>
    obtain ⟨k', v⟩ := x
    rw [dAt_cons]
    by_cases c : k' = k
    · rw [if_pos c]; simp [c]
    · rw [if_neg c, ih]; simp [Ne.symm c]
theorem dAt_mem {l : List (Int × Int)} (nd : (l.map (·.1)).Nodup) {k v : Int} : dAt l k = some v ↔ (k, v) ∈ l := by
  induction l with
  | nil => simp [dAt]
  | cons x l ih =>
    obtain ⟨k', v'⟩ := x
    rw [List.map_cons, List.nodup_cons] at nd
    rw [dAt_cons]
    by_cases c : k' = k
    · subst c
      rw [if_pos rfl]
      constructor
      · intro e; cases e; exact .head _
      · intro h
        cases h with
        | head => rfl
        | tail _ h => exact absurd (List.mem_map_of_mem (f := Prod.fst) h) nd.1
    · rw [if_neg c, ih nd.2]
      constructor
      · exact fun h => .tail _ h
      · intro h
        cases h with
        | head => exact absurd rfl c
        | tail _ h => exact h
theorem dAt_append {l m : List (Int × Int)} {k : Int} : dAt (l ++ m) k = (dAt l k).or (dAt m k) := by
  induction l with
  | nil => simp [dAt]
  | cons x l ih =>
    obtain ⟨k', v⟩ := x
    rw [List.cons_append, dAt_cons, dAt_cons, ih]
    by_cases c : k' = k
    · rw [if_pos c, if_pos c]; rfl
    · rw [if_neg c, if_neg c]
theorem dAt_map {l : List (Int × Int)} {k v j : Int} : dAt (l.map (fun kv => if kv.1 = k then (kv.1, v) else kv)) j = if j = k ∧ k ∈ l.map (·.1) then some v else dAt l j := by
  induction l with
  | nil => simp [dAt]
  | cons x l ih =>
    obtain ⟨k', v'⟩ := x
    rw [List.map_cons]
    by_cases c : k' = k
    · subst c
      rw [if_pos rfl, dAt_cons, dAt_cons]
      by_cases d : k' = j
      · subst d; rw [if_pos rfl, if_pos ⟨rfl, .head _⟩]
      · rw [if_neg d, if_neg d, ih, if_neg fun q => d q.1.symm, if_neg fun q => d q.1.symm]
    · rw [if_neg c, dAt_cons, dAt_cons, ih]
      by_cases d : k' = j
      · subst d; rw [if_pos rfl, if_pos rfl, if_neg fun q => c q.1]
      · rw [if_neg d, if_neg d]
        have : (k ∈ List.map (fun x => x.1) ((k', v') :: l)) ↔ k ∈ l.map (·.1) := by
          rw [List.map_cons, List.mem_cons]
          exact ⟨fun h => h.resolve_left (fun q => c q.symm), .inr⟩
        simp only [this]
theorem any_key {l : List (Int × Int)} {k : Int} : l.any (fun kv => decide (kv.1 = k)) = true ↔ k ∈ l.map (·.1) := by
  rw [List.any_eq_true, List.mem_map]
  constructor
  · rintro ⟨x, hx, e⟩; exact ⟨x, hx, of_decide_eq_true e⟩
  · rintro ⟨x, hx, e⟩; exact ⟨x, hx, decide_eq_true e⟩
theorem Rep.put {l : List (Int × Int)} {f : Int → Option Int} (h : Rep l f) {k v : Int} : Rep (dPut l k v) (fun j => if j = k then some v else f j) := by
  obtain ⟨nd, e⟩ := h
  unfold dPut
  by_cases c : k ∈ l.map (·.1)
  · rw [if_pos (any_key.mpr c)]
    refine ⟨?_, fun j => (show _ = if j = k then some v else f j from ?_)⟩
    · have : (l.map (fun kv => if kv.1 = k then (kv.1, v) else kv)).map (·.1) = l.map (·.1) := by
        rw [List.map_map]
        apply List.map_congr_left
        intro x _
        show (if x.1 = k then (x.1, v) else x).1 = x.1
        split <;> rfl
      rw [this]; exact nd
    · rw [dAt_map]
      by_cases d : j = k
      · rw [if_pos ⟨d, c⟩, if_pos d]
      · rw [if_neg fun q => d q.1, if_neg d, e]
  · rw [if_neg fun q => c (any_key.mp q)]
    refine ⟨?_, fun j => (show _ = if j = k then some v else f j from ?_)⟩
    · rw [List.map_append, List.nodup_append]
      exact ⟨nd, by simp, fun a ha b hb q => by simp at hb; subst hb; subst q; exact c ha⟩
    · rw [dAt_append, dAt_cons]
      by_cases d : j = k
      · subst d; rw [dAt_none.mpr c, if_pos rfl, if_pos rfl]; rfl
      · rw [if_neg (Ne.symm d), if_neg d, e]
        have : dAt ([] : List (Int × Int)) j = none := rfl
        rw [this, Option.or_none]
theorem nodup_len : ∀ {l m : List Int}, l.Nodup → (∀ x ∈ l, x ∈ m) → l.length ≤ m.length
  | [], _, _, _ => Nat.zero_le _
  | x :: l, m, nd, h => by
    rw [List.nodup_cons] at nd
    have hx := h x (.head _)
    have := nodup_len (l := l) (m := m.erase x) nd.2 fun y hy => (List.mem_erase_of_ne fun q => by subst q; exact nd.1 hy).mpr (h y (.tail _ hy))
    rw [List.length_erase_of_mem hx] at this
    have := List.length_pos_of_mem hx
    simp only [List.length_cons]
    omega
theorem Rep.keys {l m : List (Int × Int)} {f : Int → Option Int} (h : Rep l f) (h' : Rep m f) : ∀ x ∈ l.map (·.1), x ∈ m.map (·.1) := fun x hx => by
  refine Classical.byContradiction fun q => ?_
  have := dAt_none.mpr q
  rw [h'.2, ← h.2] at this
  exact dAt_none.mp this hx
noncomputable def kf (r next : Int) (g : Int → Option Int) (key : Int) : Option Int := if 0 ≤ key ∧ key < r then g ((key - next) % r) else none
theorem key_iff {r next i key : Int} (h0 : 0 ≤ i) (h1 : i < r) (k0 : 0 ≤ key) (k1 : key < r) : (key - next) % r = i ↔ key = (next + i) % r := by
  constructor
  · intro e
    rw [← e, Int.add_emod_emod]
    have : next + (key - next) = key := by omega
    rw [this, Int.emod_eq_of_lt k0 k1]
  · intro e
    rw [e, Int.emod_sub_emod]
    have : next + i - next = i := by omega
    rw [this, Int.emod_eq_of_lt h0 h1]
theorem Rep.putK {l : List (Int × Int)} {r next i v : Int} {g : Int → Option Int} (h : Rep l (kf r next g)) (h0 : 0 ≤ i) (h1 : i < r) : Rep (dPut l ((next + i) % r) v) (kf r next (fun j => if j = i then some v else g j)) := by
  refine h.put.congr fun key => ?_
  unfold kf
  by_cases c : 0 ≤ key ∧ key < r
  · rw [if_pos c, if_pos c]
    show _ = if (key - next) % r = i then some v else g ((key - next) % r)
    have := key_iff (next := next) h0 h1 c.1 c.2
    by_cases d : key = (next + i) % r
    · rw [if_pos d, if_pos (this.mpr d)]
    · rw [if_neg d, if_neg fun q => d (this.mp q)]
  · rw [if_neg c, if_neg c, if_neg]
    intro d
    exact c ⟨by rw [d]; exact Int.emod_nonneg _ (by omega), by rw [d]; exact Int.emod_lt_of_pos _ (by omega)⟩
theorem Rep.fold {r next : Int} : ∀ (L : List (Int × Int)) {l : List (Int × Int)} {g : Int → Option Int}, Rep l (kf r next g) → (∀ x ∈ L, 0 ≤ x.1 ∧ x.1 < r) → (L.map (·.1)).Nodup →
    Rep ((L.map fun x => ((next + x.1) % r, x.2)).foldl (fun acc kv => dPut acc kv.1 kv.2) l) (kf r next fun j => (dAt L j).or (g j))
  | [], l, g, h, _, _ => by
    refine h.congr fun key => ?_
    unfold kf; split <;> rfl
  | (i, v) :: L, l, g, h, hb, nd => by
    rw [List.map_cons, List.nodup_cons] at nd
    obtain ⟨b0, b1⟩ := hb (i, v) (.head _)
    have := Rep.fold L (h.putK (v := v) b0 b1) (fun x hx => hb x (.tail _ hx)) nd.2
    refine this.congr fun key => ?_
    unfold kf
    split
    · dsimp only
      rw [dAt_cons]
      by_cases c : (key - next) % r = i
      · rw [if_pos c, if_pos c.symm, c, dAt_none.mpr nd.1]; rfl
      · rw [if_neg c, if_neg (Ne.symm c)]
    · rfl
end Mine
end
section
open PySem PySem.W PyProof.Rows PySem.Calls
namespace Mine
/-! dicts whose keys are strings -/
section
variable {W : Wd} {k : Nat} {env : Env} {ns : List Str} {vals : List (Option MV)} {σ : Store} {A : Around} {φ : Fz} {δ : Addr → Addr} {s : Shared} {QS : MFlow → List (Option MV) → Store → Prop} {Q : MV → Store → Prop} {QU : Unit → Store → Prop}
theorem OR.dds {h : Heap} {d a : Addr} {l : List (Str × MV)} (x : OR W φ h d a (.dds l)) : (a == sysModules) = false ∧ ∃ kvs, h.DictOf (strKind W.prog W.w) a kvs ∧ RP φ l kvs := by
  obtain ⟨hs, kvs, D, e, r⟩ := x; exact ⟨hs, kvs, D, .of e r⟩
theorem OR.dds_mk {h : Heap} {d a : Addr} {l : List (Str × MV)} {kvs : List (Str × Value)} (hs : (a == sysModules) = false) (D : h.DictOf (strKind W.prog W.w) a kvs) (r : RP φ l kvs) : OR W φ h d a (.dds l) := ⟨hs, kvs, D, r.to.1, r.to.2⟩
theorem isStr_self {x : Str} {t : Tok} : (PySem.strKind W.prog W.w).is x (.str x t) = true := by simp [PySem.strKind, Value.isStrOf]
theorem op_setstr {d : Addr} {l : List (Str × MV)} {i : Str} {v : MV} (ha : σ d = some (.dds l)) (hl : l.length ≤ 1000000) (q : QU () (σ.put d (.dds (dPut l i v)))) : M3 RU W k setItem (.ref d) (.str i) v env ns vals σ QU := fun A φ δ s w u x hA F r r' r3 => by
  cases r; cases r'
  obtain ⟨hs, kvs, D, rp⟩ := (F.st.objs d _ ha).dds
  refine wpC.of (wpAny_setItem_pairs (knd := strKind W.prog W.w) isStr_self D (fun h' D' SB => ?_) (by rw [← rp.length]; exact big_size hl))
  exact ⟨(), _, φ, δ, Kp.refl φ, trivial, F.update (o := .dds (dPut l i v)) ha (fun b o hb e => SB.extBut b o hb e) (fun _ _ e => by cases e) (OR.dds_mk hs D' (rp.put r3)), q⟩
theorem sub_str {value slice : Expr} {d : Addr} {l : List (Str × MV)} {i : Str} {v : MV} (ha : σ d = some (.dds l)) (hv : dAt l i = some v) (q : Q v σ)
    (hs : ∀ o i, subscripted slice false o i = operate [o, i] (getItem o i)) : M2 RV W k (subscriptTail value slice) (.ref d) (.str i) env ns vals σ Q := fun A φ δ s w u hA F r r' => by
  cases r; cases r'
  obtain ⟨hs', kvs, D, rp⟩ := (F.st.objs d _ ha).dds
  have := rp.at i
  rw [hv] at this
  obtain ⟨x, hx, rx⟩ := this
  exact wpC.of (tail_any D.typeIs slot_dict_getitem.lookup (wpAny_getItem_of (knd := strKind W.prog W.w) isStr_self D.mapOf hx (PE.here rx (F.toks _) q)) (hs _ _))
theorem op_ne_bool {a b : Bool} (q : Q (.bool (a != b)) σ) : M2 RV W k (compareOp .NotEq) (.bool a) (.bool b) env ns vals σ Q := fun A φ δ s w u hA F r r' => by
  cases r; cases r'
  exact wpC.of (PyProof.Rows.ne_bool (PE.here (.bool _) F q))
theorem as_sub {o i : Expr} {p : Pos} {v : MV} {QG : Unit → List (Option MV) → Store → Prop}
    (h : MX W k (eval o env) env ns vals σ fun ov σ1 => MX W k (eval i env) env ns vals σ1 fun iv σ2 => M3 RU W k setItem ov iv v env ns vals σ2 fun _ σ3 => QG () vals σ3) (hi : ∀ lo hi sp, i ≠ .Slice lo hi none sp) :
    G1 RU W k (assign (.Subscript o i p) env) v env ns vals σ QG := fun A φ δ s w hA F r => by
  rw [arm_assign_Subscript]
  refine wpC_bind (wpC_holding (h.seq hA F fun ov σ1 φ1 δ1 u s1 k1 r1 F1 h1 => ?_))
  refine wpC_bind (wpC_holding (h1.seq hA F1 fun iv σ2 φ2 δ2 x s2 k2 r2 F2 h2 => ?_))
  refine wpC_at (wpC_bind (wpC_holding (wpC_mono (h2 A φ2 δ2 s2 u x w hA F2 (r1.mono k2) r2 (r.mono (k1.trans k2))) (fun _ s3 ⟨_, σ3, φ3, δ3, k3, _, F3, q⟩ => ?_) fun _ _ e => e)))
  exact .of (wpAny_release' ⟨(), vals, σ3, φ3, δ3, k1.trans (k2.trans k3), trivial, F3, q⟩)
theorem as_pair {t1 t2 : Expr} {n : Nat} {p : Pos} {v1 v2 : MV} {QG : Unit → List (Option MV) → Store → Prop} (he : assignEach [t1, t2] env = [(false, assign t1 env), (false, assign t2 env)])
    (h : G1 RU W k (assign t1 env) v1 env ns vals σ fun _ vals1 σ1 => G1 RU W k (assign t2 env) v2 env ns vals1 σ1 QG) : G1 RU W k (assign (.Tuple [t1, t2] n p) env) (.tup [v1, v2]) env ns vals σ QG := fun A φ δ s w hA F r => by
  obtain ⟨a, vs, m, rfl, e, rv⟩ := r.tup_inv
  have T : s.heap.IsTuple a vs := ⟨_, F.st.keep _ _ e, rfl, m, rfl⟩
  have hsz : vs.size = 2 := by simpa using rv.length.symm
  rw [arm_assign_Tuple]
  refine wpC_at ?_
  unfold unpack
  rw [he, show ([(false, assign t1 env), (false, assign t2 env)] : List (Bool × (Value → Sem Unit))).findIdx? (·.1) = none from rfl, show ([(false, assign t1 env), (false, assign t2 env)] : List (Bool × (Value → Sem Unit))).length = 2 from rfl, ← hsz]
  refine wpC_bind (wpC_holding (.of (wpAny_unpackItems_tuple hA.h T fun h' eb => ?_)))
  have F1 : Fm W φ σ δ env ns vals { s with heap := h' } := F.ext (tk := s.toks) (old_kept eb)
  obtain ⟨w1, w2, hw, q1, q2⟩ := rv.two
  rw [hw]
  show wpC _ _ (holding [w2] (assign t1 env w1) >>= fun _ => assignInOrder [assign t2 env] [w2]) _ _ _
  refine wpC_bind (wpC_holding (wpC_mono (h A φ δ _ w1 hA F1 q1) (fun _ s1 ⟨_, vals1, σ1, φ1, δ1, k1, _, F2, h2⟩ => ?_) fun _ _ e => e))
  show wpC _ _ (holding [] (assign t2 env w2) >>= fun _ => assignInOrder [] []) _ _ _
  refine wpC_bind (wpC_holding (wpC_mono (h2 A φ1 δ1 _ w2 hA F2 (q2.mono k1)) (fun _ s2 ⟨_, vals2, σ2, φ2, δ2, k2, _, F3, h3⟩ => ?_) fun _ _ e => e))
  exact wpC_pure ⟨(), vals2, σ2, φ2, δ2, k1.trans k2, trivial, F3, h3⟩
end
end Mine
end
section
open PySem PySem.W PyProof.Rows PySem.Calls
namespace Mine
section
variable {W : Wd} {k : Nat} {env : Env} {ns : List Str} {vals : List (Option MV)} {σ : Store} {A : Around} {φ : Fz} {δ : Addr → Addr} {s : Shared} {QS : MFlow → List (Option MV) → Store → Prop} {Q : MV → Store → Prop} {QU : Unit → Store → Prop}
theorem mx_book {k1 k2 k3 k4 : Str} {n1 n2 n3 n4 n6 n7 n8 : Nat} {p1 p2 p3 p4 p5 p6 p7 p8 pos : Pos} {i : Int} {c : Bool} (L : Addr → List (Str × MV))
    (hL : ∀ kd, dPut (dPut (dPut (dPut [] k1 (.ref kd)) k2 (.int i)) k3 .none) k4 (.bool c) = L kd)
    (q : ∀ d kd, σ d = none → (σ.put d (.dds [])) kd = none → Q (.ref d) (((σ.put d (.dds [])).put kd (.ddi [])).put d (.dds (L kd)))) :
    MX W k (eval (.Dict [some (.Constant (.str k1) n1 p1), some (.Constant (.str k2) n2 p2), some (.Constant (.str k3) n3 p3), some (.Constant (.str k4) n4 p4)] [.Dict [] [] p5, .Constant (.int i) n6 p6, .Constant .none n7 p7, .Constant (.bool c) n8 p8] pos) env) env ns vals σ Q := fun A φ δ s hA F => by
  refine wpC.of ?_
  with_reducible refine' wpAny_Dict_walk (knd := strKind W.prog W.w) ?ha ?hb ?hc ?hd ?_
  case ha => rfl
  case hb => rfl
  case hc => intro h; cases h
  case hd => show 4 ≤ 15; decide
  have hm := F.notModules (Nat.le_refl _)
  have F1 := F.alloc (o := .dds []) (tk := s.toks) (push_keeps s.heap { cls := .type "dict", data := .dict #[] }) (Nat.le_refl _) (fun _ _ e => by cases e) (OR.dds_mk hm (Heap.DictOf.new s.heap) .nil)
  have hd := F.st.fresh_σ (Nat.le_refl _)
  refine pairTrees_cons_walk (Constant_str ?_)
  refine wpAny_Dict_empty ?_
  have hm2 := F1.notModules (Nat.le_refl _)
  have hkd := F1.st.fresh_σ (Nat.le_refl _)
  have F2 := F1.alloc (o := .ddi []) (tk := s.toks) (push_keeps (s.heap.push { cls := .type "dict", data := .dict #[] }) { cls := .type "dict", data := .dict #[] }) (Nat.le_refl _) (fun _ _ e => by cases e) (OR.ddi_mk hm2 (Heap.DictOf.new _) .nil)
  refine pairTrees_cons_walk (Constant_str (wpAny_Constant_int ?_))
  refine pairTrees_cons_walk (Constant_str (wpAny_Constant_none ?_))
  refine pairTrees_cons_walk (Constant_str (Constant_bool ?_))
  refine pairTrees_nil_walk ?_
  have hd2 : ((σ.put s.heap.objs.size (.dds [])).put (s.heap.push { cls := .type "dict", data := .dict #[] }).objs.size (.ddi [])) s.heap.objs.size = some (.dds []) := by
    rw [Store.put_ne, Store.put_self]
    intro e
    rw [← e, Store.put_self] at hkd
    cases hkd
  obtain ⟨_, kvs0, D0, r0⟩ := (F2.st.objs _ _ hd2).dds
  cases r0
  refine ⟨[(k1, .ref (s.heap.push { cls := .type "dict", data := .dict #[] }).objs.size), (k2, .int i _), (k3, .none), (k4, .bool c)], ⟨isStr_self, rfl, isStr_self, rfl, isStr_self, rfl, isStr_self, rfl, trivial⟩, D0, fun h' D' SB => ?_⟩
  refine ⟨.ref _, _, φ, δ, Kp.refl φ, .ref _, F2.update (o := .dds (L (s.heap.push { cls := .type "dict", data := .dict #[] }).objs.size)) hd2 (fun b o hb e => SB.extBut b o hb e) (fun _ _ e => by cases e) (OR.dds_mk hm D' ?_), q _ _ hd hkd⟩
  rw [← hL]
  exact (((RP.put .nil (.ref _)).put (.int _ _)).put .none).put (.bool _)
inductive FlatV : MV → Prop
  | int {i : Int} : FlatV (.int i)
  | bool {b : Bool} : FlatV (.bool b)
theorem FlatV.eqAt {x : MV} {v w : Value} (h : FlatV x) (r : RV φ x v) (r' : RV φ x w) : SeqAt.EqAt A s v w true := by
  cases h with
  | int =>
    cases r; cases r'
    rename_i i t u
    have := SeqAt.EqAt.int_int (A := A) (s := s) i t i u
    rw [beq_self_eq_true] at this
    first | exact this | exact (by have := SeqAt.EqAt.int_int (A := A) (s := s) i u i t; rw [beq_self_eq_true] at this; exact this)
  | bool =>
    cases r; cases r'
    have := SeqAt.EqAt.bool_bool (A := A) (s := s) (by assumption) (by assumption)
    simpa using this
theorem op_ne_same {a b : Addr} {l : List MV} (ha : σ a = some (.lst l)) (hb : σ b = some (.lst l)) (hl : ∀ x ∈ l, FlatV x) (q : Q (.bool false) σ) : M2 RV W k (compareOp .NotEq) (.ref a) (.ref b) env ns vals σ Q := fun A φ δ s w u hA F r r' => by
  cases r; cases r'
  obtain ⟨vs, n, eo, L, rv⟩ := (F.st.objs a _ ha).list
  obtain ⟨vs2, n2, eo2, L2, rv2⟩ := (F.st.objs b _ hb).list
  have hu : A.units < cLine := by have := hA.u; omega
  have e2 : vs2.size = l.length := by simpa using rv2.length.symm
  have e1 : vs.size = l.length := by simpa using rv.length.symm
  refine wpC.of (PySem.SeqAt.RcNeAt.lists (e := fun _ => true) L L2 (by rw [e1, e2]) hu (fun j h1 h2 => ?_) _ _ _ _ ?_)
  · have hj : l[j]? = some l[j] := List.getElem?_eq_getElem (by omega)
    obtain ⟨v, hv, r1⟩ := rv.get j _ hj
    obtain ⟨v2, hv2, r2⟩ := rv2.get j _ hj
    have q1 : vs[j] = v := by simpa [Array.getElem?_toList, Array.getElem?_eq_getElem h1] using hv
    have q2 : vs2[j] = v2 := by simpa [Array.getElem?_toList, Array.getElem?_eq_getElem h2] using hv2
    rw [q1, q2]
    exact (hl _ (List.getElem_mem _)).eqAt r1 r2
  · have : (List.range vs.size).all (fun _ => true) = true := by simp
    rw [this]
    exact PE.here (RV.bool _) F q
end
end Mine
end
section
open PySem PySem.W PyProof.Rows PySem.Calls
namespace Mine
noncomputable def fnParts : Stmt → Option (Arguments × FuncBody × Scope)
  | .FunctionDef _ ps b _ _ _ sc _ _ _ => some (ps, .stmts b, sc)
  | _ => none
noncomputable def kids : Stmt → List Stmt
  | .ClassDef _ _ _ b _ _ _ _ _ _ _ => b
  | _ => []
noncomputable def stAt : List Stmt → List Nat → Option Stmt
  | l, [i] => l[i]?
  | l, i :: r => match l[i]? with | some s => stAt (kids s) r | none => none
  | _, [] => none
noncomputable def fnAt (p : Program) (path : List Nat) : Option (Arguments × FuncBody × Scope) := match stAt p.main.body path with | some s => fnParts s | none => none
noncomputable def fpx0 : {x : Arguments × FuncBody × Scope // fnAt PySem.Challenge.pw_xw0334_04 [0] = some x} := ⟨_, rfl⟩
noncomputable def fpx2 : {x : Arguments × FuncBody × Scope // fnAt PySem.Challenge.pw_xw0334_04 [2] = some x} := ⟨_, rfl⟩
noncomputable def fpx3 : {x : Arguments × FuncBody × Scope // fnAt PySem.Challenge.pw_xw0334_04 [3] = some x} := ⟨_, rfl⟩
noncomputable def fpx4 : {x : Arguments × FuncBody × Scope // fnAt PySem.Challenge.pw_xw0334_04 [4] = some x} := ⟨_, rfl⟩
noncomputable def fpx6x0 : {x : Arguments × FuncBody × Scope // fnAt PySem.Challenge.pw_xw0334_04 [6, 0] = some x} := ⟨_, rfl⟩
noncomputable def fpx6x1 : {x : Arguments × FuncBody × Scope // fnAt PySem.Challenge.pw_xw0334_04 [6, 1] = some x} := ⟨_, rfl⟩
noncomputable def fpx6x2 : {x : Arguments × FuncBody × Scope // fnAt PySem.Challenge.pw_xw0334_04 [6, 2] = some x} := ⟨_, rfl⟩
noncomputable def fpx6x3 : {x : Arguments × FuncBody × Scope // fnAt PySem.Challenge.pw_xw0334_04 [6, 3] = some x} := ⟨_, rfl⟩
noncomputable def fpx6x4 : {x : Arguments × FuncBody × Scope // fnAt PySem.Challenge.pw_xw0334_04 [6, 4] = some x} := ⟨_, rfl⟩
noncomputable def fpx6x5 : {x : Arguments × FuncBody × Scope // fnAt PySem.Challenge.pw_xw0334_04 [6, 5] = some x} := ⟨_, rfl⟩
noncomputable def fpx6x6 : {x : Arguments × FuncBody × Scope // fnAt PySem.Challenge.pw_xw0334_04 [6, 6] = some x} := ⟨_, rfl⟩
noncomputable def fpx6x7 : {x : Arguments × FuncBody × Scope // fnAt PySem.Challenge.pw_xw0334_04 [6, 7] = some x} := ⟨_, rfl⟩
noncomputable def fpx6x8 : {x : Arguments × FuncBody × Scope // fnAt PySem.Challenge.pw_xw0334_04 [6, 8] = some x} := ⟨_, rfl⟩
noncomputable def fpx6x9 : {x : Arguments × FuncBody × Scope // fnAt PySem.Challenge.pw_xw0334_04 [6, 9] = some x} := ⟨_, rfl⟩
noncomputable def fpx6x10 : {x : Arguments × FuncBody × Scope // fnAt PySem.Challenge.pw_xw0334_04 [6, 10] = some x} := ⟨_, rfl⟩
noncomputable def fpx6x11 : {x : Arguments × FuncBody × Scope // fnAt PySem.Challenge.pw_xw0334_04 [6, 11] = some x} := ⟨_, rfl⟩
noncomputable def fpx8x0 : {x : Arguments × FuncBody × Scope // fnAt PySem.Challenge.pw_xw0334_04 [8, 0] = some x} := ⟨_, rfl⟩
noncomputable def fpx8x1 : {x : Arguments × FuncBody × Scope // fnAt PySem.Challenge.pw_xw0334_04 [8, 1] = some x} := ⟨_, rfl⟩
noncomputable def fpx8x2 : {x : Arguments × FuncBody × Scope // fnAt PySem.Challenge.pw_xw0334_04 [8, 2] = some x} := ⟨_, rfl⟩
noncomputable def fpx8x3 : {x : Arguments × FuncBody × Scope // fnAt PySem.Challenge.pw_xw0334_04 [8, 3] = some x} := ⟨_, rfl⟩
noncomputable def fpx8x4 : {x : Arguments × FuncBody × Scope // fnAt PySem.Challenge.pw_xw0334_04 [8, 4] = some x} := ⟨_, rfl⟩
noncomputable def fpx8x5 : {x : Arguments × FuncBody × Scope // fnAt PySem.Challenge.pw_xw0334_04 [8, 5] = some x} := ⟨_, rfl⟩
noncomputable def fpx8x6 : {x : Arguments × FuncBody × Scope // fnAt PySem.Challenge.pw_xw0334_04 [8, 6] = some x} := ⟨_, rfl⟩
noncomputable def fpx8x7 : {x : Arguments × FuncBody × Scope // fnAt PySem.Challenge.pw_xw0334_04 [8, 7] = some x} := ⟨_, rfl⟩
noncomputable def fpx8x8 : {x : Arguments × FuncBody × Scope // fnAt PySem.Challenge.pw_xw0334_04 [8, 8] = some x} := ⟨_, rfl⟩
noncomputable def fpx8x9 : {x : Arguments × FuncBody × Scope // fnAt PySem.Challenge.pw_xw0334_04 [8, 9] = some x} := ⟨_, rfl⟩
noncomputable def fpx8x10 : {x : Arguments × FuncBody × Scope // fnAt PySem.Challenge.pw_xw0334_04 [8, 10] = some x} := ⟨_, rfl⟩
noncomputable def fpx8x11 : {x : Arguments × FuncBody × Scope // fnAt PySem.Challenge.pw_xw0334_04 [8, 11] = some x} := ⟨_, rfl⟩
noncomputable def fpx8x12 : {x : Arguments × FuncBody × Scope // fnAt PySem.Challenge.pw_xw0334_04 [8, 12] = some x} := ⟨_, rfl⟩
noncomputable def fpx8x13 : {x : Arguments × FuncBody × Scope // fnAt PySem.Challenge.pw_xw0334_04 [8, 13] = some x} := ⟨_, rfl⟩
noncomputable def fpx8x14 : {x : Arguments × FuncBody × Scope // fnAt PySem.Challenge.pw_xw0334_04 [8, 14] = some x} := ⟨_, rfl⟩
noncomputable def fpx8x15 : {x : Arguments × FuncBody × Scope // fnAt PySem.Challenge.pw_xw0334_04 [8, 15] = some x} := ⟨_, rfl⟩
noncomputable def fpx8x16 : {x : Arguments × FuncBody × Scope // fnAt PySem.Challenge.pw_xw0334_04 [8, 16] = some x} := ⟨_, rfl⟩
noncomputable def fpx10 : {x : Arguments × FuncBody × Scope // fnAt PySem.Challenge.pw_xw0334_04 [10] = some x} := ⟨_, rfl⟩
noncomputable def fpx11 : {x : Arguments × FuncBody × Scope // fnAt PySem.Challenge.pw_xw0334_04 [11] = some x} := ⟨_, rfl⟩
noncomputable def fpx12 : {x : Arguments × FuncBody × Scope // fnAt PySem.Challenge.pw_xw0334_04 [12] = some x} := ⟨_, rfl⟩
noncomputable def fpx13 : {x : Arguments × FuncBody × Scope // fnAt PySem.Challenge.pw_xw0334_04 [13] = some x} := ⟨_, rfl⟩
noncomputable def fpx14 : {x : Arguments × FuncBody × Scope // fnAt PySem.Challenge.pw_xw0334_04 [14] = some x} := ⟨_, rfl⟩
noncomputable def fpx15 : {x : Arguments × FuncBody × Scope // fnAt PySem.Challenge.pw_xw0334_04 [15] = some x} := ⟨_, rfl⟩
noncomputable def fpx16 : {x : Arguments × FuncBody × Scope // fnAt PySem.Challenge.pw_xw0334_04 [16] = some x} := ⟨_, rfl⟩
noncomputable def fpx17 : {x : Arguments × FuncBody × Scope // fnAt PySem.Challenge.pw_xw0334_04 [17] = some x} := ⟨_, rfl⟩
noncomputable abbrev ob11 (P : Params) : Obj := { cls := Value.type "tuple", data := Data.seq #[] }
noncomputable abbrev ob12 (P : Params) : Obj := { cls := Value.none, data := Data.fields #[] }
noncomputable abbrev ob13 (P : Params) : Obj := { cls := Value.type "code", data := Data.fields #[Value.str (Str.ofString "<module>") 182, Value.str (Str.ofString "<module>") 183, Value.str (Str.ofString "/claim/cut.py") 184, Value.int 1 0, Value.int 0 0, Value.int 0 0, Value.int 0 0, Value.int 0 0, Value.ref 11, Value.bool false, Value.int 181 0, Value.ref 12, Value.none, Value.none, Value.none, Value.none, Value.int 185 0, Value.int 1 0, Value.str (Str.ofString "/claim/cut.py") 186] }
noncomputable abbrev ob14 (P : Params) : Obj := { cls := Value.type "frame", slots := #[some (Value.ref 13), some (Value.ref 3), some (Value.ref 3), none, some (Value.str (Str.ofString "__main__") 164), none, some (Value.ref 0)] }
noncomputable abbrev ob3S1 (P : Params) : Obj := { cls := Value.type "dict", data := Data.dict #[{ hash := PyData.keyHash P (Str.ofString "__name__"), key := Value.str (Str.ofString "__name__") 165, val := Value.str (Str.ofString "thinstack.assembly") 224 }, { hash := PyData.keyHash P (Str.ofString "__doc__"), key := Value.str (Str.ofString "__doc__") 166, val := Value.none }, { hash := PyData.keyHash P (Str.ofString "__package__"), key := Value.str (Str.ofString "__package__") 167, val := Value.none }, { hash := PyData.keyHash P (Str.ofString "__loader__"), key := Value.str (Str.ofString "__loader__") 168, val := Value.builtin "__main__.__loader__#opaque" }, { hash := PyData.keyHash P (Str.ofString "__spec__"), key := Value.str (Str.ofString "__spec__") 169, val := Value.none }, { hash := PyData.keyHash P (Str.ofString "__annotations__"), key := Value.str (Str.ofString "__annotations__") 170, val := Value.ref 6 }, { hash := PyData.keyHash P (Str.ofString "__builtins__"), key := Value.str (Str.ofString "__builtins__") 171, val := Value.ref 4 }, { hash := PyData.keyHash P (Str.ofString "__file__"), key := Value.str (Str.ofString "__file__") 173, val := Value.str (Str.ofString "/claim/cut.py") 172 }, { hash := PyData.keyHash P (Str.ofString "__cached__"), key := Value.str (Str.ofString "__cached__") 174, val := Value.none }, { hash := PyData.keyHash P (Str.ofString "_wall"), key := Value.str (Str.ofString "_wall") 193, val := Value.ref 21 }, { hash := PyData.keyHash P (Str.ofString "plus"), key := Value.str (Str.ofString "plus") 204, val := Value.ref 28 }, { hash := PyData.keyHash P (Str.ofString "distance"), key := Value.str (Str.ofString "distance") 213, val := Value.ref 35 }, { hash := PyData.keyHash P (Str.ofString "is_before"), key := Value.str (Str.ofString "is_before") 223, val := Value.ref 42 }] 13 }
noncomputable abbrev ob12S1 (P : Params) : Obj := { cls := Value.none, data := Data.fields #[Value.int 1 0, Value.int 0 0, Value.ref 20, Value.int 5 0, Value.int 0 0, Value.ref 27, Value.int 7 0, Value.int 0 0, Value.ref 34, Value.int 9 0, Value.int 0 0, Value.ref 41] }
noncomputable abbrev ob15 (P : Params) : Obj := { cls := Value.type "tuple", data := Data.seq #[] }
noncomputable abbrev ob16 (P : Params) : Obj := { cls := Value.none, data := Data.fields #[] }
noncomputable abbrev ob17 (P : Params) : Obj := { cls := Value.type "tuple", data := Data.seq #[Value.str (Str.ofString "k") 190] }
noncomputable abbrev ob18 (P : Params) : Obj := { cls := Value.type "tuple", data := Data.seq #[] }
noncomputable abbrev ob19 (P : Params) : Obj := { cls := Value.none, data := Data.func { name := Str.ofString "_wall", qualname := Str.ofString "_wall", params := fpx0.1.1, body := fpx0.1.2.1, scope := fpx0.1.2.2, globals := 0, closure := [], defaults := Value.none, kwdefaults := Value.none } }
noncomputable abbrev ob20 (P : Params) : Obj := { cls := Value.type "code", data := Data.fields #[Value.str (Str.ofString "_wall") 187, Value.str (Str.ofString "_wall") 188, Value.str (Str.ofString "/claim/cut.py") 189, Value.int 1 0, Value.int 1 0, Value.int 0 0, Value.int 0 0, Value.int 3 0, Value.ref 15, Value.bool true, Value.int 181 0, Value.ref 16, Value.none, Value.ref 17, Value.ref 18, Value.ref 19, Value.int 191 0, Value.int 1 0, Value.str (Str.ofString "/claim/cut.py") 192] }
noncomputable abbrev ob21 (P : Params) : Obj := { cls := Value.type "function", data := Data.func { name := Str.ofString "_wall", qualname := Str.ofString "_wall", params := fpx0.1.1, body := fpx0.1.2.1, scope := fpx0.1.2.2, globals := 3, closure := [], defaults := Value.none, kwdefaults := Value.none, pyModule := Value.str (Str.ofString "__main__") 164, code := Value.ref 20 } }
noncomputable abbrev ob22 (P : Params) : Obj := { cls := Value.type "tuple", data := Data.seq #[] }
noncomputable abbrev ob23 (P : Params) : Obj := { cls := Value.none, data := Data.fields #[] }
noncomputable abbrev ob24 (P : Params) : Obj := { cls := Value.type "tuple", data := Data.seq #[Value.str (Str.ofString "a") 199, Value.str (Str.ofString "n") 200, Value.str (Str.ofString "ring") 201] }
noncomputable abbrev ob25 (P : Params) : Obj := { cls := Value.type "tuple", data := Data.seq #[] }
noncomputable abbrev ob26 (P : Params) : Obj := { cls := Value.none, data := Data.func { name := Str.ofString "plus", qualname := Str.ofString "plus", params := fpx2.1.1, body := fpx2.1.2.1, scope := fpx2.1.2.2, globals := 0, closure := [], defaults := Value.none, kwdefaults := Value.none } }
noncomputable abbrev ob27 (P : Params) : Obj := { cls := Value.type "code", data := Data.fields #[Value.str (Str.ofString "plus") 196, Value.str (Str.ofString "plus") 197, Value.str (Str.ofString "/claim/cut.py") 198, Value.int 5 0, Value.int 3 0, Value.int 0 0, Value.int 0 0, Value.int 3 0, Value.ref 22, Value.bool true, Value.int 181 0, Value.ref 23, Value.none, Value.ref 24, Value.ref 25, Value.ref 26, Value.int 202 0, Value.int 5 0, Value.str (Str.ofString "/claim/cut.py") 203] }
noncomputable abbrev ob28 (P : Params) : Obj := { cls := Value.type "function", data := Data.func { name := Str.ofString "plus", qualname := Str.ofString "plus", params := fpx2.1.1, body := fpx2.1.2.1, scope := fpx2.1.2.2, globals := 3, closure := [], defaults := Value.none, kwdefaults := Value.none, pyModule := Value.str (Str.ofString "thinstack.sequence") 194, code := Value.ref 27 } }
noncomputable abbrev ob29 (P : Params) : Obj := { cls := Value.type "tuple", data := Data.seq #[] }
noncomputable abbrev ob30 (P : Params) : Obj := { cls := Value.none, data := Data.fields #[] }
noncomputable abbrev ob31 (P : Params) : Obj := { cls := Value.type "tuple", data := Data.seq #[Value.str (Str.ofString "a") 208, Value.str (Str.ofString "b") 209, Value.str (Str.ofString "ring") 210] }
noncomputable abbrev ob32 (P : Params) : Obj := { cls := Value.type "tuple", data := Data.seq #[] }
noncomputable abbrev ob33 (P : Params) : Obj := { cls := Value.none, data := Data.func { name := Str.ofString "distance", qualname := Str.ofString "distance", params := fpx3.1.1, body := fpx3.1.2.1, scope := fpx3.1.2.2, globals := 0, closure := [], defaults := Value.none, kwdefaults := Value.none } }
noncomputable abbrev ob34 (P : Params) : Obj := { cls := Value.type "code", data := Data.fields #[Value.str (Str.ofString "distance") 205, Value.str (Str.ofString "distance") 206, Value.str (Str.ofString "/claim/cut.py") 207, Value.int 7 0, Value.int 3 0, Value.int 0 0, Value.int 0 0, Value.int 3 0, Value.ref 29, Value.bool true, Value.int 181 0, Value.ref 30, Value.none, Value.ref 31, Value.ref 32, Value.ref 33, Value.int 211 0, Value.int 7 0, Value.str (Str.ofString "/claim/cut.py") 212] }
noncomputable abbrev ob35 (P : Params) : Obj := { cls := Value.type "function", data := Data.func { name := Str.ofString "distance", qualname := Str.ofString "distance", params := fpx3.1.1, body := fpx3.1.2.1, scope := fpx3.1.2.2, globals := 3, closure := [], defaults := Value.none, kwdefaults := Value.none, pyModule := Value.str (Str.ofString "thinstack.sequence") 194, code := Value.ref 34 } }
noncomputable abbrev ob36 (P : Params) : Obj := { cls := Value.type "tuple", data := Data.seq #[] }
noncomputable abbrev ob37 (P : Params) : Obj := { cls := Value.none, data := Data.fields #[] }
noncomputable abbrev ob38 (P : Params) : Obj := { cls := Value.type "tuple", data := Data.seq #[Value.str (Str.ofString "a") 217, Value.str (Str.ofString "b") 218, Value.str (Str.ofString "ring") 219, Value.str (Str.ofString "gap") 220] }
noncomputable abbrev ob39 (P : Params) : Obj := { cls := Value.type "tuple", data := Data.seq #[] }
noncomputable abbrev ob40 (P : Params) : Obj := { cls := Value.none, data := Data.func { name := Str.ofString "is_before", qualname := Str.ofString "is_before", params := fpx4.1.1, body := fpx4.1.2.1, scope := fpx4.1.2.2, globals := 0, closure := [], defaults := Value.none, kwdefaults := Value.none } }
noncomputable abbrev ob41 (P : Params) : Obj := { cls := Value.type "code", data := Data.fields #[Value.str (Str.ofString "is_before") 214, Value.str (Str.ofString "is_before") 215, Value.str (Str.ofString "/claim/cut.py") 216, Value.int 9 0, Value.int 3 0, Value.int 0 0, Value.int 0 0, Value.int 3 0, Value.ref 36, Value.bool true, Value.int 181 0, Value.ref 37, Value.none, Value.ref 38, Value.ref 39, Value.ref 40, Value.int 221 0, Value.int 9 0, Value.str (Str.ofString "/claim/cut.py") 222] }
noncomputable abbrev ob42 (P : Params) : Obj := { cls := Value.type "function", data := Data.func { name := Str.ofString "is_before", qualname := Str.ofString "is_before", params := fpx4.1.1, body := fpx4.1.2.1, scope := fpx4.1.2.2, globals := 3, closure := [], defaults := Value.none, kwdefaults := Value.none, pyModule := Value.str (Str.ofString "thinstack.sequence") 194, code := Value.ref 41 } }
noncomputable abbrev ob3S2 (P : Params) : Obj := { cls := Value.type "dict", data := Data.dict #[{ hash := PyData.keyHash P (Str.ofString "__name__"), key := Value.str (Str.ofString "__name__") 165, val := Value.str (Str.ofString "thinstack.assembly") 224 }, { hash := PyData.keyHash P (Str.ofString "__doc__"), key := Value.str (Str.ofString "__doc__") 166, val := Value.none }, { hash := PyData.keyHash P (Str.ofString "__package__"), key := Value.str (Str.ofString "__package__") 167, val := Value.none }, { hash := PyData.keyHash P (Str.ofString "__loader__"), key := Value.str (Str.ofString "__loader__") 168, val := Value.builtin "__main__.__loader__#opaque" }, { hash := PyData.keyHash P (Str.ofString "__spec__"), key := Value.str (Str.ofString "__spec__") 169, val := Value.none }, { hash := PyData.keyHash P (Str.ofString "__annotations__"), key := Value.str (Str.ofString "__annotations__") 170, val := Value.ref 6 }, { hash := PyData.keyHash P (Str.ofString "__builtins__"), key := Value.str (Str.ofString "__builtins__") 171, val := Value.ref 4 }, { hash := PyData.keyHash P (Str.ofString "__file__"), key := Value.str (Str.ofString "__file__") 173, val := Value.str (Str.ofString "/claim/cut.py") 172 }, { hash := PyData.keyHash P (Str.ofString "__cached__"), key := Value.str (Str.ofString "__cached__") 174, val := Value.none }, { hash := PyData.keyHash P (Str.ofString "_wall"), key := Value.str (Str.ofString "_wall") 193, val := Value.ref 21 }, { hash := PyData.keyHash P (Str.ofString "plus"), key := Value.str (Str.ofString "plus") 204, val := Value.ref 28 }, { hash := PyData.keyHash P (Str.ofString "distance"), key := Value.str (Str.ofString "distance") 213, val := Value.ref 35 }, { hash := PyData.keyHash P (Str.ofString "is_before"), key := Value.str (Str.ofString "is_before") 223, val := Value.ref 42 }, { hash := PyData.keyHash P (Str.ofString "Assembly"), key := Value.str (Str.ofString "Assembly") 381, val := Value.ref 134 }] 14 }
noncomputable abbrev ob12S2 (P : Params) : Obj := { cls := Value.none, data := Data.fields #[Value.int 1 0, Value.int 0 0, Value.ref 20, Value.int 5 0, Value.int 0 0, Value.ref 27, Value.int 7 0, Value.int 0 0, Value.ref 34, Value.int 9 0, Value.int 0 0, Value.ref 41, Value.int 13 0, Value.int 0 0, Value.ref 48] }
noncomputable abbrev ob43 (P : Params) : Obj := { cls := Value.type "tuple", data := Data.seq #[] }
noncomputable abbrev ob44 (P : Params) : Obj := { cls := Value.type "builtin_function_or_method", data := Data.fields #[Value.builtin "type.__prepare__", Value.type "type"] }
noncomputable abbrev ob45 (P : Params) : Obj := { cls := Value.type "dict", data := Data.dict #[{ hash := PyData.keyHash P (Str.ofString "__module__"), key := Value.str (Str.ofString "__module__") 233, val := Value.str (Str.ofString "thinstack.assembly") 224 }, { hash := PyData.keyHash P (Str.ofString "__qualname__"), key := Value.str (Str.ofString "__qualname__") 235, val := Value.str (Str.ofString "Assembly") 234 }, { hash := PyData.keyHash P (Str.ofString "__firstlineno__"), key := Value.str (Str.ofString "__firstlineno__") 237, val := Value.int 13 236 }, { hash := PyData.keyHash P (Str.ofString "__init__"), key := Value.str (Str.ofString "__init__") 245, val := Value.ref 56 }, { hash := PyData.keyHash P (Str.ofString "size"), key := Value.str (Str.ofString "size") 251, val := Value.ref 61 }, { hash := PyData.keyHash P (Str.ofString "is_empty"), key := Value.str (Str.ofString "is_empty") 258, val := Value.ref 68 }, { hash := PyData.keyHash P (Str.ofString "offset"), key := Value.str (Str.ofString "offset") 267, val := Value.ref 75 }, { hash := PyData.keyHash P (Str.ofString "put"), key := Value.str (Str.ofString "put") 279, val := Value.ref 82 }, { hash := PyData.keyHash P (Str.ofString "missing"), key := Value.str (Str.ofString "missing") 296, val := Value.ref 89 }, { hash := PyData.keyHash P (Str.ofString "merged"), key := Value.str (Str.ofString "merged") 310, val := Value.ref 96 }, { hash := PyData.keyHash P (Str.ofString "joined"), key := Value.str (Str.ofString "joined") 325, val := Value.ref 103 }, { hash := PyData.keyHash P (Str.ofString "forget"), key := Value.str (Str.ofString "forget") 336, val := Value.ref 110 }, { hash := PyData.keyHash P (Str.ofString "take"), key := Value.str (Str.ofString "take") 344, val := Value.ref 117 }, { hash := PyData.keyHash P (Str.ofString "holes"), key := Value.str (Str.ofString "holes") 357, val := Value.ref 124 }, { hash := PyData.keyHash P (Str.ofString "cut_behind"), key := Value.str (Str.ofString "cut_behind") 371, val := Value.ref 131 }, { hash := PyData.keyHash P (Str.ofString "__static_attributes__"), key := Value.str (Str.ofString "__static_attributes__") 374, val := Value.ref 132 }] 16 }
noncomputable abbrev ob46 (P : Params) : Obj := { cls := Value.type "tuple", data := Data.seq #[] }
noncomputable abbrev ob47 (P : Params) : Obj := { cls := Value.none, data := Data.fields #[Value.int 15 0, Value.int 4 0, Value.ref 55, Value.int 19 0, Value.int 4 0, Value.ref 60, Value.int 22 0, Value.int 4 0, Value.ref 67, Value.int 25 0, Value.int 4 0, Value.ref 74, Value.int 30 0, Value.int 4 0, Value.ref 81, Value.int 40 0, Value.int 4 0, Value.ref 88, Value.int 57 0, Value.int 4 0, Value.ref 95, Value.int 66 0, Value.int 4 0, Value.ref 102, Value.int 77 0, Value.int 4 0, Value.ref 109, Value.int 88 0, Value.int 4 0, Value.ref 116, Value.int 94 0, Value.int 4 0, Value.ref 123, Value.int 103 0, Value.int 4 0, Value.ref 130] }
noncomputable abbrev ob48 (P : Params) : Obj := { cls := Value.type "code", data := Data.fields #[Value.str (Str.ofString "Assembly") 228, Value.str (Str.ofString "Assembly") 229, Value.str (Str.ofString "/claim/cut.py") 230, Value.int 13 0, Value.int 0 0, Value.int 0 0, Value.int 0 0, Value.int 0 0, Value.ref 46, Value.bool false, Value.int 181 0, Value.ref 47, Value.none, Value.none, Value.none, Value.none, Value.int 231 0, Value.int 13 0, Value.str (Str.ofString "/claim/cut.py") 232] }
noncomputable abbrev ob49 (P : Params) : Obj := { cls := Value.type "frame", slots := #[some (Value.ref 48), some (Value.ref 3), some (Value.ref 45), none, some (Value.str (Str.ofString "thinstack.assembly") 224), none, some (Value.ref 0)] }
noncomputable abbrev ob50 (P : Params) : Obj := { cls := Value.type "tuple", data := Data.seq #[] }
noncomputable abbrev ob51 (P : Params) : Obj := { cls := Value.none, data := Data.fields #[] }
noncomputable abbrev ob52 (P : Params) : Obj := { cls := Value.type "tuple", data := Data.seq #[Value.str (Str.ofString "self") 241, Value.str (Str.ofString "ring") 242] }
noncomputable abbrev ob53 (P : Params) : Obj := { cls := Value.type "tuple", data := Data.seq #[] }
noncomputable abbrev ob54 (P : Params) : Obj := { cls := Value.none, data := Data.func { name := Str.ofString "__init__", qualname := Str.ofString "Assembly.__init__", params := fpx6x0.1.1, body := fpx6x0.1.2.1, scope := fpx6x0.1.2.2, globals := 0, closure := [], defaults := Value.none, kwdefaults := Value.none } }
noncomputable abbrev ob55 (P : Params) : Obj := { cls := Value.type "code", data := Data.fields #[Value.str (Str.ofString "__init__") 238, Value.str (Str.ofString "Assembly.__init__") 239, Value.str (Str.ofString "/claim/cut.py") 240, Value.int 15 0, Value.int 2 0, Value.int 0 0, Value.int 0 0, Value.int 3 0, Value.ref 50, Value.bool true, Value.int 181 0, Value.ref 51, Value.none, Value.ref 52, Value.ref 53, Value.ref 54, Value.int 243 0, Value.int 15 0, Value.str (Str.ofString "/claim/cut.py") 244] }
noncomputable abbrev ob56 (P : Params) : Obj := { cls := Value.type "function", data := Data.func { name := Str.ofString "__init__", qualname := Str.ofString "Assembly.__init__", params := fpx6x0.1.1, body := fpx6x0.1.2.1, scope := fpx6x0.1.2.2, globals := 3, closure := [], defaults := Value.none, kwdefaults := Value.none, pyModule := Value.str (Str.ofString "thinstack.assembly") 224, code := Value.ref 55 } }
noncomputable abbrev ob57 (P : Params) : Obj := { cls := Value.type "tuple", data := Data.seq #[] }
noncomputable abbrev ob58 (P : Params) : Obj := { cls := Value.none, data := Data.fields #[] }
noncomputable abbrev ob59 (P : Params) : Obj := { cls := Value.none, data := Data.func { name := Str.ofString "size", qualname := Str.ofString "Assembly.size", params := fpx6x1.1.1, body := fpx6x1.1.2.1, scope := fpx6x1.1.2.2, globals := 0, closure := [], defaults := Value.none, kwdefaults := Value.none } }
noncomputable abbrev ob60 (P : Params) : Obj := { cls := Value.type "code", data := Data.fields #[Value.str (Str.ofString "size") 246, Value.str (Str.ofString "Assembly.size") 247, Value.str (Str.ofString "/claim/cut.py") 248, Value.int 19 0, Value.int 1 0, Value.int 0 0, Value.int 0 0, Value.int 3 0, Value.ref 57, Value.bool true, Value.int 181 0, Value.ref 58, Value.none, Value.none, Value.none, Value.ref 59, Value.int 249 0, Value.int 19 0, Value.str (Str.ofString "/claim/cut.py") 250] }
noncomputable abbrev ob61 (P : Params) : Obj := { cls := Value.type "function", data := Data.func { name := Str.ofString "size", qualname := Str.ofString "Assembly.size", params := fpx6x1.1.1, body := fpx6x1.1.2.1, scope := fpx6x1.1.2.2, globals := 3, closure := [], defaults := Value.none, kwdefaults := Value.none, pyModule := Value.str (Str.ofString "thinstack.assembly") 224, code := Value.ref 60 } }
noncomputable abbrev ob62 (P : Params) : Obj := { cls := Value.type "tuple", data := Data.seq #[] }
noncomputable abbrev ob63 (P : Params) : Obj := { cls := Value.none, data := Data.fields #[] }
noncomputable abbrev ob64 (P : Params) : Obj := { cls := Value.type "tuple", data := Data.seq #[Value.str (Str.ofString "self") 255] }
noncomputable abbrev ob65 (P : Params) : Obj := { cls := Value.type "tuple", data := Data.seq #[] }
noncomputable abbrev ob66 (P : Params) : Obj := { cls := Value.none, data := Data.func { name := Str.ofString "is_empty", qualname := Str.ofString "Assembly.is_empty", params := fpx6x2.1.1, body := fpx6x2.1.2.1, scope := fpx6x2.1.2.2, globals := 0, closure := [], defaults := Value.none, kwdefaults := Value.none } }
noncomputable abbrev ob67 (P : Params) : Obj := { cls := Value.type "code", data := Data.fields #[Value.str (Str.ofString "is_empty") 252, Value.str (Str.ofString "Assembly.is_empty") 253, Value.str (Str.ofString "/claim/cut.py") 254, Value.int 22 0, Value.int 1 0, Value.int 0 0, Value.int 0 0, Value.int 3 0, Value.ref 62, Value.bool true, Value.int 181 0, Value.ref 63, Value.none, Value.ref 64, Value.ref 65, Value.ref 66, Value.int 256 0, Value.int 22 0, Value.str (Str.ofString "/claim/cut.py") 257] }
noncomputable abbrev ob68 (P : Params) : Obj := { cls := Value.type "function", data := Data.func { name := Str.ofString "is_empty", qualname := Str.ofString "Assembly.is_empty", params := fpx6x2.1.1, body := fpx6x2.1.2.1, scope := fpx6x2.1.2.2, globals := 3, closure := [], defaults := Value.none, kwdefaults := Value.none, pyModule := Value.str (Str.ofString "thinstack.assembly") 224, code := Value.ref 67 } }
noncomputable abbrev ob69 (P : Params) : Obj := { cls := Value.type "tuple", data := Data.seq #[] }
noncomputable abbrev ob70 (P : Params) : Obj := { cls := Value.none, data := Data.fields #[] }
noncomputable abbrev ob71 (P : Params) : Obj := { cls := Value.type "tuple", data := Data.seq #[Value.str (Str.ofString "self") 262, Value.str (Str.ofString "seq") 263, Value.str (Str.ofString "next") 264] }
noncomputable abbrev ob72 (P : Params) : Obj := { cls := Value.type "tuple", data := Data.seq #[] }
noncomputable abbrev ob73 (P : Params) : Obj := { cls := Value.none, data := Data.func { name := Str.ofString "offset", qualname := Str.ofString "Assembly.offset", params := fpx6x3.1.1, body := fpx6x3.1.2.1, scope := fpx6x3.1.2.2, globals := 0, closure := [], defaults := Value.none, kwdefaults := Value.none } }
noncomputable abbrev ob74 (P : Params) : Obj := { cls := Value.type "code", data := Data.fields #[Value.str (Str.ofString "offset") 259, Value.str (Str.ofString "Assembly.offset") 260, Value.str (Str.ofString "/claim/cut.py") 261, Value.int 25 0, Value.int 3 0, Value.int 0 0, Value.int 0 0, Value.int 3 0, Value.ref 69, Value.bool true, Value.int 181 0, Value.ref 70, Value.none, Value.ref 71, Value.ref 72, Value.ref 73, Value.int 265 0, Value.int 25 0, Value.str (Str.ofString "/claim/cut.py") 266] }
noncomputable abbrev ob75 (P : Params) : Obj := { cls := Value.type "function", data := Data.func { name := Str.ofString "offset", qualname := Str.ofString "Assembly.offset", params := fpx6x3.1.1, body := fpx6x3.1.2.1, scope := fpx6x3.1.2.2, globals := 3, closure := [], defaults := Value.none, kwdefaults := Value.none, pyModule := Value.str (Str.ofString "thinstack.assembly") 224, code := Value.ref 74 } }
noncomputable abbrev ob76 (P : Params) : Obj := { cls := Value.type "tuple", data := Data.seq #[] }
noncomputable abbrev ob77 (P : Params) : Obj := { cls := Value.none, data := Data.fields #[] }
noncomputable abbrev ob78 (P : Params) : Obj := { cls := Value.type "tuple", data := Data.seq #[Value.str (Str.ofString "self") 271, Value.str (Str.ofString "seq") 272, Value.str (Str.ofString "octets") 273, Value.str (Str.ofString "next") 274, Value.str (Str.ofString "begin") 275, Value.str (Str.ofString "fresh") 276] }
noncomputable abbrev ob79 (P : Params) : Obj := { cls := Value.type "tuple", data := Data.seq #[] }
noncomputable abbrev ob80 (P : Params) : Obj := { cls := Value.none, data := Data.func { name := Str.ofString "put", qualname := Str.ofString "Assembly.put", params := fpx6x4.1.1, body := fpx6x4.1.2.1, scope := fpx6x4.1.2.2, globals := 0, closure := [], defaults := Value.none, kwdefaults := Value.none } }
noncomputable abbrev ob81 (P : Params) : Obj := { cls := Value.type "code", data := Data.fields #[Value.str (Str.ofString "put") 268, Value.str (Str.ofString "Assembly.put") 269, Value.str (Str.ofString "/claim/cut.py") 270, Value.int 30 0, Value.int 4 0, Value.int 0 0, Value.int 0 0, Value.int 3 0, Value.ref 76, Value.bool true, Value.int 181 0, Value.ref 77, Value.none, Value.ref 78, Value.ref 79, Value.ref 80, Value.int 277 0, Value.int 30 0, Value.str (Str.ofString "/claim/cut.py") 278] }
noncomputable abbrev ob82 (P : Params) : Obj := { cls := Value.type "function", data := Data.func { name := Str.ofString "put", qualname := Str.ofString "Assembly.put", params := fpx6x4.1.1, body := fpx6x4.1.2.1, scope := fpx6x4.1.2.2, globals := 3, closure := [], defaults := Value.none, kwdefaults := Value.none, pyModule := Value.str (Str.ofString "thinstack.assembly") 224, code := Value.ref 81 } }
noncomputable abbrev ob83 (P : Params) : Obj := { cls := Value.type "tuple", data := Data.seq #[] }
noncomputable abbrev ob84 (P : Params) : Obj := { cls := Value.none, data := Data.fields #[] }
noncomputable abbrev ob85 (P : Params) : Obj := { cls := Value.type "tuple", data := Data.seq #[Value.str (Str.ofString "self") 283, Value.str (Str.ofString "begin") 284, Value.str (Str.ofString "octets") 285, Value.str (Str.ofString "next") 286, Value.str (Str.ofString "end") 287, Value.str (Str.ofString "found") 288, Value.str (Str.ofString "at") 289, Value.str (Str.ofString "seq") 290, Value.str (Str.ofString "kept") 291, Value.str (Str.ofString "first") 292, Value.str (Str.ofString "last") 293] }
noncomputable abbrev ob86 (P : Params) : Obj := { cls := Value.type "tuple", data := Data.seq #[] }
noncomputable abbrev ob87 (P : Params) : Obj := { cls := Value.none, data := Data.func { name := Str.ofString "missing", qualname := Str.ofString "Assembly.missing", params := fpx6x5.1.1, body := fpx6x5.1.2.1, scope := fpx6x5.1.2.2, globals := 0, closure := [], defaults := Value.none, kwdefaults := Value.none } }
noncomputable abbrev ob88 (P : Params) : Obj := { cls := Value.type "code", data := Data.fields #[Value.str (Str.ofString "missing") 280, Value.str (Str.ofString "Assembly.missing") 281, Value.str (Str.ofString "/claim/cut.py") 282, Value.int 40 0, Value.int 4 0, Value.int 0 0, Value.int 0 0, Value.int 3 0, Value.ref 83, Value.bool true, Value.int 181 0, Value.ref 84, Value.none, Value.ref 85, Value.ref 86, Value.ref 87, Value.int 294 0, Value.int 40 0, Value.str (Str.ofString "/claim/cut.py") 295] }
noncomputable abbrev ob89 (P : Params) : Obj := { cls := Value.type "function", data := Data.func { name := Str.ofString "missing", qualname := Str.ofString "Assembly.missing", params := fpx6x5.1.1, body := fpx6x5.1.2.1, scope := fpx6x5.1.2.2, globals := 3, closure := [], defaults := Value.none, kwdefaults := Value.none, pyModule := Value.str (Str.ofString "thinstack.assembly") 224, code := Value.ref 88 } }
noncomputable abbrev ob90 (P : Params) : Obj := { cls := Value.type "tuple", data := Data.seq #[] }
noncomputable abbrev ob91 (P : Params) : Obj := { cls := Value.none, data := Data.fields #[] }
noncomputable abbrev ob92 (P : Params) : Obj := { cls := Value.type "tuple", data := Data.seq #[Value.str (Str.ofString "self") 300, Value.str (Str.ofString "fresh") 301, Value.str (Str.ofString "next") 302, Value.str (Str.ofString "found") 303, Value.str (Str.ofString "rest") 304, Value.str (Str.ofString "seq") 305, Value.str (Str.ofString "kept") 306, Value.str (Str.ofString "first") 307] }
noncomputable abbrev ob93 (P : Params) : Obj := { cls := Value.type "tuple", data := Data.seq #[] }
noncomputable abbrev ob94 (P : Params) : Obj := { cls := Value.none, data := Data.func { name := Str.ofString "merged", qualname := Str.ofString "Assembly.merged", params := fpx6x6.1.1, body := fpx6x6.1.2.1, scope := fpx6x6.1.2.2, globals := 0, closure := [], defaults := Value.none, kwdefaults := Value.none } }
noncomputable abbrev ob95 (P : Params) : Obj := { cls := Value.type "code", data := Data.fields #[Value.str (Str.ofString "merged") 297, Value.str (Str.ofString "Assembly.merged") 298, Value.str (Str.ofString "/claim/cut.py") 299, Value.int 57 0, Value.int 3 0, Value.int 0 0, Value.int 0 0, Value.int 3 0, Value.ref 90, Value.bool true, Value.int 181 0, Value.ref 91, Value.none, Value.ref 92, Value.ref 93, Value.ref 94, Value.int 308 0, Value.int 57 0, Value.str (Str.ofString "/claim/cut.py") 309] }
noncomputable abbrev ob96 (P : Params) : Obj := { cls := Value.type "function", data := Data.func { name := Str.ofString "merged", qualname := Str.ofString "Assembly.merged", params := fpx6x6.1.1, body := fpx6x6.1.2.1, scope := fpx6x6.1.2.2, globals := 3, closure := [], defaults := Value.none, kwdefaults := Value.none, pyModule := Value.str (Str.ofString "thinstack.assembly") 224, code := Value.ref 95 } }
noncomputable abbrev ob97 (P : Params) : Obj := { cls := Value.type "tuple", data := Data.seq #[] }
noncomputable abbrev ob98 (P : Params) : Obj := { cls := Value.none, data := Data.fields #[] }
noncomputable abbrev ob99 (P : Params) : Obj := { cls := Value.type "tuple", data := Data.seq #[Value.str (Str.ofString "self") 314, Value.str (Str.ofString "pieces") 315, Value.str (Str.ofString "next") 316, Value.str (Str.ofString "found") 317, Value.str (Str.ofString "end") 318, Value.str (Str.ofString "first") 319, Value.str (Str.ofString "octets") 320, Value.str (Str.ofString "seq") 321, Value.str (Str.ofString "ahead") 322] }
noncomputable abbrev ob100 (P : Params) : Obj := { cls := Value.type "tuple", data := Data.seq #[] }
noncomputable abbrev ob101 (P : Params) : Obj := { cls := Value.none, data := Data.func { name := Str.ofString "joined", qualname := Str.ofString "Assembly.joined", params := fpx6x7.1.1, body := fpx6x7.1.2.1, scope := fpx6x7.1.2.2, globals := 0, closure := [], defaults := Value.none, kwdefaults := Value.none } }
noncomputable abbrev ob102 (P : Params) : Obj := { cls := Value.type "code", data := Data.fields #[Value.str (Str.ofString "joined") 311, Value.str (Str.ofString "Assembly.joined") 312, Value.str (Str.ofString "/claim/cut.py") 313, Value.int 66 0, Value.int 3 0, Value.int 0 0, Value.int 0 0, Value.int 3 0, Value.ref 97, Value.bool true, Value.int 181 0, Value.ref 98, Value.none, Value.ref 99, Value.ref 100, Value.ref 101, Value.int 323 0, Value.int 66 0, Value.str (Str.ofString "/claim/cut.py") 324] }
noncomputable abbrev ob103 (P : Params) : Obj := { cls := Value.type "function", data := Data.func { name := Str.ofString "joined", qualname := Str.ofString "Assembly.joined", params := fpx6x7.1.1, body := fpx6x7.1.2.1, scope := fpx6x7.1.2.2, globals := 3, closure := [], defaults := Value.none, kwdefaults := Value.none, pyModule := Value.str (Str.ofString "thinstack.assembly") 224, code := Value.ref 102 } }
noncomputable abbrev ob104 (P : Params) : Obj := { cls := Value.type "tuple", data := Data.seq #[] }
noncomputable abbrev ob105 (P : Params) : Obj := { cls := Value.none, data := Data.fields #[] }
noncomputable abbrev ob106 (P : Params) : Obj := { cls := Value.type "tuple", data := Data.seq #[Value.str (Str.ofString "self") 329, Value.str (Str.ofString "next") 330, Value.str (Str.ofString "seq") 331, Value.str (Str.ofString "octets") 332, Value.str (Str.ofString "begin") 333] }
noncomputable abbrev ob107 (P : Params) : Obj := { cls := Value.type "tuple", data := Data.seq #[] }
noncomputable abbrev ob108 (P : Params) : Obj := { cls := Value.none, data := Data.func { name := Str.ofString "forget", qualname := Str.ofString "Assembly.forget", params := fpx6x8.1.1, body := fpx6x8.1.2.1, scope := fpx6x8.1.2.2, globals := 0, closure := [], defaults := Value.none, kwdefaults := Value.none } }
noncomputable abbrev ob109 (P : Params) : Obj := { cls := Value.type "code", data := Data.fields #[Value.str (Str.ofString "forget") 326, Value.str (Str.ofString "Assembly.forget") 327, Value.str (Str.ofString "/claim/cut.py") 328, Value.int 77 0, Value.int 2 0, Value.int 0 0, Value.int 0 0, Value.int 3 0, Value.ref 104, Value.bool true, Value.int 181 0, Value.ref 105, Value.none, Value.ref 106, Value.ref 107, Value.ref 108, Value.int 334 0, Value.int 77 0, Value.str (Str.ofString "/claim/cut.py") 335] }
noncomputable abbrev ob110 (P : Params) : Obj := { cls := Value.type "function", data := Data.func { name := Str.ofString "forget", qualname := Str.ofString "Assembly.forget", params := fpx6x8.1.1, body := fpx6x8.1.2.1, scope := fpx6x8.1.2.2, globals := 3, closure := [], defaults := Value.none, kwdefaults := Value.none, pyModule := Value.str (Str.ofString "thinstack.assembly") 224, code := Value.ref 109 } }
noncomputable abbrev ob111 (P : Params) : Obj := { cls := Value.type "tuple", data := Data.seq #[] }
noncomputable abbrev ob112 (P : Params) : Obj := { cls := Value.none, data := Data.fields #[] }
noncomputable abbrev ob113 (P : Params) : Obj := { cls := Value.type "tuple", data := Data.seq #[Value.str (Str.ofString "self") 340, Value.str (Str.ofString "next") 341] }
noncomputable abbrev ob114 (P : Params) : Obj := { cls := Value.type "tuple", data := Data.seq #[] }
noncomputable abbrev ob115 (P : Params) : Obj := { cls := Value.none, data := Data.func { name := Str.ofString "take", qualname := Str.ofString "Assembly.take", params := fpx6x9.1.1, body := fpx6x9.1.2.1, scope := fpx6x9.1.2.2, globals := 0, closure := [], defaults := Value.none, kwdefaults := Value.none } }
noncomputable abbrev ob116 (P : Params) : Obj := { cls := Value.type "code", data := Data.fields #[Value.str (Str.ofString "take") 337, Value.str (Str.ofString "Assembly.take") 338, Value.str (Str.ofString "/claim/cut.py") 339, Value.int 88 0, Value.int 2 0, Value.int 0 0, Value.int 0 0, Value.int 3 0, Value.ref 111, Value.bool true, Value.int 181 0, Value.ref 112, Value.none, Value.ref 113, Value.ref 114, Value.ref 115, Value.int 342 0, Value.int 88 0, Value.str (Str.ofString "/claim/cut.py") 343] }
noncomputable abbrev ob117 (P : Params) : Obj := { cls := Value.type "function", data := Data.func { name := Str.ofString "take", qualname := Str.ofString "Assembly.take", params := fpx6x9.1.1, body := fpx6x9.1.2.1, scope := fpx6x9.1.2.2, globals := 3, closure := [], defaults := Value.none, kwdefaults := Value.none, pyModule := Value.str (Str.ofString "thinstack.assembly") 224, code := Value.ref 116 } }
noncomputable abbrev ob118 (P : Params) : Obj := { cls := Value.type "tuple", data := Data.seq #[] }
noncomputable abbrev ob119 (P : Params) : Obj := { cls := Value.none, data := Data.fields #[] }
noncomputable abbrev ob120 (P : Params) : Obj := { cls := Value.type "tuple", data := Data.seq #[Value.str (Str.ofString "self") 348, Value.str (Str.ofString "next") 349, Value.str (Str.ofString "found") 350, Value.str (Str.ofString "at") 351, Value.str (Str.ofString "seq") 352, Value.str (Str.ofString "octets") 353, Value.str (Str.ofString "missing") 354] }
noncomputable abbrev ob121 (P : Params) : Obj := { cls := Value.type "tuple", data := Data.seq #[] }
noncomputable abbrev ob122 (P : Params) : Obj := { cls := Value.none, data := Data.func { name := Str.ofString "holes", qualname := Str.ofString "Assembly.holes", params := fpx6x10.1.1, body := fpx6x10.1.2.1, scope := fpx6x10.1.2.2, globals := 0, closure := [], defaults := Value.none, kwdefaults := Value.none } }
noncomputable abbrev ob123 (P : Params) : Obj := { cls := Value.type "code", data := Data.fields #[Value.str (Str.ofString "holes") 345, Value.str (Str.ofString "Assembly.holes") 346, Value.str (Str.ofString "/claim/cut.py") 347, Value.int 94 0, Value.int 2 0, Value.int 0 0, Value.int 0 0, Value.int 3 0, Value.ref 118, Value.bool true, Value.int 181 0, Value.ref 119, Value.none, Value.ref 120, Value.ref 121, Value.ref 122, Value.int 355 0, Value.int 94 0, Value.str (Str.ofString "/claim/cut.py") 356] }
noncomputable abbrev ob124 (P : Params) : Obj := { cls := Value.type "function", data := Data.func { name := Str.ofString "holes", qualname := Str.ofString "Assembly.holes", params := fpx6x10.1.1, body := fpx6x10.1.2.1, scope := fpx6x10.1.2.2, globals := 3, closure := [], defaults := Value.none, kwdefaults := Value.none, pyModule := Value.str (Str.ofString "thinstack.assembly") 224, code := Value.ref 123 } }
noncomputable abbrev ob125 (P : Params) : Obj := { cls := Value.type "tuple", data := Data.seq #[] }
noncomputable abbrev ob126 (P : Params) : Obj := { cls := Value.none, data := Data.fields #[] }
noncomputable abbrev ob127 (P : Params) : Obj := { cls := Value.type "tuple", data := Data.seq #[Value.str (Str.ofString "self") 361, Value.str (Str.ofString "edge") 362, Value.str (Str.ofString "next") 363, Value.str (Str.ofString "most") 364, Value.str (Str.ofString "found") 365, Value.str (Str.ofString "seq") 366, Value.str (Str.ofString "octets") 367, Value.str (Str.ofString "left") 368] }
noncomputable abbrev ob128 (P : Params) : Obj := { cls := Value.type "tuple", data := Data.seq #[] }
noncomputable abbrev ob129 (P : Params) : Obj := { cls := Value.none, data := Data.func { name := Str.ofString "cut_behind", qualname := Str.ofString "Assembly.cut_behind", params := fpx6x11.1.1, body := fpx6x11.1.2.1, scope := fpx6x11.1.2.2, globals := 0, closure := [], defaults := Value.none, kwdefaults := Value.none } }
noncomputable abbrev ob130 (P : Params) : Obj := { cls := Value.type "code", data := Data.fields #[Value.str (Str.ofString "cut_behind") 358, Value.str (Str.ofString "Assembly.cut_behind") 359, Value.str (Str.ofString "/claim/cut.py") 360, Value.int 103 0, Value.int 3 0, Value.int 0 0, Value.int 0 0, Value.int 3 0, Value.ref 125, Value.bool true, Value.int 181 0, Value.ref 126, Value.none, Value.ref 127, Value.ref 128, Value.ref 129, Value.int 369 0, Value.int 103 0, Value.str (Str.ofString "/claim/cut.py") 370] }
noncomputable abbrev ob131 (P : Params) : Obj := { cls := Value.type "function", data := Data.func { name := Str.ofString "cut_behind", qualname := Str.ofString "Assembly.cut_behind", params := fpx6x11.1.1, body := fpx6x11.1.2.1, scope := fpx6x11.1.2.2, globals := 3, closure := [], defaults := Value.none, kwdefaults := Value.none, pyModule := Value.str (Str.ofString "thinstack.assembly") 224, code := Value.ref 130 } }
noncomputable abbrev ob132 (P : Params) : Obj := { cls := Value.type "tuple", data := Data.seq #[Value.str (Str.ofString "parts") 372, Value.str (Str.ofString "ring") 373] }
noncomputable abbrev ob133 (P : Params) : Obj := { cls := Value.type "dict", data := Data.dict #[{ hash := PyData.keyHash P (Str.ofString "__module__"), key := Value.str (Str.ofString "__module__") 233, val := Value.str (Str.ofString "thinstack.assembly") 224 }, { hash := PyData.keyHash P (Str.ofString "__firstlineno__"), key := Value.str (Str.ofString "__firstlineno__") 237, val := Value.int 13 236 }, { hash := PyData.keyHash P (Str.ofString "__init__"), key := Value.str (Str.ofString "__init__") 245, val := Value.ref 56 }, { hash := PyData.keyHash P (Str.ofString "size"), key := Value.str (Str.ofString "size") 251, val := Value.ref 61 }, { hash := PyData.keyHash P (Str.ofString "is_empty"), key := Value.str (Str.ofString "is_empty") 258, val := Value.ref 68 }, { hash := PyData.keyHash P (Str.ofString "offset"), key := Value.str (Str.ofString "offset") 267, val := Value.ref 75 }, { hash := PyData.keyHash P (Str.ofString "put"), key := Value.str (Str.ofString "put") 279, val := Value.ref 82 }, { hash := PyData.keyHash P (Str.ofString "missing"), key := Value.str (Str.ofString "missing") 296, val := Value.ref 89 }, { hash := PyData.keyHash P (Str.ofString "merged"), key := Value.str (Str.ofString "merged") 310, val := Value.ref 96 }, { hash := PyData.keyHash P (Str.ofString "joined"), key := Value.str (Str.ofString "joined") 325, val := Value.ref 103 }, { hash := PyData.keyHash P (Str.ofString "forget"), key := Value.str (Str.ofString "forget") 336, val := Value.ref 110 }, { hash := PyData.keyHash P (Str.ofString "take"), key := Value.str (Str.ofString "take") 344, val := Value.ref 117 }, { hash := PyData.keyHash P (Str.ofString "holes"), key := Value.str (Str.ofString "holes") 357, val := Value.ref 124 }, { hash := PyData.keyHash P (Str.ofString "cut_behind"), key := Value.str (Str.ofString "cut_behind") 371, val := Value.ref 131 }, { hash := PyData.keyHash P (Str.ofString "__static_attributes__"), key := Value.str (Str.ofString "__static_attributes__") 374, val := Value.ref 132 }, { hash := PyData.keyHash P (Str.ofString "__dict__"), key := Value.str (Str.ofString "__dict__") 376, val := Value.ref 135 }, { hash := PyData.keyHash P (Str.ofString "__weakref__"), key := Value.str (Str.ofString "__weakref__") 378, val := Value.ref 136 }, { hash := PyData.keyHash P (Str.ofString "__doc__"), key := Value.str (Str.ofString "__doc__") 379, val := Value.none }] 4 }
noncomputable abbrev ob134 (P : Params) : Obj := { cls := Value.type "type", data := Data.cls { name := Str.ofString "Assembly", bases := [Value.type "object"], mro := [Value.ref 134, Value.type "object"], ns := 133, qualname := Str.ofString "Assembly" }, slots := #[none, none, some (Value.str (Str.ofString "Assembly") 226), some (Value.str (Str.ofString "Assembly") 234), some (Value.builtin "object.__new__"), some (Value.bool true)] }
noncomputable abbrev ob135 (P : Params) : Obj := { cls := Value.type "getset_descriptor", data := Data.fields #[Value.str (Str.ofString "__dict__") 375, Value.ref 134, Value.builtin "function.__dict__", Value.builtin "function.__dict__#set"] }
noncomputable abbrev ob136 (P : Params) : Obj := { cls := Value.type "getset_descriptor", data := Data.fields #[Value.str (Str.ofString "__weakref__") 377, Value.ref 134, Value.builtin "ExceptionGroup.__weakref__", Value.none] }
noncomputable abbrev ob137 (P : Params) : Obj := { cls := Value.type "super", data := Data.fields #[Value.ref 134, Value.ref 134, Value.ref 134] }
noncomputable abbrev ob138 (P : Params) : Obj := { cls := Value.type "builtin_function_or_method", data := Data.fields #[Value.builtin "object.__init_subclass__", Value.ref 134] }
noncomputable abbrev ob3S3 (P : Params) : Obj := { cls := Value.type "dict", data := Data.dict #[{ hash := PyData.keyHash P (Str.ofString "__name__"), key := Value.str (Str.ofString "__name__") 165, val := Value.str (Str.ofString "thinstack.receiver") 382 }, { hash := PyData.keyHash P (Str.ofString "__doc__"), key := Value.str (Str.ofString "__doc__") 166, val := Value.none }, { hash := PyData.keyHash P (Str.ofString "__package__"), key := Value.str (Str.ofString "__package__") 167, val := Value.none }, { hash := PyData.keyHash P (Str.ofString "__loader__"), key := Value.str (Str.ofString "__loader__") 168, val := Value.builtin "__main__.__loader__#opaque" }, { hash := PyData.keyHash P (Str.ofString "__spec__"), key := Value.str (Str.ofString "__spec__") 169, val := Value.none }, { hash := PyData.keyHash P (Str.ofString "__annotations__"), key := Value.str (Str.ofString "__annotations__") 170, val := Value.ref 6 }, { hash := PyData.keyHash P (Str.ofString "__builtins__"), key := Value.str (Str.ofString "__builtins__") 171, val := Value.ref 4 }, { hash := PyData.keyHash P (Str.ofString "__file__"), key := Value.str (Str.ofString "__file__") 173, val := Value.str (Str.ofString "/claim/cut.py") 172 }, { hash := PyData.keyHash P (Str.ofString "__cached__"), key := Value.str (Str.ofString "__cached__") 174, val := Value.none }, { hash := PyData.keyHash P (Str.ofString "_wall"), key := Value.str (Str.ofString "_wall") 193, val := Value.ref 21 }, { hash := PyData.keyHash P (Str.ofString "plus"), key := Value.str (Str.ofString "plus") 204, val := Value.ref 28 }, { hash := PyData.keyHash P (Str.ofString "distance"), key := Value.str (Str.ofString "distance") 213, val := Value.ref 35 }, { hash := PyData.keyHash P (Str.ofString "is_before"), key := Value.str (Str.ofString "is_before") 223, val := Value.ref 42 }, { hash := PyData.keyHash P (Str.ofString "Assembly"), key := Value.str (Str.ofString "Assembly") 381, val := Value.ref 134 }] 14 }
noncomputable abbrev ob3S4 (P : Params) : Obj := { cls := Value.type "dict", data := Data.dict #[{ hash := PyData.keyHash P (Str.ofString "__name__"), key := Value.str (Str.ofString "__name__") 165, val := Value.str (Str.ofString "thinstack.receiver") 382 }, { hash := PyData.keyHash P (Str.ofString "__doc__"), key := Value.str (Str.ofString "__doc__") 166, val := Value.none }, { hash := PyData.keyHash P (Str.ofString "__package__"), key := Value.str (Str.ofString "__package__") 167, val := Value.none }, { hash := PyData.keyHash P (Str.ofString "__loader__"), key := Value.str (Str.ofString "__loader__") 168, val := Value.builtin "__main__.__loader__#opaque" }, { hash := PyData.keyHash P (Str.ofString "__spec__"), key := Value.str (Str.ofString "__spec__") 169, val := Value.none }, { hash := PyData.keyHash P (Str.ofString "__annotations__"), key := Value.str (Str.ofString "__annotations__") 170, val := Value.ref 6 }, { hash := PyData.keyHash P (Str.ofString "__builtins__"), key := Value.str (Str.ofString "__builtins__") 171, val := Value.ref 4 }, { hash := PyData.keyHash P (Str.ofString "__file__"), key := Value.str (Str.ofString "__file__") 173, val := Value.str (Str.ofString "/claim/cut.py") 172 }, { hash := PyData.keyHash P (Str.ofString "__cached__"), key := Value.str (Str.ofString "__cached__") 174, val := Value.none }, { hash := PyData.keyHash P (Str.ofString "_wall"), key := Value.str (Str.ofString "_wall") 193, val := Value.ref 21 }, { hash := PyData.keyHash P (Str.ofString "plus"), key := Value.str (Str.ofString "plus") 204, val := Value.ref 28 }, { hash := PyData.keyHash P (Str.ofString "distance"), key := Value.str (Str.ofString "distance") 213, val := Value.ref 35 }, { hash := PyData.keyHash P (Str.ofString "is_before"), key := Value.str (Str.ofString "is_before") 223, val := Value.ref 42 }, { hash := PyData.keyHash P (Str.ofString "Assembly"), key := Value.str (Str.ofString "Assembly") 381, val := Value.ref 134 }, { hash := PyData.keyHash P (Str.ofString "Receiver"), key := Value.str (Str.ofString "Receiver") 550, val := Value.ref 268 }] 15 }
noncomputable abbrev ob12S4 (P : Params) : Obj := { cls := Value.none, data := Data.fields #[Value.int 1 0, Value.int 0 0, Value.ref 20, Value.int 5 0, Value.int 0 0, Value.ref 27, Value.int 7 0, Value.int 0 0, Value.ref 34, Value.int 9 0, Value.int 0 0, Value.ref 41, Value.int 13 0, Value.int 0 0, Value.ref 48, Value.int 112 0, Value.int 0 0, Value.ref 144] }
noncomputable abbrev ob139 (P : Params) : Obj := { cls := Value.type "tuple", data := Data.seq #[] }
noncomputable abbrev ob140 (P : Params) : Obj := { cls := Value.type "builtin_function_or_method", data := Data.fields #[Value.builtin "type.__prepare__", Value.type "type"] }
noncomputable abbrev ob141 (P : Params) : Obj := { cls := Value.type "dict", data := Data.dict #[{ hash := PyData.keyHash P (Str.ofString "__module__"), key := Value.str (Str.ofString "__module__") 391, val := Value.str (Str.ofString "thinstack.receiver") 382 }, { hash := PyData.keyHash P (Str.ofString "__qualname__"), key := Value.str (Str.ofString "__qualname__") 393, val := Value.str (Str.ofString "Receiver") 392 }, { hash := PyData.keyHash P (Str.ofString "__firstlineno__"), key := Value.str (Str.ofString "__firstlineno__") 395, val := Value.int 112 394 }, { hash := PyData.keyHash P (Str.ofString "__init__"), key := Value.str (Str.ofString "__init__") 407, val := Value.ref 153 }, { hash := PyData.keyHash P (Str.ofString "free_edge"), key := Value.str (Str.ofString "free_edge") 414, val := Value.ref 160 }, { hash := PyData.keyHash P (Str.ofString "should_tell"), key := Value.str (Str.ofString "should_tell") 422, val := Value.ref 167 }, { hash := PyData.keyHash P (Str.ofString "told_window"), key := Value.str (Str.ofString "told_window") 429, val := Value.ref 174 }, { hash := PyData.keyHash P (Str.ofString "window"), key := Value.str (Str.ofString "window") 436, val := Value.ref 181 }, { hash := PyData.keyHash P (Str.ofString "arrive"), key := Value.str (Str.ofString "arrive") 446, val := Value.ref 188 }, { hash := PyData.keyHash P (Str.ofString "let_in"), key := Value.str (Str.ofString "let_in") 455, val := Value.ref 195 }, { hash := PyData.keyHash P (Str.ofString "note_fin"), key := Value.str (Str.ofString "note_fin") 463, val := Value.ref 202 }, { hash := PyData.keyHash P (Str.ofString "ahead_of_fin"), key := Value.str (Str.ofString "ahead_of_fin") 472, val := Value.ref 209 }, { hash := PyData.keyHash P (Str.ofString "gather"), key := Value.str (Str.ofString "gather") 480, val := Value.ref 216 }, { hash := PyData.keyHash P (Str.ofString "has_holes"), key := Value.str (Str.ofString "has_holes") 487, val := Value.ref 223 }, { hash := PyData.keyHash P (Str.ofString "available"), key := Value.str (Str.ofString "available") 494, val := Value.ref 230 }, { hash := PyData.keyHash P (Str.ofString "read"), key := Value.str (Str.ofString "read") 503, val := Value.ref 237 }, { hash := PyData.keyHash P (Str.ofString "is_over"), key := Value.str (Str.ofString "is_over") 510, val := Value.ref 244 }, { hash := PyData.keyHash P (Str.ofString "read_place"), key := Value.str (Str.ofString "read_place") 517, val := Value.ref 251 }, { hash := PyData.keyHash P (Str.ofString "urgent"), key := Value.str (Str.ofString "urgent") 525, val := Value.ref 258 }, { hash := PyData.keyHash P (Str.ofString "urgent_left"), key := Value.str (Str.ofString "urgent_left") 532, val := Value.ref 265 }, { hash := PyData.keyHash P (Str.ofString "__static_attributes__"), key := Value.str (Str.ofString "__static_attributes__") 543, val := Value.ref 266 }] 21 }
noncomputable abbrev ob142 (P : Params) : Obj := { cls := Value.type "tuple", data := Data.seq #[] }
noncomputable abbrev ob143 (P : Params) : Obj := { cls := Value.none, data := Data.fields #[Value.int 114 0, Value.int 4 0, Value.ref 152, Value.int 126 0, Value.int 4 0, Value.ref 159, Value.int 129 0, Value.int 4 0, Value.ref 166, Value.int 134 0, Value.int 4 0, Value.ref 173, Value.int 139 0, Value.int 4 0, Value.ref 180, Value.int 144 0, Value.int 4 0, Value.ref 187, Value.int 147 0, Value.int 4 0, Value.ref 194, Value.int 150 0, Value.int 4 0, Value.ref 201, Value.int 155 0, Value.int 4 0, Value.ref 208, Value.int 158 0, Value.int 4 0, Value.ref 215, Value.int 169 0, Value.int 4 0, Value.ref 222, Value.int 172 0, Value.int 4 0, Value.ref 229, Value.int 175 0, Value.int 4 0, Value.ref 236, Value.int 180 0, Value.int 4 0, Value.ref 243, Value.int 183 0, Value.int 4 0, Value.ref 250, Value.int 186 0, Value.int 4 0, Value.ref 257, Value.int 189 0, Value.int 4 0, Value.ref 264] }
noncomputable abbrev ob144 (P : Params) : Obj := { cls := Value.type "code", data := Data.fields #[Value.str (Str.ofString "Receiver") 386, Value.str (Str.ofString "Receiver") 387, Value.str (Str.ofString "/claim/cut.py") 388, Value.int 112 0, Value.int 0 0, Value.int 0 0, Value.int 0 0, Value.int 0 0, Value.ref 142, Value.bool false, Value.int 181 0, Value.ref 143, Value.none, Value.none, Value.none, Value.none, Value.int 389 0, Value.int 112 0, Value.str (Str.ofString "/claim/cut.py") 390] }
noncomputable abbrev ob145 (P : Params) : Obj := { cls := Value.type "frame", slots := #[some (Value.ref 144), some (Value.ref 3), some (Value.ref 141), none, some (Value.str (Str.ofString "thinstack.receiver") 382), none, some (Value.ref 0)] }
noncomputable abbrev ob146 (P : Params) : Obj := { cls := Value.type "tuple", data := Data.seq #[Value.int 1 396] }
noncomputable abbrev ob147 (P : Params) : Obj := { cls := Value.type "tuple", data := Data.seq #[] }
noncomputable abbrev ob148 (P : Params) : Obj := { cls := Value.none, data := Data.fields #[] }
noncomputable abbrev ob149 (P : Params) : Obj := { cls := Value.type "tuple", data := Data.seq #[Value.str (Str.ofString "self") 400, Value.str (Str.ofString "irs") 401, Value.str (Str.ofString "ring") 402, Value.str (Str.ofString "room") 403, Value.str (Str.ofString "mss") 404] }
noncomputable abbrev ob150 (P : Params) : Obj := { cls := Value.type "tuple", data := Data.seq #[] }
noncomputable abbrev ob151 (P : Params) : Obj := { cls := Value.none, data := Data.func { name := Str.ofString "__init__", qualname := Str.ofString "Receiver.__init__", params := fpx8x0.1.1, body := fpx8x0.1.2.1, scope := fpx8x0.1.2.2, globals := 0, closure := [], defaults := Value.none, kwdefaults := Value.none } }
noncomputable abbrev ob152 (P : Params) : Obj := { cls := Value.type "code", data := Data.fields #[Value.str (Str.ofString "__init__") 397, Value.str (Str.ofString "Receiver.__init__") 398, Value.str (Str.ofString "/claim/cut.py") 399, Value.int 114 0, Value.int 5 0, Value.int 0 0, Value.int 0 0, Value.int 3 0, Value.ref 147, Value.bool true, Value.int 181 0, Value.ref 148, Value.none, Value.ref 149, Value.ref 150, Value.ref 151, Value.int 405 0, Value.int 114 0, Value.str (Str.ofString "/claim/cut.py") 406] }
noncomputable abbrev ob153 (P : Params) : Obj := { cls := Value.type "function", data := Data.func { name := Str.ofString "__init__", qualname := Str.ofString "Receiver.__init__", params := fpx8x0.1.1, body := fpx8x0.1.2.1, scope := fpx8x0.1.2.2, globals := 3, closure := [], defaults := Value.ref 146, kwdefaults := Value.none, pyModule := Value.str (Str.ofString "thinstack.receiver") 382, code := Value.ref 152 } }
noncomputable abbrev ob154 (P : Params) : Obj := { cls := Value.type "tuple", data := Data.seq #[] }
noncomputable abbrev ob155 (P : Params) : Obj := { cls := Value.none, data := Data.fields #[] }
noncomputable abbrev ob156 (P : Params) : Obj := { cls := Value.type "tuple", data := Data.seq #[Value.str (Str.ofString "self") 411] }
noncomputable abbrev ob157 (P : Params) : Obj := { cls := Value.type "tuple", data := Data.seq #[] }
noncomputable abbrev ob158 (P : Params) : Obj := { cls := Value.none, data := Data.func { name := Str.ofString "free_edge", qualname := Str.ofString "Receiver.free_edge", params := fpx8x1.1.1, body := fpx8x1.1.2.1, scope := fpx8x1.1.2.2, globals := 0, closure := [], defaults := Value.none, kwdefaults := Value.none } }
noncomputable abbrev ob159 (P : Params) : Obj := { cls := Value.type "code", data := Data.fields #[Value.str (Str.ofString "free_edge") 408, Value.str (Str.ofString "Receiver.free_edge") 409, Value.str (Str.ofString "/claim/cut.py") 410, Value.int 126 0, Value.int 1 0, Value.int 0 0, Value.int 0 0, Value.int 3 0, Value.ref 154, Value.bool true, Value.int 181 0, Value.ref 155, Value.none, Value.ref 156, Value.ref 157, Value.ref 158, Value.int 412 0, Value.int 126 0, Value.str (Str.ofString "/claim/cut.py") 413] }
noncomputable abbrev ob160 (P : Params) : Obj := { cls := Value.type "function", data := Data.func { name := Str.ofString "free_edge", qualname := Str.ofString "Receiver.free_edge", params := fpx8x1.1.1, body := fpx8x1.1.2.1, scope := fpx8x1.1.2.2, globals := 3, closure := [], defaults := Value.none, kwdefaults := Value.none, pyModule := Value.str (Str.ofString "thinstack.receiver") 382, code := Value.ref 159 } }
noncomputable abbrev ob161 (P : Params) : Obj := { cls := Value.type "tuple", data := Data.seq #[] }
noncomputable abbrev ob162 (P : Params) : Obj := { cls := Value.none, data := Data.fields #[] }
noncomputable abbrev ob163 (P : Params) : Obj := { cls := Value.type "tuple", data := Data.seq #[Value.str (Str.ofString "self") 418, Value.str (Str.ofString "mss") 419] }
noncomputable abbrev ob164 (P : Params) : Obj := { cls := Value.type "tuple", data := Data.seq #[] }
noncomputable abbrev ob165 (P : Params) : Obj := { cls := Value.none, data := Data.func { name := Str.ofString "should_tell", qualname := Str.ofString "Receiver.should_tell", params := fpx8x2.1.1, body := fpx8x2.1.2.1, scope := fpx8x2.1.2.2, globals := 0, closure := [], defaults := Value.none, kwdefaults := Value.none } }
noncomputable abbrev ob166 (P : Params) : Obj := { cls := Value.type "code", data := Data.fields #[Value.str (Str.ofString "should_tell") 415, Value.str (Str.ofString "Receiver.should_tell") 416, Value.str (Str.ofString "/claim/cut.py") 417, Value.int 129 0, Value.int 2 0, Value.int 0 0, Value.int 0 0, Value.int 3 0, Value.ref 161, Value.bool true, Value.int 181 0, Value.ref 162, Value.none, Value.ref 163, Value.ref 164, Value.ref 165, Value.int 420 0, Value.int 129 0, Value.str (Str.ofString "/claim/cut.py") 421] }
noncomputable abbrev ob167 (P : Params) : Obj := { cls := Value.type "function", data := Data.func { name := Str.ofString "should_tell", qualname := Str.ofString "Receiver.should_tell", params := fpx8x2.1.1, body := fpx8x2.1.2.1, scope := fpx8x2.1.2.2, globals := 3, closure := [], defaults := Value.none, kwdefaults := Value.none, pyModule := Value.str (Str.ofString "thinstack.receiver") 382, code := Value.ref 166 } }
noncomputable abbrev ob168 (P : Params) : Obj := { cls := Value.type "tuple", data := Data.seq #[] }
noncomputable abbrev ob169 (P : Params) : Obj := { cls := Value.none, data := Data.fields #[] }
noncomputable abbrev ob170 (P : Params) : Obj := { cls := Value.type "tuple", data := Data.seq #[Value.str (Str.ofString "self") 426] }
noncomputable abbrev ob171 (P : Params) : Obj := { cls := Value.type "tuple", data := Data.seq #[] }
noncomputable abbrev ob172 (P : Params) : Obj := { cls := Value.none, data := Data.func { name := Str.ofString "told_window", qualname := Str.ofString "Receiver.told_window", params := fpx8x3.1.1, body := fpx8x3.1.2.1, scope := fpx8x3.1.2.2, globals := 0, closure := [], defaults := Value.none, kwdefaults := Value.none } }
noncomputable abbrev ob173 (P : Params) : Obj := { cls := Value.type "code", data := Data.fields #[Value.str (Str.ofString "told_window") 423, Value.str (Str.ofString "Receiver.told_window") 424, Value.str (Str.ofString "/claim/cut.py") 425, Value.int 134 0, Value.int 1 0, Value.int 0 0, Value.int 0 0, Value.int 3 0, Value.ref 168, Value.bool true, Value.int 181 0, Value.ref 169, Value.none, Value.ref 170, Value.ref 171, Value.ref 172, Value.int 427 0, Value.int 134 0, Value.str (Str.ofString "/claim/cut.py") 428] }
noncomputable abbrev ob174 (P : Params) : Obj := { cls := Value.type "function", data := Data.func { name := Str.ofString "told_window", qualname := Str.ofString "Receiver.told_window", params := fpx8x3.1.1, body := fpx8x3.1.2.1, scope := fpx8x3.1.2.2, globals := 3, closure := [], defaults := Value.none, kwdefaults := Value.none, pyModule := Value.str (Str.ofString "thinstack.receiver") 382, code := Value.ref 173 } }
noncomputable abbrev ob175 (P : Params) : Obj := { cls := Value.type "tuple", data := Data.seq #[] }
noncomputable abbrev ob176 (P : Params) : Obj := { cls := Value.none, data := Data.fields #[] }
noncomputable abbrev ob177 (P : Params) : Obj := { cls := Value.type "tuple", data := Data.seq #[Value.str (Str.ofString "self") 433] }
noncomputable abbrev ob178 (P : Params) : Obj := { cls := Value.type "tuple", data := Data.seq #[] }
noncomputable abbrev ob179 (P : Params) : Obj := { cls := Value.none, data := Data.func { name := Str.ofString "window", qualname := Str.ofString "Receiver.window", params := fpx8x4.1.1, body := fpx8x4.1.2.1, scope := fpx8x4.1.2.2, globals := 0, closure := [], defaults := Value.none, kwdefaults := Value.none } }
noncomputable abbrev ob180 (P : Params) : Obj := { cls := Value.type "code", data := Data.fields #[Value.str (Str.ofString "window") 430, Value.str (Str.ofString "Receiver.window") 431, Value.str (Str.ofString "/claim/cut.py") 432, Value.int 139 0, Value.int 1 0, Value.int 0 0, Value.int 0 0, Value.int 3 0, Value.ref 175, Value.bool true, Value.int 181 0, Value.ref 176, Value.none, Value.ref 177, Value.ref 178, Value.ref 179, Value.int 434 0, Value.int 139 0, Value.str (Str.ofString "/claim/cut.py") 435] }
noncomputable abbrev ob181 (P : Params) : Obj := { cls := Value.type "function", data := Data.func { name := Str.ofString "window", qualname := Str.ofString "Receiver.window", params := fpx8x4.1.1, body := fpx8x4.1.2.1, scope := fpx8x4.1.2.2, globals := 3, closure := [], defaults := Value.none, kwdefaults := Value.none, pyModule := Value.str (Str.ofString "thinstack.receiver") 382, code := Value.ref 180 } }
noncomputable abbrev ob182 (P : Params) : Obj := { cls := Value.type "tuple", data := Data.seq #[] }
noncomputable abbrev ob183 (P : Params) : Obj := { cls := Value.none, data := Data.fields #[] }
noncomputable abbrev ob184 (P : Params) : Obj := { cls := Value.type "tuple", data := Data.seq #[Value.str (Str.ofString "self") 440, Value.str (Str.ofString "seq") 441, Value.str (Str.ofString "octets") 442, Value.str (Str.ofString "has_fin") 443] }
noncomputable abbrev ob185 (P : Params) : Obj := { cls := Value.type "tuple", data := Data.seq #[] }
noncomputable abbrev ob186 (P : Params) : Obj := { cls := Value.none, data := Data.func { name := Str.ofString "arrive", qualname := Str.ofString "Receiver.arrive", params := fpx8x5.1.1, body := fpx8x5.1.2.1, scope := fpx8x5.1.2.2, globals := 0, closure := [], defaults := Value.none, kwdefaults := Value.none } }
noncomputable abbrev ob187 (P : Params) : Obj := { cls := Value.type "code", data := Data.fields #[Value.str (Str.ofString "arrive") 437, Value.str (Str.ofString "Receiver.arrive") 438, Value.str (Str.ofString "/claim/cut.py") 439, Value.int 144 0, Value.int 4 0, Value.int 0 0, Value.int 0 0, Value.int 3 0, Value.ref 182, Value.bool true, Value.int 181 0, Value.ref 183, Value.none, Value.ref 184, Value.ref 185, Value.ref 186, Value.int 444 0, Value.int 144 0, Value.str (Str.ofString "/claim/cut.py") 445] }
noncomputable abbrev ob188 (P : Params) : Obj := { cls := Value.type "function", data := Data.func { name := Str.ofString "arrive", qualname := Str.ofString "Receiver.arrive", params := fpx8x5.1.1, body := fpx8x5.1.2.1, scope := fpx8x5.1.2.2, globals := 3, closure := [], defaults := Value.none, kwdefaults := Value.none, pyModule := Value.str (Str.ofString "thinstack.receiver") 382, code := Value.ref 187 } }
noncomputable abbrev ob189 (P : Params) : Obj := { cls := Value.type "tuple", data := Data.seq #[] }
noncomputable abbrev ob190 (P : Params) : Obj := { cls := Value.none, data := Data.fields #[] }
noncomputable abbrev ob191 (P : Params) : Obj := { cls := Value.type "tuple", data := Data.seq #[Value.str (Str.ofString "self") 450, Value.str (Str.ofString "seq") 451, Value.str (Str.ofString "octets") 452] }
noncomputable abbrev ob192 (P : Params) : Obj := { cls := Value.type "tuple", data := Data.seq #[] }
noncomputable abbrev ob193 (P : Params) : Obj := { cls := Value.none, data := Data.func { name := Str.ofString "let_in", qualname := Str.ofString "Receiver.let_in", params := fpx8x6.1.1, body := fpx8x6.1.2.1, scope := fpx8x6.1.2.2, globals := 0, closure := [], defaults := Value.none, kwdefaults := Value.none } }
noncomputable abbrev ob194 (P : Params) : Obj := { cls := Value.type "code", data := Data.fields #[Value.str (Str.ofString "let_in") 447, Value.str (Str.ofString "Receiver.let_in") 448, Value.str (Str.ofString "/claim/cut.py") 449, Value.int 147 0, Value.int 3 0, Value.int 0 0, Value.int 0 0, Value.int 3 0, Value.ref 189, Value.bool true, Value.int 181 0, Value.ref 190, Value.none, Value.ref 191, Value.ref 192, Value.ref 193, Value.int 453 0, Value.int 147 0, Value.str (Str.ofString "/claim/cut.py") 454] }
noncomputable abbrev ob195 (P : Params) : Obj := { cls := Value.type "function", data := Data.func { name := Str.ofString "let_in", qualname := Str.ofString "Receiver.let_in", params := fpx8x6.1.1, body := fpx8x6.1.2.1, scope := fpx8x6.1.2.2, globals := 3, closure := [], defaults := Value.none, kwdefaults := Value.none, pyModule := Value.str (Str.ofString "thinstack.receiver") 382, code := Value.ref 194 } }
noncomputable abbrev ob196 (P : Params) : Obj := { cls := Value.type "tuple", data := Data.seq #[] }
noncomputable abbrev ob197 (P : Params) : Obj := { cls := Value.none, data := Data.fields #[] }
noncomputable abbrev ob198 (P : Params) : Obj := { cls := Value.type "tuple", data := Data.seq #[Value.str (Str.ofString "self") 459, Value.str (Str.ofString "place") 460] }
noncomputable abbrev ob199 (P : Params) : Obj := { cls := Value.type "tuple", data := Data.seq #[] }
noncomputable abbrev ob200 (P : Params) : Obj := { cls := Value.none, data := Data.func { name := Str.ofString "note_fin", qualname := Str.ofString "Receiver.note_fin", params := fpx8x7.1.1, body := fpx8x7.1.2.1, scope := fpx8x7.1.2.2, globals := 0, closure := [], defaults := Value.none, kwdefaults := Value.none } }
noncomputable abbrev ob201 (P : Params) : Obj := { cls := Value.type "code", data := Data.fields #[Value.str (Str.ofString "note_fin") 456, Value.str (Str.ofString "Receiver.note_fin") 457, Value.str (Str.ofString "/claim/cut.py") 458, Value.int 150 0, Value.int 2 0, Value.int 0 0, Value.int 0 0, Value.int 3 0, Value.ref 196, Value.bool true, Value.int 181 0, Value.ref 197, Value.none, Value.ref 198, Value.ref 199, Value.ref 200, Value.int 461 0, Value.int 150 0, Value.str (Str.ofString "/claim/cut.py") 462] }
noncomputable abbrev ob202 (P : Params) : Obj := { cls := Value.type "function", data := Data.func { name := Str.ofString "note_fin", qualname := Str.ofString "Receiver.note_fin", params := fpx8x7.1.1, body := fpx8x7.1.2.1, scope := fpx8x7.1.2.2, globals := 3, closure := [], defaults := Value.none, kwdefaults := Value.none, pyModule := Value.str (Str.ofString "thinstack.receiver") 382, code := Value.ref 201 } }
noncomputable abbrev ob203 (P : Params) : Obj := { cls := Value.type "tuple", data := Data.seq #[] }
noncomputable abbrev ob204 (P : Params) : Obj := { cls := Value.none, data := Data.fields #[] }
noncomputable abbrev ob205 (P : Params) : Obj := { cls := Value.type "tuple", data := Data.seq #[Value.str (Str.ofString "self") 467, Value.str (Str.ofString "seq") 468, Value.str (Str.ofString "octets") 469] }
noncomputable abbrev ob206 (P : Params) : Obj := { cls := Value.type "tuple", data := Data.seq #[] }
noncomputable abbrev ob207 (P : Params) : Obj := { cls := Value.none, data := Data.func { name := Str.ofString "ahead_of_fin", qualname := Str.ofString "Receiver.ahead_of_fin", params := fpx8x8.1.1, body := fpx8x8.1.2.1, scope := fpx8x8.1.2.2, globals := 0, closure := [], defaults := Value.none, kwdefaults := Value.none } }
noncomputable abbrev ob208 (P : Params) : Obj := { cls := Value.type "code", data := Data.fields #[Value.str (Str.ofString "ahead_of_fin") 464, Value.str (Str.ofString "Receiver.ahead_of_fin") 465, Value.str (Str.ofString "/claim/cut.py") 466, Value.int 155 0, Value.int 3 0, Value.int 0 0, Value.int 0 0, Value.int 3 0, Value.ref 203, Value.bool true, Value.int 181 0, Value.ref 204, Value.none, Value.ref 205, Value.ref 206, Value.ref 207, Value.int 470 0, Value.int 155 0, Value.str (Str.ofString "/claim/cut.py") 471] }
noncomputable abbrev ob209 (P : Params) : Obj := { cls := Value.type "function", data := Data.func { name := Str.ofString "ahead_of_fin", qualname := Str.ofString "Receiver.ahead_of_fin", params := fpx8x8.1.1, body := fpx8x8.1.2.1, scope := fpx8x8.1.2.2, globals := 3, closure := [], defaults := Value.none, kwdefaults := Value.none, pyModule := Value.str (Str.ofString "thinstack.receiver") 382, code := Value.ref 208 } }
noncomputable abbrev ob210 (P : Params) : Obj := { cls := Value.type "tuple", data := Data.seq #[] }
noncomputable abbrev ob211 (P : Params) : Obj := { cls := Value.none, data := Data.fields #[] }
noncomputable abbrev ob212 (P : Params) : Obj := { cls := Value.type "tuple", data := Data.seq #[Value.str (Str.ofString "self") 476, Value.str (Str.ofString "fresh") 477] }
noncomputable abbrev ob213 (P : Params) : Obj := { cls := Value.type "tuple", data := Data.seq #[] }
noncomputable abbrev ob214 (P : Params) : Obj := { cls := Value.none, data := Data.func { name := Str.ofString "gather", qualname := Str.ofString "Receiver.gather", params := fpx8x9.1.1, body := fpx8x9.1.2.1, scope := fpx8x9.1.2.2, globals := 0, closure := [], defaults := Value.none, kwdefaults := Value.none } }
noncomputable abbrev ob215 (P : Params) : Obj := { cls := Value.type "code", data := Data.fields #[Value.str (Str.ofString "gather") 473, Value.str (Str.ofString "Receiver.gather") 474, Value.str (Str.ofString "/claim/cut.py") 475, Value.int 158 0, Value.int 1 0, Value.int 0 0, Value.int 0 0, Value.int 3 0, Value.ref 210, Value.bool true, Value.int 181 0, Value.ref 211, Value.none, Value.ref 212, Value.ref 213, Value.ref 214, Value.int 478 0, Value.int 158 0, Value.str (Str.ofString "/claim/cut.py") 479] }
noncomputable abbrev ob216 (P : Params) : Obj := { cls := Value.type "function", data := Data.func { name := Str.ofString "gather", qualname := Str.ofString "Receiver.gather", params := fpx8x9.1.1, body := fpx8x9.1.2.1, scope := fpx8x9.1.2.2, globals := 3, closure := [], defaults := Value.none, kwdefaults := Value.none, pyModule := Value.str (Str.ofString "thinstack.receiver") 382, code := Value.ref 215 } }
noncomputable abbrev ob217 (P : Params) : Obj := { cls := Value.type "tuple", data := Data.seq #[] }
noncomputable abbrev ob218 (P : Params) : Obj := { cls := Value.none, data := Data.fields #[] }
noncomputable abbrev ob219 (P : Params) : Obj := { cls := Value.type "tuple", data := Data.seq #[Value.str (Str.ofString "self") 484] }
noncomputable abbrev ob220 (P : Params) : Obj := { cls := Value.type "tuple", data := Data.seq #[] }
noncomputable abbrev ob221 (P : Params) : Obj := { cls := Value.none, data := Data.func { name := Str.ofString "has_holes", qualname := Str.ofString "Receiver.has_holes", params := fpx8x10.1.1, body := fpx8x10.1.2.1, scope := fpx8x10.1.2.2, globals := 0, closure := [], defaults := Value.none, kwdefaults := Value.none } }
noncomputable abbrev ob222 (P : Params) : Obj := { cls := Value.type "code", data := Data.fields #[Value.str (Str.ofString "has_holes") 481, Value.str (Str.ofString "Receiver.has_holes") 482, Value.str (Str.ofString "/claim/cut.py") 483, Value.int 169 0, Value.int 1 0, Value.int 0 0, Value.int 0 0, Value.int 3 0, Value.ref 217, Value.bool true, Value.int 181 0, Value.ref 218, Value.none, Value.ref 219, Value.ref 220, Value.ref 221, Value.int 485 0, Value.int 169 0, Value.str (Str.ofString "/claim/cut.py") 486] }
noncomputable abbrev ob223 (P : Params) : Obj := { cls := Value.type "function", data := Data.func { name := Str.ofString "has_holes", qualname := Str.ofString "Receiver.has_holes", params := fpx8x10.1.1, body := fpx8x10.1.2.1, scope := fpx8x10.1.2.2, globals := 3, closure := [], defaults := Value.none, kwdefaults := Value.none, pyModule := Value.str (Str.ofString "thinstack.receiver") 382, code := Value.ref 222 } }
noncomputable abbrev ob224 (P : Params) : Obj := { cls := Value.type "tuple", data := Data.seq #[] }
noncomputable abbrev ob225 (P : Params) : Obj := { cls := Value.none, data := Data.fields #[] }
noncomputable abbrev ob226 (P : Params) : Obj := { cls := Value.type "tuple", data := Data.seq #[Value.str (Str.ofString "self") 491] }
noncomputable abbrev ob227 (P : Params) : Obj := { cls := Value.type "tuple", data := Data.seq #[] }
noncomputable abbrev ob228 (P : Params) : Obj := { cls := Value.none, data := Data.func { name := Str.ofString "available", qualname := Str.ofString "Receiver.available", params := fpx8x11.1.1, body := fpx8x11.1.2.1, scope := fpx8x11.1.2.2, globals := 0, closure := [], defaults := Value.none, kwdefaults := Value.none } }
noncomputable abbrev ob229 (P : Params) : Obj := { cls := Value.type "code", data := Data.fields #[Value.str (Str.ofString "available") 488, Value.str (Str.ofString "Receiver.available") 489, Value.str (Str.ofString "/claim/cut.py") 490, Value.int 172 0, Value.int 1 0, Value.int 0 0, Value.int 0 0, Value.int 3 0, Value.ref 224, Value.bool true, Value.int 181 0, Value.ref 225, Value.none, Value.ref 226, Value.ref 227, Value.ref 228, Value.int 492 0, Value.int 172 0, Value.str (Str.ofString "/claim/cut.py") 493] }
noncomputable abbrev ob230 (P : Params) : Obj := { cls := Value.type "function", data := Data.func { name := Str.ofString "available", qualname := Str.ofString "Receiver.available", params := fpx8x11.1.1, body := fpx8x11.1.2.1, scope := fpx8x11.1.2.2, globals := 3, closure := [], defaults := Value.none, kwdefaults := Value.none, pyModule := Value.str (Str.ofString "thinstack.receiver") 382, code := Value.ref 229 } }
noncomputable abbrev ob231 (P : Params) : Obj := { cls := Value.type "tuple", data := Data.seq #[] }
noncomputable abbrev ob232 (P : Params) : Obj := { cls := Value.none, data := Data.fields #[] }
noncomputable abbrev ob233 (P : Params) : Obj := { cls := Value.type "tuple", data := Data.seq #[Value.str (Str.ofString "self") 498, Value.str (Str.ofString "many") 499, Value.str (Str.ofString "found") 500] }
noncomputable abbrev ob234 (P : Params) : Obj := { cls := Value.type "tuple", data := Data.seq #[] }
noncomputable abbrev ob235 (P : Params) : Obj := { cls := Value.none, data := Data.func { name := Str.ofString "read", qualname := Str.ofString "Receiver.read", params := fpx8x12.1.1, body := fpx8x12.1.2.1, scope := fpx8x12.1.2.2, globals := 0, closure := [], defaults := Value.none, kwdefaults := Value.none } }
noncomputable abbrev ob236 (P : Params) : Obj := { cls := Value.type "code", data := Data.fields #[Value.str (Str.ofString "read") 495, Value.str (Str.ofString "Receiver.read") 496, Value.str (Str.ofString "/claim/cut.py") 497, Value.int 175 0, Value.int 2 0, Value.int 0 0, Value.int 0 0, Value.int 3 0, Value.ref 231, Value.bool true, Value.int 181 0, Value.ref 232, Value.none, Value.ref 233, Value.ref 234, Value.ref 235, Value.int 501 0, Value.int 175 0, Value.str (Str.ofString "/claim/cut.py") 502] }
noncomputable abbrev ob237 (P : Params) : Obj := { cls := Value.type "function", data := Data.func { name := Str.ofString "read", qualname := Str.ofString "Receiver.read", params := fpx8x12.1.1, body := fpx8x12.1.2.1, scope := fpx8x12.1.2.2, globals := 3, closure := [], defaults := Value.none, kwdefaults := Value.none, pyModule := Value.str (Str.ofString "thinstack.receiver") 382, code := Value.ref 236 } }
noncomputable abbrev ob238 (P : Params) : Obj := { cls := Value.type "tuple", data := Data.seq #[] }
noncomputable abbrev ob239 (P : Params) : Obj := { cls := Value.none, data := Data.fields #[] }
noncomputable abbrev ob240 (P : Params) : Obj := { cls := Value.type "tuple", data := Data.seq #[Value.str (Str.ofString "self") 507] }
noncomputable abbrev ob241 (P : Params) : Obj := { cls := Value.type "tuple", data := Data.seq #[] }
noncomputable abbrev ob242 (P : Params) : Obj := { cls := Value.none, data := Data.func { name := Str.ofString "is_over", qualname := Str.ofString "Receiver.is_over", params := fpx8x13.1.1, body := fpx8x13.1.2.1, scope := fpx8x13.1.2.2, globals := 0, closure := [], defaults := Value.none, kwdefaults := Value.none } }
noncomputable abbrev ob243 (P : Params) : Obj := { cls := Value.type "code", data := Data.fields #[Value.str (Str.ofString "is_over") 504, Value.str (Str.ofString "Receiver.is_over") 505, Value.str (Str.ofString "/claim/cut.py") 506, Value.int 180 0, Value.int 1 0, Value.int 0 0, Value.int 0 0, Value.int 3 0, Value.ref 238, Value.bool true, Value.int 181 0, Value.ref 239, Value.none, Value.ref 240, Value.ref 241, Value.ref 242, Value.int 508 0, Value.int 180 0, Value.str (Str.ofString "/claim/cut.py") 509] }
noncomputable abbrev ob244 (P : Params) : Obj := { cls := Value.type "function", data := Data.func { name := Str.ofString "is_over", qualname := Str.ofString "Receiver.is_over", params := fpx8x13.1.1, body := fpx8x13.1.2.1, scope := fpx8x13.1.2.2, globals := 3, closure := [], defaults := Value.none, kwdefaults := Value.none, pyModule := Value.str (Str.ofString "thinstack.receiver") 382, code := Value.ref 243 } }
noncomputable abbrev ob245 (P : Params) : Obj := { cls := Value.type "tuple", data := Data.seq #[] }
noncomputable abbrev ob246 (P : Params) : Obj := { cls := Value.none, data := Data.fields #[] }
noncomputable abbrev ob247 (P : Params) : Obj := { cls := Value.type "tuple", data := Data.seq #[Value.str (Str.ofString "self") 514] }
noncomputable abbrev ob248 (P : Params) : Obj := { cls := Value.type "tuple", data := Data.seq #[] }
noncomputable abbrev ob249 (P : Params) : Obj := { cls := Value.none, data := Data.func { name := Str.ofString "read_place", qualname := Str.ofString "Receiver.read_place", params := fpx8x14.1.1, body := fpx8x14.1.2.1, scope := fpx8x14.1.2.2, globals := 0, closure := [], defaults := Value.none, kwdefaults := Value.none } }
noncomputable abbrev ob250 (P : Params) : Obj := { cls := Value.type "code", data := Data.fields #[Value.str (Str.ofString "read_place") 511, Value.str (Str.ofString "Receiver.read_place") 512, Value.str (Str.ofString "/claim/cut.py") 513, Value.int 183 0, Value.int 1 0, Value.int 0 0, Value.int 0 0, Value.int 3 0, Value.ref 245, Value.bool true, Value.int 181 0, Value.ref 246, Value.none, Value.ref 247, Value.ref 248, Value.ref 249, Value.int 515 0, Value.int 183 0, Value.str (Str.ofString "/claim/cut.py") 516] }
noncomputable abbrev ob251 (P : Params) : Obj := { cls := Value.type "function", data := Data.func { name := Str.ofString "read_place", qualname := Str.ofString "Receiver.read_place", params := fpx8x14.1.1, body := fpx8x14.1.2.1, scope := fpx8x14.1.2.2, globals := 3, closure := [], defaults := Value.none, kwdefaults := Value.none, pyModule := Value.str (Str.ofString "thinstack.receiver") 382, code := Value.ref 250 } }
noncomputable abbrev ob252 (P : Params) : Obj := { cls := Value.type "tuple", data := Data.seq #[] }
noncomputable abbrev ob253 (P : Params) : Obj := { cls := Value.none, data := Data.fields #[] }
noncomputable abbrev ob254 (P : Params) : Obj := { cls := Value.type "tuple", data := Data.seq #[Value.str (Str.ofString "self") 521, Value.str (Str.ofString "pointer") 522] }
noncomputable abbrev ob255 (P : Params) : Obj := { cls := Value.type "tuple", data := Data.seq #[] }
noncomputable abbrev ob256 (P : Params) : Obj := { cls := Value.none, data := Data.func { name := Str.ofString "urgent", qualname := Str.ofString "Receiver.urgent", params := fpx8x15.1.1, body := fpx8x15.1.2.1, scope := fpx8x15.1.2.2, globals := 0, closure := [], defaults := Value.none, kwdefaults := Value.none } }
noncomputable abbrev ob257 (P : Params) : Obj := { cls := Value.type "code", data := Data.fields #[Value.str (Str.ofString "urgent") 518, Value.str (Str.ofString "Receiver.urgent") 519, Value.str (Str.ofString "/claim/cut.py") 520, Value.int 186 0, Value.int 2 0, Value.int 0 0, Value.int 0 0, Value.int 3 0, Value.ref 252, Value.bool true, Value.int 181 0, Value.ref 253, Value.none, Value.ref 254, Value.ref 255, Value.ref 256, Value.int 523 0, Value.int 186 0, Value.str (Str.ofString "/claim/cut.py") 524] }
noncomputable abbrev ob258 (P : Params) : Obj := { cls := Value.type "function", data := Data.func { name := Str.ofString "urgent", qualname := Str.ofString "Receiver.urgent", params := fpx8x15.1.1, body := fpx8x15.1.2.1, scope := fpx8x15.1.2.2, globals := 3, closure := [], defaults := Value.none, kwdefaults := Value.none, pyModule := Value.str (Str.ofString "thinstack.receiver") 382, code := Value.ref 257 } }
noncomputable abbrev ob259 (P : Params) : Obj := { cls := Value.type "tuple", data := Data.seq #[] }
noncomputable abbrev ob260 (P : Params) : Obj := { cls := Value.none, data := Data.fields #[] }
noncomputable abbrev ob261 (P : Params) : Obj := { cls := Value.type "tuple", data := Data.seq #[Value.str (Str.ofString "self") 529] }
noncomputable abbrev ob262 (P : Params) : Obj := { cls := Value.type "tuple", data := Data.seq #[] }
noncomputable abbrev ob263 (P : Params) : Obj := { cls := Value.none, data := Data.func { name := Str.ofString "urgent_left", qualname := Str.ofString "Receiver.urgent_left", params := fpx8x16.1.1, body := fpx8x16.1.2.1, scope := fpx8x16.1.2.2, globals := 0, closure := [], defaults := Value.none, kwdefaults := Value.none } }
noncomputable abbrev ob264 (P : Params) : Obj := { cls := Value.type "code", data := Data.fields #[Value.str (Str.ofString "urgent_left") 526, Value.str (Str.ofString "Receiver.urgent_left") 527, Value.str (Str.ofString "/claim/cut.py") 528, Value.int 189 0, Value.int 1 0, Value.int 0 0, Value.int 0 0, Value.int 3 0, Value.ref 259, Value.bool true, Value.int 181 0, Value.ref 260, Value.none, Value.ref 261, Value.ref 262, Value.ref 263, Value.int 530 0, Value.int 189 0, Value.str (Str.ofString "/claim/cut.py") 531] }
noncomputable abbrev ob265 (P : Params) : Obj := { cls := Value.type "function", data := Data.func { name := Str.ofString "urgent_left", qualname := Str.ofString "Receiver.urgent_left", params := fpx8x16.1.1, body := fpx8x16.1.2.1, scope := fpx8x16.1.2.2, globals := 3, closure := [], defaults := Value.none, kwdefaults := Value.none, pyModule := Value.str (Str.ofString "thinstack.receiver") 382, code := Value.ref 264 } }
noncomputable abbrev ob266 (P : Params) : Obj := { cls := Value.type "tuple", data := Data.seq #[Value.str (Str.ofString "assembly") 533, Value.str (Str.ofString "fin_at") 534, Value.str (Str.ofString "has_fin") 535, Value.str (Str.ofString "mss") 536, Value.str (Str.ofString "next") 537, Value.str (Str.ofString "ready") 538, Value.str (Str.ofString "ring") 539, Value.str (Str.ofString "room") 540, Value.str (Str.ofString "told_edge") 541, Value.str (Str.ofString "urgent_at") 542] }
noncomputable abbrev ob267 (P : Params) : Obj := { cls := Value.type "dict", data := Data.dict #[{ hash := PyData.keyHash P (Str.ofString "__module__"), key := Value.str (Str.ofString "__module__") 391, val := Value.str (Str.ofString "thinstack.receiver") 382 }, { hash := PyData.keyHash P (Str.ofString "__firstlineno__"), key := Value.str (Str.ofString "__firstlineno__") 395, val := Value.int 112 394 }, { hash := PyData.keyHash P (Str.ofString "__init__"), key := Value.str (Str.ofString "__init__") 407, val := Value.ref 153 }, { hash := PyData.keyHash P (Str.ofString "free_edge"), key := Value.str (Str.ofString "free_edge") 414, val := Value.ref 160 }, { hash := PyData.keyHash P (Str.ofString "should_tell"), key := Value.str (Str.ofString "should_tell") 422, val := Value.ref 167 }, { hash := PyData.keyHash P (Str.ofString "told_window"), key := Value.str (Str.ofString "told_window") 429, val := Value.ref 174 }, { hash := PyData.keyHash P (Str.ofString "window"), key := Value.str (Str.ofString "window") 436, val := Value.ref 181 }, { hash := PyData.keyHash P (Str.ofString "arrive"), key := Value.str (Str.ofString "arrive") 446, val := Value.ref 188 }, { hash := PyData.keyHash P (Str.ofString "let_in"), key := Value.str (Str.ofString "let_in") 455, val := Value.ref 195 }, { hash := PyData.keyHash P (Str.ofString "note_fin"), key := Value.str (Str.ofString "note_fin") 463, val := Value.ref 202 }, { hash := PyData.keyHash P (Str.ofString "ahead_of_fin"), key := Value.str (Str.ofString "ahead_of_fin") 472, val := Value.ref 209 }, { hash := PyData.keyHash P (Str.ofString "gather"), key := Value.str (Str.ofString "gather") 480, val := Value.ref 216 }, { hash := PyData.keyHash P (Str.ofString "has_holes"), key := Value.str (Str.ofString "has_holes") 487, val := Value.ref 223 }, { hash := PyData.keyHash P (Str.ofString "available"), key := Value.str (Str.ofString "available") 494, val := Value.ref 230 }, { hash := PyData.keyHash P (Str.ofString "read"), key := Value.str (Str.ofString "read") 503, val := Value.ref 237 }, { hash := PyData.keyHash P (Str.ofString "is_over"), key := Value.str (Str.ofString "is_over") 510, val := Value.ref 244 }, { hash := PyData.keyHash P (Str.ofString "read_place"), key := Value.str (Str.ofString "read_place") 517, val := Value.ref 251 }, { hash := PyData.keyHash P (Str.ofString "urgent"), key := Value.str (Str.ofString "urgent") 525, val := Value.ref 258 }, { hash := PyData.keyHash P (Str.ofString "urgent_left"), key := Value.str (Str.ofString "urgent_left") 532, val := Value.ref 265 }, { hash := PyData.keyHash P (Str.ofString "__static_attributes__"), key := Value.str (Str.ofString "__static_attributes__") 543, val := Value.ref 266 }, { hash := PyData.keyHash P (Str.ofString "__dict__"), key := Value.str (Str.ofString "__dict__") 545, val := Value.ref 269 }, { hash := PyData.keyHash P (Str.ofString "__weakref__"), key := Value.str (Str.ofString "__weakref__") 547, val := Value.ref 270 }, { hash := PyData.keyHash P (Str.ofString "__doc__"), key := Value.str (Str.ofString "__doc__") 548, val := Value.none }] 4 }
noncomputable abbrev ob268 (P : Params) : Obj := { cls := Value.type "type", data := Data.cls { name := Str.ofString "Receiver", bases := [Value.type "object"], mro := [Value.ref 268, Value.type "object"], ns := 267, qualname := Str.ofString "Receiver" }, slots := #[none, none, some (Value.str (Str.ofString "Receiver") 384), some (Value.str (Str.ofString "Receiver") 392), some (Value.builtin "object.__new__"), some (Value.bool true)] }
noncomputable abbrev ob269 (P : Params) : Obj := { cls := Value.type "getset_descriptor", data := Data.fields #[Value.str (Str.ofString "__dict__") 544, Value.ref 268, Value.builtin "function.__dict__", Value.builtin "function.__dict__#set"] }
noncomputable abbrev ob270 (P : Params) : Obj := { cls := Value.type "getset_descriptor", data := Data.fields #[Value.str (Str.ofString "__weakref__") 546, Value.ref 268, Value.builtin "ExceptionGroup.__weakref__", Value.none] }
noncomputable abbrev ob271 (P : Params) : Obj := { cls := Value.type "super", data := Data.fields #[Value.ref 268, Value.ref 268, Value.ref 268] }
noncomputable abbrev ob272 (P : Params) : Obj := { cls := Value.type "builtin_function_or_method", data := Data.fields #[Value.builtin "object.__init_subclass__", Value.ref 268] }
noncomputable abbrev ob3S5 (P : Params) : Obj := { cls := Value.type "dict", data := Data.dict #[{ hash := PyData.keyHash P (Str.ofString "__name__"), key := Value.str (Str.ofString "__name__") 165, val := Value.str (Str.ofString "law_xw0334_04") 551 }, { hash := PyData.keyHash P (Str.ofString "__doc__"), key := Value.str (Str.ofString "__doc__") 166, val := Value.none }, { hash := PyData.keyHash P (Str.ofString "__package__"), key := Value.str (Str.ofString "__package__") 167, val := Value.none }, { hash := PyData.keyHash P (Str.ofString "__loader__"), key := Value.str (Str.ofString "__loader__") 168, val := Value.builtin "__main__.__loader__#opaque" }, { hash := PyData.keyHash P (Str.ofString "__spec__"), key := Value.str (Str.ofString "__spec__") 169, val := Value.none }, { hash := PyData.keyHash P (Str.ofString "__annotations__"), key := Value.str (Str.ofString "__annotations__") 170, val := Value.ref 6 }, { hash := PyData.keyHash P (Str.ofString "__builtins__"), key := Value.str (Str.ofString "__builtins__") 171, val := Value.ref 4 }, { hash := PyData.keyHash P (Str.ofString "__file__"), key := Value.str (Str.ofString "__file__") 173, val := Value.str (Str.ofString "/claim/cut.py") 172 }, { hash := PyData.keyHash P (Str.ofString "__cached__"), key := Value.str (Str.ofString "__cached__") 174, val := Value.none }, { hash := PyData.keyHash P (Str.ofString "_wall"), key := Value.str (Str.ofString "_wall") 193, val := Value.ref 21 }, { hash := PyData.keyHash P (Str.ofString "plus"), key := Value.str (Str.ofString "plus") 204, val := Value.ref 28 }, { hash := PyData.keyHash P (Str.ofString "distance"), key := Value.str (Str.ofString "distance") 213, val := Value.ref 35 }, { hash := PyData.keyHash P (Str.ofString "is_before"), key := Value.str (Str.ofString "is_before") 223, val := Value.ref 42 }, { hash := PyData.keyHash P (Str.ofString "Assembly"), key := Value.str (Str.ofString "Assembly") 381, val := Value.ref 134 }, { hash := PyData.keyHash P (Str.ofString "Receiver"), key := Value.str (Str.ofString "Receiver") 550, val := Value.ref 268 }, { hash := PyData.keyHash P (Str.ofString "_law_pool"), key := Value.str (Str.ofString "_law_pool") 563, val := Value.ref 279 }, { hash := PyData.keyHash P (Str.ofString "_law_take"), key := Value.str (Str.ofString "_law_take") 572, val := Value.ref 286 }, { hash := PyData.keyHash P (Str.ofString "_law_one"), key := Value.str (Str.ofString "_law_one") 580, val := Value.ref 293 }, { hash := PyData.keyHash P (Str.ofString "_law_put"), key := Value.str (Str.ofString "_law_put") 595, val := Value.ref 300 }, { hash := PyData.keyHash P (Str.ofString "_law_note"), key := Value.str (Str.ofString "_law_note") 601, val := Value.ref 305 }, { hash := PyData.keyHash P (Str.ofString "_law_gathered_right"), key := Value.str (Str.ofString "_law_gathered_right") 607, val := Value.ref 310 }, { hash := PyData.keyHash P (Str.ofString "_law_round_right"), key := Value.str (Str.ofString "_law_round_right") 620, val := Value.ref 317 }, { hash := PyData.keyHash P (Str.ofString "law"), key := Value.str (Str.ofString "law") 629, val := Value.ref 324 }] 23 }
noncomputable abbrev ob12S5 (P : Params) : Obj := { cls := Value.none, data := Data.fields #[Value.int 1 0, Value.int 0 0, Value.ref 20, Value.int 5 0, Value.int 0 0, Value.ref 27, Value.int 7 0, Value.int 0 0, Value.ref 34, Value.int 9 0, Value.int 0 0, Value.ref 41, Value.int 13 0, Value.int 0 0, Value.ref 48, Value.int 112 0, Value.int 0 0, Value.ref 144, Value.int 192 0, Value.int 0 0, Value.ref 278, Value.int 197 0, Value.int 0 0, Value.ref 285, Value.int 204 0, Value.int 0 0, Value.ref 292, Value.int 206 0, Value.int 0 0, Value.ref 299, Value.int 214 0, Value.int 0 0, Value.ref 304, Value.int 220 0, Value.int 0 0, Value.ref 309, Value.int 230 0, Value.int 0 0, Value.ref 316, Value.int 243 0, Value.int 0 0, Value.ref 323] }
noncomputable abbrev ob273 (P : Params) : Obj := { cls := Value.type "tuple", data := Data.seq #[] }
noncomputable abbrev ob274 (P : Params) : Obj := { cls := Value.none, data := Data.fields #[] }
noncomputable abbrev ob275 (P : Params) : Obj := { cls := Value.type "tuple", data := Data.seq #[Value.str (Str.ofString "script") 556, Value.str (Str.ofString "k") 557, Value.str (Str.ofString "cell") 558, Value.str (Str.ofString "great") 559, Value.str (Str.ofString "mixed") 560] }
noncomputable abbrev ob276 (P : Params) : Obj := { cls := Value.type "tuple", data := Data.seq #[] }
noncomputable abbrev ob277 (P : Params) : Obj := { cls := Value.none, data := Data.func { name := Str.ofString "_law_pool", qualname := Str.ofString "_law_pool", params := fpx10.1.1, body := fpx10.1.2.1, scope := fpx10.1.2.2, globals := 0, closure := [], defaults := Value.none, kwdefaults := Value.none } }
noncomputable abbrev ob278 (P : Params) : Obj := { cls := Value.type "code", data := Data.fields #[Value.str (Str.ofString "_law_pool") 553, Value.str (Str.ofString "_law_pool") 554, Value.str (Str.ofString "/claim/cut.py") 555, Value.int 192 0, Value.int 2 0, Value.int 0 0, Value.int 0 0, Value.int 3 0, Value.ref 273, Value.bool true, Value.int 181 0, Value.ref 274, Value.none, Value.ref 275, Value.ref 276, Value.ref 277, Value.int 561 0, Value.int 192 0, Value.str (Str.ofString "/claim/cut.py") 562] }
noncomputable abbrev ob279 (P : Params) : Obj := { cls := Value.type "function", data := Data.func { name := Str.ofString "_law_pool", qualname := Str.ofString "_law_pool", params := fpx10.1.1, body := fpx10.1.2.1, scope := fpx10.1.2.2, globals := 3, closure := [], defaults := Value.none, kwdefaults := Value.none, pyModule := Value.str (Str.ofString "law_xw0334_04") 551, code := Value.ref 278 } }
noncomputable abbrev ob280 (P : Params) : Obj := { cls := Value.type "tuple", data := Data.seq #[] }
noncomputable abbrev ob281 (P : Params) : Obj := { cls := Value.none, data := Data.fields #[] }
noncomputable abbrev ob282 (P : Params) : Obj := { cls := Value.type "tuple", data := Data.seq #[Value.str (Str.ofString "source") 567, Value.str (Str.ofString "top") 568, Value.str (Str.ofString "drawn") 569] }
noncomputable abbrev ob283 (P : Params) : Obj := { cls := Value.type "tuple", data := Data.seq #[] }
noncomputable abbrev ob284 (P : Params) : Obj := { cls := Value.none, data := Data.func { name := Str.ofString "_law_take", qualname := Str.ofString "_law_take", params := fpx11.1.1, body := fpx11.1.2.1, scope := fpx11.1.2.2, globals := 0, closure := [], defaults := Value.none, kwdefaults := Value.none } }
noncomputable abbrev ob285 (P : Params) : Obj := { cls := Value.type "code", data := Data.fields #[Value.str (Str.ofString "_law_take") 564, Value.str (Str.ofString "_law_take") 565, Value.str (Str.ofString "/claim/cut.py") 566, Value.int 197 0, Value.int 2 0, Value.int 0 0, Value.int 0 0, Value.int 3 0, Value.ref 280, Value.bool true, Value.int 181 0, Value.ref 281, Value.none, Value.ref 282, Value.ref 283, Value.ref 284, Value.int 570 0, Value.int 197 0, Value.str (Str.ofString "/claim/cut.py") 571] }
noncomputable abbrev ob286 (P : Params) : Obj := { cls := Value.type "function", data := Data.func { name := Str.ofString "_law_take", qualname := Str.ofString "_law_take", params := fpx11.1.1, body := fpx11.1.2.1, scope := fpx11.1.2.2, globals := 3, closure := [], defaults := Value.none, kwdefaults := Value.none, pyModule := Value.str (Str.ofString "law_xw0334_04") 551, code := Value.ref 285 } }
noncomputable abbrev ob287 (P : Params) : Obj := { cls := Value.type "tuple", data := Data.seq #[] }
noncomputable abbrev ob288 (P : Params) : Obj := { cls := Value.none, data := Data.fields #[] }
noncomputable abbrev ob289 (P : Params) : Obj := { cls := Value.type "tuple", data := Data.seq #[Value.str (Str.ofString "source") 576, Value.str (Str.ofString "things") 577] }
noncomputable abbrev ob290 (P : Params) : Obj := { cls := Value.type "tuple", data := Data.seq #[] }
noncomputable abbrev ob291 (P : Params) : Obj := { cls := Value.none, data := Data.func { name := Str.ofString "_law_one", qualname := Str.ofString "_law_one", params := fpx12.1.1, body := fpx12.1.2.1, scope := fpx12.1.2.2, globals := 0, closure := [], defaults := Value.none, kwdefaults := Value.none } }
noncomputable abbrev ob292 (P : Params) : Obj := { cls := Value.type "code", data := Data.fields #[Value.str (Str.ofString "_law_one") 573, Value.str (Str.ofString "_law_one") 574, Value.str (Str.ofString "/claim/cut.py") 575, Value.int 204 0, Value.int 2 0, Value.int 0 0, Value.int 0 0, Value.int 3 0, Value.ref 287, Value.bool true, Value.int 181 0, Value.ref 288, Value.none, Value.ref 289, Value.ref 290, Value.ref 291, Value.int 578 0, Value.int 204 0, Value.str (Str.ofString "/claim/cut.py") 579] }
noncomputable abbrev ob293 (P : Params) : Obj := { cls := Value.type "function", data := Data.func { name := Str.ofString "_law_one", qualname := Str.ofString "_law_one", params := fpx12.1.1, body := fpx12.1.2.1, scope := fpx12.1.2.2, globals := 3, closure := [], defaults := Value.none, kwdefaults := Value.none, pyModule := Value.str (Str.ofString "law_xw0334_04") 551, code := Value.ref 292 } }
noncomputable abbrev ob294 (P : Params) : Obj := { cls := Value.type "tuple", data := Data.seq #[] }
noncomputable abbrev ob295 (P : Params) : Obj := { cls := Value.none, data := Data.fields #[] }
noncomputable abbrev ob296 (P : Params) : Obj := { cls := Value.type "tuple", data := Data.seq #[Value.str (Str.ofString "source") 584, Value.str (Str.ofString "receiver") 585, Value.str (Str.ofString "book") 586, Value.str (Str.ofString "base") 587, Value.str (Str.ofString "ring") 588, Value.str (Str.ofString "turn") 589, Value.str (Str.ofString "spot") 590, Value.str (Str.ofString "octets") 591, Value.str (Str.ofString "step") 592] }
noncomputable abbrev ob297 (P : Params) : Obj := { cls := Value.type "tuple", data := Data.seq #[] }
noncomputable abbrev ob298 (P : Params) : Obj := { cls := Value.none, data := Data.func { name := Str.ofString "_law_put", qualname := Str.ofString "_law_put", params := fpx13.1.1, body := fpx13.1.2.1, scope := fpx13.1.2.2, globals := 0, closure := [], defaults := Value.none, kwdefaults := Value.none } }
noncomputable abbrev ob299 (P : Params) : Obj := { cls := Value.type "code", data := Data.fields #[Value.str (Str.ofString "_law_put") 581, Value.str (Str.ofString "_law_put") 582, Value.str (Str.ofString "/claim/cut.py") 583, Value.int 206 0, Value.int 6 0, Value.int 0 0, Value.int 0 0, Value.int 3 0, Value.ref 294, Value.bool true, Value.int 181 0, Value.ref 295, Value.none, Value.ref 296, Value.ref 297, Value.ref 298, Value.int 593 0, Value.int 206 0, Value.str (Str.ofString "/claim/cut.py") 594] }
noncomputable abbrev ob300 (P : Params) : Obj := { cls := Value.type "function", data := Data.func { name := Str.ofString "_law_put", qualname := Str.ofString "_law_put", params := fpx13.1.1, body := fpx13.1.2.1, scope := fpx13.1.2.2, globals := 3, closure := [], defaults := Value.none, kwdefaults := Value.none, pyModule := Value.str (Str.ofString "law_xw0334_04") 551, code := Value.ref 299 } }
noncomputable abbrev ob301 (P : Params) : Obj := { cls := Value.type "tuple", data := Data.seq #[] }
noncomputable abbrev ob302 (P : Params) : Obj := { cls := Value.none, data := Data.fields #[] }
noncomputable abbrev ob303 (P : Params) : Obj := { cls := Value.none, data := Data.func { name := Str.ofString "_law_note", qualname := Str.ofString "_law_note", params := fpx14.1.1, body := fpx14.1.2.1, scope := fpx14.1.2.2, globals := 0, closure := [], defaults := Value.none, kwdefaults := Value.none } }
noncomputable abbrev ob304 (P : Params) : Obj := { cls := Value.type "code", data := Data.fields #[Value.str (Str.ofString "_law_note") 596, Value.str (Str.ofString "_law_note") 597, Value.str (Str.ofString "/claim/cut.py") 598, Value.int 214 0, Value.int 5 0, Value.int 0 0, Value.int 0 0, Value.int 3 0, Value.ref 301, Value.bool true, Value.int 181 0, Value.ref 302, Value.none, Value.none, Value.none, Value.ref 303, Value.int 599 0, Value.int 214 0, Value.str (Str.ofString "/claim/cut.py") 600] }
noncomputable abbrev ob305 (P : Params) : Obj := { cls := Value.type "function", data := Data.func { name := Str.ofString "_law_note", qualname := Str.ofString "_law_note", params := fpx14.1.1, body := fpx14.1.2.1, scope := fpx14.1.2.2, globals := 3, closure := [], defaults := Value.none, kwdefaults := Value.none, pyModule := Value.str (Str.ofString "law_xw0334_04") 551, code := Value.ref 304 } }
noncomputable abbrev ob306 (P : Params) : Obj := { cls := Value.type "tuple", data := Data.seq #[] }
noncomputable abbrev ob307 (P : Params) : Obj := { cls := Value.none, data := Data.fields #[] }
noncomputable abbrev ob308 (P : Params) : Obj := { cls := Value.none, data := Data.func { name := Str.ofString "_law_gathered_right", qualname := Str.ofString "_law_gathered_right", params := fpx15.1.1, body := fpx15.1.2.1, scope := fpx15.1.2.2, globals := 0, closure := [], defaults := Value.none, kwdefaults := Value.none } }
noncomputable abbrev ob309 (P : Params) : Obj := { cls := Value.type "code", data := Data.fields #[Value.str (Str.ofString "_law_gathered_right") 602, Value.str (Str.ofString "_law_gathered_right") 603, Value.str (Str.ofString "/claim/cut.py") 604, Value.int 220 0, Value.int 4 0, Value.int 0 0, Value.int 0 0, Value.int 3 0, Value.ref 306, Value.bool true, Value.int 181 0, Value.ref 307, Value.none, Value.none, Value.none, Value.ref 308, Value.int 605 0, Value.int 220 0, Value.str (Str.ofString "/claim/cut.py") 606] }
noncomputable abbrev ob310 (P : Params) : Obj := { cls := Value.type "function", data := Data.func { name := Str.ofString "_law_gathered_right", qualname := Str.ofString "_law_gathered_right", params := fpx15.1.1, body := fpx15.1.2.1, scope := fpx15.1.2.2, globals := 3, closure := [], defaults := Value.none, kwdefaults := Value.none, pyModule := Value.str (Str.ofString "law_xw0334_04") 551, code := Value.ref 309 } }
noncomputable abbrev ob311 (P : Params) : Obj := { cls := Value.type "tuple", data := Data.seq #[] }
noncomputable abbrev ob312 (P : Params) : Obj := { cls := Value.none, data := Data.fields #[] }
noncomputable abbrev ob313 (P : Params) : Obj := { cls := Value.type "tuple", data := Data.seq #[Value.str (Str.ofString "source") 611, Value.str (Str.ofString "ring") 612, Value.str (Str.ofString "irs") 613, Value.str (Str.ofString "base") 614, Value.str (Str.ofString "receiver") 615, Value.str (Str.ofString "book") 616, Value.str (Str.ofString "turn") 617] }
noncomputable abbrev ob314 (P : Params) : Obj := { cls := Value.type "tuple", data := Data.seq #[] }
noncomputable abbrev ob315 (P : Params) : Obj := { cls := Value.none, data := Data.func { name := Str.ofString "_law_round_right", qualname := Str.ofString "_law_round_right", params := fpx16.1.1, body := fpx16.1.2.1, scope := fpx16.1.2.2, globals := 0, closure := [], defaults := Value.none, kwdefaults := Value.none } }
noncomputable abbrev ob316 (P : Params) : Obj := { cls := Value.type "code", data := Data.fields #[Value.str (Str.ofString "_law_round_right") 608, Value.str (Str.ofString "_law_round_right") 609, Value.str (Str.ofString "/claim/cut.py") 610, Value.int 230 0, Value.int 1 0, Value.int 0 0, Value.int 0 0, Value.int 3 0, Value.ref 311, Value.bool true, Value.int 181 0, Value.ref 312, Value.none, Value.ref 313, Value.ref 314, Value.ref 315, Value.int 618 0, Value.int 230 0, Value.str (Str.ofString "/claim/cut.py") 619] }
noncomputable abbrev ob317 (P : Params) : Obj := { cls := Value.type "function", data := Data.func { name := Str.ofString "_law_round_right", qualname := Str.ofString "_law_round_right", params := fpx16.1.1, body := fpx16.1.2.1, scope := fpx16.1.2.2, globals := 3, closure := [], defaults := Value.none, kwdefaults := Value.none, pyModule := Value.str (Str.ofString "law_xw0334_04") 551, code := Value.ref 316 } }
noncomputable abbrev ob318 (P : Params) : Obj := { cls := Value.type "tuple", data := Data.seq #[] }
noncomputable abbrev ob319 (P : Params) : Obj := { cls := Value.none, data := Data.fields #[] }
noncomputable abbrev ob320 (P : Params) : Obj := { cls := Value.type "tuple", data := Data.seq #[Value.str (Str.ofString "script") 624, Value.str (Str.ofString "told") 625, Value.str (Str.ofString "source") 626] }
noncomputable abbrev ob321 (P : Params) : Obj := { cls := Value.type "tuple", data := Data.seq #[] }
noncomputable abbrev ob322 (P : Params) : Obj := { cls := Value.none, data := Data.func { name := Str.ofString "law", qualname := Str.ofString "law", params := fpx17.1.1, body := fpx17.1.2.1, scope := fpx17.1.2.2, globals := 0, closure := [], defaults := Value.none, kwdefaults := Value.none } }
noncomputable abbrev ob323 (P : Params) : Obj := { cls := Value.type "code", data := Data.fields #[Value.str (Str.ofString "law") 621, Value.str (Str.ofString "law") 622, Value.str (Str.ofString "/claim/cut.py") 623, Value.int 243 0, Value.int 1 0, Value.int 0 0, Value.int 0 0, Value.int 3 0, Value.ref 318, Value.bool true, Value.int 181 0, Value.ref 319, Value.none, Value.ref 320, Value.ref 321, Value.ref 322, Value.int 627 0, Value.int 243 0, Value.str (Str.ofString "/claim/cut.py") 628] }
noncomputable abbrev ob324 (P : Params) : Obj := { cls := Value.type "function", data := Data.func { name := Str.ofString "law", qualname := Str.ofString "law", params := fpx17.1.1, body := fpx17.1.2.1, scope := fpx17.1.2.2, globals := 3, closure := [], defaults := Value.none, kwdefaults := Value.none, pyModule := Value.str (Str.ofString "law_xw0334_04") 551, code := Value.ref 323 } }
noncomputable def heapSa (P : Params) : Heap := ⟨Array.mk [boot_o_0 P, boot_o_1 P, boot_o_2 P, boot_o_3 P, boot_o_4 P, boot_o_5 P, boot_o_6 P, boot_o_7 P, boot_o_8 P, boot_o_9 P, boot_o_10 P, ob11 P, ob12 P, ob13 P, ob14 P], ({ } : Life)⟩
noncomputable def heapSf (P : Params) : Heap := ⟨Array.mk [boot_o_0 P, boot_o_1 P, boot_o_2 P, ob3S5 P, boot_o_4 P, boot_o_5 P, boot_o_6 P, boot_o_7 P, boot_o_8 P, boot_o_9 P, boot_o_10 P, ob11 P, ob12S5 P, ob13 P, ob14 P, ob15 P, ob16 P, ob17 P, ob18 P, ob19 P, ob20 P, ob21 P, ob22 P, ob23 P, ob24 P, ob25 P, ob26 P, ob27 P, ob28 P, ob29 P, ob30 P, ob31 P, ob32 P, ob33 P, ob34 P, ob35 P, ob36 P, ob37 P, ob38 P, ob39 P, ob40 P, ob41 P, ob42 P, ob43 P, ob44 P, ob45 P, ob46 P, ob47 P, ob48 P, ob49 P, ob50 P, ob51 P, ob52 P, ob53 P, ob54 P, ob55 P, ob56 P, ob57 P, ob58 P, ob59 P, ob60 P, ob61 P, ob62 P, ob63 P, ob64 P, ob65 P, ob66 P, ob67 P, ob68 P, ob69 P, ob70 P, ob71 P, ob72 P, ob73 P, ob74 P, ob75 P, ob76 P, ob77 P, ob78 P, ob79 P, ob80 P, ob81 P, ob82 P, ob83 P, ob84 P, ob85 P, ob86 P, ob87 P, ob88 P, ob89 P, ob90 P, ob91 P, ob92 P, ob93 P, ob94 P, ob95 P, ob96 P, ob97 P, ob98 P, ob99 P, ob100 P, ob101 P, ob102 P, ob103 P, ob104 P, ob105 P, ob106 P, ob107 P, ob108 P, ob109 P, ob110 P, ob111 P, ob112 P, ob113 P, ob114 P, ob115 P, ob116 P, ob117 P, ob118 P, ob119 P, ob120 P, ob121 P, ob122 P, ob123 P, ob124 P, ob125 P, ob126 P, ob127 P, ob128 P, ob129 P, ob130 P, ob131 P, ob132 P, ob133 P, ob134 P, ob135 P, ob136 P, ob137 P, ob138 P, ob139 P, ob140 P, ob141 P, ob142 P, ob143 P, ob144 P, ob145 P, ob146 P, ob147 P, ob148 P, ob149 P, ob150 P, ob151 P, ob152 P, ob153 P, ob154 P, ob155 P, ob156 P, ob157 P, ob158 P, ob159 P, ob160 P, ob161 P, ob162 P, ob163 P, ob164 P, ob165 P, ob166 P, ob167 P, ob168 P, ob169 P, ob170 P, ob171 P, ob172 P, ob173 P, ob174 P, ob175 P, ob176 P, ob177 P, ob178 P, ob179 P, ob180 P, ob181 P, ob182 P, ob183 P, ob184 P, ob185 P, ob186 P, ob187 P, ob188 P, ob189 P, ob190 P, ob191 P, ob192 P, ob193 P, ob194 P, ob195 P, ob196 P, ob197 P, ob198 P, ob199 P, ob200 P, ob201 P, ob202 P, ob203 P, ob204 P, ob205 P, ob206 P, ob207 P, ob208 P, ob209 P, ob210 P, ob211 P, ob212 P, ob213 P, ob214 P, ob215 P, ob216 P, ob217 P, ob218 P, ob219 P, ob220 P, ob221 P, ob222 P, ob223 P, ob224 P, ob225 P, ob226 P, ob227 P, ob228 P, ob229 P, ob230 P, ob231 P, ob232 P, ob233 P, ob234 P, ob235 P, ob236 P, ob237 P, ob238 P, ob239 P, ob240 P, ob241 P, ob242 P, ob243 P, ob244 P, ob245 P, ob246 P, ob247 P, ob248 P, ob249 P, ob250 P, ob251 P, ob252 P, ob253 P, ob254 P, ob255 P, ob256 P, ob257 P, ob258 P, ob259 P, ob260 P, ob261 P, ob262 P, ob263 P, ob264 P, ob265 P, ob266 P, ob267 P, ob268 P, ob269 P, ob270 P, ob271 P, ob272 P, ob273 P, ob274 P, ob275 P, ob276 P, ob277 P, ob278 P, ob279 P, ob280 P, ob281 P, ob282 P, ob283 P, ob284 P, ob285 P, ob286 P, ob287 P, ob288 P, ob289 P, ob290 P, ob291 P, ob292 P, ob293 P, ob294 P, ob295 P, ob296 P, ob297 P, ob298 P, ob299 P, ob300 P, ob301 P, ob302 P, ob303 P, ob304 P, ob305 P, ob306 P, ob307 P, ob308 P, ob309 P, ob310 P, ob311 P, ob312 P, ob313 P, ob314 P, ob315 P, ob316 P, ob317 P, ob318 P, ob319 P, ob320 P, ob321 P, ob322 P, ob323 P, ob324 P], ({ } : Life)⟩
noncomputable def heapK (P : Params) : Frag := [(2, boot_o_2 P), (3, ob3S5 P), (15, ob15 P), (17, ob17 P), (18, ob18 P), (20, ob20 P), (21, ob21 P), (22, ob22 P), (24, ob24 P), (25, ob25 P), (27, ob27 P), (28, ob28 P), (29, ob29 P), (31, ob31 P), (32, ob32 P), (34, ob34 P), (35, ob35 P), (36, ob36 P), (38, ob38 P), (39, ob39 P), (41, ob41 P), (42, ob42 P), (50, ob50 P), (52, ob52 P), (53, ob53 P), (55, ob55 P), (56, ob56 P), (57, ob57 P), (60, ob60 P), (61, ob61 P), (62, ob62 P), (64, ob64 P), (65, ob65 P), (67, ob67 P), (68, ob68 P), (69, ob69 P), (71, ob71 P), (72, ob72 P), (74, ob74 P), (75, ob75 P), (76, ob76 P), (78, ob78 P), (79, ob79 P), (81, ob81 P), (82, ob82 P), (83, ob83 P), (85, ob85 P), (86, ob86 P), (88, ob88 P), (89, ob89 P), (90, ob90 P), (92, ob92 P), (93, ob93 P), (95, ob95 P), (96, ob96 P), (97, ob97 P), (99, ob99 P), (100, ob100 P), (102, ob102 P), (103, ob103 P), (104, ob104 P), (106, ob106 P), (107, ob107 P), (109, ob109 P), (110, ob110 P), (111, ob111 P), (113, ob113 P), (114, ob114 P), (116, ob116 P), (117, ob117 P), (118, ob118 P), (120, ob120 P), (121, ob121 P), (123, ob123 P), (124, ob124 P), (125, ob125 P), (127, ob127 P), (128, ob128 P), (130, ob130 P), (131, ob131 P), (132, ob132 P), (133, ob133 P), (134, ob134 P), (135, ob135 P), (136, ob136 P), (146, ob146 P), (147, ob147 P), (149, ob149 P), (150, ob150 P), (152, ob152 P), (153, ob153 P), (154, ob154 P), (156, ob156 P), (157, ob157 P), (159, ob159 P), (160, ob160 P), (161, ob161 P), (163, ob163 P), (164, ob164 P), (166, ob166 P), (167, ob167 P), (168, ob168 P), (170, ob170 P), (171, ob171 P), (173, ob173 P), (174, ob174 P), (175, ob175 P), (177, ob177 P), (178, ob178 P), (180, ob180 P), (181, ob181 P), (182, ob182 P), (184, ob184 P), (185, ob185 P), (187, ob187 P), (188, ob188 P), (189, ob189 P), (191, ob191 P), (192, ob192 P), (194, ob194 P), (195, ob195 P), (196, ob196 P), (198, ob198 P), (199, ob199 P), (201, ob201 P), (202, ob202 P), (203, ob203 P), (205, ob205 P), (206, ob206 P), (208, ob208 P), (209, ob209 P), (210, ob210 P), (212, ob212 P), (213, ob213 P), (215, ob215 P), (216, ob216 P), (217, ob217 P), (219, ob219 P), (220, ob220 P), (222, ob222 P), (223, ob223 P), (224, ob224 P), (226, ob226 P), (227, ob227 P), (229, ob229 P), (230, ob230 P), (231, ob231 P), (233, ob233 P), (234, ob234 P), (236, ob236 P), (237, ob237 P), (238, ob238 P), (240, ob240 P), (241, ob241 P), (243, ob243 P), (244, ob244 P), (245, ob245 P), (247, ob247 P), (248, ob248 P), (250, ob250 P), (251, ob251 P), (252, ob252 P), (254, ob254 P), (255, ob255 P), (257, ob257 P), (258, ob258 P), (259, ob259 P), (261, ob261 P), (262, ob262 P), (264, ob264 P), (265, ob265 P), (266, ob266 P), (267, ob267 P), (268, ob268 P), (269, ob269 P), (270, ob270 P), (273, ob273 P), (275, ob275 P), (276, ob276 P), (278, ob278 P), (279, ob279 P), (280, ob280 P), (282, ob282 P), (283, ob283 P), (285, ob285 P), (286, ob286 P), (287, ob287 P), (289, ob289 P), (290, ob290 P), (292, ob292 P), (293, ob293 P), (294, ob294 P), (296, ob296 P), (297, ob297 P), (299, ob299 P), (300, ob300 P), (301, ob301 P), (304, ob304 P), (305, ob305 P), (306, ob306 P), (309, ob309 P), (310, ob310 P), (311, ob311 P), (313, ob313 P), (314, ob314 P), (316, ob316 P), (317, ob317 P), (318, ob318 P), (320, ob320 P), (321, ob321 P), (323, ob323 P), (324, ob324 P)]
noncomputable def heapAs : List Addr := [2, 3, 15, 17, 18, 20, 21, 22, 24, 25, 27, 28, 29, 31, 32, 34, 35, 36, 38, 39, 41, 42, 50, 52, 53, 55, 56, 57, 60, 61, 62, 64, 65, 67, 68, 69, 71, 72, 74, 75, 76, 78, 79, 81, 82, 83, 85, 86, 88, 89, 90, 92, 93, 95, 96, 97, 99, 100, 102, 103, 104, 106, 107, 109, 110, 111, 113, 114, 116, 117, 118, 120, 121, 123, 124, 125, 127, 128, 130, 131, 132, 133, 134, 135, 136, 146, 147, 149, 150, 152, 153, 154, 156, 157, 159, 160, 161, 163, 164, 166, 167, 168, 170, 171, 173, 174, 175, 177, 178, 180, 181, 182, 184, 185, 187, 188, 189, 191, 192, 194, 195, 196, 198, 199, 201, 202, 203, 205, 206, 208, 209, 210, 212, 213, 215, 216, 217, 219, 220, 222, 223, 224, 226, 227, 229, 230, 231, 233, 234, 236, 237, 238, 240, 241, 243, 244, 245, 247, 248, 250, 251, 252, 254, 255, 257, 258, 259, 261, 262, 264, 265, 266, 267, 268, 269, 270, 273, 275, 276, 278, 279, 280, 282, 283, 285, 286, 287, 289, 290, 292, 293, 294, 296, 297, 299, 300, 301, 304, 305, 306, 309, 310, 311, 313, 314, 316, 317, 318, 320, 321, 323, 324]
theorem heapAs_eq (P : Params) : heapAs = (heapK P).map (·.1) := by kernel_rfl
noncomputable def theView : Program := view PySem.Challenge.pw_xw0334_04 [0, 2, 3, 4, 6, 8, 10, 11, 12, 13, 14, 15, 16, 17]
noncomputable abbrev theHook : Hook := kHook heapK heapAs heapAs_eq
abbrev theRow : RowW := PySem.Challenge.rw_xw0334_04.row.toRowW
noncomputable def dlaw : {x : DefRec × List (Str × Expr) // defOf theView theRow.name = some x} := ⟨_, rfl⟩
noncomputable abbrev xtAt (s : Shared) : Bool := xlAt theView [] s && recOk (RowW.records theRow) s
noncomputable def trSb (P : Params) : BT := .node (boot_o_0 P) (.node (boot_o_1 P) (.node (boot_o_3 P) (.node (boot_o_7 P) .nil .nil) (.node (ob11 P) .nil .nil)) (.node (boot_o_5 P) (.node (boot_o_9 P) .nil .nil) (.node (ob13 P) .nil .nil))) (.node (boot_o_2 P) (.node (boot_o_4 P) (.node (boot_o_8 P) .nil .nil) (.node (ob12 P) .nil .nil)) (.node (boot_o_6 P) (.node (boot_o_10 P) .nil .nil) (.node (ob14 P) .nil .nil)))
noncomputable def trS1 (P : Params) : BT := .node (boot_o_0 P) (.node (boot_o_1 P) (.node (ob3S1 P) (.node (boot_o_7 P) (.node (ob15 P) (.node (ob31 P) .nil .nil) .nil) (.node (ob23 P) (.node (ob39 P) .nil .nil) .nil)) (.node (ob11 P) (.node (ob19 P) (.node (ob35 P) .nil .nil) .nil) (.node (ob27 P) .nil .nil))) (.node (boot_o_5 P) (.node (boot_o_9 P) (.node (ob17 P) (.node (ob33 P) .nil .nil) .nil) (.node (ob25 P) (.node (ob41 P) .nil .nil) .nil)) (.node (ob13 P) (.node (ob21 P) (.node (ob37 P) .nil .nil) .nil) (.node (ob29 P) .nil .nil)))) (.node (boot_o_2 P) (.node (boot_o_4 P) (.node (boot_o_8 P) (.node (ob16 P) (.node (ob32 P) .nil .nil) .nil) (.node (ob24 P) (.node (ob40 P) .nil .nil) .nil)) (.node (ob12S1 P) (.node (ob20 P) (.node (ob36 P) .nil .nil) .nil) (.node (ob28 P) .nil .nil))) (.node (boot_o_6 P) (.node (boot_o_10 P) (.node (ob18 P) (.node (ob34 P) .nil .nil) .nil) (.node (ob26 P) (.node (ob42 P) .nil .nil) .nil)) (.node (ob14 P) (.node (ob22 P) (.node (ob38 P) .nil .nil) .nil) (.node (ob30 P) .nil .nil))))
noncomputable def trS2 (P : Params) : BT := .node (boot_o_0 P) (.node (boot_o_1 P) (.node (ob3S2 P) (.node (boot_o_7 P) (.node (ob15 P) (.node (ob31 P) (.node (ob63 P) (.node (ob127 P) .nil .nil) .nil) (.node (ob95 P) .nil .nil)) (.node (ob47 P) (.node (ob79 P) .nil .nil) (.node (ob111 P) .nil .nil))) (.node (ob23 P) (.node (ob39 P) (.node (ob71 P) (.node (ob135 P) .nil .nil) .nil) (.node (ob103 P) .nil .nil)) (.node (ob55 P) (.node (ob87 P) .nil .nil) (.node (ob119 P) .nil .nil)))) (.node (ob11 P) (.node (ob19 P) (.node (ob35 P) (.node (ob67 P) (.node (ob131 P) .nil .nil) .nil) (.node (ob99 P) .nil .nil)) (.node (ob51 P) (.node (ob83 P) .nil .nil) (.node (ob115 P) .nil .nil))) (.node (ob27 P) (.node (ob43 P) (.node (ob75 P) .nil .nil) (.node (ob107 P) .nil .nil)) (.node (ob59 P) (.node (ob91 P) .nil .nil) (.node (ob123 P) .nil .nil))))) (.node (boot_o_5 P) (.node (boot_o_9 P) (.node (ob17 P) (.node (ob33 P) (.node (ob65 P) (.node (ob129 P) .nil .nil) .nil) (.node (ob97 P) .nil .nil)) (.node (ob49 P) (.node (ob81 P) .nil .nil) (.node (ob113 P) .nil .nil))) (.node (ob25 P) (.node (ob41 P) (.node (ob73 P) (.node (ob137 P) .nil .nil) .nil) (.node (ob105 P) .nil .nil)) (.node (ob57 P) (.node (ob89 P) .nil .nil) (.node (ob121 P) .nil .nil)))) (.node (ob13 P) (.node (ob21 P) (.node (ob37 P) (.node (ob69 P) (.node (ob133 P) .nil .nil) .nil) (.node (ob101 P) .nil .nil)) (.node (ob53 P) (.node (ob85 P) .nil .nil) (.node (ob117 P) .nil .nil))) (.node (ob29 P) (.node (ob45 P) (.node (ob77 P) .nil .nil) (.node (ob109 P) .nil .nil)) (.node (ob61 P) (.node (ob93 P) .nil .nil) (.node (ob125 P) .nil .nil)))))) (.node (boot_o_2 P) (.node (boot_o_4 P) (.node (boot_o_8 P) (.node (ob16 P) (.node (ob32 P) (.node (ob64 P) (.node (ob128 P) .nil .nil) .nil) (.node (ob96 P) .nil .nil)) (.node (ob48 P) (.node (ob80 P) .nil .nil) (.node (ob112 P) .nil .nil))) (.node (ob24 P) (.node (ob40 P) (.node (ob72 P) (.node (ob136 P) .nil .nil) .nil) (.node (ob104 P) .nil .nil)) (.node (ob56 P) (.node (ob88 P) .nil .nil) (.node (ob120 P) .nil .nil)))) (.node (ob12S2 P) (.node (ob20 P) (.node (ob36 P) (.node (ob68 P) (.node (ob132 P) .nil .nil) .nil) (.node (ob100 P) .nil .nil)) (.node (ob52 P) (.node (ob84 P) .nil .nil) (.node (ob116 P) .nil .nil))) (.node (ob28 P) (.node (ob44 P) (.node (ob76 P) .nil .nil) (.node (ob108 P) .nil .nil)) (.node (ob60 P) (.node (ob92 P) .nil .nil) (.node (ob124 P) .nil .nil))))) (.node (boot_o_6 P) (.node (boot_o_10 P) (.node (ob18 P) (.node (ob34 P) (.node (ob66 P) (.node (ob130 P) .nil .nil) .nil) (.node (ob98 P) .nil .nil)) (.node (ob50 P) (.node (ob82 P) .nil .nil) (.node (ob114 P) .nil .nil))) (.node (ob26 P) (.node (ob42 P) (.node (ob74 P) (.node (ob138 P) .nil .nil) .nil) (.node (ob106 P) .nil .nil)) (.node (ob58 P) (.node (ob90 P) .nil .nil) (.node (ob122 P) .nil .nil)))) (.node (ob14 P) (.node (ob22 P) (.node (ob38 P) (.node (ob70 P) (.node (ob134 P) .nil .nil) .nil) (.node (ob102 P) .nil .nil)) (.node (ob54 P) (.node (ob86 P) .nil .nil) (.node (ob118 P) .nil .nil))) (.node (ob30 P) (.node (ob46 P) (.node (ob78 P) .nil .nil) (.node (ob110 P) .nil .nil)) (.node (ob62 P) (.node (ob94 P) .nil .nil) (.node (ob126 P) .nil .nil))))))
noncomputable def trS3 (P : Params) : BT := .node (boot_o_0 P) (.node (boot_o_1 P) (.node (ob3S3 P) (.node (boot_o_7 P) (.node (ob15 P) (.node (ob31 P) (.node (ob63 P) (.node (ob127 P) .nil .nil) .nil) (.node (ob95 P) .nil .nil)) (.node (ob47 P) (.node (ob79 P) .nil .nil) (.node (ob111 P) .nil .nil))) (.node (ob23 P) (.node (ob39 P) (.node (ob71 P) (.node (ob135 P) .nil .nil) .nil) (.node (ob103 P) .nil .nil)) (.node (ob55 P) (.node (ob87 P) .nil .nil) (.node (ob119 P) .nil .nil)))) (.node (ob11 P) (.node (ob19 P) (.node (ob35 P) (.node (ob67 P) (.node (ob131 P) .nil .nil) .nil) (.node (ob99 P) .nil .nil)) (.node (ob51 P) (.node (ob83 P) .nil .nil) (.node (ob115 P) .nil .nil))) (.node (ob27 P) (.node (ob43 P) (.node (ob75 P) .nil .nil) (.node (ob107 P) .nil .nil)) (.node (ob59 P) (.node (ob91 P) .nil .nil) (.node (ob123 P) .nil .nil))))) (.node (boot_o_5 P) (.node (boot_o_9 P) (.node (ob17 P) (.node (ob33 P) (.node (ob65 P) (.node (ob129 P) .nil .nil) .nil) (.node (ob97 P) .nil .nil)) (.node (ob49 P) (.node (ob81 P) .nil .nil) (.node (ob113 P) .nil .nil))) (.node (ob25 P) (.node (ob41 P) (.node (ob73 P) (.node (ob137 P) .nil .nil) .nil) (.node (ob105 P) .nil .nil)) (.node (ob57 P) (.node (ob89 P) .nil .nil) (.node (ob121 P) .nil .nil)))) (.node (ob13 P) (.node (ob21 P) (.node (ob37 P) (.node (ob69 P) (.node (ob133 P) .nil .nil) .nil) (.node (ob101 P) .nil .nil)) (.node (ob53 P) (.node (ob85 P) .nil .nil) (.node (ob117 P) .nil .nil))) (.node (ob29 P) (.node (ob45 P) (.node (ob77 P) .nil .nil) (.node (ob109 P) .nil .nil)) (.node (ob61 P) (.node (ob93 P) .nil .nil) (.node (ob125 P) .nil .nil)))))) (.node (boot_o_2 P) (.node (boot_o_4 P) (.node (boot_o_8 P) (.node (ob16 P) (.node (ob32 P) (.node (ob64 P) (.node (ob128 P) .nil .nil) .nil) (.node (ob96 P) .nil .nil)) (.node (ob48 P) (.node (ob80 P) .nil .nil) (.node (ob112 P) .nil .nil))) (.node (ob24 P) (.node (ob40 P) (.node (ob72 P) (.node (ob136 P) .nil .nil) .nil) (.node (ob104 P) .nil .nil)) (.node (ob56 P) (.node (ob88 P) .nil .nil) (.node (ob120 P) .nil .nil)))) (.node (ob12S2 P) (.node (ob20 P) (.node (ob36 P) (.node (ob68 P) (.node (ob132 P) .nil .nil) .nil) (.node (ob100 P) .nil .nil)) (.node (ob52 P) (.node (ob84 P) .nil .nil) (.node (ob116 P) .nil .nil))) (.node (ob28 P) (.node (ob44 P) (.node (ob76 P) .nil .nil) (.node (ob108 P) .nil .nil)) (.node (ob60 P) (.node (ob92 P) .nil .nil) (.node (ob124 P) .nil .nil))))) (.node (boot_o_6 P) (.node (boot_o_10 P) (.node (ob18 P) (.node (ob34 P) (.node (ob66 P) (.node (ob130 P) .nil .nil) .nil) (.node (ob98 P) .nil .nil)) (.node (ob50 P) (.node (ob82 P) .nil .nil) (.node (ob114 P) .nil .nil))) (.node (ob26 P) (.node (ob42 P) (.node (ob74 P) (.node (ob138 P) .nil .nil) .nil) (.node (ob106 P) .nil .nil)) (.node (ob58 P) (.node (ob90 P) .nil .nil) (.node (ob122 P) .nil .nil)))) (.node (ob14 P) (.node (ob22 P) (.node (ob38 P) (.node (ob70 P) (.node (ob134 P) .nil .nil) .nil) (.node (ob102 P) .nil .nil)) (.node (ob54 P) (.node (ob86 P) .nil .nil) (.node (ob118 P) .nil .nil))) (.node (ob30 P) (.node (ob46 P) (.node (ob78 P) .nil .nil) (.node (ob110 P) .nil .nil)) (.node (ob62 P) (.node (ob94 P) .nil .nil) (.node (ob126 P) .nil .nil))))))
noncomputable def trS4 (P : Params) : BT := .node (boot_o_0 P) (.node (boot_o_1 P) (.node (ob3S4 P) (.node (boot_o_7 P) (.node (ob15 P) (.node (ob31 P) (.node (ob63 P) (.node (ob127 P) (.node (ob255 P) .nil .nil) .nil) (.node (ob191 P) .nil .nil)) (.node (ob95 P) (.node (ob159 P) .nil .nil) (.node (ob223 P) .nil .nil))) (.node (ob47 P) (.node (ob79 P) (.node (ob143 P) (.node (ob271 P) .nil .nil) .nil) (.node (ob207 P) .nil .nil)) (.node (ob111 P) (.node (ob175 P) .nil .nil) (.node (ob239 P) .nil .nil)))) (.node (ob23 P) (.node (ob39 P) (.node (ob71 P) (.node (ob135 P) (.node (ob263 P) .nil .nil) .nil) (.node (ob199 P) .nil .nil)) (.node (ob103 P) (.node (ob167 P) .nil .nil) (.node (ob231 P) .nil .nil))) (.node (ob55 P) (.node (ob87 P) (.node (ob151 P) .nil .nil) (.node (ob215 P) .nil .nil)) (.node (ob119 P) (.node (ob183 P) .nil .nil) (.node (ob247 P) .nil .nil))))) (.node (ob11 P) (.node (ob19 P) (.node (ob35 P) (.node (ob67 P) (.node (ob131 P) (.node (ob259 P) .nil .nil) .nil) (.node (ob195 P) .nil .nil)) (.node (ob99 P) (.node (ob163 P) .nil .nil) (.node (ob227 P) .nil .nil))) (.node (ob51 P) (.node (ob83 P) (.node (ob147 P) .nil .nil) (.node (ob211 P) .nil .nil)) (.node (ob115 P) (.node (ob179 P) .nil .nil) (.node (ob243 P) .nil .nil)))) (.node (ob27 P) (.node (ob43 P) (.node (ob75 P) (.node (ob139 P) (.node (ob267 P) .nil .nil) .nil) (.node (ob203 P) .nil .nil)) (.node (ob107 P) (.node (ob171 P) .nil .nil) (.node (ob235 P) .nil .nil))) (.node (ob59 P) (.node (ob91 P) (.node (ob155 P) .nil .nil) (.node (ob219 P) .nil .nil)) (.node (ob123 P) (.node (ob187 P) .nil .nil) (.node (ob251 P) .nil .nil)))))) (.node (boot_o_5 P) (.node (boot_o_9 P) (.node (ob17 P) (.node (ob33 P) (.node (ob65 P) (.node (ob129 P) (.node (ob257 P) .nil .nil) .nil) (.node (ob193 P) .nil .nil)) (.node (ob97 P) (.node (ob161 P) .nil .nil) (.node (ob225 P) .nil .nil))) (.node (ob49 P) (.node (ob81 P) (.node (ob145 P) .nil .nil) (.node (ob209 P) .nil .nil)) (.node (ob113 P) (.node (ob177 P) .nil .nil) (.node (ob241 P) .nil .nil)))) (.node (ob25 P) (.node (ob41 P) (.node (ob73 P) (.node (ob137 P) (.node (ob265 P) .nil .nil) .nil) (.node (ob201 P) .nil .nil)) (.node (ob105 P) (.node (ob169 P) .nil .nil) (.node (ob233 P) .nil .nil))) (.node (ob57 P) (.node (ob89 P) (.node (ob153 P) .nil .nil) (.node (ob217 P) .nil .nil)) (.node (ob121 P) (.node (ob185 P) .nil .nil) (.node (ob249 P) .nil .nil))))) (.node (ob13 P) (.node (ob21 P) (.node (ob37 P) (.node (ob69 P) (.node (ob133 P) (.node (ob261 P) .nil .nil) .nil) (.node (ob197 P) .nil .nil)) (.node (ob101 P) (.node (ob165 P) .nil .nil) (.node (ob229 P) .nil .nil))) (.node (ob53 P) (.node (ob85 P) (.node (ob149 P) .nil .nil) (.node (ob213 P) .nil .nil)) (.node (ob117 P) (.node (ob181 P) .nil .nil) (.node (ob245 P) .nil .nil)))) (.node (ob29 P) (.node (ob45 P) (.node (ob77 P) (.node (ob141 P) (.node (ob269 P) .nil .nil) .nil) (.node (ob205 P) .nil .nil)) (.node (ob109 P) (.node (ob173 P) .nil .nil) (.node (ob237 P) .nil .nil))) (.node (ob61 P) (.node (ob93 P) (.node (ob157 P) .nil .nil) (.node (ob221 P) .nil .nil)) (.node (ob125 P) (.node (ob189 P) .nil .nil) (.node (ob253 P) .nil .nil))))))) (.node (boot_o_2 P) (.node (boot_o_4 P) (.node (boot_o_8 P) (.node (ob16 P) (.node (ob32 P) (.node (ob64 P) (.node (ob128 P) (.node (ob256 P) .nil .nil) .nil) (.node (ob192 P) .nil .nil)) (.node (ob96 P) (.node (ob160 P) .nil .nil) (.node (ob224 P) .nil .nil))) (.node (ob48 P) (.node (ob80 P) (.node (ob144 P) (.node (ob272 P) .nil .nil) .nil) (.node (ob208 P) .nil .nil)) (.node (ob112 P) (.node (ob176 P) .nil .nil) (.node (ob240 P) .nil .nil)))) (.node (ob24 P) (.node (ob40 P) (.node (ob72 P) (.node (ob136 P) (.node (ob264 P) .nil .nil) .nil) (.node (ob200 P) .nil .nil)) (.node (ob104 P) (.node (ob168 P) .nil .nil) (.node (ob232 P) .nil .nil))) (.node (ob56 P) (.node (ob88 P) (.node (ob152 P) .nil .nil) (.node (ob216 P) .nil .nil)) (.node (ob120 P) (.node (ob184 P) .nil .nil) (.node (ob248 P) .nil .nil))))) (.node (ob12S4 P) (.node (ob20 P) (.node (ob36 P) (.node (ob68 P) (.node (ob132 P) (.node (ob260 P) .nil .nil) .nil) (.node (ob196 P) .nil .nil)) (.node (ob100 P) (.node (ob164 P) .nil .nil) (.node (ob228 P) .nil .nil))) (.node (ob52 P) (.node (ob84 P) (.node (ob148 P) .nil .nil) (.node (ob212 P) .nil .nil)) (.node (ob116 P) (.node (ob180 P) .nil .nil) (.node (ob244 P) .nil .nil)))) (.node (ob28 P) (.node (ob44 P) (.node (ob76 P) (.node (ob140 P) (.node (ob268 P) .nil .nil) .nil) (.node (ob204 P) .nil .nil)) (.node (ob108 P) (.node (ob172 P) .nil .nil) (.node (ob236 P) .nil .nil))) (.node (ob60 P) (.node (ob92 P) (.node (ob156 P) .nil .nil) (.node (ob220 P) .nil .nil)) (.node (ob124 P) (.node (ob188 P) .nil .nil) (.node (ob252 P) .nil .nil)))))) (.node (boot_o_6 P) (.node (boot_o_10 P) (.node (ob18 P) (.node (ob34 P) (.node (ob66 P) (.node (ob130 P) (.node (ob258 P) .nil .nil) .nil) (.node (ob194 P) .nil .nil)) (.node (ob98 P) (.node (ob162 P) .nil .nil) (.node (ob226 P) .nil .nil))) (.node (ob50 P) (.node (ob82 P) (.node (ob146 P) .nil .nil) (.node (ob210 P) .nil .nil)) (.node (ob114 P) (.node (ob178 P) .nil .nil) (.node (ob242 P) .nil .nil)))) (.node (ob26 P) (.node (ob42 P) (.node (ob74 P) (.node (ob138 P) (.node (ob266 P) .nil .nil) .nil) (.node (ob202 P) .nil .nil)) (.node (ob106 P) (.node (ob170 P) .nil .nil) (.node (ob234 P) .nil .nil))) (.node (ob58 P) (.node (ob90 P) (.node (ob154 P) .nil .nil) (.node (ob218 P) .nil .nil)) (.node (ob122 P) (.node (ob186 P) .nil .nil) (.node (ob250 P) .nil .nil))))) (.node (ob14 P) (.node (ob22 P) (.node (ob38 P) (.node (ob70 P) (.node (ob134 P) (.node (ob262 P) .nil .nil) .nil) (.node (ob198 P) .nil .nil)) (.node (ob102 P) (.node (ob166 P) .nil .nil) (.node (ob230 P) .nil .nil))) (.node (ob54 P) (.node (ob86 P) (.node (ob150 P) .nil .nil) (.node (ob214 P) .nil .nil)) (.node (ob118 P) (.node (ob182 P) .nil .nil) (.node (ob246 P) .nil .nil)))) (.node (ob30 P) (.node (ob46 P) (.node (ob78 P) (.node (ob142 P) (.node (ob270 P) .nil .nil) .nil) (.node (ob206 P) .nil .nil)) (.node (ob110 P) (.node (ob174 P) .nil .nil) (.node (ob238 P) .nil .nil))) (.node (ob62 P) (.node (ob94 P) (.node (ob158 P) .nil .nil) (.node (ob222 P) .nil .nil)) (.node (ob126 P) (.node (ob190 P) .nil .nil) (.node (ob254 P) .nil .nil)))))))
noncomputable def trS5 (P : Params) : BT := .node (boot_o_0 P) (.node (boot_o_1 P) (.node (ob3S5 P) (.node (boot_o_7 P) (.node (ob15 P) (.node (ob31 P) (.node (ob63 P) (.node (ob127 P) (.node (ob255 P) .nil .nil) .nil) (.node (ob191 P) (.node (ob319 P) .nil .nil) .nil)) (.node (ob95 P) (.node (ob159 P) (.node (ob287 P) .nil .nil) .nil) (.node (ob223 P) .nil .nil))) (.node (ob47 P) (.node (ob79 P) (.node (ob143 P) (.node (ob271 P) .nil .nil) .nil) (.node (ob207 P) .nil .nil)) (.node (ob111 P) (.node (ob175 P) (.node (ob303 P) .nil .nil) .nil) (.node (ob239 P) .nil .nil)))) (.node (ob23 P) (.node (ob39 P) (.node (ob71 P) (.node (ob135 P) (.node (ob263 P) .nil .nil) .nil) (.node (ob199 P) .nil .nil)) (.node (ob103 P) (.node (ob167 P) (.node (ob295 P) .nil .nil) .nil) (.node (ob231 P) .nil .nil))) (.node (ob55 P) (.node (ob87 P) (.node (ob151 P) (.node (ob279 P) .nil .nil) .nil) (.node (ob215 P) .nil .nil)) (.node (ob119 P) (.node (ob183 P) (.node (ob311 P) .nil .nil) .nil) (.node (ob247 P) .nil .nil))))) (.node (ob11 P) (.node (ob19 P) (.node (ob35 P) (.node (ob67 P) (.node (ob131 P) (.node (ob259 P) .nil .nil) .nil) (.node (ob195 P) (.node (ob323 P) .nil .nil) .nil)) (.node (ob99 P) (.node (ob163 P) (.node (ob291 P) .nil .nil) .nil) (.node (ob227 P) .nil .nil))) (.node (ob51 P) (.node (ob83 P) (.node (ob147 P) (.node (ob275 P) .nil .nil) .nil) (.node (ob211 P) .nil .nil)) (.node (ob115 P) (.node (ob179 P) (.node (ob307 P) .nil .nil) .nil) (.node (ob243 P) .nil .nil)))) (.node (ob27 P) (.node (ob43 P) (.node (ob75 P) (.node (ob139 P) (.node (ob267 P) .nil .nil) .nil) (.node (ob203 P) .nil .nil)) (.node (ob107 P) (.node (ob171 P) (.node (ob299 P) .nil .nil) .nil) (.node (ob235 P) .nil .nil))) (.node (ob59 P) (.node (ob91 P) (.node (ob155 P) (.node (ob283 P) .nil .nil) .nil) (.node (ob219 P) .nil .nil)) (.node (ob123 P) (.node (ob187 P) (.node (ob315 P) .nil .nil) .nil) (.node (ob251 P) .nil .nil)))))) (.node (boot_o_5 P) (.node (boot_o_9 P) (.node (ob17 P) (.node (ob33 P) (.node (ob65 P) (.node (ob129 P) (.node (ob257 P) .nil .nil) .nil) (.node (ob193 P) (.node (ob321 P) .nil .nil) .nil)) (.node (ob97 P) (.node (ob161 P) (.node (ob289 P) .nil .nil) .nil) (.node (ob225 P) .nil .nil))) (.node (ob49 P) (.node (ob81 P) (.node (ob145 P) (.node (ob273 P) .nil .nil) .nil) (.node (ob209 P) .nil .nil)) (.node (ob113 P) (.node (ob177 P) (.node (ob305 P) .nil .nil) .nil) (.node (ob241 P) .nil .nil)))) (.node (ob25 P) (.node (ob41 P) (.node (ob73 P) (.node (ob137 P) (.node (ob265 P) .nil .nil) .nil) (.node (ob201 P) .nil .nil)) (.node (ob105 P) (.node (ob169 P) (.node (ob297 P) .nil .nil) .nil) (.node (ob233 P) .nil .nil))) (.node (ob57 P) (.node (ob89 P) (.node (ob153 P) (.node (ob281 P) .nil .nil) .nil) (.node (ob217 P) .nil .nil)) (.node (ob121 P) (.node (ob185 P) (.node (ob313 P) .nil .nil) .nil) (.node (ob249 P) .nil .nil))))) (.node (ob13 P) (.node (ob21 P) (.node (ob37 P) (.node (ob69 P) (.node (ob133 P) (.node (ob261 P) .nil .nil) .nil) (.node (ob197 P) .nil .nil)) (.node (ob101 P) (.node (ob165 P) (.node (ob293 P) .nil .nil) .nil) (.node (ob229 P) .nil .nil))) (.node (ob53 P) (.node (ob85 P) (.node (ob149 P) (.node (ob277 P) .nil .nil) .nil) (.node (ob213 P) .nil .nil)) (.node (ob117 P) (.node (ob181 P) (.node (ob309 P) .nil .nil) .nil) (.node (ob245 P) .nil .nil)))) (.node (ob29 P) (.node (ob45 P) (.node (ob77 P) (.node (ob141 P) (.node (ob269 P) .nil .nil) .nil) (.node (ob205 P) .nil .nil)) (.node (ob109 P) (.node (ob173 P) (.node (ob301 P) .nil .nil) .nil) (.node (ob237 P) .nil .nil))) (.node (ob61 P) (.node (ob93 P) (.node (ob157 P) (.node (ob285 P) .nil .nil) .nil) (.node (ob221 P) .nil .nil)) (.node (ob125 P) (.node (ob189 P) (.node (ob317 P) .nil .nil) .nil) (.node (ob253 P) .nil .nil))))))) (.node (boot_o_2 P) (.node (boot_o_4 P) (.node (boot_o_8 P) (.node (ob16 P) (.node (ob32 P) (.node (ob64 P) (.node (ob128 P) (.node (ob256 P) .nil .nil) .nil) (.node (ob192 P) (.node (ob320 P) .nil .nil) .nil)) (.node (ob96 P) (.node (ob160 P) (.node (ob288 P) .nil .nil) .nil) (.node (ob224 P) .nil .nil))) (.node (ob48 P) (.node (ob80 P) (.node (ob144 P) (.node (ob272 P) .nil .nil) .nil) (.node (ob208 P) .nil .nil)) (.node (ob112 P) (.node (ob176 P) (.node (ob304 P) .nil .nil) .nil) (.node (ob240 P) .nil .nil)))) (.node (ob24 P) (.node (ob40 P) (.node (ob72 P) (.node (ob136 P) (.node (ob264 P) .nil .nil) .nil) (.node (ob200 P) .nil .nil)) (.node (ob104 P) (.node (ob168 P) (.node (ob296 P) .nil .nil) .nil) (.node (ob232 P) .nil .nil))) (.node (ob56 P) (.node (ob88 P) (.node (ob152 P) (.node (ob280 P) .nil .nil) .nil) (.node (ob216 P) .nil .nil)) (.node (ob120 P) (.node (ob184 P) (.node (ob312 P) .nil .nil) .nil) (.node (ob248 P) .nil .nil))))) (.node (ob12S5 P) (.node (ob20 P) (.node (ob36 P) (.node (ob68 P) (.node (ob132 P) (.node (ob260 P) .nil .nil) .nil) (.node (ob196 P) (.node (ob324 P) .nil .nil) .nil)) (.node (ob100 P) (.node (ob164 P) (.node (ob292 P) .nil .nil) .nil) (.node (ob228 P) .nil .nil))) (.node (ob52 P) (.node (ob84 P) (.node (ob148 P) (.node (ob276 P) .nil .nil) .nil) (.node (ob212 P) .nil .nil)) (.node (ob116 P) (.node (ob180 P) (.node (ob308 P) .nil .nil) .nil) (.node (ob244 P) .nil .nil)))) (.node (ob28 P) (.node (ob44 P) (.node (ob76 P) (.node (ob140 P) (.node (ob268 P) .nil .nil) .nil) (.node (ob204 P) .nil .nil)) (.node (ob108 P) (.node (ob172 P) (.node (ob300 P) .nil .nil) .nil) (.node (ob236 P) .nil .nil))) (.node (ob60 P) (.node (ob92 P) (.node (ob156 P) (.node (ob284 P) .nil .nil) .nil) (.node (ob220 P) .nil .nil)) (.node (ob124 P) (.node (ob188 P) (.node (ob316 P) .nil .nil) .nil) (.node (ob252 P) .nil .nil)))))) (.node (boot_o_6 P) (.node (boot_o_10 P) (.node (ob18 P) (.node (ob34 P) (.node (ob66 P) (.node (ob130 P) (.node (ob258 P) .nil .nil) .nil) (.node (ob194 P) (.node (ob322 P) .nil .nil) .nil)) (.node (ob98 P) (.node (ob162 P) (.node (ob290 P) .nil .nil) .nil) (.node (ob226 P) .nil .nil))) (.node (ob50 P) (.node (ob82 P) (.node (ob146 P) (.node (ob274 P) .nil .nil) .nil) (.node (ob210 P) .nil .nil)) (.node (ob114 P) (.node (ob178 P) (.node (ob306 P) .nil .nil) .nil) (.node (ob242 P) .nil .nil)))) (.node (ob26 P) (.node (ob42 P) (.node (ob74 P) (.node (ob138 P) (.node (ob266 P) .nil .nil) .nil) (.node (ob202 P) .nil .nil)) (.node (ob106 P) (.node (ob170 P) (.node (ob298 P) .nil .nil) .nil) (.node (ob234 P) .nil .nil))) (.node (ob58 P) (.node (ob90 P) (.node (ob154 P) (.node (ob282 P) .nil .nil) .nil) (.node (ob218 P) .nil .nil)) (.node (ob122 P) (.node (ob186 P) (.node (ob314 P) .nil .nil) .nil) (.node (ob250 P) .nil .nil))))) (.node (ob14 P) (.node (ob22 P) (.node (ob38 P) (.node (ob70 P) (.node (ob134 P) (.node (ob262 P) .nil .nil) .nil) (.node (ob198 P) .nil .nil)) (.node (ob102 P) (.node (ob166 P) (.node (ob294 P) .nil .nil) .nil) (.node (ob230 P) .nil .nil))) (.node (ob54 P) (.node (ob86 P) (.node (ob150 P) (.node (ob278 P) .nil .nil) .nil) (.node (ob214 P) .nil .nil)) (.node (ob118 P) (.node (ob182 P) (.node (ob310 P) .nil .nil) .nil) (.node (ob246 P) .nil .nil)))) (.node (ob30 P) (.node (ob46 P) (.node (ob78 P) (.node (ob142 P) (.node (ob270 P) .nil .nil) .nil) (.node (ob206 P) .nil .nil)) (.node (ob110 P) (.node (ob174 P) (.node (ob302 P) .nil .nil) .nil) (.node (ob238 P) .nil .nil))) (.node (ob62 P) (.node (ob94 P) (.node (ob158 P) (.node (ob286 P) .nil .nil) .nil) (.node (ob222 P) .nil .nil)) (.node (ob126 P) (.node (ob190 P) (.node (ob318 P) .nil .nil) .nil) (.node (ob254 P) .nil .nil)))))))
noncomputable def hb : List Stmt := behindTheImports PySem.Challenge.pw_xw0334_04
noncomputable def henv : Env := { scope := PySem.Challenge.pw_xw0334_04.main.scope, locals := mainNs, globals := mainNs, cells := [], code := Value.ref 13, frame := some 14 }
noncomputable abbrev hc : Code := .body hb henv
noncomputable abbrev ann0 : Option Value := some (Value.ref 6)
noncomputable abbrev fr0 : List Frame := [topFrame ({ line := 0, col := 0, endLine := 0, endCol := 0 } : Pos)]
noncomputable def sts1 : List Stmt := (hb.drop 0).take 6
noncomputable def sts2 : List Stmt := (hb.drop 6).take 1
noncomputable def sts3 : List Stmt := (hb.drop 7).take 1
noncomputable def sts4 : List Stmt := (hb.drop 8).take 1
noncomputable def sts5 : List Stmt := (hb.drop 9).take 9
theorem hb_eq : hb = sts1 ++ (sts2 ++ (sts3 ++ (sts4 ++ (sts5 ++ [])))) := by kernel_rfl
theorem pc_pre (w : World) (os : OsState) : topGo treeTable PySem.Challenge.pw_xw0334_04 w 11 ann0 12 (⟨boot_heap w.params, Array.mk [], boot_drawn, boot_toks, os⟩ : Shared) (topStub PySem.Challenge.pw_xw0334_04) = some ((⟨heapSa w.params, Array.mk [], ({ } : Drawn), 187, os⟩ : Shared), ⟨denote treeTable hc, hc, ({ line := 0, col := 0, endLine := 0, endCol := 0 } : Pos), fr0⟩) := by kernel_rfl
theorem pc_blk (w : World) (os : OsState) : segRun treeTable PySem.Challenge.pw_xw0334_04 w 11 ann0 1 1 (⟨heapSa w.params, Array.mk [], ({ } : Drawn), 187, os⟩ : Shared) (blockOf hb henv hc ({ line := 0, col := 0, endLine := 0, endCol := 0 } : Pos) fr0) = some (.next, (⟨trSb w.params, 15, ({ } : Life), Array.mk [], ({ } : Drawn), 187, os⟩ : SharedT).abs, hc, ({ line := 0, col := 0, endLine := 0, endCol := 0 } : Pos)) := by kernel_rfl
theorem pc_1 (w : World) (os : OsState) : segRunT treeTable PySem.Challenge.pw_xw0334_04 w 11 ann0 1 142 (⟨trSb w.params, 15, ({ } : Life), Array.mk [], ({ } : Drawn), 187, os⟩ : SharedT) (piecesOf sts1 henv hc ({ line := 0, col := 0, endLine := 0, endCol := 0 } : Pos) fr0) = some (.next, (⟨trS1 w.params, 43, ({ } : Life), Array.mk [], ({ } : Drawn), 226, os⟩ : SharedT), hc, ({ line := 12, col := 0, endLine := 12, endCol := 8 } : Pos)) := by kernel_rfl
theorem pc_2 (w : World) (os : OsState) : segRunT treeTable PySem.Challenge.pw_xw0334_04 w 11 ann0 1 612 (⟨trS1 w.params, 43, ({ } : Life), Array.mk [], ({ } : Drawn), 226, os⟩ : SharedT) (piecesOf sts2 henv hc ({ line := 12, col := 0, endLine := 12, endCol := 8 } : Pos) fr0) = some (.next, (⟨trS2 w.params, 139, ({ } : Life), Array.mk [], ({ } : Drawn), 382, os⟩ : SharedT), hc, ({ line := 13, col := 0, endLine := 110, endCol := 26 } : Pos)) := by kernel_rfl
theorem pc_3 (w : World) (os : OsState) : segRunT treeTable PySem.Challenge.pw_xw0334_04 w 11 ann0 1 10 (⟨trS2 w.params, 139, ({ } : Life), Array.mk [], ({ } : Drawn), 382, os⟩ : SharedT) (piecesOf sts3 henv hc ({ line := 13, col := 0, endLine := 110, endCol := 26 } : Pos) fr0) = some (.next, (⟨trS3 w.params, 139, ({ } : Life), Array.mk [], ({ } : Drawn), 384, os⟩ : SharedT), hc, ({ line := 111, col := 0, endLine := 111, endCol := 8 } : Pos)) := by kernel_rfl
theorem pc_4 (w : World) (os : OsState) : segRunT treeTable PySem.Challenge.pw_xw0334_04 w 11 ann0 1 746 (⟨trS3 w.params, 139, ({ } : Life), Array.mk [], ({ } : Drawn), 384, os⟩ : SharedT) (piecesOf sts4 henv hc ({ line := 111, col := 0, endLine := 111, endCol := 8 } : Pos) fr0) = some (.next, (⟨trS4 w.params, 273, ({ } : Life), Array.mk [], ({ } : Drawn), 551, os⟩ : SharedT), hc, ({ line := 112, col := 0, endLine := 190, endCol := 16 } : Pos)) := by kernel_rfl
theorem pc_5 (w : World) (os : OsState) : segRunT treeTable PySem.Challenge.pw_xw0334_04 w 11 ann0 1 259 (⟨trS4 w.params, 273, ({ } : Life), Array.mk [], ({ } : Drawn), 551, os⟩ : SharedT) (piecesOf sts5 henv hc ({ line := 112, col := 0, endLine := 190, endCol := 16 } : Pos) fr0) = some (.next, (⟨trS5 w.params, 325, ({ } : Life), Array.mk [], ({ } : Drawn), 630, os⟩ : SharedT), hc, ({ line := 243, col := 0, endLine := 249, endCol := 64 } : Pos)) := by kernel_rfl
theorem pc_fin (w : World) (os : OsState) : topRun treeTable PySem.Challenge.pw_xw0334_04 w 11 ann0 2 (⟨trS5 w.params, 325, ({ } : Life), Array.mk [], ({ } : Drawn), 630, os⟩ : SharedT).abs ⟨doneF .next, hc, ({ line := 243, col := 0, endLine := 249, endCol := 64 } : Pos), fr0⟩ = some (⟨heapSf w.params, Array.mk [], ({ } : Drawn), 630, os⟩ : Shared) := by kernel_rfl
theorem pc_run (w : World) (os : OsState) : topRun treeTable PySem.Challenge.pw_xw0334_04 w 11 ann0 (12 + (1 + (142 + (612 + (10 + (746 + (259 + 2))))))) (⟨boot_heap w.params, Array.mk [], boot_drawn, boot_toks, os⟩ : Shared) (topStub PySem.Challenge.pw_xw0334_04) = some (⟨heapSf w.params, Array.mk [], ({ } : Drawn), 630, os⟩ : Shared) := by
  refine go_top (pc_pre w os) (piece_block (pc_blk w os) ?_)
  rw [hb_eq]
  exact piece_app (segRun_of (pc_1 w os)) (piece_app (segRun_of (pc_2 w os)) (piece_app (segRun_of (pc_3 w os)) (piece_app (segRun_of (pc_4 w os)) (piece_app (segRun_of (pc_5 w os)) (piece_nil (pc_fin w os))))))
theorem boot_e : opening PySem.Challenge.pw_xw0334_04 = plainProg PySem.Challenge.pw_xw0334_04.main.scope.names := by kernel_rfl
theorem boot_f : ∀ s, fenceModules? PySem.Challenge.pw_xw0334_04 s = some s := fun s => by kernel_rfl
theorem pc_looks (w : World) : (fun os => ((staticsOk (importedModules PySem.Challenge.pw_xw0334_04.main.body) (boot_heap w.params) (heapSf w.params) && namesBound PySem.Challenge.pw_xw0334_04 (heapSf w.params) && gensDone (⟨heapSf w.params, Array.mk [], ({ } : Drawn), 630, os⟩ : Shared) && laidKept (boot_heap w.params) (heapSf w.params)), openSeen theView [] (importedModules PySem.Challenge.pw_xw0334_04.main.body) xtAt true (⟨heapSf w.params, Array.mk [], ({ } : Drawn), 630, os⟩ : Shared), theHook.obs (⟨heapSf w.params, Array.mk [], ({ } : Drawn), 630, os⟩ : Shared))) = fun _ => (true, openGood theView [], theHook.val w) := by kernel_rfl
theorem left : LeftO theRow.prog theView [] xtAt theHook.obs theHook.val 3654 :=
  LeftO.of_pieces (p := PySem.Challenge.pw_xw0334_04) (H₀ := boot_heap) (H₁ := heapSf) (gs₀ := Array.mk []) (gs₁ := Array.mk []) (d₀ := boot_drawn) (d₁ := { }) (k₀ := boot_toks) (k₁ := 630) (m₀ := 11) (ann := ann0) (M := (12 + (1 + (142 + (612 + (10 + (746 + (259 + 2)))))))) (boot_open boot_e (by rfl) boot_f) (fun w => by kernel_rfl) pc_run (by rfl) pc_looks
theorem promised : theRow.promised := by w_witness2
theorem wellSaid : PySem.Challenge.rw_xw0334_04.wellSaid = true := by kernel_rfl
theorem lookOk : (chainsOk theView && opensWell PySem.Challenge.rw_xw0334_04.row.prog && (frees theRow && PySem.Challenge.rw_xw0334_04.row.within.isEmpty)) = true := by kernel_rfl
theorem hd (walk : WalkC theView [] (XL theView []) theHook.says theRow dlaw.1.1 dlaw.1.2) : PySem.Challenge.rw_xw0334_04.Holds :=
  holds_law wellSaid fun said => holdsC (r := PySem.Challenge.rw_xw0334_04.row) (q := theView) left (Hook.of theHook) (Hook.keeps theHook) (fun s e => xl_of s (Bool.and_eq_true_iff.mp e).1) XL.keeps dlaw.2 (by rfl) (by rfl)
    (fun s e => recFacts_of (Bool.and_eq_true_iff.mp e).2) (by rfl) said lookOk ⟨rfl, rfl, rfl, rfl, rfl, by decide +kernel⟩ promised walk
structure Base where
  w : World
  g₀ : Heap
  os₀ : OsState
  loose : List Str
  mg : Str → Option Value
  mb : Str → Option Value
  X : (heapK w.params).In g₀
  T : TopRead theView loose mg mb g₀
  seer : g₀.NoSeer
noncomputable def attrsOf : Addr → List Str
  | 141 => ["ring", "parts"]
  | 134 => ["ring", "parts"]
  | 275 => ["ring", "room", "mss", "next", "ready", "assembly", "told_edge", "fin_at", "has_fin", "urgent_at"]
  | 268 => ["ring", "room", "mss", "next", "ready", "assembly", "told_edge", "fin_at", "has_fin", "urgent_at"]
  | _ => []
noncomputable def Base.W (b : Base) : Wd := { prog := PySem.Challenge.pw_xw0334_04, w := b.w, g₀ := b.g₀, os₀ := b.os₀, K := heapK b.w.params, p := theView, loose := b.loose, mg := b.mg, mb := b.mb, X := b.X, T := b.T, seer := b.seer, given := rfl, attrs := attrsOf }
end Mine
end
open PySem PySem.W PyProof.Rows PySem.Calls
namespace Mine
inductive And4 (a0 a1 a2 a3 : Prop) : Prop
  | mk (h0 : a0) (h1 : a1) (h2 : a2) (h3 : a3) : And4 a0 a1 a2 a3
inductive And5 (a0 a1 a2 a3 a4 : Prop) : Prop
  | mk (h0 : a0) (h1 : a1) (h2 : a2) (h3 : a3) (h4 : a4) : And5 a0 a1 a2 a3 a4
inductive And6 (a0 a1 a2 a3 a4 a5 : Prop) : Prop
  | mk (h0 : a0) (h1 : a1) (h2 : a2) (h3 : a3) (h4 : a4) (h5 : a5) : And6 a0 a1 a2 a3 a4 a5
inductive And7 (a0 a1 a2 a3 a4 a5 a6 : Prop) : Prop
  | mk (h0 : a0) (h1 : a1) (h2 : a2) (h3 : a3) (h4 : a4) (h5 : a5) (h6 : a6) : And7 a0 a1 a2 a3 a4 a5 a6
inductive And8 (a0 a1 a2 a3 a4 a5 a6 a7 : Prop) : Prop
  | mk (h0 : a0) (h1 : a1) (h2 : a2) (h3 : a3) (h4 : a4) (h5 : a5) (h6 : a6) (h7 : a7) : And8 a0 a1 a2 a3 a4 a5 a6 a7
inductive And9 (a0 a1 a2 a3 a4 a5 a6 a7 a8 : Prop) : Prop
  | mk (h0 : a0) (h1 : a1) (h2 : a2) (h3 : a3) (h4 : a4) (h5 : a5) (h6 : a6) (h7 : a7) (h8 : a8) : And9 a0 a1 a2 a3 a4 a5 a6 a7 a8
inductive And10 (a0 a1 a2 a3 a4 a5 a6 a7 a8 a9 : Prop) : Prop
  | mk (h0 : a0) (h1 : a1) (h2 : a2) (h3 : a3) (h4 : a4) (h5 : a5) (h6 : a6) (h7 : a7) (h8 : a8) (h9 : a9) : And10 a0 a1 a2 a3 a4 a5 a6 a7 a8 a9
inductive Ex1 {α0 : Type} (p : α0 → Prop) : Prop
  | mk (x0 : α0) (h : p x0) : Ex1 p
inductive Ex2 {α0 α1 : Type} (p : α0 → α1 → Prop) : Prop
  | mk (x0 : α0) (x1 : α1) (h : p x0 x1) : Ex2 p
inductive Ex3 {α0 α1 α2 : Type} (p : α0 → α1 → α2 → Prop) : Prop
  | mk (x0 : α0) (x1 : α1) (x2 : α2) (h : p x0 x1 x2) : Ex3 p
inductive Ex4 {α0 α1 α2 α3 : Type} (p : α0 → α1 → α2 → α3 → Prop) : Prop
  | mk (x0 : α0) (x1 : α1) (x2 : α2) (x3 : α3) (h : p x0 x1 x2 x3) : Ex4 p
inductive Ex5 {α0 α1 α2 α3 α4 : Type} (p : α0 → α1 → α2 → α3 → α4 → Prop) : Prop
  | mk (x0 : α0) (x1 : α1) (x2 : α2) (x3 : α3) (x4 : α4) (h : p x0 x1 x2 x3 x4) : Ex5 p
inductive Ex6 {α0 α1 α2 α3 α4 α5 : Type} (p : α0 → α1 → α2 → α3 → α4 → α5 → Prop) : Prop
  | mk (x0 : α0) (x1 : α1) (x2 : α2) (x3 : α3) (x4 : α4) (x5 : α5) (h : p x0 x1 x2 x3 x4 x5) : Ex6 p
inductive Ex9 {α0 α1 α2 α3 α4 α5 α6 α7 α8 : Type} (p : α0 → α1 → α2 → α3 → α4 → α5 → α6 → α7 → α8 → Prop) : Prop
  | mk (x0 : α0) (x1 : α1) (x2 : α2) (x3 : α3) (x4 : α4) (x5 : α5) (x6 : α6) (x7 : α7) (x8 : α8) (h : p x0 x1 x2 x3 x4 x5 x6 x7 x8) : Ex9 p
inductive Ex11 {α0 α1 α2 α3 α4 α5 α6 α7 α8 α9 α10 : Type} (p : α0 → α1 → α2 → α3 → α4 → α5 → α6 → α7 → α8 → α9 → α10 → Prop) : Prop
  | mk (x0 : α0) (x1 : α1) (x2 : α2) (x3 : α3) (x4 : α4) (x5 : α5) (x6 : α6) (x7 : α7) (x8 : α8) (x9 : α9) (x10 : α10) (h : p x0 x1 x2 x3 x4 x5 x6 x7 x8 x9 x10) : Ex11 p
theorem ite_t {P Q : Prop} (h : P) : if true = true then P else Q := h
theorem ite_f {P Q : Prop} (h : Q) : if false = true then P else Q := h

local macro_rules | `(tactic| kp_flats) => `(tactic| first | (with_reducible exact At.head) | ((with_reducible refine' At.tail ?hh); case hh => kp_flats))
local macro_rules | `(tactic| krn_off) => `(tactic| first | (with_reducible exact Put.head) | ((with_reducible refine' Put.tail ?hh); case hh => krn_off))
local macro_rules | `(tactic| walk_at "binds") => `(tactic| (intro s vs hv; first
  | (obtain ⟨v1, hq⟩ := len1 hv; subst hq; exact BindsTo.of_eq rfl)
  | (obtain ⟨v1, v2, hq⟩ := len2 hv; subst hq; exact BindsTo.of_eq rfl)
  | (obtain ⟨v1, v2, v3, hq⟩ := len3 hv; subst hq; exact BindsTo.of_eq rfl)
  | (obtain ⟨v1, v2, v3, v4, hq⟩ := len4 hv; subst hq; exact BindsTo.of_eq rfl)
  | (obtain ⟨v1, v2, v3, v4, v5, hq⟩ := len5 hv; subst hq; exact BindsTo.of_eq rfl)
  | (obtain ⟨v1, v2, v3, v4, v5, v6, hq⟩ := len6 hv; subst hq; exact BindsTo.of_eq rfl)))
local macro_rules | `(tactic| walk_at "norm") => `(tactic| simp only [List.cons_append, List.nil_append, List.append_nil, List.map_cons, List.map_nil])
local macro_rules | `(tactic| kbo_bools) => `(tactic| first
  | ((with_reducible show ME _ _ _ (eval _ _) _ _ _ _ _); first
    | ((with_reducible refine' mx_name ?side1 ?_); (case side1 => kp_flats))
    | with_reducible first | refine mx_int ?_ | refine mx_binop ?_
    | ((with_reducible refine' mx_attr ?_ ?side1); (case side1 => with_unfolding_all rfl))
    | ((with_reducible refine' mx_cmp ?_ ?side1); (case side1 => with_unfolding_all rfl))
    | with_reducible first | refine mx_one ?_ | refine mx_and ?_ | refine mx_or ?_ | refine mx_ifexp ?_ | refine mx_unop ?_ | refine mx_bool ?_ | refine mx_none ?_ | refine mx_bytes ?_ | refine mx_str ?_
    | ((with_reducible refine' mx_mcall ?_ ?side1); (case side1 => with_unfolding_all rfl))
    | with_reducible first | refine mx_list ?_ | refine mx_tuple ?_ | refine mx_slice ?_ | refine mx_sub ?_
    | ((with_reducible refine' mx_chain ?_ ?side1); (case side1 => with_unfolding_all rfl)))
  | ((with_reducible show M2 _ _ _ _ _ _ _ _ _ _ _); first
    | with_reducible first | refine op_add ?_ | refine op_sub ?_
    | ((with_reducible refine' op_mod ?side1 ?_); (case side1 => first | assumption | omega))
    | with_reducible first | refine op_lt ?_ | refine op_gt ?_ | refine op_le ?_ | refine op_ge ?_ | refine op_eq ?_ | refine op_ne ?_ | refine op_eq_bytes ?_ | refine op_ne_bytes ?_ | refine op_is_none ?_ | refine op_isnot_none ?_ | refine op_eq_none_int ?_ | refine op_eq_int_none ?_ | refine op_eq_none_none ?_
    | ((with_reducible refine' op_floordiv ?side1 ?side2 ?side3 ?_); (case side1 => first | assumption | omega); (case side2 => with_unfolding_all rfl); (case side3 => with_unfolding_all rfl))
    | ((with_reducible refine' op_mul ?side1 ?_); (case side1 => with_unfolding_all first | exact IntMulOk.of_left (by decide) | exact IntMulOk.of_right (by decide) | exact IntMulOk.of_left (intBits_le_64 (by omega) (by omega)) | exact IntMulOk.of_right (intBits_le_64 (by omega) (by omega)))))
  | ((with_reducible show M1 _ _ _ _ _ _ _ _ _ _); first
    | with_reducible first | refine tr_bool ?_ | refine op_not ?_ | refine op_neg ?_ | refine tr_int ?_
    | with_reducible refine tr_none ?_)
  | (with_reducible change nextOr _ _ _ _ _; dsimp only [nextOr])
  | ((with_reducible show MG _ _ _ _ _ _ _ _ _); first
    | with_reducible first | refine ms_nil ?_ | refine ms_ret ?_ | refine ms_if ?_
    | ((with_reducible refine' ms_name ?side1 ?_ ?side2); (case side1 => with_unfolding_all (first | exact Or.inl rfl | exact Or.inr rfl)); (case side2 => with_unfolding_all rfl))
    | ((with_reducible refine' ms_attr ?_ ?side1); (case side1 => with_unfolding_all rfl))
    | ((with_reducible refine' ms_sub ?_ ?side1); (case side1 => with_unfolding_all rfl))
    | with_reducible refine ms_ret0 ?_
    | ((with_reducible refine' ms_tup ?_ ?side1 ?side2); (case side1 => with_unfolding_all rfl); (case side2 => with_unfolding_all rfl))
    | with_reducible first | refine ms_brk ?_ | refine ms_cont ?_
    | ((with_reducible refine' ms_drop ?_ ?side1 ?side2); (case side1 => with_unfolding_all rfl); (case side2 => with_unfolding_all rfl)))
  | ((with_reducible show ME _ _ _ (PySem.isTrue _ _ _) _ _ _ _ _); first
    | ((with_reducible refine' mt_cmp ?_ ?side1); (case side1 => with_unfolding_all rfl))
    | with_reducible first | refine mt_not ?_ | refine mt_and ?_ | refine mt_or ?_ | refine mt_and_nil ?_ | refine mt_or_nil ?_
    | ((with_reducible refine' mt_chain ?_ ?side1); (case side1 => with_unfolding_all rfl))
    | ((with_reducible refine' mt_plain ?_ ?side1); (case side1 => with_unfolding_all rfl)))
  | (with_reducible refine' Exists.intro _ (And.intro rfl ?_))
  | ((with_reducible refine' Exists.intro _ (And.intro ?side1 ?_)); (case side1 => krn_off))
  | ((with_reducible show MP _ _ _ _ _ _ _ _); first
    | with_reducible refine mp_none ?_
    | with_reducible refine mp_some ?_)
  | ((with_reducible refine' ml_cons ?_ ?side1); (case side1 => with_unfolding_all rfl))
  | with_reducible refine ml_nil ?_
  | with_reducible refine ite_t ?_
  | with_reducible refine ite_f ?_)

local macro_rules | `(tactic| tb_rel) => `(tactic| first | kbo_bools | with_reducible refine ms_cons ?_)

section
variable {b : Base} {σ : Store} {Q : MV → Store → Prop}
theorem q_to {u v : MV} (h : Q u σ) (e : u = v) : Q v σ := e ▸ h
theorem plus_ok {x n r : Int} (hr : 0 < r) (q : Q (.int ((x + n) % r)) σ) : MCall b.W 1 28 [.int x, .int n, .int r] σ Q := by
  refine MCall.enter (ps := ["a", "n", "ring"]) [] rfl rfl ?_ rfl rfl rfl (by decide +kernel) fun L => ?_
  · walk_at "binds"
  walk_at "norm"
  refine (let e₁ : Env := _; let Q₁ : MFlow → List (Option MV) → Store → Prop := _; (?_ : MG _ _ _ (execs _ e₁) e₁ _ _ _ Q₁))
  repeat tb_rel
  exact q
theorem distance_ok {x y r : Int} (hr : 0 < r) (q : Q (.int ((y - x) % r)) σ) : MCall b.W 1 35 [.int x, .int y, .int r] σ Q := by
  refine MCall.enter (ps := ["a", "b", "ring"]) [] rfl rfl ?_ rfl rfl rfl (by decide +kernel) fun L => ?_
  · walk_at "binds"
  walk_at "norm"
  refine (let e₁ : Env := _; let Q₁ : MFlow → List (Option MV) → Store → Prop := _; (?_ : MG _ _ _ (execs _ e₁) e₁ _ _ _ Q₁))
  repeat tb_rel
  exact q
theorem fn_plus : FnOK b.W "plus" 28 := ⟨by rfl, by rfl, by decide⟩
theorem fn_distance : FnOK b.W "distance" 35 := ⟨by rfl, by rfl, by decide⟩
noncomputable def before (x y r : Int) : Bool := decide (0 < (y - x) % r) && decide (2 * ((y - x) % r) < r)
theorem is_before_ok {x y r : Int} (hr : 0 < r) (q : Q (.bool (before x y r)) σ) : MCall b.W 2 42 [.int x, .int y, .int r] σ Q := by
  refine MCall.enter (ps := ["a", "b", "ring"]) ["gap"] rfl rfl ?_ rfl rfl rfl (by decide +kernel) fun L => ?_
  · walk_at "binds"
  walk_at "norm"
  refine (let e₁ : Env := _; let Q₁ : MFlow → List (Option MV) → Store → Prop := _; (?_ : MG _ _ _ (execs _ e₁) e₁ _ _ _ Q₁))
  repeat tb_rel
  refine mx_call fn_distance rfl ?_
  repeat tb_rel
  refine distance_ok hr ?_
  repeat tb_rel
  split
  · rename_i h
    repeat tb_rel
    exact q_to q (by rw [before, h, Bool.true_and]; rfl)
  · rename_i h
    repeat tb_rel
    exact q_to q (by rw [before, Bool.eq_false_iff.mpr h, Bool.false_and]; rfl)
theorem fn_is_before : FnOK b.W "is_before" 42 := ⟨by rfl, by rfl, by decide⟩
theorem at_ring : AtOK b.W 134 "ring" := ⟨by rfl, by rfl, by rfl⟩
theorem at_parts : AtOK b.W 134 "parts" := ⟨by rfl, by rfl, by rfl⟩
theorem set_ring : SetOK b.W 134 "ring" := ⟨by rfl, by rfl, by rfl, by rfl⟩
theorem set_parts : SetOK b.W 134 "parts" := ⟨by rfl, by rfl, by rfl, by rfl⟩
noncomputable abbrev asmN : List Str := ["ring", "parts"]
noncomputable abbrev rcvN : List Str := ["ring", "room", "mss", "next", "ready", "assembly", "told_edge", "fin_at", "has_fin", "urgent_at"]
theorem set_asm {k : Nat} {env : Env} {ns : List Str} {vals vs vs' : List (Option MV)} {x : Addr} {attr : Str} {v : MV} {QU : Unit → Store → Prop} (ho : SetOK b.W 134 attr) (hx : σ x = some (.ins 134 vs)) (p : Put asmN vs attr v vs') (q : QU () (σ.put x (.ins 134 vs'))) :
    M2 RU b.W k (fun a b => setAttr a attr b) (.ref x) v env ns vals σ QU := op_setattr (names := asmN) hx rfl (by decide) (by decide) ho p q
theorem set_rcv {k : Nat} {env : Env} {ns : List Str} {vals vs vs' : List (Option MV)} {x : Addr} {attr : Str} {v : MV} {QU : Unit → Store → Prop} (ho : SetOK b.W 268 attr) (hx : σ x = some (.ins 268 vs)) (p : Put rcvN vs attr v vs') (q : QU () (σ.put x (.ins 268 vs'))) :
    M2 RU b.W k (fun a b => setAttr a attr b) (.ref x) v env ns vals σ QU := op_setattr (names := rcvN) hx rfl (by decide) (by decide) ho p q
theorem get_asm {k : Nat} {env : Env} {ns : List Str} {vals vs : List (Option MV)} {x : Addr} {attr : Str} {v : MV} (ho : AtOK b.W 134 attr) (hx : σ x = some (.ins 134 vs)) (a : At asmN vs attr v) (q : Q v σ) : M1 RV b.W k (fun o => getAttr o attr true) (.ref x) env ns vals σ Q := op_attr hx rfl ho a q
theorem get_rcv {k : Nat} {env : Env} {ns : List Str} {vals vs : List (Option MV)} {x : Addr} {attr : Str} {v : MV} (ho : AtOK b.W 268 attr) (hx : σ x = some (.ins 268 vs)) (a : At rcvN vs attr v) (q : Q v σ) : M1 RV b.W k (fun o => getAttr o attr true) (.ref x) env ns vals σ Q := op_attr hx rfl ho a q
theorem ne_of {σ : Store} {x y : Addr} {o : MO} (h1 : σ x = none) (h2 : σ y = some o) : y ≠ x := fun e => by rw [e, h1] at h2; cases h2
theorem fresh_put {σ : Store} {x y : Addr} {o : MO} (h : (σ.put x o) y = none) : y ≠ x ∧ σ y = none := by
  by_cases q : y = x
  · rw [q, Store.put_self] at h; cases h
  · rw [Store.put_ne q] at h; exact ⟨q, h⟩
theorem assembly_ok {r : Int} (q : ∀ x p, σ x = none → σ p = none → p ≠ x → Q (.ref x) ((((σ.put x (.ins 134 [none, none])).put x (.ins 134 [some (.int r), none])).put p (.lst [])).put x (.ins 134 [some (.int r), some (.ref p)]))) : MCall b.W 3 134 [.int r] σ Q := by
  refine MCall.make (f := 56) ⟨by rfl, by rfl, by rfl⟩ (blank := [none, none]) rfl fun x hx => ?_
  refine MCall.le (k' := 1) ?_ (by decide)
  refine MCall.enter (ps := ["self", "ring"]) [] rfl rfl ?_ rfl rfl rfl (by decide +kernel) fun L => ?_
  · walk_at "binds"
  walk_at "norm"
  refine (let e₁ : Env := _; let Q₁ : MFlow → List (Option MV) → Store → Prop := _; (?_ : MG _ _ _ (execs _ e₁) e₁ _ _ _ Q₁))
  repeat tb_rel
  refine set_asm set_ring Store.put_self .head ?_
  repeat tb_rel
  refine ⟨by decide, fun p hp => ?_⟩
  repeat tb_rel
  obtain ⟨hp1, hp2⟩ := fresh_put hp
  obtain ⟨hp3, hp4⟩ := fresh_put hp2
  refine set_asm set_parts (by rw [Store.put_ne (Ne.symm hp1), Store.put_self]) (.tail .head) ?_
  repeat tb_rel
  exact ⟨rfl, q x p hx hp4 hp1⟩
/-! a method's facts -/
theorem me141 {b : Base} {nm : Str} {f : Addr} (h1 : plainGet b.W.K 134 nm = true) (h2 : findIn b.W.K (.ref 134) nm = some (some (.ref f))) (h3 : typeIn b.W.K (.ref f) = some (.type "function")) (h4 : keepIn b.W.K (.ref f) = true) (h5 : nm ∉ asmN) : MeOK b.W 134 nm f := ⟨h1, h2, h3, h4, h5⟩
theorem me275 {b : Base} {nm : Str} {f : Addr} (h1 : plainGet b.W.K 268 nm = true) (h2 : findIn b.W.K (.ref 268) nm = some (some (.ref f))) (h3 : typeIn b.W.K (.ref f) = some (.type "function")) (h4 : keepIn b.W.K (.ref f) = true) (h5 : nm ∉ rcvN) : MeOK b.W 268 nm f := ⟨h1, h2, h3, h4, h5⟩
theorem me_offset : MeOK b.W 134 "offset" 75 := me141 (by rfl) (by rfl) (by rfl) (by rfl) (by decide)
theorem me_put : MeOK b.W 134 "put" 82 := me141 (by rfl) (by rfl) (by rfl) (by rfl) (by decide)
theorem me_missing : MeOK b.W 134 "missing" 89 := me141 (by rfl) (by rfl) (by rfl) (by rfl) (by decide)
theorem me_merged : MeOK b.W 134 "merged" 96 := me141 (by rfl) (by rfl) (by rfl) (by rfl) (by decide)
theorem me_joined : MeOK b.W 134 "joined" 103 := me141 (by rfl) (by rfl) (by rfl) (by rfl) (by decide)
theorem me_forget : MeOK b.W 134 "forget" 110 := me141 (by rfl) (by rfl) (by rfl) (by rfl) (by decide)
theorem me_take : MeOK b.W 134 "take" 117 := me141 (by rfl) (by rfl) (by rfl) (by rfl) (by decide)

noncomputable def off (seq next r : Int) : Int := if before seq next r = true then 0 - (next - seq) % r else (seq - next) % r
theorem offset_ok {a : Addr} {r seq next : Int} {p : Option MV} (hr : 0 < r) (ha : σ a = some (.ins 134 [some (.int r), p])) (q : Q (.int (off seq next r)) σ) : MCall b.W 3 75 [.ref a, .int seq, .int next] σ Q := by
  refine MCall.enter (ps := ["self", "seq", "next"]) [] rfl rfl ?_ rfl rfl rfl (by decide +kernel) fun L => ?_
  · walk_at "binds"
  walk_at "norm"
  refine (let e₁ : Env := _; let Q₁ : MFlow → List (Option MV) → Store → Prop := _; (?_ : MG _ _ _ (execs _ e₁) e₁ _ _ _ Q₁))
  repeat tb_rel
  refine mx_call fn_is_before rfl ?_
  repeat tb_rel
  refine get_asm at_ring ha .head ?_
  repeat tb_rel
  refine is_before_ok hr ?_
  repeat tb_rel
  split
  · rename_i h
    repeat tb_rel
    refine mx_call fn_distance rfl ?_
    repeat tb_rel
    refine get_asm at_ring ha .head ?_
    repeat tb_rel
    refine MCall.le (distance_ok hr ?_) (by decide)
    repeat tb_rel
    exact q_to q (by rw [off, if_pos h]; rfl)
  · rename_i h
    repeat tb_rel
    refine mx_call fn_distance rfl ?_
    repeat tb_rel
    refine get_asm at_ring ha .head ?_
    repeat tb_rel
    refine MCall.le (distance_ok hr ?_) (by decide)
    repeat tb_rel
    exact q_to q (by rw [off, if_neg h]; rfl)
end
section
variable {b : Base} {σ : Store} {Q : MV → Store → Prop}

/-! the assembly, apart from an outer store -/
noncomputable abbrev Piece := Int × List UInt8
noncomputable def pv (x : Piece) : MV := .tup [.int x.1, .bytes x.2]
structure AAt (σ₀ σ : Store) (a ps : Addr) (r : Int) (l : List MV) : Prop where
  at_ : σ a = some (.ins 134 [some (.int r), some (.ref ps)])
  lst : σ ps = some (.lst l)
  fa : σ₀ a = none
  fp : σ₀ ps = none
  keep : ∀ y o, σ₀ y = some o → σ y = some o
theorem AAt.ne {σ₀ σ : Store} {a ps : Addr} {r : Int} {l : List MV} (h : AAt σ₀ σ a ps r l) : a ≠ ps := fun e => by have := h.at_; rw [e, h.lst] at this; cases this
theorem AAt.setParts {σ₀ σ : Store} {a ps : Addr} {r : Int} {l l' : List MV} (h : AAt σ₀ σ a ps r l) : AAt σ₀ (σ.put ps (.lst l')) a ps r l' :=
  ⟨by rw [Store.put_ne h.ne]; exact h.at_, Store.put_self, h.fa, h.fp, fun y o e => by rw [Store.put_ne fun q => by rw [q, h.fp] at e; cases e]; exact h.keep y o e⟩
theorem AAt.fresh {σ₀ σ : Store} {a ps x : Addr} {r : Int} {l : List MV} {o : MO} (h : AAt σ₀ σ a ps r l) (hx : σ x = none) : AAt σ₀ (σ.put x o) a ps r l := by
  have ne : ∀ y o', σ y = some o' → (σ.put x o) y = some o' := fun y o' e => by rw [Store.put_ne (ne_of hx e)]; exact e
  exact ⟨ne _ _ h.at_, ne _ _ h.lst, h.fa, h.fp, fun y o e => ne _ _ (h.keep y o e)⟩
noncomputable def forgetL (r next : Int) : List Piece → List Piece
  | [] => []
  | (s, o) :: l => if 0 ≤ off s next r then (s, o) :: l else if 0 < off s next r + o.length then (next, cut o (some (0 - off s next r)) none) :: l else forgetL r next l
theorem bt_len : BtOK b.W "len" (.builtin "len") := ⟨by rfl, by rfl, by decide, by decide⟩
theorem forget_ok {σ₀ : Store} {a ps : Addr} {r next : Int} {l : List Piece} (hr : 0 < r) (h : AAt σ₀ σ a ps r (l.map pv)) (hz : ∀ x ∈ l, x.2.length ≤ 1000) (hl : l.length ≤ 1000) (q : ∀ σ', AAt σ₀ σ' a ps r ((forgetL r next l).map pv) → Q .none σ') : MCall b.W 4 110 [.ref a, .int next] σ Q := by
  refine MCall.enter (ps := ["self", "next"]) ["seq", "octets", "begin"] rfl rfl ?_ rfl rfl rfl (by decide +kernel) fun L => ?_
  · walk_at "binds"
  walk_at "norm"
  refine (let e₁ : Env := _; let Q₁ : MFlow → List (Option MV) → Store → Prop := _; (?_ : MG _ _ _ (execs _ e₁) e₁ _ _ _ Q₁))
  refine ms_cons ?_
  refine ms_while (fun n vals σ => Ex4 fun (l' : List Piece) (v1 : Option MV) (v2 : Option MV) (v3 : Option MV) => And6 (n = l'.length) (vals = [some (.ref a), some (.int next), v1, v2, v3]) (AAt σ₀ σ a ps r (l'.map pv)) (forgetL r next l' = forgetL r next l) ((∀ x ∈ l', x.2.length ≤ 1000)) (l'.length ≤ 1000)) l.length ⟨l, none, none, none, rfl, rfl, h, rfl, hz, hl⟩ ?_
  rintro n vals σ1 ⟨l', v1, v2, v3, rfl, rfl, h1, e1, hz1, hl1⟩
  repeat tb_rel
  refine get_asm at_parts h1.at_ (.tail .head) ?_
  repeat tb_rel
  refine ⟨by decide, fun x hx => ?_⟩
  refine op_ne_nil (l := l'.map pv) (by rw [Store.put_ne (ne_of hx h1.lst)]; exact h1.lst) Store.put_self ?_
  repeat tb_rel
  have h2 := h1.fresh (o := .lst []) hx
  cases l' with
  | nil =>
    simp only [List.map_nil, List.isEmpty_nil, Bool.not_true, Bool.false_eq_true, if_false]
    repeat tb_rel
    exact q _ (by rw [← e1]; exact h2)
  | cons p rest =>
    obtain ⟨sq, oc⟩ := p
    simp only [List.map_cons, List.isEmpty_cons, Bool.not_false, if_true]
    repeat tb_rel
    refine get_asm at_parts h2.at_ (.tail .head) ?_
    repeat tb_rel
    refine sub_list (v := pv (sq, oc)) h2.lst (by decide) (by decide) (by rfl) ?_ (by intro _ _; with_unfolding_all rfl)
    refine (let Q₁ : Unit → List (Option MV) → Store → Prop := _; (?_ : G1 _ _ _ _ _ _ _ _ _ Q₁))
    refine as_tuple (xs := [("seq", _), ("octets", _)]) (by with_unfolding_all rfl) ?okk ?_ rfl
    case okk => intro x hx; rcases List.mem_cons.mp hx with hq | hx; · subst hq; exact .inl rfl
                rcases List.mem_cons.mp hx with hq | hx; · subst hq; exact .inl rfl
                cases hx
    simp only [List.map_cons, List.map_nil, puts]
    repeat tb_rel
    refine me_ins h2.at_ me_offset ?_
    repeat tb_rel
    refine MCall.le (offset_ok hr h2.at_ ?_) (by decide)
    repeat tb_rel
    have hzo := hz1 (sq, oc) (.head _)
    dsimp only at hzo
    split
    · rename_i hc
      repeat tb_rel
      refine q _ ?_
      have e2 : forgetL r next ((sq, oc) :: rest) = (sq, oc) :: rest := by rw [forgetL, if_pos (by simpa using hc)]
      rw [← e1, e2]; exact h2
    · rename_i hc
      have hc' : ¬ 0 ≤ off sq next r := by simpa using hc
      repeat tb_rel
      refine mx_bcall bt_len rfl ?_
      repeat tb_rel
      refine bl_len_bytes (by omega) ?_
      repeat tb_rel
      split
      · rename_i hd
        have hd' : 0 < off sq next r + oc.length := by simpa using hd
        repeat tb_rel
        refine sl_bytes (by omega) ?_
        repeat tb_rel
        refine ⟨by simp, ?_⟩
        repeat tb_rel
        refine get_asm at_parts h2.at_ (.tail .head) ?_
        repeat tb_rel
        refine op_setitem h2.lst (by decide) (by simp) (by simp at hl1 ⊢; omega) ?_
        repeat tb_rel
        refine q _ ?_
        have e2 : forgetL r next ((sq, oc) :: rest) = (next, cut oc (some (0 - off sq next r)) none) :: rest := by rw [forgetL, if_neg hc', if_pos hd']
        rw [← e1, e2]
        exact h2.setParts
      · rename_i hd
        have hd' : ¬ 0 < off sq next r + oc.length := by simpa using hd
        repeat tb_rel
        refine get_asm at_parts h2.at_ (.tail .head) ?_
        repeat tb_rel
        refine me_list_pop0 h2.lst (by simp at hl1 ⊢; omega) ?_
        repeat tb_rel
        refine ⟨rest.length, by simp, rest, _, _, _, rfl, rfl, h2.setParts, ?_, fun x hx => hz1 x (.tail _ hx), by simp at hl1; omega⟩
        rw [← e1, forgetL, if_neg hc', if_neg hd']
noncomputable def takeL (next : Int) : List Piece → List UInt8 × List Piece
  | [] => ([], [])
  | (s, o) :: l => if s = next then (o, l) else ([], (s, o) :: l)
theorem forgetL_len {r next : Int} : ∀ {l : List Piece}, (forgetL r next l).length ≤ l.length
  | [] => Nat.le_refl _
  | (s, o) :: l => by
    unfold forgetL
    split
    · exact Nat.le_refl _
    · split
      · exact Nat.le_refl _
      · exact Nat.le_succ_of_le forgetL_len
theorem take_ok {σ₀ : Store} {a ps : Addr} {r next : Int} {l : List Piece} (hr : 0 < r) (h : AAt σ₀ σ a ps r (l.map pv)) (hz : ∀ x ∈ l, x.2.length ≤ 1000) (hl : l.length ≤ 1000)
    (q : ∀ σ', AAt σ₀ σ' a ps r ((takeL next (forgetL r next l)).2.map pv) → Q (.bytes (takeL next (forgetL r next l)).1) σ') : MCall b.W 5 117 [.ref a, .int next] σ Q := by
  refine MCall.enter (ps := ["self", "next"]) [] rfl rfl ?_ rfl rfl rfl (by decide +kernel) fun L => ?_
  · walk_at "binds"
  walk_at "norm"
  refine (let e₁ : Env := _; let Q₁ : MFlow → List (Option MV) → Store → Prop := _; (?_ : MG _ _ _ (execs _ e₁) e₁ _ _ _ Q₁))
  repeat tb_rel
  refine me_ins h.at_ me_forget ?_
  repeat tb_rel
  refine forget_ok hr h hz hl fun σ1 h1 => ?_
  repeat tb_rel
  refine get_asm at_parts h1.at_ (.tail .head) ?_
  repeat tb_rel
  refine ⟨by decide, fun x hx => ?_⟩
  repeat tb_rel
  refine op_eq_nil (l := (forgetL r next l).map pv) (by rw [Store.put_ne (ne_of hx h1.lst)]; exact h1.lst) Store.put_self ?_
  repeat tb_rel
  have h2 := h1.fresh (o := .lst []) hx
  have hlen : (forgetL r next l).length ≤ 1000 := Nat.le_trans forgetL_len hl
  generalize forgetL r next l = l2 at *
  cases l2 with
  | nil =>
    simp only [List.map_nil, List.isEmpty_nil, if_true]
    repeat tb_rel
    exact q _ h2
  | cons p rest =>
    obtain ⟨sq, oc⟩ := p
    simp only [List.map_cons, List.isEmpty_cons, Bool.false_eq_true, if_false]
    repeat tb_rel
    refine get_asm at_parts h2.at_ (.tail .head) ?_
    repeat tb_rel
    refine sub_list (v := pv (sq, oc)) h2.lst (by decide) (by decide) (by rfl) ?_ (by intro _ _; with_unfolding_all rfl)
    repeat tb_rel
    refine sub_tup (v := .int sq) (by decide) (by decide) (by rfl) ?_ (by intro _ _; with_unfolding_all rfl)
    repeat tb_rel
    split
    · rename_i hc
      have hc' : ¬ sq = next := by simpa using hc
      repeat tb_rel
      refine q_to (q _ ?_) ?_
      · rw [takeL, if_neg hc']; exact h2
      · rw [takeL, if_neg hc']; rfl
    · rename_i hc
      have hc' : sq = next := by simpa using hc
      repeat tb_rel
      refine get_asm at_parts h2.at_ (.tail .head) ?_
      repeat tb_rel
      refine me_list_pop0 h2.lst (by simp at hlen ⊢; omega) ?_
      repeat tb_rel
      refine sub_tup (v := .bytes oc) (by decide) (by decide) (by rfl) ?_ (by intro _ _; with_unfolding_all rfl)
      repeat tb_rel
      refine q_to (q _ ?_) ?_
      · rw [takeL, if_pos hc']; exact h2.setParts
      · rw [takeL, if_pos hc']; rfl
end
section
variable {b : Base} {σ : Store} {Q : MV → Store → Prop}
theorem AAt.other {σ₀ σ : Store} {a ps x : Addr} {r : Int} {l : List MV} {o : MO} (h : AAt σ₀ σ a ps r l) (h1 : x ≠ a) (h2 : x ≠ ps) (h3 : σ₀ x = none) : AAt σ₀ (σ.put x o) a ps r l :=
  ⟨by rw [Store.put_ne (Ne.symm h1)]; exact h.at_, by rw [Store.put_ne (Ne.symm h2)]; exact h.lst, h.fa, h.fp, fun y o e => by rw [Store.put_ne fun q => by rw [q, h3] at e; cases e]; exact h.keep y o e⟩
theorem AAt.fresh₀ {σ₀ σ : Store} {a ps x : Addr} {r : Int} {l : List MV} (h : AAt σ₀ σ a ps r l) (hx : σ x = none) : σ₀ x = none := by
  cases q : σ₀ x with
  | none => rfl
  | some o => rw [h.keep _ _ q] at hx; cases hx
theorem ok2 {env : Env} {x y : Str} (h1 : OkName env x) (h2 : OkName env y) : ∀ z ∈ [x, y], OkName env z := fun z hz => by
  rcases List.mem_cons.mp hz with e | hz
  · rw [e]; exact h1
  · rw [List.mem_singleton.mp hz]; exact h2
theorem okp {env : Env} {x y : Str × Pos} (h1 : OkName env x.1) (h2 : OkName env y.1) : ∀ z ∈ [x, y], OkName env z.1 := fun z hz => by
  rcases List.mem_cons.mp hz with e | hz
  · rw [e]; exact h1
  · rw [List.mem_singleton.mp hz]; exact h2
noncomputable def missGo (r next e bg : Int) (oct : List UInt8) : List Piece → List Piece → Int → List Piece × Int
  | [], fd, at_ => (fd, at_)
  | (s, o) :: l, fd, at_ => if off s next r + o.length ≤ at_ then missGo r next e bg oct l fd at_ else if e ≤ off s next r then (fd, at_)
      else missGo r next e bg oct l (if at_ < off s next r then fd ++ [(at_, cut oct (some (at_ - bg)) (some (off s next r - bg)))] else fd) (off s next r + o.length)
noncomputable def missingL (r next bg : Int) (oct : List UInt8) (l : List Piece) : List Piece :=
  if (missGo r next (bg + oct.length) bg oct l [] bg).2 < bg + oct.length then (missGo r next (bg + oct.length) bg oct l [] bg).1 ++ [((missGo r next (bg + oct.length) bg oct l [] bg).2, cut oct (some ((missGo r next (bg + oct.length) bg oct l [] bg).2 - bg)) none)]
  else (missGo r next (bg + oct.length) bg oct l [] bg).1
theorem missing_ok {σ₀ : Store} {a ps : Addr} {r next bg : Int} {oct : List UInt8} {l : List Piece} (hr : 0 < r) (h : AAt σ₀ σ a ps r (l.map pv)) (hz : ∀ x ∈ l, x.2.length ≤ 1000) (hl : l.length ≤ 1000) (ho : oct.length ≤ 1000)
    (q : ∀ σ' f, AAt σ₀ σ' a ps r (l.map pv) → σ' f = some (.lst ((missingL r next bg oct l).map pv)) → σ₀ f = none → f ≠ ps → Q (.ref f) σ') : MCall b.W 4 89 [.ref a, .int bg, .bytes oct, .int next] σ Q := by
  refine MCall.enter (ps := ["self", "begin", "octets", "next"]) ["end", "found", "at", "seq", "kept", "first", "last"] rfl rfl ?_ rfl rfl rfl (by decide +kernel) fun L => ?_
  · walk_at "binds"
  walk_at "norm"
  refine (let e₁ : Env := _; let Q₁ : MFlow → List (Option MV) → Store → Prop := _; (?_ : MG _ _ _ (execs _ e₁) e₁ _ _ _ Q₁))
  repeat tb_rel
  refine mx_bcall bt_len rfl ?_
  repeat tb_rel
  refine bl_len_bytes (by omega) ?_
  repeat tb_rel
  refine ms_swap (names := ["found", "at"]) (ok2 (.inl rfl) (.inl rfl)) ?_ (by with_unfolding_all rfl)
  repeat tb_rel
  refine ⟨by decide, fun f hf => ?_⟩
  repeat tb_rel
  refine ⟨by simp, ?_⟩
  repeat tb_rel
  refine ⟨by rfl, ?_⟩
  simp only [List.reverse_cons, List.reverse_nil, List.nil_append, List.cons_append, puts]
  repeat tb_rel
  have h1 := h.fresh (o := .lst []) hf
  have nf : f ≠ ps := fun e => by rw [e, h.lst] at hf; cases hf
  have f0 : σ₀ f = none := h.fresh₀ hf
  refine MG.mono (Q := fun fl vals σ2 => Ex6 fun (fd : List Piece) (at_ : Int) (v1 : Option MV) (v2 : Option MV) (v3 : Option MV) (v4 : Option MV) => And6 (fl = .next) (vals = [some (.ref a), some (.int bg), some (.bytes oct), some (.int next), some (.int (bg + oct.length)), some (.ref f), some (.int at_), v1, v2, v3, v4]) (AAt σ₀ σ2 a ps r (l.map pv)) (σ2 f = some (.lst (fd.map pv))) (missGo r next (bg + oct.length) bg oct l [] bg = (fd, at_)) (fd.length ≤ 1000)) ?_ ?_
  · refine (let Q₁ : MFlow → List (Option MV) → Store → Prop := _; (?_ : MG _ _ _ _ _ _ _ _ Q₁))
    refine ms_for rfl ?_
    repeat tb_rel
    refine get_asm at_parts h1.at_ (.tail .head) ?_
    refine ⟨ps, l.map pv, rfl, fun i vals σ => Ex6 fun (fd : List Piece) (at_ : Int) (v1 : Option MV) (v2 : Option MV) (v3 : Option MV) (v4 : Option MV) => And6 (vals = [some (.ref a), some (.int bg), some (.bytes oct), some (.int next), some (.int (bg + oct.length)), some (.ref f), some (.int at_), v1, v2, v3, v4]) (AAt σ₀ σ a ps r (l.map pv)) (σ f = some (.lst (fd.map pv))) (missGo r next (bg + oct.length) bg oct (l.drop i) fd at_ = missGo r next (bg + oct.length) bg oct l [] bg) (fd.length ≤ i) (i ≤ l.length), ?_, ?_, ?_, ?_⟩
    · exact ⟨[], bg, none, none, none, none, rfl, h1, Store.put_self, rfl, Nat.le_refl _, Nat.zero_le _⟩
    · rintro i vals σ ⟨fd, at_, v1, v2, v3, v4, _, h2, _⟩
      exact h2.lst
    · rintro i v vals σ2 hv ⟨fd, at_, v1, v2, v3, v4, rfl, h2, hfd, he, hlen, hil⟩
      rw [List.getElem?_map] at hv
      obtain ⟨⟨sq, oc⟩, hp, rfl⟩ := Option.map_eq_some_iff.mp hv
      obtain ⟨hi, hpe⟩ := List.getElem?_eq_some_iff.mp hp
      have hdrop : l.drop i = (sq, oc) :: l.drop (i + 1) := by rw [List.drop_eq_getElem_cons hi, hpe]
      have hzo : oc.length ≤ 1000 := hz (sq, oc) (List.mem_of_getElem? hp)
      rw [hdrop] at he
      refine (let Q₁ : Unit → List (Option MV) → Store → Prop := _; (?_ : G1 _ _ _ _ _ _ _ _ _ Q₁))
      refine as_tuple (xs := [("seq", _), ("kept", _)]) (by with_unfolding_all rfl) (okp (.inl rfl) (.inl rfl)) ?_ rfl
      simp only [List.map_cons, List.map_nil, puts]
      repeat tb_rel
      refine me_ins h2.at_ me_offset ?_
      repeat tb_rel
      refine MCall.le (offset_ok hr h2.at_ ?_) (by decide)
      repeat tb_rel
      refine mx_bcall bt_len rfl ?_
      repeat tb_rel
      refine bl_len_bytes (by omega) ?_
      repeat tb_rel
      split
      · rename_i hc
        have hc' : off sq next r + oc.length ≤ at_ := by simpa using hc
        repeat tb_rel
        try dsimp only
        exact ⟨fd, at_, _, _, _, _, rfl, h2, hfd, by rw [← he, missGo, if_pos hc'], by omega, by omega⟩
      · rename_i hc
        have hc' : ¬ off sq next r + oc.length ≤ at_ := by simpa using hc
        repeat tb_rel
        split
        · rename_i hd
          have hd' : bg + oct.length ≤ off sq next r := by simpa using hd
          repeat tb_rel
          try dsimp only
          exact ⟨fd, at_, _, _, _, _, by first | rfl | trivial, rfl, h2, hfd, by rw [← he, missGo, if_neg hc', if_pos hd'], by omega⟩
        · rename_i hd
          have hd' : ¬ bg + oct.length ≤ off sq next r := by simpa using hd
          repeat tb_rel
          split
          · rename_i hg
            have hg' : at_ < off sq next r := by simpa using hg
            repeat tb_rel
            refine me_list_append hfd ?_ (by with_unfolding_all rfl)
            repeat tb_rel
            refine sl_bytes (by omega) ?_
            repeat tb_rel
            refine ⟨by simp, ?_⟩
            refine ⟨_, hfd, by simp; omega, ?_⟩
            repeat tb_rel
            try dsimp only
            have nfa : f ≠ a := fun e => by rw [e, h2.at_] at hfd; cases hfd
            refine ⟨fd ++ [(at_, cut oct (some (at_ - bg)) (some (off sq next r - bg)))], _, _, _, _, _, rfl, h2.other nfa nf f0, ?_, ?_, ?_, by omega⟩
            · rw [Store.put_self, List.map_append]; rfl
            · rw [← he, missGo, if_neg hc', if_neg hd', if_pos hg']
            · simp; omega
          · rename_i hg
            have hg' : ¬ at_ < off sq next r := by simpa using hg
            repeat tb_rel
            try dsimp only
            exact ⟨fd, _, _, _, _, _, rfl, h2, hfd, by rw [← he, missGo, if_neg hc', if_neg hd', if_neg hg'], by omega, by omega⟩
    · rintro vals σ3 ⟨fd, at_, v1, v2, v3, v4, rfl, h3, hfd, he, hlen, _⟩
      rw [List.length_map] at he
      rw [List.drop_length] at he
      exact ⟨fd, at_, v1, v2, v3, v4, rfl, rfl, h3, hfd, by rw [← he, missGo], by simp at hlen; omega⟩
  · rintro fl vals σ3 ⟨fd, at_, v1, v2, v3, v4, rfl, rfl, h3, hfd, he, hlen⟩
    have e1 : (missGo r next (bg + oct.length) bg oct l [] bg).1 = fd := by rw [he]
    have e2 : (missGo r next (bg + oct.length) bg oct l [] bg).2 = at_ := by rw [he]
    have nfa : f ≠ a := fun e => by rw [e, h3.at_] at hfd; cases hfd
    repeat tb_rel
    split
    · rename_i hc
      have hc' : at_ < bg + oct.length := by simpa using hc
      repeat tb_rel
      refine me_list_append hfd ?_ (by with_unfolding_all rfl)
      repeat tb_rel
      refine sl_bytes (by omega) ?_
      repeat tb_rel
      refine ⟨by simp, ?_⟩
      refine ⟨_, hfd, by simp; omega, ?_⟩
      repeat tb_rel
      refine q _ f (h3.other nfa nf f0) ?_ f0 nf
      rw [Store.put_self, missingL, e1, e2, if_pos hc', List.map_append]; rfl
    · rename_i hc
      have hc' : ¬ at_ < bg + oct.length := by simpa using hc
      repeat tb_rel
      refine q _ f h3 ?_ f0 nf
      rw [hfd, missingL, e1, e2, if_neg hc']
end
section
variable {b : Base} {σ : Store} {Q : MV → Store → Prop}
noncomputable def mergeGo (r next : Int) : List Piece → List Piece → List Piece → List Piece × List Piece
  | [], fd, rs => (fd, rs)
  | (s, o) :: l, fd, rs => mergeGo r next l (fd ++ rs.takeWhile (fun x => x.1 < off s next r) ++ [(off s next r, o)]) (rs.dropWhile (fun x => x.1 < off s next r))
noncomputable def mergedL (r next : Int) (fresh l : List Piece) : List Piece := (mergeGo r next l [] fresh).1 ++ (mergeGo r next l [] fresh).2
theorem bt_list : BtOK b.W "list" (.type "list") := ⟨by rfl, by rfl, by decide, by decide⟩
theorem merged_ok {σ₀ : Store} {a ps fr : Addr} {r next : Int} {fresh l : List Piece} (hr : 0 < r) (h : AAt σ₀ σ a ps r (l.map pv)) (hfr : σ fr = some (.lst (fresh.map pv))) (hz : ∀ x ∈ l, x.2.length ≤ 1000) (hl : l.length ≤ 1000) (hf : fresh.length ≤ 1000)
    (q : ∀ σ' f, AAt σ₀ σ' a ps r (l.map pv) → σ' f = some (.lst ((mergedL r next fresh l).map pv)) → σ₀ f = none → f ≠ ps → Q (.ref f) σ') : MCall b.W 4 96 [.ref a, .ref fr, .int next] σ Q := by
  refine MCall.enter (ps := ["self", "fresh", "next"]) ["found", "rest", "seq", "kept", "first"] rfl rfl ?_ rfl rfl rfl (by decide +kernel) fun L => ?_
  · walk_at "binds"
  walk_at "norm"
  refine (let e₁ : Env := _; let Q₁ : MFlow → List (Option MV) → Store → Prop := _; (?_ : MG _ _ _ (execs _ e₁) e₁ _ _ _ Q₁))
  refine ms_cons ?_
  refine ms_swap (names := ["found", "rest"]) (ok2 (.inl rfl) (.inl rfl)) ?_ (by with_unfolding_all rfl)
  repeat tb_rel
  refine ⟨by decide, fun f hf0 => ?_⟩
  repeat tb_rel
  refine mx_tcall bt_list rfl ?_
  repeat tb_rel
  refine ty_list_list (by rw [Store.put_ne (ne_of hf0 hfr)]; exact hfr) (by simpa using Nat.le_trans hf (by decide)) fun g hg => ?_
  repeat tb_rel
  refine ⟨by simp, ?_⟩
  repeat tb_rel
  refine ⟨by rfl, ?_⟩
  simp only [List.reverse_cons, List.reverse_nil, List.nil_append, List.cons_append, puts]
  repeat tb_rel
  obtain ⟨gf, hg'⟩ := fresh_put hg
  have nf : f ≠ ps := fun e => by rw [e, h.lst] at hf0; cases hf0
  have ng : g ≠ ps := fun e => by rw [e, h.lst] at hg'; cases hg'
  have f0 : σ₀ f = none := h.fresh₀ hf0
  have g0 : σ₀ g = none := h.fresh₀ hg'
  have h1 := (h.fresh (o := .lst []) hf0).fresh (o := .lst (fresh.map pv)) hg
  refine MG.mono (Q := fun fl vals σ2 => Ex5 fun (fd : List Piece) (rs : List Piece) (v1 : Option MV) (v2 : Option MV) (v3 : Option MV) => And7 (fl = .next) (vals = [some (.ref a), some (.ref fr), some (.int next), some (.ref f), some (.ref g), v1, v2, v3]) (AAt σ₀ σ2 a ps r (l.map pv)) (σ2 f = some (.lst (fd.map pv))) (σ2 g = some (.lst (rs.map pv))) (mergeGo r next l [] fresh = (fd, rs)) (fd.length + rs.length ≤ 2000)) ?_ ?_
  · refine (let Q₁ : MFlow → List (Option MV) → Store → Prop := _; (?_ : MG _ _ _ _ _ _ _ _ Q₁))
    refine ms_for rfl ?_
    repeat tb_rel
    refine get_asm at_parts h1.at_ (.tail .head) ?_
    refine ⟨ps, l.map pv, rfl, fun i vals σ2 => Ex5 fun (fd : List Piece) (rs : List Piece) (v1 : Option MV) (v2 : Option MV) (v3 : Option MV) => And7 (vals = [some (.ref a), some (.ref fr), some (.int next), some (.ref f), some (.ref g), v1, v2, v3]) (AAt σ₀ σ2 a ps r (l.map pv)) (σ2 f = some (.lst (fd.map pv))) (σ2 g = some (.lst (rs.map pv))) (mergeGo r next (l.drop i) fd rs = mergeGo r next l [] fresh) (fd.length + rs.length ≤ 1000 + i) (i ≤ l.length), ?_, ?_, ?_, ?_⟩
    · exact ⟨[], fresh, none, none, none, rfl, h1, by rw [Store.put_ne (Ne.symm gf), Store.put_self]; rfl, Store.put_self, rfl, by simpa using hf, Nat.zero_le _⟩
    · rintro i vals σ2 ⟨fd, rs, v1, v2, v3, _, h2, _⟩
      exact h2.lst
    · rintro i v vals σ2 hv ⟨fd, rs, v1, v2, v3, rfl, h2, hfd, hrs, he, hlen, hil⟩
      rw [List.getElem?_map] at hv
      obtain ⟨⟨sq, oc⟩, hp, rfl⟩ := Option.map_eq_some_iff.mp hv
      obtain ⟨hi, hpe⟩ := List.getElem?_eq_some_iff.mp hp
      have hdrop : l.drop i = (sq, oc) :: l.drop (i + 1) := by rw [List.drop_eq_getElem_cons hi, hpe]
      rw [hdrop] at he
      refine (let Q₁ : Unit → List (Option MV) → Store → Prop := _; (?_ : G1 _ _ _ _ _ _ _ _ _ Q₁))
      refine as_tuple (xs := [("seq", _), ("kept", _)]) (by with_unfolding_all rfl) (okp (.inl rfl) (.inl rfl)) ?_ rfl
      simp only [List.map_cons, List.map_nil, puts]
      repeat tb_rel
      refine me_ins h2.at_ me_offset ?_
      repeat tb_rel
      refine MCall.le (offset_ok hr h2.at_ ?_) (by decide)
      repeat tb_rel
      refine MG.mono (Q := fun fl vals σ4 => Ex2 fun (fd' : List Piece) (rs' : List Piece) => And8 (fl = .next) (vals = [some (.ref a), some (.ref fr), some (.int next), some (.ref f), some (.ref g), some (.int sq), some (.bytes oc), some (.int (off sq next r))]) (AAt σ₀ σ4 a ps r (l.map pv)) (σ4 f = some (.lst (fd'.map pv))) (σ4 g = some (.lst (rs'.map pv))) (fd' = fd ++ rs.takeWhile (fun x => x.1 < off sq next r)) (rs' = rs.dropWhile (fun x => x.1 < off sq next r)) (fd'.length + rs'.length ≤ 1000 + i)) ?_ ?_
      · refine (let Q₁ : MFlow → List (Option MV) → Store → Prop := _; (?_ : MG _ _ _ _ _ _ _ _ Q₁))
        refine ms_while (fun n vals σ4 => Ex2 fun (fd' : List Piece) (rs' : List Piece) => And8 (n = rs'.length) (vals = [some (.ref a), some (.ref fr), some (.int next), some (.ref f), some (.ref g), some (.int sq), some (.bytes oc), some (.int (off sq next r))]) (AAt σ₀ σ4 a ps r (l.map pv)) (σ4 f = some (.lst (fd'.map pv))) (σ4 g = some (.lst (rs'.map pv))) (fd' ++ rs'.takeWhile (fun x => x.1 < off sq next r) = fd ++ rs.takeWhile (fun x => x.1 < off sq next r)) (rs'.dropWhile (fun x => x.1 < off sq next r) = rs.dropWhile (fun x => x.1 < off sq next r)) (fd'.length + rs'.length ≤ 1000 + i))
          rs.length ⟨fd, rs, rfl, rfl, h2, hfd, hrs, rfl, rfl, hlen⟩ ?_
        rintro n vals σ4 ⟨fd', rs', rfl, rfl, h4, hfd4, hrs4, e1, e2, hlen4⟩
        repeat tb_rel
        refine ⟨by decide, fun x hx => ?_⟩
        refine op_ne_nil (l := rs'.map pv) (by rw [Store.put_ne (ne_of hx hrs4)]; exact hrs4) Store.put_self ?_
        repeat tb_rel
        have h5 := h4.fresh (o := .lst []) hx
        have hf5 : (σ4.put x (.lst [])) f = some (.lst (fd'.map pv)) := by rw [Store.put_ne (ne_of hx hfd4)]; exact hfd4
        have hg5 : (σ4.put x (.lst [])) g = some (.lst (rs'.map pv)) := by rw [Store.put_ne (ne_of hx hrs4)]; exact hrs4
        cases rs' with
        | nil =>
          simp only [List.map_nil, List.isEmpty_nil, Bool.not_true, Bool.false_eq_true, if_false]
          repeat tb_rel
          refine ⟨fd', [], by first | rfl | trivial, by first | rfl | trivial, h5, hf5, hg5, by simpa using e1, by simpa using e2, by simpa using hlen4⟩
        | cons p rest =>
          obtain ⟨pa, po⟩ := p
          simp only [List.map_cons, List.isEmpty_cons, Bool.not_false, if_true]
          repeat tb_rel
          refine sub_list (v := pv (pa, po)) hg5 (by decide) (by decide) (by rfl) ?_ (by intro _ _; with_unfolding_all rfl)
          repeat tb_rel
          refine sub_tup (v := .int pa) (by decide) (by decide) (by rfl) ?_ (by intro _ _; with_unfolding_all rfl)
          repeat tb_rel
          split
          · rename_i hc
            have hc' : pa < off sq next r := by simpa using hc
            repeat tb_rel
            refine me_list_append hf5 ?_ (by with_unfolding_all rfl)
            repeat tb_rel
            refine me_list_pop0 hg5 (by simp at hlen4 ⊢; omega) ?_
            repeat tb_rel
            refine ⟨fd'.map pv, by rw [Store.put_ne (Ne.symm gf)]; exact hf5, by simp at hlen4 ⊢; omega, ?_⟩
            repeat tb_rel
            try dsimp only
            have nfa : f ≠ a := fun e => by rw [e, h5.at_] at hf5; cases hf5
            have nga : g ≠ a := fun e => by rw [e, h5.at_] at hg5; cases hg5
            refine ⟨rest.length, by simp, fd' ++ [(pa, po)], rest, rfl, rfl, (h5.other nga ng g0).other nfa nf f0, ?_, ?_, ?_, ?_, ?_⟩
            · rw [Store.put_self, List.map_append]; rfl
            · rw [Store.put_ne gf, Store.put_self]
            · rw [← e1, List.takeWhile_cons_of_pos (by simpa using hc'), List.append_assoc]; rfl
            · rw [← e2, List.dropWhile_cons_of_pos (by simpa using hc')]
            · simp at hlen4 ⊢; omega
          · rename_i hc
            have hc' : ¬ pa < off sq next r := by simpa using hc
            repeat tb_rel
            try dsimp only
            refine ⟨fd', (pa, po) :: rest, by first | rfl | trivial, by first | rfl | trivial, h5, hf5, hg5, ?_, ?_, hlen4⟩
            · rw [← e1, List.takeWhile_cons_of_neg (by simpa using hc'), List.append_nil]
            · rw [← e2, List.dropWhile_cons_of_neg (by simpa using hc')]
      · rintro fl vals σ4 ⟨fd', rs', rfl, rfl, h4, hfd4, hrs4, e1, e2, hlen4⟩
        repeat tb_rel
        refine me_list_append hfd4 ?_ (by with_unfolding_all rfl)
        repeat tb_rel
        refine ⟨by simp, ?_⟩
        refine ⟨_, hfd4, by simp; omega, ?_⟩
        repeat tb_rel
        try dsimp only
        have nfa : f ≠ a := fun e => by rw [e, h4.at_] at hfd4; cases hfd4
        refine ⟨fd' ++ [(off sq next r, oc)], rs', _, _, _, rfl, h4.other nfa nf f0, ?_, by rw [Store.put_ne gf]; exact hrs4, ?_, by simp; omega, by omega⟩
        · rw [Store.put_self, List.map_append]; rfl
        · rw [← he, mergeGo, e1, e2]
    · rintro vals σ3 ⟨fd, rs, v1, v2, v3, rfl, h3, hfd, hrs, he, hlen, _⟩
      rw [List.length_map, List.drop_length] at he
      exact ⟨fd, rs, v1, v2, v3, by first | rfl | trivial, rfl, h3, hfd, hrs, by rw [← he, mergeGo], by simp at hlen; omega⟩
  · rintro fl vals σ3 ⟨fd, rs, v1, v2, v3, rfl, rfl, h3, hfd, hrs, he, hlen⟩
    repeat tb_rel
    refine op_add_list hfd hrs (by simp; omega) fun x hx => ?_
    repeat tb_rel
    refine q _ x (h3.fresh hx) ?_ (h3.fresh₀ hx) (fun e => by rw [e, h3.lst] at hx; cases hx)
    rw [Store.put_self, mergedL, he, List.map_append]
end
section
variable {b : Base} {σ : Store} {Q : MV → Store → Prop}
noncomputable def joinGo (r next : Int) : List Piece → List Piece → Option Int → List Piece
  | [], fd, _ => fd
  | (p, o) :: l, fd, en => joinGo r next l (if en = some p then (match fd.getLast? with | some (s, h) => fd.dropLast ++ [(s, h ++ o)] | none => []) else fd ++ [((next + p) % r, o)]) (some (p + o.length))
noncomputable def joinedL (r next : Int) (l : List Piece) : List Piece := joinGo r next l [] none
noncomputable def tot (l : List Piece) : Nat := (l.map (·.2.length)).sum
noncomputable def oi : Option Int → MV
  | none => .none
  | some i => .int i
theorem tot_append {l m : List Piece} : tot (l ++ m) = tot l + tot m := by simp [tot]
theorem tot_one {x : Piece} : tot [x] = x.2.length := by simp [tot]
theorem tot_cons {x : Piece} {l : List Piece} : tot (x :: l) = x.2.length + tot l := by simp [tot]
theorem joined_ok {σ₀ : Store} {a ps pc : Addr} {r next : Int} {pl : List MV} {l : List Piece} (hr : 0 < r) (h : AAt σ₀ σ a ps r pl) (hpc : σ pc = some (.lst (l.map pv))) (ht : tot l ≤ 1000000) (hl : l.length ≤ 10000)
    (q : ∀ σ' f, AAt σ₀ σ' a ps r pl → σ' f = some (.lst ((joinedL r next l).map pv)) → σ₀ f = none → f ≠ ps → Q (.ref f) σ') : MCall b.W 4 103 [.ref a, .ref pc, .int next] σ Q := by
  refine MCall.enter (ps := ["self", "pieces", "next"]) ["found", "end", "first", "octets", "seq", "ahead"] rfl rfl ?_ rfl rfl rfl (by decide +kernel) fun L => ?_
  · walk_at "binds"
  walk_at "norm"
  refine (let e₁ : Env := _; let Q₁ : MFlow → List (Option MV) → Store → Prop := _; (?_ : MG _ _ _ (execs _ e₁) e₁ _ _ _ Q₁))
  refine ms_cons ?_
  refine ms_swap (names := ["found", "end"]) (ok2 (.inl rfl) (.inl rfl)) ?_ (by with_unfolding_all rfl)
  repeat tb_rel
  refine ⟨by decide, fun f hf => ?_⟩
  repeat tb_rel
  refine ⟨by simp, ?_⟩
  repeat tb_rel
  refine ⟨by rfl, ?_⟩
  simp only [List.reverse_cons, List.reverse_nil, List.nil_append, List.cons_append, puts]
  repeat tb_rel
  have h1 := h.fresh (o := .lst []) hf
  have nf : f ≠ ps := fun e => by rw [e, h.lst] at hf; cases hf
  have nfp : f ≠ pc := fun e => by rw [e, hpc] at hf; cases hf
  have f0 : σ₀ f = none := h.fresh₀ hf
  refine MG.mono (Q := fun fl vals σ2 => Ex6 fun (fd : List Piece) (en : Option Int) (v1 : Option MV) (v2 : Option MV) (v3 : Option MV) (v4 : Option MV) => And5 (fl = .next) (vals = [some (.ref a), some (.ref pc), some (.int next), some (.ref f), some (oi en), v1, v2, v3, v4]) (AAt σ₀ σ2 a ps r pl) (σ2 f = some (.lst (fd.map pv))) (fd = joinedL r next l)) ?_ ?_
  · refine (let Q₁ : MFlow → List (Option MV) → Store → Prop := _; (?_ : MG _ _ _ _ _ _ _ _ Q₁))
    refine ms_for rfl ?_
    repeat tb_rel
    refine ⟨pc, l.map pv, rfl, fun i vals σ2 => Ex6 fun (fd : List Piece) (en : Option Int) (v1 : Option MV) (v2 : Option MV) (v3 : Option MV) (v4 : Option MV) => And9 (vals = [some (.ref a), some (.ref pc), some (.int next), some (.ref f), some (oi en), v1, v2, v3, v4]) (AAt σ₀ σ2 a ps r pl) (σ2 pc = some (.lst (l.map pv))) (σ2 f = some (.lst (fd.map pv))) (joinGo r next (l.drop i) fd en = joinedL r next l) ((en ≠ none → fd ≠ [])) (fd.length ≤ i) (i ≤ l.length) (tot fd + tot (l.drop i) ≤ 1000000), ?_, ?_, ?_, ?_⟩
    · exact ⟨[], none, none, none, none, none, rfl, h1, by rw [Store.put_ne (Ne.symm nfp)]; exact hpc, Store.put_self, rfl, fun e => absurd rfl e, Nat.le_refl _, Nat.zero_le _, by simpa [tot] using ht⟩
    · rintro i vals σ2 ⟨fd, en, v1, v2, v3, v4, _, h2, hp2, _⟩
      exact hp2
    · rintro i v vals σ2 hv ⟨fd, en, v1, v2, v3, v4, rfl, h2, hp2, hfd, he, hen, hlen, hil, htt⟩
      rw [List.getElem?_map] at hv
      obtain ⟨⟨p, oc⟩, hp, rfl⟩ := Option.map_eq_some_iff.mp hv
      obtain ⟨hi, hpe⟩ := List.getElem?_eq_some_iff.mp hp
      have hdrop : l.drop i = (p, oc) :: l.drop (i + 1) := by rw [List.drop_eq_getElem_cons hi, hpe]
      rw [hdrop] at he htt
      rw [tot_cons] at htt
      dsimp only at htt
      have nfa : f ≠ a := fun e => by rw [e, h2.at_] at hfd; cases hfd
      refine (let Q₁ : Unit → List (Option MV) → Store → Prop := _; (?_ : G1 _ _ _ _ _ _ _ _ _ Q₁))
      refine as_tuple (xs := [("first", _), ("octets", _)]) (by with_unfolding_all rfl) (okp (.inl rfl) (.inl rfl)) ?_ rfl
      simp only [List.map_cons, List.map_nil, puts]
      repeat tb_rel
      have tail : ∀ (fd' : List Piece) (σ3 : Store) (v3 v4 : Option MV), AAt σ₀ σ3 a ps r pl → σ3 pc = some (.lst (l.map pv)) → σ3 f = some (.lst (fd'.map pv)) → joinGo r next (l.drop (i + 1)) fd' (some (p + oc.length)) = joinedL r next l → fd' ≠ [] → fd'.length ≤ i + 1 → tot fd' + tot (l.drop (i + 1)) ≤ 1000000 →
          Ex6 fun (fd : List Piece) (en : Option Int) (w1 : Option MV) (w2 : Option MV) (w3 : Option MV) (w4 : Option MV) => And9 ([some (MV.ref a), some (.ref pc), some (.int next), some (.ref f), some (.int (p + oc.length)), some (.int p), some (.bytes oc), v3, v4] = [some (.ref a), some (.ref pc), some (.int next), some (.ref f), some (oi en), w1, w2, w3, w4]) (AAt σ₀ σ3 a ps r pl) (σ3 pc = some (.lst (l.map pv))) (σ3 f = some (.lst (fd.map pv))) (joinGo r next (l.drop (i + 1)) fd en = joinedL r next l) ((en ≠ none → fd ≠ [])) (fd.length ≤ i + 1) (i + 1 ≤ l.length) (tot fd + tot (l.drop (i + 1)) ≤ 1000000):=
        fun fd' σ3 v3 v4 a1 a2 a3 a4 a5 a6 a7 => ⟨fd', some (p + oc.length), _, _, _, _, rfl, a1, a2, a3, a4, fun _ => a5, a6, by omega, a7⟩
      cases en with
      | none =>
        simp only [oi]
        repeat tb_rel
        refine me_list_append hfd ?_ (by with_unfolding_all rfl)
        repeat tb_rel
        refine mx_call fn_plus rfl ?_
        repeat tb_rel
        refine get_asm at_ring h2.at_ .head ?_
        repeat tb_rel
        refine MCall.le (plus_ok hr ?_) (by decide)
        repeat tb_rel
        refine ⟨by simp, ?_⟩
        refine ⟨_, hfd, by simp; omega, ?_⟩
        repeat tb_rel
        refine mx_bcall bt_len rfl ?_
        repeat tb_rel
        refine bl_len_bytes (by omega) ?_
        repeat tb_rel
        try dsimp only
        refine tail (fd ++ [((next + p) % r, oc)]) _ _ _ (h2.other nfa nf f0) (by rw [Store.put_ne (Ne.symm nfp)]; exact hp2) ?_ ?_ (by simp) (by simp; omega) ?_
        · rw [Store.put_self, List.map_append]; rfl
        · rw [← he, joinGo, if_neg (by simp)]
        · rw [tot_append, tot_one]; dsimp only; omega
      | some e =>
        simp only [oi]
        repeat tb_rel
        split
        · rename_i hc
          have hc' : e = p := by simpa using hc
          obtain ⟨fd0, lastp, hfd0⟩ : ∃ fd0 x, fd = fd0 ++ [x] := ⟨fd.dropLast, fd.getLast (hen (by simp)), (List.dropLast_concat_getLast (hen (by simp))).symm⟩
          obtain ⟨s, h⟩ := lastp
          subst hfd0
          rw [tot_append, tot_one] at htt
          dsimp only at htt
          have hfd' : σ2 f = some (.lst (fd0.map pv ++ [pv (s, h)])) := by rw [hfd, List.map_append]; rfl
          have hlen' : fd0.length + 1 ≤ i := by simpa using hlen
          repeat tb_rel
          refine sub_last (v := pv (s, h)) hfd' ?_ (by intro _ _; with_unfolding_all rfl)
          repeat tb_rel
          refine (let Q₁ : Unit → List (Option MV) → Store → Prop := _; (?_ : G1 _ _ _ _ _ _ _ _ _ Q₁))
          refine as_tuple (xs := [("seq", _), ("ahead", _)]) (by with_unfolding_all rfl) (okp (.inl rfl) (.inl rfl)) ?_ rfl
          simp only [List.map_cons, List.map_nil, puts]
          repeat tb_rel
          refine op_add_bytes (by omega) ?_
          repeat tb_rel
          refine ⟨by simp, ?_⟩
          repeat tb_rel
          refine op_setlast hfd' (by simp; omega) ?_
          repeat tb_rel
          refine mx_bcall bt_len rfl ?_
          repeat tb_rel
          refine bl_len_bytes (by omega) ?_
          repeat tb_rel
          try dsimp only
          refine tail (fd0 ++ [(s, h ++ oc)]) _ _ _ (h2.other nfa nf f0) (by rw [Store.put_ne (Ne.symm nfp)]; exact hp2) ?_ ?_ (by simp) (by simp; omega) ?_
          · rw [Store.put_self, List.map_append]; rfl
          · rw [← he, joinGo, if_pos (by rw [hc'])]; simp
          · rw [tot_append, tot_one]; simp only [List.length_append]; omega
        · rename_i hc
          have hc' : ¬ e = p := by simpa using hc
          repeat tb_rel
          refine me_list_append hfd ?_ (by with_unfolding_all rfl)
          repeat tb_rel
          refine mx_call fn_plus rfl ?_
          repeat tb_rel
          refine get_asm at_ring h2.at_ .head ?_
          repeat tb_rel
          refine MCall.le (plus_ok hr ?_) (by decide)
          repeat tb_rel
          refine ⟨by simp, ?_⟩
          refine ⟨_, hfd, by simp; omega, ?_⟩
          repeat tb_rel
          refine mx_bcall bt_len rfl ?_
          repeat tb_rel
          refine bl_len_bytes (by omega) ?_
          repeat tb_rel
          try dsimp only
          refine tail (fd ++ [((next + p) % r, oc)]) _ _ _ (h2.other nfa nf f0) (by rw [Store.put_ne (Ne.symm nfp)]; exact hp2) ?_ ?_ (by simp) (by simp; omega) ?_
          · rw [Store.put_self, List.map_append]; rfl
          · rw [← he, joinGo, if_neg (by simpa using hc')]
          · rw [tot_append, tot_one]; dsimp only; omega
    · rintro vals σ3 ⟨fd, en, v1, v2, v3, v4, rfl, h3, hp3, hfd, he, _, _, _⟩
      rw [List.length_map, List.drop_length] at he
      exact ⟨fd, en, v1, v2, v3, v4, by first | rfl | trivial, rfl, h3, hfd, he⟩
  · rintro fl vals σ3 ⟨fd, en, v1, v2, v3, v4, rfl, rfl, h3, hfd, he⟩
    repeat tb_rel
    exact q _ f h3 (by rw [hfd, he]) f0 nf
end
section
variable {b : Base} {σ : Store} {Q : MV → Store → Prop}
theorem cut_le (o : List UInt8) (lo hi : Option Int) : (cut o lo hi).length ≤ o.length := by
  unfold cut
  rw [List.length_take, List.length_drop]
  omega
theorem forgetL_sz {r next : Int} {n : Nat} : ∀ {l : List Piece}, (∀ x ∈ l, x.2.length ≤ n) → ∀ x ∈ forgetL r next l, x.2.length ≤ n
  | [], h => h
  | (s, o) :: l, h => by
    unfold forgetL
    split
    · exact h
    · split
      · intro x hx
        rcases List.mem_cons.mp hx with e | hx
        · rw [e]; exact Nat.le_trans (cut_le _ _ _) (h (s, o) (.head _))
        · exact h x (.tail _ hx)
      · exact forgetL_sz fun x hx => h x (.tail _ hx)
theorem missGo_sz {r next e bg : Int} {oct : List UInt8} {n : Nat} (ho : oct.length ≤ n) : ∀ (l fd : List Piece) (a : Int), (∀ x ∈ fd, x.2.length ≤ n) → (∀ x ∈ (missGo r next e bg oct l fd a).1, x.2.length ≤ n) ∧ (missGo r next e bg oct l fd a).1.length ≤ fd.length + l.length
  | [], fd, a, h => ⟨by simpa [missGo] using h, by simp [missGo]⟩
  | (s, o) :: l, fd, a, h => by
    unfold missGo
    split
    · have := missGo_sz (r := r) (next := next) (e := e) (bg := bg) ho l fd a h
      exact ⟨this.1, by simp; omega⟩
    · split
      · exact ⟨h, by simp⟩
      · split
        · have := missGo_sz (r := r) (next := next) (e := e) (bg := bg) ho l (fd ++ [(a, cut oct (some (a - bg)) (some (off s next r - bg)))]) (off s next r + o.length) (by
            intro x hx
            rcases List.mem_append.mp hx with hx | hx
            · exact h x hx
            · rw [List.mem_singleton.mp hx]; exact Nat.le_trans (cut_le _ _ _) ho)
          exact ⟨this.1, by simp at this ⊢; omega⟩
        · have := missGo_sz (r := r) (next := next) (e := e) (bg := bg) ho l fd (off s next r + o.length) h
          exact ⟨this.1, by simp; omega⟩
theorem missingL_sz {r next bg : Int} {oct : List UInt8} {n : Nat} {l : List Piece} (ho : oct.length ≤ n) : (∀ x ∈ missingL r next bg oct l, x.2.length ≤ n) ∧ (missingL r next bg oct l).length ≤ l.length + 1 := by
  have := missGo_sz (r := r) (next := next) (e := bg + oct.length) (bg := bg) ho l [] bg (by simp)
  unfold missingL
  split
  · refine ⟨fun x hx => ?_, by have := this.2; simp at this ⊢; omega⟩
    rcases List.mem_append.mp hx with hx | hx
    · exact this.1 x hx
    · rw [List.mem_singleton.mp hx]; exact Nat.le_trans (cut_le _ _ _) ho
  · exact ⟨this.1, by have := this.2; simp at this; omega⟩
theorem mergeGo_sz {r next : Int} {n : Nat} : ∀ (l fd rs : List Piece), (∀ x ∈ l, x.2.length ≤ n) → (∀ x ∈ fd, x.2.length ≤ n) → (∀ x ∈ rs, x.2.length ≤ n) →
    (∀ x ∈ (mergeGo r next l fd rs).1, x.2.length ≤ n) ∧ (∀ x ∈ (mergeGo r next l fd rs).2, x.2.length ≤ n) ∧ (mergeGo r next l fd rs).1.length + (mergeGo r next l fd rs).2.length = fd.length + rs.length + l.length
  | [], fd, rs, h1, h2, h3 => ⟨h2, h3, by simp [mergeGo]⟩
  | (s, o) :: l, fd, rs, h1, h2, h3 => by
    unfold mergeGo
    have tk : ∀ x ∈ rs.takeWhile (fun x => decide (x.1 < off s next r)), x.2.length ≤ n := fun x hx => h3 x ((List.takeWhile_sublist _).subset hx)
    have dr : ∀ x ∈ rs.dropWhile (fun x => decide (x.1 < off s next r)), x.2.length ≤ n := fun x hx => h3 x ((List.dropWhile_sublist _).subset hx)
    have len : (rs.takeWhile (fun x => decide (x.1 < off s next r))).length + (rs.dropWhile (fun x => decide (x.1 < off s next r))).length = rs.length := by
      rw [← List.length_append, List.takeWhile_append_dropWhile]
    have := mergeGo_sz (r := r) (next := next) (n := n) l (fd ++ rs.takeWhile (fun x => decide (x.1 < off s next r)) ++ [(off s next r, o)]) (rs.dropWhile (fun x => decide (x.1 < off s next r))) (fun x hx => h1 x (.tail _ hx)) (by
      intro x hx
      rcases List.mem_append.mp hx with hx | hx
      · rcases List.mem_append.mp hx with hx | hx
        · exact h2 x hx
        · exact tk x hx
      · rw [List.mem_singleton.mp hx]; exact h1 (s, o) (.head _)) dr
    refine ⟨this.1, this.2.1, ?_⟩
    have := this.2.2
    simp only [List.length_append, List.length_cons, List.length_nil] at this ⊢
    omega
theorem mergedL_sz {r next : Int} {n : Nat} {fresh l : List Piece} (h1 : ∀ x ∈ l, x.2.length ≤ n) (h2 : ∀ x ∈ fresh, x.2.length ≤ n) : (∀ x ∈ mergedL r next fresh l, x.2.length ≤ n) ∧ (mergedL r next fresh l).length = fresh.length + l.length := by
  have := mergeGo_sz (r := r) (next := next) l [] fresh h1 (by simp) h2
  unfold mergedL
  refine ⟨fun x hx => ?_, by simp only [List.length_append]; have := this.2.2; simp at this; omega⟩
  rcases List.mem_append.mp hx with hx | hx
  · exact this.1 x hx
  · exact this.2.1 x hx
theorem tot_le {n : Nat} : ∀ {l : List Piece}, (∀ x ∈ l, x.2.length ≤ n) → tot l ≤ l.length * n
  | [], _ => by simp [tot]
  | x :: l, h => by
    have := tot_le (n := n) (l := l) fun y hy => h y (.tail _ hy)
    have h1 := h x (.head _)
    rw [tot_cons, List.length_cons, Nat.succ_mul]
    omega
noncomputable def putL (r next seq : Int) (oct : List UInt8) (l : List Piece) : List Piece :=
  let l1 := forgetL r next l
  let fr := if off seq next r < 0 then missingL r next 0 (cut oct (some (0 - off seq next r)) none) l1 else missingL r next (off seq next r) oct l1
  if fr.isEmpty then l1 else joinedL r next (mergedL r next fr l1)
theorem AAt.setNew {σ₀ σ : Store} {a ps f : Addr} {r : Int} {l l' : List MV} (h : AAt σ₀ σ a ps r l) (hf : σ f = some (.lst l')) (f0 : σ₀ f = none) : AAt σ₀ (σ.put a (.ins 134 [some (.int r), some (.ref f)])) a f r l' := by
  have nfa : f ≠ a := fun e => by rw [e, h.at_] at hf; cases hf
  exact ⟨Store.put_self, by rw [Store.put_ne nfa]; exact hf, h.fa, f0, fun y o e => by rw [Store.put_ne fun q => by rw [q, h.fa] at e; cases e]; exact h.keep y o e⟩
theorem put_ok {σ₀ : Store} {a ps : Addr} {r next seq : Int} {oct : List UInt8} {l : List Piece} (hr : 0 < r) (h : AAt σ₀ σ a ps r (l.map pv)) (hz : ∀ x ∈ l, x.2.length ≤ 1000) (hl : l.length ≤ 100) (ho : oct.length ≤ 1000)
    (q : ∀ σ' ps', AAt σ₀ σ' a ps' r ((putL r next seq oct l).map pv) → Q .none σ') : MCall b.W 5 82 [.ref a, .int seq, .bytes oct, .int next] σ Q := by
  refine MCall.enter (ps := ["self", "seq", "octets", "next"]) ["begin", "fresh"] rfl rfl ?_ rfl rfl rfl (by decide +kernel) fun L => ?_
  · walk_at "binds"
  walk_at "norm"
  refine (let e₁ : Env := _; let Q₁ : MFlow → List (Option MV) → Store → Prop := _; (?_ : MG _ _ _ (execs _ e₁) e₁ _ _ _ Q₁))
  repeat tb_rel
  refine me_ins h.at_ me_forget ?_
  repeat tb_rel
  refine MCall.le (forget_ok hr h hz (by omega) fun σ1 h1 => ?_) (by decide)
  have hz1 := forgetL_sz (r := r) (next := next) hz
  have hl1 : (forgetL r next l).length ≤ 100 := Nat.le_trans forgetL_len hl
  repeat tb_rel
  refine me_ins h1.at_ me_offset ?_
  repeat tb_rel
  refine MCall.le (offset_ok hr h1.at_ ?_) (by decide)
  repeat tb_rel
  split
  · rename_i hc
    have hc' : off seq next r < 0 := by simpa using hc
    have ho' : (cut oct (some (0 - off seq next r)) none).length ≤ 1000 := Nat.le_trans (cut_le _ _ _) ho
    have em : putL r next seq oct l = if (missingL r next 0 (cut oct (some (0 - off seq next r)) none) (forgetL r next l)).isEmpty then forgetL r next l else joinedL r next (mergedL r next (missingL r next 0 (cut oct (some (0 - off seq next r)) none) (forgetL r next l)) (forgetL r next l)) := by
      unfold putL; simp only [if_pos hc']
    have ms := missingL_sz (r := r) (next := next) (bg := 0) (oct := cut oct (some (0 - off seq next r)) none) (n := 1000) (l := forgetL r next l) ho'
    repeat tb_rel
    refine sl_bytes (by omega) ?_
    repeat tb_rel
    refine me_ins h1.at_ me_missing ?_
    repeat tb_rel
    refine MCall.le (missing_ok hr h1 hz1 (by omega) ho' fun σ2 f h2 hf f0 nf => ?_) (by decide)
    generalize missingL r next 0 (cut oct (some (0 - off seq next r)) none) (forgetL r next l) = fr at *
    repeat tb_rel
    refine ⟨by decide, fun x hx => ?_⟩
    refine op_ne_nil (l := fr.map pv) (by rw [Store.put_ne (ne_of hx hf)]; exact hf) Store.put_self ?_
    have h3 := h2.fresh (o := .lst []) hx
    have hf3 : (σ2.put x (.lst [])) f = some (.lst (fr.map pv)) := by rw [Store.put_ne (ne_of hx hf)]; exact hf
    repeat tb_rel
    cases fr with
    | nil =>
      simp only [List.map_nil, List.isEmpty_nil, Bool.not_true, Bool.false_eq_true, if_false]
      repeat tb_rel
      exact q _ _ (by rw [em]; exact h3)
    | cons p rest =>
      simp only [List.map_cons, List.isEmpty_cons, Bool.not_false, if_true]
      have mg := mergedL_sz (r := r) (next := next) hz1 ms.1
      repeat tb_rel
      refine me_ins h3.at_ me_joined ?_
      repeat tb_rel
      refine me_ins h3.at_ me_merged ?_
      repeat tb_rel
      refine MCall.le (merged_ok (fresh := p :: rest) hr h3 hf3 hz1 (by omega) (by omega) fun σ4 g h4 hg g0 ng => ?_) (by decide)
      repeat tb_rel
      refine MCall.le (joined_ok (l := mergedL r next (p :: rest) (forgetL r next l)) hr h4 hg (Nat.le_trans (tot_le mg.1) (by rw [mg.2]; have := ms.2; omega)) (by rw [mg.2]; have := ms.2; omega) fun σ5 j h5 hj j0 nj => ?_) (by decide)
      repeat tb_rel
      refine set_asm set_parts h5.at_ (.tail .head) ?_
      repeat tb_rel
      exact q _ _ (by rw [em]; exact h5.setNew hj j0)
  · rename_i hc
    have hc' : ¬ off seq next r < 0 := by simpa using hc
    have em : putL r next seq oct l = if (missingL r next (off seq next r) oct (forgetL r next l)).isEmpty then forgetL r next l else joinedL r next (mergedL r next (missingL r next (off seq next r) oct (forgetL r next l)) (forgetL r next l)) := by
      unfold putL; simp only [if_neg hc']
    have ms := missingL_sz (r := r) (next := next) (bg := off seq next r) (oct := oct) (n := 1000) (l := forgetL r next l) ho
    repeat tb_rel
    refine me_ins h1.at_ me_missing ?_
    repeat tb_rel
    refine MCall.le (missing_ok hr h1 hz1 (by omega) ho fun σ2 f h2 hf f0 nf => ?_) (by decide)
    generalize missingL r next (off seq next r) oct (forgetL r next l) = fr at *
    repeat tb_rel
    refine ⟨by decide, fun x hx => ?_⟩
    refine op_ne_nil (l := fr.map pv) (by rw [Store.put_ne (ne_of hx hf)]; exact hf) Store.put_self ?_
    have h3 := h2.fresh (o := .lst []) hx
    have hf3 : (σ2.put x (.lst [])) f = some (.lst (fr.map pv)) := by rw [Store.put_ne (ne_of hx hf)]; exact hf
    repeat tb_rel
    cases fr with
    | nil =>
      simp only [List.map_nil, List.isEmpty_nil, Bool.not_true, Bool.false_eq_true, if_false]
      repeat tb_rel
      exact q _ _ (by rw [em]; exact h3)
    | cons p rest =>
      simp only [List.map_cons, List.isEmpty_cons, Bool.not_false, if_true]
      have mg := mergedL_sz (r := r) (next := next) hz1 ms.1
      repeat tb_rel
      refine me_ins h3.at_ me_joined ?_
      repeat tb_rel
      refine me_ins h3.at_ me_merged ?_
      repeat tb_rel
      refine MCall.le (merged_ok (fresh := p :: rest) hr h3 hf3 hz1 (by omega) (by omega) fun σ4 g h4 hg g0 ng => ?_) (by decide)
      repeat tb_rel
      refine MCall.le (joined_ok (l := mergedL r next (p :: rest) (forgetL r next l)) hr h4 hg (Nat.le_trans (tot_le mg.1) (by rw [mg.2]; have := ms.2; omega)) (by rw [mg.2]; have := ms.2; omega) fun σ5 j h5 hj j0 nj => ?_) (by decide)
      repeat tb_rel
      refine set_asm set_parts h5.at_ (.tail .head) ?_
      repeat tb_rel
      exact q _ _ (by rw [em]; exact h5.setNew hj j0)
end
section
variable {b : Base} {σ : Store} {Q : MV → Store → Prop}
noncomputable def cutGo (r next edge : Int) : List Piece → List Piece → List Piece
  | [], fd => fd
  | (s, o) :: l, fd => cutGo r next edge l (if cut o none (some (max 0 (off edge next r - off s next r))) = [] then fd else fd ++ [(s, cut o none (some (max 0 (off edge next r - off s next r))))])
theorem bt_max : BtOK b.W "max" (.builtin "max") := ⟨by rfl, by rfl, by decide, by decide⟩
theorem me_cut_behind : MeOK b.W 134 "cut_behind" 131 := me141 (by rfl) (by rfl) (by rfl) (by rfl) (by decide)
theorem cut_behind_ok {σ₀ : Store} {a ps : Addr} {r next edge : Int} {l : List Piece} (hr : 0 < r) (h : AAt σ₀ σ a ps r (l.map pv)) (hz : ∀ x ∈ l, x.2.length ≤ 1000) (hl : l.length ≤ 1000)
    (q : ∀ σ' ps', AAt σ₀ σ' a ps' r ((cutGo r next edge l []).map pv) → Q .none σ') : MCall b.W 4 131 [.ref a, .int edge, .int next] σ Q := by
  refine MCall.enter (ps := ["self", "edge", "next"]) ["most", "found", "seq", "octets", "left"] rfl rfl ?_ rfl rfl rfl (by decide +kernel) fun L => ?_
  · walk_at "binds"
  walk_at "norm"
  refine (let e₁ : Env := _; let Q₁ : MFlow → List (Option MV) → Store → Prop := _; (?_ : MG _ _ _ (execs _ e₁) e₁ _ _ _ Q₁))
  repeat tb_rel
  refine me_ins h.at_ me_offset ?_
  repeat tb_rel
  refine MCall.le (offset_ok hr h.at_ ?_) (by decide)
  repeat tb_rel
  refine ⟨by decide, fun f hf => ?_⟩
  repeat tb_rel
  have h1 := h.fresh (o := .lst []) hf
  have nf : f ≠ ps := fun e => by rw [e, h.lst] at hf; cases hf
  have f0 : σ₀ f = none := h.fresh₀ hf
  refine MG.mono (Q := fun fl vals σ2 => Ex4 fun (fd : List Piece) (v1 : Option MV) (v2 : Option MV) (v3 : Option MV) => And5 (fl = .next) (vals = [some (.ref a), some (.int edge), some (.int next), some (.int (off edge next r)), some (.ref f), v1, v2, v3]) (AAt σ₀ σ2 a ps r (l.map pv)) (σ2 f = some (.lst (fd.map pv))) (fd = cutGo r next edge l [])) ?_ ?_
  · refine (let Q₁ : MFlow → List (Option MV) → Store → Prop := _; (?_ : MG _ _ _ _ _ _ _ _ Q₁))
    refine ms_for rfl ?_
    repeat tb_rel
    refine get_asm at_parts h1.at_ (.tail .head) ?_
    refine ⟨ps, l.map pv, rfl, fun i vals σ => Ex4 fun (fd : List Piece) (v1 : Option MV) (v2 : Option MV) (v3 : Option MV) => And6 (vals = [some (.ref a), some (.int edge), some (.int next), some (.int (off edge next r)), some (.ref f), v1, v2, v3]) (AAt σ₀ σ a ps r (l.map pv)) (σ f = some (.lst (fd.map pv))) (cutGo r next edge (l.drop i) fd = cutGo r next edge l []) (fd.length ≤ i) (i ≤ l.length), ?_, ?_, ?_, ?_⟩
    · exact ⟨[], none, none, none, rfl, h1, Store.put_self, rfl, Nat.le_refl _, Nat.zero_le _⟩
    · rintro i vals σ ⟨fd, v1, v2, v3, _, h2, _⟩
      exact h2.lst
    · rintro i v vals σ2 hv ⟨fd, v1, v2, v3, rfl, h2, hfd, he, hlen, hil⟩
      rw [List.getElem?_map] at hv
      obtain ⟨⟨sq, oc⟩, hp, rfl⟩ := Option.map_eq_some_iff.mp hv
      obtain ⟨hi, hpe⟩ := List.getElem?_eq_some_iff.mp hp
      have hdrop : l.drop i = (sq, oc) :: l.drop (i + 1) := by rw [List.drop_eq_getElem_cons hi, hpe]
      have hzo : oc.length ≤ 1000 := hz (sq, oc) (List.mem_of_getElem? hp)
      rw [hdrop] at he
      refine (let Q₁ : Unit → List (Option MV) → Store → Prop := _; (?_ : G1 _ _ _ _ _ _ _ _ _ Q₁))
      refine as_tuple (xs := [("seq", _), ("octets", _)]) (by with_unfolding_all rfl) (okp (.inl rfl) (.inl rfl)) ?_ rfl
      simp only [List.map_cons, List.map_nil, puts]
      repeat tb_rel
      refine mx_bcall bt_max rfl ?_
      repeat tb_rel
      refine me_ins h2.at_ me_offset ?_
      repeat tb_rel
      refine MCall.le (offset_ok hr h2.at_ ?_) (by decide)
      repeat tb_rel
      refine bl_max ?_
      repeat tb_rel
      refine sl_bytes (by omega) ?_
      repeat tb_rel
      split
      · rename_i hc
        have hc' : ¬ cut oc none (some (max 0 (off edge next r - off sq next r))) = [] := by simpa using hc
        repeat tb_rel
        refine me_list_append hfd ?_ (by with_unfolding_all rfl)
        repeat tb_rel
        refine ⟨by simp, ?_⟩
        refine ⟨_, hfd, by simp; omega, ?_⟩
        repeat tb_rel
        try dsimp only
        have nfa : f ≠ a := fun e => by rw [e, h2.at_] at hfd; cases hfd
        refine ⟨fd ++ [(sq, cut oc none (some (max 0 (off edge next r - off sq next r))))], _, _, _, rfl, h2.other nfa nf f0, ?_, ?_, ?_, by omega⟩
        · rw [Store.put_self, List.map_append]; rfl
        · rw [← he, cutGo, if_neg hc']
        · simp; omega
      · rename_i hc
        have hc' : cut oc none (some (max 0 (off edge next r - off sq next r))) = [] := by simpa using hc
        repeat tb_rel
        try dsimp only
        exact ⟨fd, _, _, _, rfl, h2, hfd, by rw [← he, cutGo, if_pos hc'], by omega, by omega⟩
    · rintro vals σ3 ⟨fd, v1, v2, v3, rfl, h3, hfd, he, hlen, _⟩
      rw [List.length_map] at he
      rw [List.drop_length] at he
      exact ⟨fd, v1, v2, v3, by first | rfl | trivial, by first | rfl | trivial, h3, hfd, by rw [← he, cutGo]⟩
  · rintro fl vals σ3 ⟨fd, v1, v2, v3, rfl, rfl, h3, hfd, he⟩
    repeat tb_rel
    refine set_asm set_parts h3.at_ (.tail .head) ?_
    repeat tb_rel
    exact q _ _ (by rw [← he]; exact h3.setNew hfd f0)
end
section
variable {b : Base} {σ : Store} {Q : MV → Store → Prop}
structure Rec where
  ring : Int
  room : Int
  mss : Int
  next : Int
  told : Int
  ready : List UInt8
  parts : List Piece
  fin : Option Int
  has : Bool
noncomputable abbrev rv (R : Rec) (rd as : Addr) : List (Option MV) := [some (.int R.ring), some (.int R.room), some (.int R.mss), some (.int R.next), some (.ref rd), some (.ref as), some (.int R.told), some (oi R.fin), some (.bool R.has), some .none]
structure RAt (σ₀ σ : Store) (rc rd as ps : Addr) (R : Rec) : Prop where
  rcv : σ rc = some (.ins 268 (rv R rd as))
  rdy : σ rd = some (.bya R.ready)
  asm : AAt σ₀ σ as ps R.ring (R.parts.map pv)
  frc : σ₀ rc = none
  frd : σ₀ rd = none
theorem RAt.keep {σ₀ σ : Store} {rc rd as ps : Addr} {R : Rec} (h : RAt σ₀ σ rc rd as ps R) : ∀ y o, σ₀ y = some o → σ y = some o := h.asm.keep
theorem RAt.fresh {σ₀ σ : Store} {rc rd as ps x : Addr} {R : Rec} {o : MO} (h : RAt σ₀ σ rc rd as ps R) (hx : σ x = none) : RAt σ₀ (σ.put x o) rc rd as ps R :=
  ⟨by rw [Store.put_ne (ne_of hx h.rcv)]; exact h.rcv, by rw [Store.put_ne (ne_of hx h.rdy)]; exact h.rdy, h.asm.fresh hx, h.frc, h.frd⟩
noncomputable def hide (σ : Store) (x y : Addr) : Store := fun z => if z = x ∨ z = y then none else σ z
theorem hide_some {σ : Store} {x y z : Addr} {o : MO} (h : hide σ x y z = some o) : σ z = some o := by
  unfold hide at h; split at h
  · cases h
  · exact h
theorem hide_none {σ : Store} {x y z : Addr} (h : hide σ x y z = none) : z = x ∨ z = y ∨ σ z = none := by
  unfold hide at h; split at h
  · rename_i q; rcases q with q | q
    · exact .inl q
    · exact .inr (.inl q)
  · exact .inr (.inr h)
theorem hide_of {σ : Store} {x y z : Addr} {o : MO} (h : σ z = some o) (h1 : z ≠ x) (h2 : z ≠ y) : hide σ x y z = some o := by
  unfold hide; rw [if_neg (fun q => q.elim h1 h2)]; exact h
theorem RAt.inner {σ₀ σ : Store} {rc rd as ps : Addr} {R : Rec} (h : RAt σ₀ σ rc rd as ps R) : AAt (hide σ as ps) σ as ps R.ring (R.parts.map pv) :=
  ⟨h.asm.at_, h.asm.lst, by simp [hide], by simp [hide], fun y o e => hide_some e⟩
theorem RAt.outer {σ₀ σ σ' : Store} {rc rd as ps ps' : Addr} {R : Rec} {l : List Piece} (h : RAt σ₀ σ rc rd as ps R) (a : AAt (hide σ as ps) σ' as ps' R.ring (l.map pv)) : RAt σ₀ σ' rc rd as ps' { R with parts := l } := by
  have n1 : rc ≠ as := fun e => by have := h.rcv; rw [e, h.asm.at_] at this; cases this
  have n2 : rc ≠ ps := fun e => by have := h.rcv; rw [e, h.asm.lst] at this; cases this
  have n3 : rd ≠ as := fun e => by have := h.rdy; rw [e, h.asm.at_] at this; cases this
  have n4 : rd ≠ ps := fun e => by have := h.rdy; rw [e, h.asm.lst] at this; cases this
  have f0 : σ₀ ps' = none := by
    rcases hide_none a.fp with e | e | e
    · exact absurd e.symm a.ne
    · rw [e]; exact h.asm.fp
    · exact h.asm.fresh₀ e
  refine ⟨a.keep _ _ (hide_of h.rcv n1 n2), a.keep _ _ (hide_of h.rdy n3 n4), ⟨a.at_, a.lst, h.asm.fa, f0, fun y o e => a.keep _ _ (hide_of (h.keep y o e) (fun q => ?_) (fun q => ?_))⟩, h.frc, h.frd⟩
  · rw [q, h.asm.fa] at e; cases e
  · rw [q, h.asm.fp] at e; cases e
theorem RAt.put {σ₀ σ : Store} {rc rd as ps : Addr} {R R' : Rec} (h : RAt σ₀ σ rc rd as ps R) (e1 : R'.ready = R.ready) (e2 : R'.parts = R.parts) (e3 : R'.ring = R.ring) : RAt σ₀ (σ.put rc (.ins 268 (rv R' rd as))) rc rd as ps R' := by
  have n1 : rc ≠ as := fun e => by have := h.rcv; rw [e, h.asm.at_] at this; cases this
  have n2 : rc ≠ ps := fun e => by have := h.rcv; rw [e, h.asm.lst] at this; cases this
  have n3 : rd ≠ rc := fun e => by have := h.rdy; rw [e, h.rcv] at this; cases this
  exact ⟨Store.put_self, by rw [Store.put_ne n3, e1]; exact h.rdy, by rw [e2, e3]; exact h.asm.other n1 n2 h.frc, h.frc, h.frd⟩
theorem RAt.putReady {σ₀ σ : Store} {rc rd as ps : Addr} {R : Rec} {y : List UInt8} (h : RAt σ₀ σ rc rd as ps R) : RAt σ₀ (σ.put rd (.bya y)) rc rd as ps { R with ready := y } := by
  have n3 : rd ≠ as := fun e => by have := h.rdy; rw [e, h.asm.at_] at this; cases this
  have n4 : rd ≠ ps := fun e => by have := h.rdy; rw [e, h.asm.lst] at this; cases this
  have n5 : rc ≠ rd := fun e => by have := h.rcv; rw [e, h.rdy] at this; cases this
  exact ⟨by rw [Store.put_ne n5]; exact h.rcv, Store.put_self, h.asm.other n3 n4 h.frd, h.frc, h.frd⟩
theorem at275 {b : Base} {x : Str} (h : findIn b.W.K (.ref 268) x = some none) : AtOK b.W 268 x := ⟨by rfl, by rfl, h⟩
section
variable {k : Nat} {env : Env} {ns : List Str} {vals : List (Option MV)} {rc rd as : Addr} {R : Rec}
theorem g_ring (hx : σ rc = some (.ins 268 (rv R rd as))) (q : Q (.int R.ring) σ) : M1 RV b.W k (fun o => getAttr o "ring" true) (.ref rc) env ns vals σ Q := get_rcv (at275 (by rfl)) hx .head q
theorem g_room (hx : σ rc = some (.ins 268 (rv R rd as))) (q : Q (.int R.room) σ) : M1 RV b.W k (fun o => getAttr o "room" true) (.ref rc) env ns vals σ Q := get_rcv (at275 (by rfl)) hx (.tail .head) q
theorem g_mss (hx : σ rc = some (.ins 268 (rv R rd as))) (q : Q (.int R.mss) σ) : M1 RV b.W k (fun o => getAttr o "mss" true) (.ref rc) env ns vals σ Q := get_rcv (at275 (by rfl)) hx (.tail (.tail .head)) q
theorem g_next (hx : σ rc = some (.ins 268 (rv R rd as))) (q : Q (.int R.next) σ) : M1 RV b.W k (fun o => getAttr o "next" true) (.ref rc) env ns vals σ Q := get_rcv (at275 (by rfl)) hx (.tail (.tail (.tail .head))) q
theorem g_ready (hx : σ rc = some (.ins 268 (rv R rd as))) (q : Q (.ref rd) σ) : M1 RV b.W k (fun o => getAttr o "ready" true) (.ref rc) env ns vals σ Q := get_rcv (at275 (by rfl)) hx (.tail (.tail (.tail (.tail .head)))) q
theorem g_assembly (hx : σ rc = some (.ins 268 (rv R rd as))) (q : Q (.ref as) σ) : M1 RV b.W k (fun o => getAttr o "assembly" true) (.ref rc) env ns vals σ Q := get_rcv (at275 (by rfl)) hx (.tail (.tail (.tail (.tail (.tail .head))))) q
theorem g_told (hx : σ rc = some (.ins 268 (rv R rd as))) (q : Q (.int R.told) σ) : M1 RV b.W k (fun o => getAttr o "told_edge" true) (.ref rc) env ns vals σ Q := get_rcv (at275 (by rfl)) hx (.tail (.tail (.tail (.tail (.tail (.tail .head)))))) q
theorem g_fin (hx : σ rc = some (.ins 268 (rv R rd as))) (q : Q (oi R.fin) σ) : M1 RV b.W k (fun o => getAttr o "fin_at" true) (.ref rc) env ns vals σ Q := get_rcv (at275 (by rfl)) hx (.tail (.tail (.tail (.tail (.tail (.tail (.tail .head))))))) q
theorem g_has (hx : σ rc = some (.ins 268 (rv R rd as))) (q : Q (.bool R.has) σ) : M1 RV b.W k (fun o => getAttr o "has_fin" true) (.ref rc) env ns vals σ Q := get_rcv (at275 (by rfl)) hx (.tail (.tail (.tail (.tail (.tail (.tail (.tail (.tail .head)))))))) q
variable {QU : Unit → Store → Prop}
theorem s_next {i : Int} (hx : σ rc = some (.ins 268 (rv R rd as))) (q : QU () (σ.put rc (.ins 268 (rv { R with next := i } rd as)))) : M2 RU b.W k (fun a b => setAttr a "next" b) (.ref rc) (.int i) env ns vals σ QU := set_rcv ⟨by rfl, by rfl, by rfl, by rfl⟩ hx (.tail (.tail (.tail .head))) q
theorem s_fin {i : Int} (hx : σ rc = some (.ins 268 (rv R rd as))) (q : QU () (σ.put rc (.ins 268 (rv { R with fin := some i } rd as)))) : M2 RU b.W k (fun a b => setAttr a "fin_at" b) (.ref rc) (.int i) env ns vals σ QU := set_rcv ⟨by rfl, by rfl, by rfl, by rfl⟩ hx (.tail (.tail (.tail (.tail (.tail (.tail (.tail .head))))))) q
theorem s_has {i : Bool} (hx : σ rc = some (.ins 268 (rv R rd as))) (q : QU () (σ.put rc (.ins 268 (rv { R with has := i } rd as)))) : M2 RU b.W k (fun a b => setAttr a "has_fin" b) (.ref rc) (.bool i) env ns vals σ QU := set_rcv ⟨by rfl, by rfl, by rfl, by rfl⟩ hx (.tail (.tail (.tail (.tail (.tail (.tail (.tail (.tail .head)))))))) q
end
end
local macro_rules | `(tactic| tb_start) => `(tactic| first
  | kbo_bools
  | ((with_reducible refine' g_ring ?side1 ?_); (case side1 => first | assumption | exact RAt.rcv (by assumption)))
  | ((with_reducible refine' g_room ?side1 ?_); (case side1 => first | assumption | exact RAt.rcv (by assumption)))
  | ((with_reducible refine' g_mss ?side1 ?_); (case side1 => first | assumption | exact RAt.rcv (by assumption)))
  | ((with_reducible refine' g_next ?side1 ?_); (case side1 => first | assumption | exact RAt.rcv (by assumption)))
  | ((with_reducible refine' g_ready ?side1 ?_); (case side1 => first | assumption | exact RAt.rcv (by assumption)))
  | ((with_reducible refine' g_assembly ?side1 ?_); (case side1 => first | assumption | exact RAt.rcv (by assumption)))
  | ((with_reducible refine' g_told ?side1 ?_); (case side1 => first | assumption | exact RAt.rcv (by assumption)))
  | ((with_reducible refine' g_fin ?side1 ?_); (case side1 => first | assumption | exact RAt.rcv (by assumption)))
  | ((with_reducible refine' g_has ?side1 ?_); (case side1 => first | assumption | exact RAt.rcv (by assumption))))

section
variable {b : Base} {σ σ₀ : Store} {Q : MV → Store → Prop} {rc rd as ps : Addr} {R : Rec}
theorem me_note_fin : MeOK b.W 268 "note_fin" 202 := me275 (by rfl) (by rfl) (by rfl) (by rfl) (by decide)
theorem me_gather : MeOK b.W 268 "gather" 216 := me275 (by rfl) (by rfl) (by rfl) (by rfl) (by decide)
theorem bt_bytes : BtOK b.W "bytes" (.type "bytes") := ⟨by rfl, by rfl, by decide, by decide⟩
theorem bt_bytearray : BtOK b.W "bytearray" (.type "bytearray") := ⟨by rfl, by rfl, by decide, by decide⟩

noncomputable def noteR (R : Rec) (place : Int) : Rec := if R.fin = none ∧ before place R.next R.ring = false then { R with fin := some place, parts := cutGo R.ring R.next place R.parts [] } else R
theorem note_fin_ok {place : Int} (h : RAt σ₀ σ rc rd as ps R) (hr : 0 < R.ring) (hz : ∀ x ∈ R.parts, x.2.length ≤ 1000) (hl : R.parts.length ≤ 1000) (q : ∀ σ' ps', RAt σ₀ σ' rc rd as ps' (noteR R place) → Q .none σ') : MCall b.W 5 202 [.ref rc, .int place] σ Q := by
  refine MCall.enter (ps := ["self", "place"]) [] rfl rfl ?_ rfl rfl rfl (by decide +kernel) fun L => ?_
  · walk_at "binds"
  walk_at "norm"
  refine (let e₁ : Env := _; let Q₁ : MFlow → List (Option MV) → Store → Prop := _; (?_ : MG _ _ _ (execs _ e₁) e₁ _ _ _ Q₁))
  refine ms_cons ?_
  repeat tb_start
  cases hf : R.fin with
  | some f =>
    have e : noteR R place = R := by rw [noteR, if_neg (by rw [hf]; simp)]
    simp only [oi, MV.isNone, Bool.false_eq_true, if_false]
    repeat (first | tb_start | refine ms_cons ?_)
    exact q _ _ (by rw [e]; exact h)
  | none =>
    simp only [oi, MV.isNone, if_true]
    repeat tb_start
    refine mx_call fn_is_before rfl ?_
    repeat tb_start
    refine MCall.le (is_before_ok hr ?_) (by decide)
    repeat tb_start
    cases hd : before place R.next R.ring
    · simp only [Bool.not_false, if_true]
      have e : noteR R place = { R with fin := some place, parts := cutGo R.ring R.next place R.parts [] } := by rw [noteR, if_pos ⟨hf, hd⟩]
      repeat (first | tb_start | refine ms_cons ?_)
      refine s_fin h.rcv ?_
      have h1 : RAt σ₀ (σ.put rc (.ins 268 (rv { R with fin := some place } rd as))) rc rd as ps { R with fin := some place } := h.put rfl rfl rfl
      repeat (first | tb_start | refine ms_cons ?_)
      refine me_ins h1.asm.at_ me_cut_behind ?_
      repeat (first | tb_start | refine ms_cons ?_)
      refine cut_behind_ok hr h1.inner hz hl fun σ2 ps2 h2 => ?_
      repeat (first | tb_start | refine ms_cons ?_)
      exact q _ _ (by rw [e]; exact h1.outer h2)
    · simp only [Bool.not_true, Bool.false_eq_true, if_false]
      have e : noteR R place = R := by rw [noteR, if_neg (by rw [hd]; simp)]
      repeat (first | tb_start | refine ms_cons ?_)
      exact q _ _ (by rw [e]; exact h)
end
section
variable {b : Base} {σ σ₀ : Store} {Q : MV → Store → Prop} {rc rd as ps : Addr} {R : Rec}
noncomputable def taken (R : Rec) : List UInt8 := if R.has = true then [] else (takeL R.next (forgetL R.ring R.next R.parts)).1
noncomputable def leftP (R : Rec) : List Piece := if R.has = true then R.parts else (takeL R.next (forgetL R.ring R.next R.parts)).2
noncomputable def takeR (R : Rec) : Rec := { R with parts := leftP R, ready := R.ready ++ taken R, next := (R.next + (taken R).length) % R.ring }
noncomputable def endR (R : Rec) : Rec := if R.fin = some R.next ∧ R.has = false then { R with has := true, next := (R.next + 1) % R.ring } else R
noncomputable def gatherR (R : Rec) : Rec := endR (takeR R)
theorem takeL_sz {next : Int} {n : Nat} : ∀ {l : List Piece}, (∀ x ∈ l, x.2.length ≤ n) → (takeL next l).1.length ≤ n
  | [], _ => Nat.zero_le _
  | (s, o) :: l, h => by
    by_cases e : s = next
    · rw [takeL, if_pos e]; exact h (s, o) (.head _)
    · rw [takeL, if_neg e]; exact Nat.zero_le _
theorem taken_sz {R : Rec} {n : Nat} (h : ∀ x ∈ R.parts, x.2.length ≤ n) : (taken R).length ≤ n := by
  unfold taken; split
  · simp
  · exact takeL_sz (forgetL_sz h)
theorem gather_ok (h : RAt σ₀ σ rc rd as ps R) (hr : 0 < R.ring) (hz : ∀ x ∈ R.parts, x.2.length ≤ 1000) (hl : R.parts.length ≤ 1000) (hy : R.ready.length ≤ 1000)
    (q : ∀ σ', RAt σ₀ σ' rc rd as ps (gatherR R) → Q (.int (taken R).length) σ') : MCall b.W 6 216 [.ref rc] σ Q := by
  have ht := taken_sz hz
  refine MCall.enter (ps := ["self"]) ["fresh"] rfl rfl ?_ rfl rfl rfl (by decide +kernel) fun L => ?_
  · walk_at "binds"
  walk_at "norm"
  refine (let e₁ : Env := _; let Q₁ : MFlow → List (Option MV) → Store → Prop := _; (?_ : MG _ _ _ (execs _ e₁) e₁ _ _ _ Q₁))
  refine ms_cons ?_
  repeat tb_start
  refine ms_cons ?_
  refine MG.mono (Q := fun fl vals σ1 => fl = .next ∧ vals = [some (.ref rc), some (.bytes (taken R))] ∧ RAt σ₀ σ1 rc rd as ps { R with parts := leftP R }) ?_ ?_
  · refine (let Q₁ : MFlow → List (Option MV) → Store → Prop := _; (?_ : MG _ _ _ _ _ _ _ _ Q₁))
    repeat tb_start
    cases hh : R.has
    · simp only [Bool.not_false, if_true]
      repeat (first | tb_start | refine ms_cons ?_)
      refine me_ins h.asm.at_ me_take ?_
      repeat tb_start
      refine take_ok hr h.inner hz hl fun σ1 h1 => ?_
      repeat (first | tb_start | refine ms_cons ?_)
      refine ⟨by first | rfl | trivial, by rw [taken, hh]; rfl, ?_⟩
      have e : leftP R = (takeL R.next (forgetL R.ring R.next R.parts)).2 := by rw [leftP, if_neg (by rw [hh]; decide)]
      have := h.outer h1
      rw [← e] at this; first | exact this | exact hh ▸ this
    · simp only [Bool.not_true, Bool.false_eq_true, if_false]
      repeat (first | tb_start | refine ms_cons ?_)
      refine ⟨by first | rfl | trivial, by rw [taken, hh]; rfl, ?_⟩
      have e : leftP R = R.parts := by rw [leftP, if_pos hh]
      rw [e]; first | exact h | exact hh ▸ h
  rintro fl vals σ1 ⟨rfl, rfl, h1⟩
  repeat tb_start
  refine ms_cons ?_
  repeat tb_start
  refine me_extend h1.rdy ?_
  repeat tb_start
  refine ⟨_, _, rfl, h1.rdy, by simp; omega, ?_⟩
  have h2 := h1.putReady (y := R.ready ++ taken R)
  repeat tb_start
  refine ms_cons ?_
  repeat tb_start
  refine mx_call fn_plus rfl ?_
  repeat tb_start
  refine mx_bcall bt_len rfl ?_
  repeat tb_start
  refine bl_len_bytes (by omega) ?_
  repeat tb_start
  refine MCall.le (plus_ok hr ?_) (by decide)
  repeat tb_start
  refine s_next h2.rcv ?_
  have h3 : RAt σ₀ _ rc rd as ps { R with parts := leftP R, ready := R.ready ++ taken R, next := (R.next + (taken R).length) % R.ring } := h2.put rfl rfl rfl
  have ef : (takeR R).fin = R.fin := rfl
  have eh : (takeR R).has = R.has := rfl
  have en : (takeR R).next = (R.next + (taken R).length) % R.ring := rfl
  repeat tb_start
  refine ms_cons ?_
  refine MG.mono (Q := fun fl vals σ4 => fl = .next ∧ vals = [some (.ref rc), some (.bytes (taken R))] ∧ RAt σ₀ σ4 rc rd as ps (endR (takeR R))) ?_ ?_
  · refine (let Q₁ : MFlow → List (Option MV) → Store → Prop := _; (?_ : MG _ _ _ _ _ _ _ _ Q₁))
    repeat tb_start
    cases hf : R.fin with
    | none =>
      rw [hf] at h3
      simp only [oi]
      repeat tb_start
      exact ⟨by first | rfl | trivial, by first | rfl | trivial, by rw [endR, if_neg (by rw [ef, hf]; simp), takeR, hf]; exact h3⟩
    | some f =>
      rw [hf] at h3
      simp only [oi]
      repeat tb_start
      split
      · rename_i hc
        have hc' : f = (R.next + (taken R).length) % R.ring := by simpa using hc
        repeat tb_start
        cases hh : R.has
        · rw [hh] at h3
          simp only [Bool.not_false, if_true]
          have e : endR (takeR R) = { takeR R with has := true, next := ((takeR R).next + 1) % (takeR R).ring } := by rw [endR, if_pos ⟨by rw [ef, hf, hc', en], by rw [eh, hh]⟩]
          repeat tb_start
          refine ms_cons ?_
          repeat tb_start
          refine s_has h3.rcv ?_
          have h4 : RAt σ₀ _ rc rd as ps { R with parts := leftP R, ready := R.ready ++ taken R, next := (R.next + (taken R).length) % R.ring, fin := some f, has := true } := h3.put rfl rfl rfl
          repeat tb_start
          refine ms_cons ?_
          repeat tb_start
          refine mx_call fn_plus rfl ?_
          repeat tb_start
          refine MCall.le (plus_ok hr ?_) (by decide)
          repeat tb_start
          refine s_next h4.rcv ?_
          have h5 : RAt σ₀ _ rc rd as ps { R with parts := leftP R, ready := R.ready ++ taken R, fin := some f, has := true, next := ((R.next + (taken R).length) % R.ring + 1) % R.ring } := h4.put rfl rfl rfl
          repeat tb_start
          exact ⟨by first | rfl | trivial, by first | rfl | trivial, by rw [e]; simp only [takeR, hf]; exact h5⟩
        · rw [hh] at h3
          simp only [Bool.not_true, Bool.false_eq_true, if_false]
          repeat tb_start
          exact ⟨by first | rfl | trivial, by first | rfl | trivial, by rw [endR, if_neg (by rw [eh, hh]; simp), takeR, hf, hh]; exact h3⟩
      · rename_i hc
        have hc' : ¬ f = (R.next + (taken R).length) % R.ring := by simpa using hc
        repeat tb_start
        exact ⟨by first | rfl | trivial, by first | rfl | trivial, by rw [endR, if_neg (by rw [ef, hf, en]; simpa using fun e => absurd e hc'), takeR, hf]; exact h3⟩
  rintro fl vals σ4 ⟨rfl, rfl, h4⟩
  repeat tb_start
  refine ms_cons ?_
  repeat tb_start
  refine mx_bcall bt_len rfl ?_
  repeat tb_start
  refine bl_len_bytes (by omega) ?_
  repeat tb_start
  exact q _ h4
end
section
variable {b : Base} {σ σ₀ : Store} {Q : MV → Store → Prop} {rc rd as ps : Addr} {R : Rec}
theorem noteR_ring {p : Int} : (noteR R p).ring = R.ring := by unfold noteR; split <;> rfl
end
section
variable {b : Base} {σ σ₀ : Store} {Q : MV → Store → Prop} {rc rd as ps : Addr} {R : Rec}
theorem Store.keep_put {σ τ : Store} {x : Addr} {o : MO} (k : ∀ y o, σ y = some o → τ y = some o) (h : σ x = none) : ∀ y o', σ y = some o' → (τ.put x o) y = some o' := fun y o' e => by
  rw [Store.put_ne (fun q => by rw [q, h] at e; cases e)]; exact k y o' e
theorem none_of_keep {σ τ : Store} {x : Addr} (k : ∀ y o, σ y = some o → τ y = some o) (h : τ x = none) : σ x = none := by
  cases q : σ x with
  | none => rfl
  | some o => rw [k _ _ q] at h; cases h
theorem assembly_ok' {r : Int} (q : ∀ σ' a p, AAt σ σ' a p r [] → Q (.ref a) σ') : MCall b.W 3 134 [.int r] σ Q := by
  refine assembly_ok fun x p hx hp hpx => q _ _ _ ⟨Store.put_self, by rw [Store.put_ne hpx, Store.put_self], hx, hp, ?_⟩
  exact Store.keep_put (Store.keep_put (Store.keep_put (Store.keep_put (fun _ _ e => e) hx) hx) hp) hx
theorem fn_Assembly : FnOK b.W "Assembly" 134 := ⟨by rfl, by rfl, by decide⟩
theorem fn_Receiver : FnOK b.W "Receiver" 268 := ⟨by rfl, by rfl, by decide⟩
noncomputable def newR (irs ring room : Int) : Rec := { ring := ring, room := room, mss := 1, next := (irs + 1) % ring, told := ((irs + 1) % ring + room) % ring, ready := [], parts := [], fin := none, has := false }
theorem receiver_ok {irs ring room : Int} (hr : 0 < ring) (q : ∀ σ' rc rd as ps, RAt σ σ' rc rd as ps (newR irs ring room) → Q (.ref rc) σ') : MCall b.W 6 268 [.int irs, .int ring, .int room] σ Q := by
  refine MCall.make (f := 153) ⟨by rfl, by rfl, by rfl⟩ (blank := [none, none, none, none, none, none, none, none, none, none]) rfl fun x hx => ?_
  refine MCall.enter_d (ps := ["self", "irs", "ring", "room", "mss"]) (rest := []) (dm := [.int 1]) (dv := [.int 1 396]) rfl rfl (fun s vs X hv => ?_) (fun φ => .cons (.int 1 _) .nil) rfl (by decide +kernel) fun L => ?_
  · obtain ⟨v1, v2, v3, v4, hq⟩ := len4 hv
    subst hq
    exact binds_K X rfl (by rfl) rfl rfl rfl
  walk_at "norm"
  refine (let e₁ : Env := _; let Q₁ : MFlow → List (Option MV) → Store → Prop := _; (?_ : MG _ _ _ (execs _ e₁) e₁ _ _ _ Q₁))
  refine ms_cons ?_
  repeat tb_start
  refine set_rcv ⟨by rfl, by rfl, by rfl, by rfl⟩ Store.put_self (by krn_off) ?_
  repeat tb_start
  refine ms_cons ?_
  repeat tb_start
  refine set_rcv ⟨by rfl, by rfl, by rfl, by rfl⟩ Store.put_self (by krn_off) ?_
  repeat tb_start
  refine ms_cons ?_
  repeat tb_start
  refine set_rcv ⟨by rfl, by rfl, by rfl, by rfl⟩ Store.put_self (by krn_off) ?_
  repeat tb_start
  refine ms_cons ?_
  repeat tb_start
  refine mx_call fn_plus rfl ?_
  repeat tb_start
  refine MCall.le (plus_ok hr ?_) (by decide)
  repeat tb_start
  refine set_rcv ⟨by rfl, by rfl, by rfl, by rfl⟩ Store.put_self (by krn_off) ?_
  repeat tb_start
  refine ms_cons ?_
  repeat tb_start
  refine mx_tcall0 bt_bytearray rfl ?_
  refine ty_bytearray fun d hd => ?_
  have k0 := Store.keep_put (o := .ins 268 [none, none, none, none, none, none, none, none, none, none]) (fun _ _ e => e) hx
  have k1 := Store.keep_put (o := .ins 268 [some (.int ring), none, none, none, none, none, none, none, none, none]) k0 hx
  have k2 := Store.keep_put (o := .ins 268 [some (.int ring), some (.int room), none, none, none, none, none, none, none, none]) k1 hx
  have k3 := Store.keep_put (o := .ins 268 [some (.int ring), some (.int room), some (.int 1), none, none, none, none, none, none, none]) k2 hx
  have k4 := Store.keep_put (o := .ins 268 [some (.int ring), some (.int room), some (.int 1), some (.int ((irs + 1) % ring)), none, none, none, none, none, none]) k3 hx
  have hd0 := none_of_keep k4 hd
  have k5 := Store.keep_put (o := .bya []) k4 hd0
  have ndx : d ≠ x := fun e => by rw [e, Store.put_self] at hd; cases hd
  repeat tb_start
  refine set_rcv ⟨by rfl, by rfl, by rfl, by rfl⟩ (by rw [Store.put_ne (Ne.symm ndx), Store.put_self]) (by krn_off) ?_
  have k6 := Store.keep_put (o := .ins 268 [some (.int ring), some (.int room), some (.int 1), some (.int ((irs + 1) % ring)), some (.ref d), none, none, none, none, none]) k5 hx
  repeat tb_start
  refine ms_cons ?_
  repeat tb_start
  refine mx_call fn_Assembly rfl ?_
  repeat tb_start
  refine MCall.le (assembly_ok' fun σ1 a p h1 => ?_) (by decide)
  have k7 : ∀ y o, σ y = some o → σ1 y = some o := fun y o e => h1.keep _ _ (k6 y o e)
  have x1 := h1.keep x _ Store.put_self
  have d1 := h1.keep d (.bya []) (by rw [Store.put_ne ndx, Store.put_self])
  have na : a ≠ x := fun e => by have := h1.fa; rw [e, Store.put_self] at this; cases this
  have np : p ≠ x := fun e => by have := h1.fp; rw [e, Store.put_self] at this; cases this
  have a0 := none_of_keep k6 h1.fa
  have p0 := none_of_keep k6 h1.fp
  repeat tb_start
  refine set_rcv ⟨by rfl, by rfl, by rfl, by rfl⟩ x1 (by krn_off) ?_
  repeat tb_start
  refine ms_cons ?_
  repeat tb_start
  refine mx_call fn_plus rfl ?_
  repeat tb_start
  refine get_rcv (at275 (by rfl)) Store.put_self (.tail (.tail (.tail .head))) ?_
  repeat tb_start
  refine MCall.le (plus_ok hr ?_) (by decide)
  repeat tb_start
  refine set_rcv ⟨by rfl, by rfl, by rfl, by rfl⟩ Store.put_self (by krn_off) ?_
  repeat tb_start
  refine ms_cons ?_
  repeat tb_start
  refine set_rcv ⟨by rfl, by rfl, by rfl, by rfl⟩ Store.put_self (by krn_off) ?_
  repeat tb_start
  refine ms_cons ?_
  repeat tb_start
  refine set_rcv ⟨by rfl, by rfl, by rfl, by rfl⟩ Store.put_self (by krn_off) ?_
  repeat tb_start
  refine ms_cons ?_
  repeat tb_start
  refine set_rcv ⟨by rfl, by rfl, by rfl, by rfl⟩ Store.put_self (by krn_off) ?_
  repeat tb_start
  refine ⟨rfl, q _ x d a p ?_⟩
  have A : AAt σ σ1 a p ring [] := ⟨h1.at_, h1.lst, a0, p0, k7⟩
  have A1 : ∀ {τ : Store} {o : MO}, AAt σ τ a p ring [] → AAt σ (τ.put x o) a p ring [] := fun h => h.other (Ne.symm na) (Ne.symm np) hx
  exact ⟨Store.put_self, by rw [Store.put_ne ndx, Store.put_ne ndx, Store.put_ne ndx, Store.put_ne ndx, Store.put_ne ndx]; exact d1, A1 (A1 (A1 (A1 (A1 A)))), hx, hd0⟩
end
section
variable {b : Base} {σ σ₀ : Store} {Q : MV → Store → Prop} {rc rd as ps : Addr} {R : Rec}
theorem fn_pool : FnOK b.W "_law_pool" 279 := ⟨by rfl, by rfl, by decide⟩
theorem fn_take : FnOK b.W "_law_take" 286 := ⟨by rfl, by rfl, by decide⟩
theorem fn_one : FnOK b.W "_law_one" 293 := ⟨by rfl, by rfl, by decide⟩
theorem bt_int : BtOK b.W "int" (.type "int") := ⟨by rfl, by rfl, by decide, by decide⟩
noncomputable abbrev srcO (A B : Int) : MO := .lst [.int A, .int B]
structure Drawn (A B : Int) : Prop where
  a : 0 ≤ A
  b0 : 0 ≤ B
  b1 : B < 2147483647
theorem take_ok' {x : Addr} {A B top : Int} (h : σ x = some (srcO A B)) (hd : Drawn A B) (ht : 0 < top)
    (q : ∀ A' B' d, Drawn A' B' → 0 ≤ d → d < top → Q (.int d) (σ.put x (srcO A' B'))) : MCall b.W 1 286 [.ref x, .int top] σ Q := by
  obtain ⟨ha, hb0, hb1⟩ := hd
  refine MCall.enter (ps := ["source", "top"]) ["drawn"] rfl rfl ?_ rfl rfl rfl (by decide +kernel) fun L => ?_
  · walk_at "binds"
  walk_at "norm"
  refine (let e₁ : Env := _; let Q₁ : MFlow → List (Option MV) → Store → Prop := _; (?_ : MG _ _ _ (execs _ e₁) e₁ _ _ _ Q₁))
  refine ms_cons ?_
  repeat tb_rel
  refine sub_list (v := .int A) h (by decide) (by decide) (by rfl) ?_ (by intro _ _; with_unfolding_all rfl)
  repeat tb_rel
  split
  · rename_i hc
    have hc' : 0 < A := by simpa using hc
    repeat tb_rel
    refine sub_list (v := .int A) h (by decide) (by decide) (by rfl) ?_ (by intro _ _; with_unfolding_all rfl)
    repeat tb_rel
    refine sub_list (v := .int A) h (by decide) (by decide) (by rfl) ?_ (by intro _ _; with_unfolding_all rfl)
    repeat tb_rel
    refine op_setitem h (by decide) (by simp) (by simp) ?_
    repeat tb_rel
    exact q (A / top) B (A % top) ⟨Int.ediv_nonneg ha (by omega), hb0, hb1⟩ (Int.emod_nonneg _ (by omega)) (Int.emod_lt_of_pos _ ht)
  · rename_i hc
    have m0 := Int.emod_nonneg (B * 39373 + 7) (b := 2147483647) (by decide)
    have m1 := Int.emod_lt_of_pos (B * 39373 + 7) (b := 2147483647) (by decide)
    repeat tb_rel
    refine sub_list (v := .int B) h (by decide) (by decide) (by rfl) ?_ (by intro _ _; with_unfolding_all rfl)
    repeat tb_rel
    refine op_setitem h (by decide) (by simp) (by simp) ?_
    generalize hB : (B * 39373 + 7) % 2147483647 = B' at *
    have h1 : (σ.put x (.lst (List.set [MV.int A, .int B] (1 : Int).toNat (.int B')))) x = some (srcO A B') := Store.put_self
    repeat tb_rel
    refine sub_list (v := .int B') h1 (by decide) (by decide) (by rfl) ?_ (by intro _ _; with_unfolding_all rfl)
    repeat tb_rel
    refine sub_list (v := .int B') h1 (by decide) (by decide) (by rfl) ?_ (by intro _ _; with_unfolding_all rfl)
    repeat tb_rel
    exact q A B' _ ⟨ha, m0, m1⟩ (Int.emod_nonneg _ (by omega)) (Int.emod_lt_of_pos _ ht)
noncomputable def Script (W : Wd) (a : Addr) (l : List Int) : Prop := ∃ vs, W.g₀.IsList a vs ∧ ∀ φ, RVs φ (l.map .int) vs.toList
section
variable {W : Wd} {k : Nat} {env : Env} {ns : List Str} {vals : List (Option MV)} {σ : Store} {Q : MV → Store → Prop} {a : Addr} {l : List Int}
theorem IsList.up {h h' : Heap} {a : Addr} {vs : Array Value} (L : h.IsList a vs) (k : ∀ b o, h.get? b = some o → h'.get? b = some o) : h'.IsList a vs := by
  obtain ⟨o, e, r⟩ := L; exact ⟨o, k _ _ e, r⟩
theorem bl_len_script (ha : Script W a l) (hl : l.length ≤ 1000000) (q : Q (.int l.length) σ) : MN RV W k (fun ws => call (.builtin "len") ws) [.ref a] env ns vals σ Q := fun A φ δ s ws hA F r => by
  show wpC _ _ (call (.builtin "len") ws) _ _ _
  obtain ⟨w, rfl, q1⟩ := r.one; cases q1
  obtain ⟨vs, L0, rv⟩ := ha
  have L := IsList.up L0 F.base
  have hsz : vs.size = l.length := by simpa using (rv φ).length.symm
  refine wpC.of (Calls.call_len_list L (by omega) ?_)
  rw [hsz]
  exact PE.here (RV.int _ _) (F.toks _) q
theorem sub_script {value slice : Expr} {i : Int} {v : Int} (ha : Script W a l) (h0 : 0 ≤ i) (hb : i < 2 ^ 63) (hv : l[i.toNat]? = some v) (q : Q (.int v) σ)
    (hs : ∀ o i, subscripted slice false o i = operate [o, i] (getItem o i)) : M2 RV W k (subscriptTail value slice) (.ref a) (.int i) env ns vals σ Q := fun A φ δ s w u hA F r r' => by
  cases r; cases r'
  obtain ⟨vs, L0, rv⟩ := ha
  have L := IsList.up L0 F.base
  obtain ⟨w, hw, rw'⟩ := (rv φ).get i.toNat (.int v) (by rw [List.getElem?_map, hv]; rfl)
  exact wpC.of (tail_any L.typeIs slot_list_getitem.lookup (wpAny_getItem_list L h0 hb (by simpa using hw) (PE.here rw' F q)) (hs _ _))
end
theorem pool_ok {sc : Addr} {l : List Int} (h : Script b.W sc l) (hl : l.length ≤ 1000)
    (q : ∀ x A B, Drawn A B → σ x = none → Q (.ref x) (σ.put x (srcO A B))) : MCall b.W 1 279 [.ref sc, .int 0] σ Q := by
  refine MCall.enter (ps := ["script", "k"]) ["cell", "great", "mixed"] rfl rfl ?_ rfl rfl rfl (by decide +kernel) fun L => ?_
  · walk_at "binds"
  walk_at "norm"
  refine (let e₁ : Env := _; let Q₁ : MFlow → List (Option MV) → Store → Prop := _; (?_ : MG _ _ _ (execs _ e₁) e₁ _ _ _ Q₁))
  refine ms_cons ?_
  refine MG.mono (Q := fun fl vals σ1 => fl = .next ∧ (∃ c : Int, vals = [some (.ref sc), some (.int 0), some (.int c), none, none]) ∧ σ1 = σ) ?_ ?_
  · refine (let Q₁ : MFlow → List (Option MV) → Store → Prop := _; (?_ : MG _ _ _ _ _ _ _ _ Q₁))
    repeat kbo_bools
    refine mx_bcall bt_len rfl ?_
    repeat kbo_bools
    refine bl_len_script h (by omega) ?_
    repeat kbo_bools
    split
    · rename_i hc
      cases l with
      | nil => simp at hc
      | cons c l =>
        repeat kbo_bools
        refine sub_script (v := c) h (by decide) (by decide) (by rfl) ?_ (by intro _ _; with_unfolding_all rfl)
        repeat kbo_bools
        exact ⟨by first | rfl | trivial, ⟨c, rfl⟩, rfl⟩
    · repeat kbo_bools
      exact ⟨by first | rfl | trivial, ⟨0, rfl⟩, rfl⟩
  rintro fl vals σ1 ⟨rfl, ⟨c, rfl⟩, rfl⟩
  repeat tb_rel
  refine mx_bcall bt_max rfl ?_
  repeat tb_rel
  refine bl_max ?_
  repeat tb_rel
  have hg : 0 ≤ max c (-1 - c) := by omega
  generalize max c (-1 - c) = g at *
  have m0 := Int.emod_nonneg g (b := 2147483629) (by decide)
  have m1 := Int.emod_lt_of_pos g (b := 2147483629) (by decide)
  generalize g % 2147483629 = gm at *
  refine mx_tcall bt_int rfl ?_
  repeat tb_rel
  refine op_pow (by decide) (by decide) (by decide) ?_
  repeat tb_rel
  refine ty_int_bool ?_
  cases hb : decide ((10 : Int) ^ (18 : Int).toNat ≤ g)
  all_goals
    simp only [Bool.false_eq_true, if_false, if_true]
    repeat tb_rel
    refine ⟨by simp, fun x hx => ?_⟩
    repeat tb_rel
    refine q x _ _ ⟨?_, Int.emod_nonneg _ (by decide), Int.emod_lt_of_pos _ (by decide)⟩ hx
    omega
theorem one_ok {x th : Addr} {A B : Int} {l : List Int} (h : σ x = some (srcO A B)) (hd : Drawn A B) (hth : σ th = some (.lst (l.map .int))) (hl : 0 < l.length) (hl2 : l.length ≤ 1000) (hx : th ≠ x)
    (q : ∀ A' B' v, Drawn A' B' → v ∈ l → Q (.int v) (σ.put x (srcO A' B'))) : MCall b.W 2 293 [.ref x, .ref th] σ Q := by
  refine MCall.enter (ps := ["source", "things"]) [] rfl rfl ?_ rfl rfl rfl (by decide +kernel) fun L => ?_
  · walk_at "binds"
  walk_at "norm"
  refine (let e₁ : Env := _; let Q₁ : MFlow → List (Option MV) → Store → Prop := _; (?_ : MG _ _ _ (execs _ e₁) e₁ _ _ _ Q₁))
  refine ms_cons ?_
  repeat tb_rel
  refine mx_call fn_take rfl ?_
  repeat tb_rel
  refine mx_bcall bt_len rfl ?_
  repeat tb_rel
  refine bl_len_list hth (by simp; omega) ?_
  repeat tb_rel
  refine take_ok' h hd (by simp; omega) fun A' B' d hd' d0 d1 => ?_
  have d1' : d.toNat < l.length := by simp at d1; omega
  refine sub_list (v := .int l[d.toNat]) (by rw [Store.put_ne hx]; exact hth) d0 (by simp at d1; omega) (by rw [List.getElem?_map, List.getElem?_eq_getElem d1']; rfl) ?_ (by intro _ _; with_unfolding_all rfl)
  repeat tb_rel
  exact q A' B' _ hd' (List.getElem_mem _)
end
section
variable {b : Base} {σ σ₀ : Store} {Q : MV → Store → Prop} {rc rd as ps : Addr} {R : Rec}
theorem RAt.outerPut {x : Addr} {o o' : MO} (h : RAt σ₀ σ rc rd as ps R) (hx : σ₀ x = some o) : RAt (σ₀.put x o') (σ.put x o') rc rd as ps R := by
  have n : ∀ y, σ₀ y = none → y ≠ x := fun y e q => by rw [q, hx] at e; cases e
  have m : ∀ y, σ₀ y = none → (σ₀.put x o') y = none := fun y e => by rw [Store.put_ne (n y e)]; exact e
  refine ⟨by rw [Store.put_ne (n _ h.frc)]; exact h.rcv, by rw [Store.put_ne (n _ h.frd)]; exact h.rdy, ⟨by rw [Store.put_ne (n _ h.asm.fa)]; exact h.asm.at_, by rw [Store.put_ne (n _ h.asm.fp)]; exact h.asm.lst, m _ h.asm.fa, m _ h.asm.fp, fun y o2 e => ?_⟩, m _ h.frc, m _ h.frd⟩
  by_cases q : y = x
  · rw [q, Store.put_self] at e ⊢; exact e
  · rw [Store.put_ne q] at e ⊢; exact h.keep y o2 e
theorem RAt.outerNew {x : Addr} {o : MO} (h : RAt σ₀ σ rc rd as ps R) (hx : σ x = none) : RAt (σ₀.put x o) (σ.put x o) rc rd as ps R := by
  have m : ∀ y o', σ y = some o' → σ₀ y = none → (σ₀.put x o) y = none := fun y o' e e0 => by rw [Store.put_ne (ne_of hx e)]; exact e0
  refine ⟨by rw [Store.put_ne (ne_of hx h.rcv)]; exact h.rcv, by rw [Store.put_ne (ne_of hx h.rdy)]; exact h.rdy, ⟨by rw [Store.put_ne (ne_of hx h.asm.at_)]; exact h.asm.at_, by rw [Store.put_ne (ne_of hx h.asm.lst)]; exact h.asm.lst, m _ _ h.asm.at_ h.asm.fa, m _ _ h.asm.lst h.asm.fp, fun y o2 e => ?_⟩, m _ _ h.rcv h.frc, m _ _ h.rdy h.frd⟩
  by_cases q : y = x
  · rw [q, Store.put_self] at e ⊢; exact e
  · rw [Store.put_ne q] at e ⊢; exact h.keep y o2 e
theorem bt_range : BtOK b.W "range" (.type "range") := ⟨by rfl, by rfl, by decide, by decide⟩
theorem mod_same {e g r : Int} : (e - (e - g) % r) % r = g % r := by
  have h := Int.mul_ediv_add_emod (e - g) r
  have : e - (e - g) % r = g + r * ((e - g) / r) := by omega
  rw [this, Int.add_mul_emod_self_left]
/-! cuts in plain words -/
theorem clip_nat {x : Int} {n : Nat} (h : 0 ≤ x) : (max 0 (min (if x < 0 then x + (n : Int) else x) n)).toNat = min x.toNat n := by
  rw [if_neg (Int.not_lt.mpr h)]
  obtain ⟨a, rfl⟩ := Int.eq_ofNat_of_zero_le h
  rw [Int.max_eq_right (Int.le_min.mpr ⟨Int.natCast_nonneg _, Int.natCast_nonneg _⟩)]
  clear h
  show (min (a : Int) (n : Int)).toNat = min a n
  omega
theorem cut_take {o : List UInt8} {i : Int} (h : 0 ≤ i) : cut o none (some i) = o.take i.toNat := by
  unfold cut clipAt
  simp only [Option.elim, List.drop_zero, Nat.sub_zero]
  rw [clip_nat h, List.take_eq_take_iff, Nat.min_assoc, Nat.min_self]
theorem cut_drop {o : List UInt8} {i : Int} (h : 0 ≤ i) : cut o (some i) none = o.drop i.toNat := by
  unfold cut clipAt
  simp only [Option.elim]
  rw [clip_nat h]
  by_cases e : i.toNat ≤ o.length
  · rw [Nat.min_eq_left e]; exact List.take_of_length_le (by simp)
  · have e' := Nat.le_of_lt (Nat.lt_of_not_le e)
    rw [Nat.min_eq_right e', List.drop_eq_nil_of_le (Nat.le_refl _), List.drop_eq_nil_of_le e']; simp
theorem two32 : (2 : Int) ^ (32 : Int).toNat = 4294967296 := by decide +kernel
end
section
theorem law_fn (P : Params) : nsIn (heapK P) mainGlobals "law" = some (some (.ref 324)) := by rfl
theorem seerOk : importsNone theView = true := by kernel_rfl
theorem ints_of {R : WRecords} {cl : Str → Option Addr} {h : Heap} : ∀ {xs : List WData} {vs : List Value} {as : List Addr}, WShape.hasItems R xs .int = true → ReadsAllW R cl h vs xs as → ∃ l : List Int, xs.length = l.length ∧ ∀ φ, RVs φ (l.map .int) vs
  | [], _, _, _, .nil => ⟨[], rfl, fun _ => .nil⟩
  | x :: xs, _, _, hh, .cons r rs => by
    simp only [WShape.hasItems, Bool.and_eq_true] at hh
    obtain ⟨i, rfl⟩ := hasW_int hh.1
    obtain ⟨l, e, q⟩ := ints_of hh.2 rs
    cases r with
    | int i t => exact ⟨i :: l, by simp [e], fun φ => .cons (.int _ _) (q φ)⟩
theorem caller_ok : Ok 20 callerA := ⟨rfl, by decide +kernel, by decide +kernel, [], rfl⟩
theorem law_of (key : ∀ (b : Base) (sc : Addr) (l : List Int), Script b.W sc l → l.length ≤ 63 → MCall b.W 20 324 [.ref sc] (fun _ => none) (fun v _ => v = .bool true)) : PySem.Challenge.rw_xw0334_04.Holds := hd fun w s₀ s₁ mg mb G Y fa hfa hgens args vals as hpre hlay hrd hwl => by
  have KX := kIn_of Y
  have hf : fa = 324 := by
    have := mg_of KX G.T.g (law_fn w.params)
    have e : dlaw.1.1.name = ("law" : Str) := by kernel_rfl
    rw [e, this] at hfa
    cases hfa; rfl
  subst hf
  have hsh := (pre_splitW hpre).1
  have hcond := (pre_splitW hpre).2
  change WShape.hasAll theRow.records args [.list .int] = true at hsh
  obtain ⟨d, r, rfl, h1, h2⟩ := hasAllW_cons hsh
  have hr := hasAllW_nil h2
  subst hr
  obtain ⟨xs, rfl, h3⟩ := hasW_list h1
  have hlen : xs.length ≤ 63 := by
    change WTm.holds [] (.and (.not (.lt (.lit (.int 63)) (.len (.arg 0)))) (.lit (.bool true))) { args := [.list xs] } = true at hcond
    obtain ⟨c1, c2⟩ := holds_andW hcond
    have e : less? (WData.int 63) (WData.int (xs.length : Int)) = some (decide ((63 : Int) < xs.length)) := by first | rfl | simp [less?]
    simp [WTm.holds, WTm.value, e] at c1
    first | omega | (split at c1 <;> simp_all <;> omega)
  cases hrd with
  | cons r rs =>
    cases rs
    cases r with
    | list e1 e2 e3 e4 =>
      rename_i sc o vs n as'
      obtain ⟨l, hl, rv⟩ := ints_of h3 e4
      let b : Base := { w := w, g₀ := s₁.heap, os₀ := s₁.os, loose := looseW theView [], mg := mg, mb := mb, X := KX, T := topRead_of G.T, seer := G.T.seer seerOk }
      have S : St b.W s₁.heap.get? (fun _ => none) (fun a => a) s₁ := ⟨fun _ _ e => e, fun _ _ e => e, (by intro a o e; cases e), (by intro a o e; cases e), (by intro a C vs e; cases e), (by intro a b C vs C' vs' e; cases e), hgens, rfl⟩
      have K := key b sc l ⟨vs, ⟨o, e1, e2, n, e3⟩, rv⟩ (by omega) callerA s₁.heap.get? (fun a => a) s₁ [.ref sc] caller_ok S (.cons (.ref sc) .nil)
      refine wpC_call (codeC_mono K ?_)
      rintro r s2 ⟨v, rfl, mv, σ', φ', δ', kp, rr, S2, rfl⟩
      cases rr
      exact ⟨.inl ⟨_, _, _, rfl, fun _ => rfl, .bool true, (by show ClaimW.post theRow.claim [.list xs] (.bool true) [.list xs] = true; wrow_post), fun _ => ⟨List.nodup_nil, fun _ h => absurd h List.not_mem_nil⟩⟩, fun a o e => S2.keep a o (kp a o e), S2.os, S2.gens⟩
end
section
/-! the assembly in plain words: pieces by their places behind the awaited number -/
noncomputable def SD : Int → List Piece → Prop
  | _, [] => True
  | lo, (q, o) :: t => lo ≤ q ∧ o ≠ [] ∧ SD (q + o.length) t
noncomputable def SG : Int → List Piece → Prop
  | _, [] => True
  | lo, (q, o) :: t => lo ≤ q ∧ o ≠ [] ∧ SG (q + o.length + 1) t
theorem SD.le {a b : Int} : ∀ {l : List Piece}, SD b l → a ≤ b → SD a l
  | [], _, _ => trivial
  | (q, o) :: t, h, e => ⟨Int.le_trans e h.1, h.2⟩
theorem SG.le {a b : Int} : ∀ {l : List Piece}, SG b l → a ≤ b → SG a l
  | [], _, _ => trivial
  | (q, o) :: t, h, e => ⟨Int.le_trans e h.1, h.2⟩
theorem SG.sd : ∀ {lo : Int} {l : List Piece}, SG lo l → SD lo l
  | _, [], _ => trivial
  | _, (q, o) :: t, h => ⟨h.1, h.2.1, h.2.2.sd.le (by omega)⟩
noncomputable def look : List Piece → Int → Option UInt8
  | [], _ => none
  | (q, o) :: t, i => if q ≤ i ∧ i < q + o.length then o[(i - q).toNat]? else look t i
theorem look_below : ∀ {l : List Piece} {lo i : Int}, SD lo l → i < lo → look l i = none
  | [], _, _, _, _ => rfl
  | (q, o) :: t, lo, i, h, hi => by
    have h1 := h.1
    have h3 := h.2.2
    rw [look, if_neg (by omega)]
    exact look_below h3 (by omega)
theorem len_pos {o : List UInt8} (h : o ≠ []) : (0 : Int) < o.length := by
  have := List.length_pos_iff.mpr h; omega
noncomputable def fill (e bg : Int) (oct : List UInt8) : List Piece → Int → List Piece
  | [], a => if a < e then [(a, oct.drop (a - bg).toNat)] else []
  | (q, o) :: t, a => if q + o.length ≤ a then (q, o) :: fill e bg oct t a
      else if e ≤ q then (if a < e then [(a, oct.drop (a - bg).toNat)] else []) ++ (q, o) :: t
      else (if a < q then [(a, (oct.drop (a - bg).toNat).take (q - a).toNat)] else []) ++ (q, o) :: fill e bg oct t (q + o.length)
theorem drop_len {oct : List UInt8} {a bg e : Int} (he : e = bg + oct.length) (h1 : bg ≤ a) (h2 : a ≤ e) : ((oct.drop (a - bg).toNat).length : Int) = e - a := by
  rw [List.length_drop]; omega
theorem mid_len {oct : List UInt8} {a bg e q : Int} (he : e = bg + oct.length) (h1 : bg ≤ a) (h2 : a ≤ q) (h3 : q ≤ e) : (((oct.drop (a - bg).toNat).take (q - a).toNat).length : Int) = q - a := by
  rw [List.length_take, List.length_drop]; omega
theorem ne_of_len {o : List UInt8} (h : (0 : Int) < o.length) : o ≠ [] := fun e => by rw [e] at h; exact absurd h (by decide)
theorem fill_sd {e bg : Int} {oct : List UInt8} (he : e = bg + oct.length) : ∀ {l : List Piece} {lo a : Int}, SD lo l → lo ≤ a → bg ≤ a → SD lo (fill e bg oct l a)
  | [], lo, a, _, h1, h2 => by
    unfold fill
    split
    · rename_i h
      exact ⟨h1, ne_of_len (by rw [drop_len he h2 (by omega)]; omega), trivial⟩
    · trivial
  | (q, o) :: t, lo, a, hs, h1, h2 => by
    have ho := len_pos hs.2.1
    have hq := hs.1
    unfold fill
    split
    · rename_i c1
      exact ⟨hs.1, hs.2.1, fill_sd he hs.2.2 c1 h2⟩
    · rename_i c1
      split
      · rename_i c2
        split
        · rename_i c3
          refine ⟨h1, ne_of_len (by rw [drop_len he h2 (by omega)]; omega), ?_, hs.2⟩
          have := drop_len he h2 (by omega : a ≤ e)
          show a + _ ≤ q
          omega
        · exact hs
      · rename_i c2
        have ih : SD (q + o.length) (fill e bg oct t (q + o.length)) := fill_sd he hs.2.2 (Int.le_refl _) (by omega)
        split
        · rename_i c3
          have hm := mid_len he h2 (by omega : a ≤ q) (by omega)
          refine ⟨h1, ne_of_len (by rw [hm]; omega), ?_, hs.2.1, ih⟩
          show a + _ ≤ q
          omega
        · exact ⟨hs.1, hs.2.1, ih⟩
noncomputable def runAt (e bg : Int) (oct : List UInt8) (a i : Int) : Option UInt8 := if a ≤ i ∧ i < e then oct[(i - bg).toNat]? else none
theorem tail_look {e bg : Int} {oct : List UInt8} (he : e = bg + oct.length) {a i : Int} (h2 : bg ≤ a) (t : List Piece) (ht : ∀ i, i < e → look t i = none) :
    look ((if a < e then [(a, oct.drop (a - bg).toNat)] else []) ++ t) i = (look t i).or (runAt e bg oct a i) := by
  split
  · rename_i c
    have hl := drop_len he h2 (by omega : a ≤ e)
    show (if a ≤ i ∧ i < a + ((oct.drop (a - bg).toNat).length : Int) then (oct.drop (a - bg).toNat)[(i - a).toNat]? else look t i) = _
    rw [hl]
    unfold runAt
    by_cases hi : a ≤ i ∧ i < e
    · rw [if_pos (by omega), if_pos hi, ht i hi.2, List.getElem?_drop]
      show _ = oct[(i - bg).toNat]?
      congr 1; omega
    · rw [if_neg (by omega), if_neg hi]
      cases look t i <;> rfl
  · rename_i c
    unfold runAt
    rw [if_neg (by omega)]
    cases h : look t i <;> simp [h]
theorem fill_look {e bg : Int} {oct : List UInt8} (he : e = bg + oct.length) : ∀ {l : List Piece} {lo a : Int}, SD lo l → bg ≤ a → ∀ i, look (fill e bg oct l a) i = (look l i).or (runAt e bg oct a i)
  | [], lo, a, _, h2, i => by
    have := tail_look he (i := i) h2 [] (fun _ _ => rfl)
    unfold fill
    rw [List.append_nil] at this
    exact this
  | (q, o) :: t, lo, a, hs, h2, i => by
    have ho := len_pos hs.2.1
    have hq := hs.1
    have hin : ∀ j, q ≤ j ∧ j < q + o.length → ∃ x, o[(j - q).toNat]? = some x := fun j hj => ⟨o[(j - q).toNat]'(by omega), List.getElem?_eq_getElem (by omega)⟩
    unfold fill
    split
    · rename_i c1
      have ih := fill_look he (a := a) hs.2.2 h2 i
      simp only [look]
      split
      · rename_i hi
        obtain ⟨x, hx⟩ := hin i hi
        rw [hx]; rfl
      · exact ih
    · rename_i c1
      split
      · rename_i c2
        refine tail_look he h2 ((q, o) :: t) fun j hj => look_below (lo := q) ⟨Int.le_refl _, hs.2⟩ (by omega)
      · rename_i c2
        have ih := fill_look he (a := q + o.length) hs.2.2 (by omega) i
        have key : look ((q, o) :: fill e bg oct t (q + o.length)) i = (look ((q, o) :: t) i).or (runAt e bg oct (q + o.length) i) := by
          simp only [look]
          split
          · rename_i hi
            obtain ⟨x, hx⟩ := hin i hi
            rw [hx]; rfl
          · exact ih
        split
        · rename_i c3
          have hm := mid_len he h2 (by omega : a ≤ q) (by omega)
          show (if a ≤ i ∧ i < a + (((oct.drop (a - bg).toNat).take (q - a).toNat).length : Int) then ((oct.drop (a - bg).toNat).take (q - a).toNat)[(i - a).toNat]? else look ((q, o) :: fill e bg oct t (q + o.length)) i) = _
          rw [hm]
          by_cases hi : a ≤ i ∧ i < q
          · rw [if_pos (by omega), look_below (l := (q, o) :: t) (lo := q) ⟨Int.le_refl _, hs.2⟩ hi.2]
            unfold runAt
            rw [if_pos (by omega), List.getElem?_take, if_pos (by omega), List.getElem?_drop]
            show _ = oct[(i - bg).toNat]?
            congr 1; omega
          · rw [if_neg (by omega), key]
            by_cases hc : q ≤ i ∧ i < q + o.length
            · obtain ⟨x, hx⟩ := hin i hc
              have : look ((q, o) :: t) i = some x := by rw [look, if_pos hc, hx]
              rw [this]; rfl
            · unfold runAt
              by_cases h3 : q + o.length ≤ i ∧ i < e
              · rw [if_pos h3, if_pos (by omega)]
              · rw [if_neg h3, if_neg (by omega)]
        · rename_i c3
          show look ((q, o) :: fill e bg oct t (q + o.length)) i = _
          rw [key]
          by_cases hc : q ≤ i ∧ i < q + o.length
          · obtain ⟨x, hx⟩ := hin i hc
            have : look ((q, o) :: t) i = some x := by rw [look, if_pos hc, hx]
            rw [this]; rfl
          · unfold runAt
            by_cases h3 : q + o.length ≤ i ∧ i < e
            · rw [if_pos h3, if_pos (by omega)]
            · rw [if_neg h3]
              by_cases h4 : a ≤ i ∧ i < e
              · exfalso; omega
              · rw [if_neg h4]
noncomputable def glue : Piece → List Piece → List Piece
  | x, [] => [x]
  | (q, o), (q', o') :: t => if q + o.length = q' then glue (q, o ++ o') t else (q, o) :: glue (q', o') t
theorem glue_sg : ∀ {l : List Piece} {lo q : Int} {o : List UInt8}, lo ≤ q → o ≠ [] → SD (q + o.length) l → SG lo (glue (q, o) l)
  | [], lo, q, o, h1, h2, _ => ⟨h1, h2, trivial⟩
  | (q', o') :: t, lo, q, o, h1, h2, hs => by
    unfold glue
    split
    · rename_i c
      refine glue_sg h1 (by simp [h2]) ?_
      have := hs.2.2
      rw [List.length_append]
      have e : q + ((o.length + o'.length : Nat) : Int) = q' + o'.length := by omega
      rw [e]; exact this
    · rename_i c
      exact ⟨h1, h2, glue_sg (by have := hs.1; omega) hs.2.1 hs.2.2⟩
theorem glue_look : ∀ {l : List Piece} {q : Int} {o : List UInt8} (i : Int), look (glue (q, o) l) i = look ((q, o) :: l) i
  | [], q, o, i => rfl
  | (q', o') :: t, q, o, i => by
    unfold glue
    split
    · rename_i c
      rw [glue_look]
      simp only [look, List.length_append]
      by_cases h1 : q ≤ i ∧ i < q + o.length
      · rw [if_pos (by omega), if_pos h1, List.getElem?_append_left (by omega)]
      · rw [if_neg h1]
        by_cases h2 : q' ≤ i ∧ i < q' + o'.length
        · rw [if_pos (by omega), if_pos h2, List.getElem?_append_right (by omega)]
          congr 1; omega
        · rw [if_neg (by omega), if_neg h2]
    · rename_i c
      have := glue_look (l := t) (q := q') (o := o') i
      simp only [look] at this ⊢
      rw [this]
end
section
noncomputable def sq (r next : Int) (x : Piece) : Piece := ((next + x.1) % r, x.2)
theorem mod_ahead {e q r : Int} : ((e + q) % r - e) % r = q % r := by
  have h := Int.mul_ediv_add_emod (e + q) r
  have : (e + q) % r - e = q + r * (-((e + q) / r)) := by rw [Int.mul_neg]; omega
  rw [this, Int.add_mul_emod_self_left]
theorem mod_behind {e q r : Int} : (e - (e + q) % r) % r = (-q) % r := by
  have := mod_same (e := e) (g := -q) (r := r)
  rw [Int.sub_neg] at this
  exact this
theorem before_rel {next q r : Int} (h1 : -r < 2 * q) (h2 : 2 * q ≤ r) : before ((next + q) % r) next r = decide (q < 0) := by
  unfold before
  rw [mod_behind]
  by_cases hq : q < 0
  · have e : (-q) % r = -q := Int.emod_eq_of_lt (by omega) (by omega)
    rw [e, decide_eq_true hq, decide_eq_true (by omega : 0 < -q), decide_eq_true (by omega : 2 * -q < r)]; rfl
  · rw [decide_eq_false hq]
    by_cases z : q = 0
    · subst z; simp
    · have e : (-q) % r = r - q := by
        have h : (-q + r) % r = (-q) % r := Int.add_emod_right ..
        have e2 : (-q + r) % r = -q + r := Int.emod_eq_of_lt (by omega) (by omega)
        rw [← h, e2]; omega
      rw [e, decide_eq_false (by omega : ¬ 2 * (r - q) < r), Bool.and_false]
theorem off_rel {next q r : Int} (hr : 0 < r) (h1 : -r < 2 * q) (h2 : 2 * q ≤ r) : off ((next + q) % r) next r = q := by
  unfold off
  rw [before_rel h1 h2]
  by_cases hq : q < 0
  · have e3 : (-q) % r = -q := Int.emod_eq_of_lt (by omega) (by omega)
    rw [if_pos (decide_eq_true hq), mod_behind, e3]; omega
  · have e3 : q % r = q := Int.emod_eq_of_lt (by omega) (by omega)
    rw [if_neg (by simpa using hq), mod_ahead, e3]
theorem cut_mid {o : List UInt8} {x y : Int} (h0 : 0 ≤ x) (h1 : x ≤ y) : cut o (some x) (some y) = (o.drop x.toNat).take (y - x).toNat := by
  unfold cut clipAt
  simp only [Option.elim]
  rw [clip_nat h0, clip_nat (Int.le_trans h0 h1)]
  obtain ⟨a, rfl⟩ := Int.eq_ofNat_of_zero_le h0
  obtain ⟨b, rfl⟩ := Int.eq_ofNat_of_zero_le (Int.le_trans h0 h1)
  rw [Int.toNat_natCast, Int.toNat_natCast, Int.toNat_sub]
  clear h0 h1
  by_cases c : a ≤ o.length
  · rw [Nat.min_eq_left c, List.take_eq_take_iff, List.length_drop, ← Nat.sub_min_sub_right, Nat.min_assoc, Nat.min_self]
  · have c' := Nat.le_of_lt (Nat.lt_of_not_le c)
    rw [Nat.min_eq_right c', List.drop_eq_nil_of_le (Nat.le_refl _), List.drop_eq_nil_of_le c']; simp
noncomputable def missR (e bg : Int) (oct : List UInt8) : List Piece → Int → List Piece
  | [], a => if a < e then [(a, oct.drop (a - bg).toNat)] else []
  | (q, o) :: t, a => if q + o.length ≤ a then missR e bg oct t a
      else if e ≤ q then (if a < e then [(a, oct.drop (a - bg).toNat)] else [])
      else (if a < q then [(a, (oct.drop (a - bg).toNat).take (q - a).toNat)] else []) ++ missR e bg oct t (q + o.length)
noncomputable def InR (r : Int) (l : List Piece) : Prop := ∀ x ∈ l, 0 ≤ x.1 ∧ 2 * x.1 ≤ r
theorem off_sq {r next q : Int} {o : List UInt8} {t : List Piece} (hr : 0 < r) (h : InR r ((q, o) :: t)) : off ((next + q) % r) next r = q := by
  have := h (q, o) (.head _)
  exact off_rel hr (by have := this.1; dsimp only at this; omega) this.2
theorem missGo_eq {r next e bg : Int} {oct : List UInt8} (hr : 0 < r) : ∀ (l fd : List Piece) (a : Int), InR r l → bg ≤ a →
    (missGo r next e bg oct (l.map (sq r next)) fd a).1 ++ (if (missGo r next e bg oct (l.map (sq r next)) fd a).2 < e then [((missGo r next e bg oct (l.map (sq r next)) fd a).2, cut oct (some ((missGo r next e bg oct (l.map (sq r next)) fd a).2 - bg)) none)] else []) = fd ++ missR e bg oct l a
  | [], fd, a, _, h => by
    simp only [List.map_nil, missGo, missR]
    split
    · rw [cut_drop (by omega)]
    · rfl
  | (q, o) :: t, fd, a, hi, h => by
    have hq := off_sq (next := next) hr hi
    have hi' : InR r t := fun x hx => hi x (.tail _ hx)
    simp only [List.map_cons, sq, missGo, hq, missR]
    split
    · exact missGo_eq (e := e) (bg := bg) (oct := oct) (next := next) hr t fd a hi' h
    · rename_i c1
      split
      · simp only
        split
        · rw [cut_drop (by omega)]
        · rfl
      · rename_i c2
        split
        · rename_i c3
          have := missGo_eq (e := e) (bg := bg) (oct := oct) (next := next) hr t (fd ++ [(a, cut oct (some (a - bg)) (some (q - bg)))]) (q + o.length) hi' (by omega)
          rw [cut_mid (by omega) (by omega)] at this ⊢
          have e1 : q - bg - (a - bg) = q - a := by omega
          rw [e1] at this ⊢
          rw [List.append_assoc] at this
          exact this
        · rename_i c3
          have := missGo_eq (e := e) (bg := bg) (oct := oct) (next := next) hr t fd (q + o.length) hi' (by omega)
          simpa using this
theorem missingL_eq {r next bg : Int} {oct : List UInt8} {l : List Piece} (hr : 0 < r) (hi : InR r l) : missingL r next bg oct (l.map (sq r next)) = missR (bg + oct.length) bg oct l bg := by
  have := missGo_eq (next := next) (e := bg + oct.length) (bg := bg) (oct := oct) hr l [] bg hi (Int.le_refl _)
  unfold missingL
  rw [List.nil_append] at this
  rw [← this]
  split
  · rfl
  · rw [List.append_nil]
noncomputable def mergeR : List Piece → List Piece → List Piece
  | [], rs => rs
  | (q, o) :: t, rs => rs.takeWhile (fun x => x.1 < q) ++ (q, o) :: mergeR t (rs.dropWhile (fun x => x.1 < q))
theorem mergeGo_eq {r next : Int} (hr : 0 < r) : ∀ (l fd rs : List Piece), InR r l → (mergeGo r next (l.map (sq r next)) fd rs).1 ++ (mergeGo r next (l.map (sq r next)) fd rs).2 = fd ++ mergeR l rs
  | [], fd, rs, _ => by simp [mergeGo, mergeR]
  | (q, o) :: t, fd, rs, hi => by
    have hq := off_sq (next := next) hr hi
    have hi' : InR r t := fun x hx => hi x (.tail _ hx)
    simp only [List.map_cons, sq, mergeGo, hq, mergeR]
    have := mergeGo_eq (next := next) hr t (fd ++ rs.takeWhile (fun x => decide (x.1 < q)) ++ [(q, o)]) (rs.dropWhile (fun x => decide (x.1 < q))) hi'
    simp only [List.append_assoc, List.cons_append, List.nil_append] at this ⊢
    exact this
theorem missR_ge {e bg : Int} {oct : List UInt8} : ∀ (l : List Piece) (a : Int), ∀ x ∈ missR e bg oct l a, a ≤ x.1
  | [], a, x, h => by
    unfold missR at h
    split at h
    · rw [List.mem_singleton.mp h]; exact Int.le_refl _
    · cases h
  | (q, o) :: t, a, x, h => by
    unfold missR at h
    split at h
    · exact missR_ge t a x h
    · rename_i c1
      split at h
      · split at h
        · rw [List.mem_singleton.mp h]; exact Int.le_refl _
        · cases h
      · rcases List.mem_append.mp h with h | h
        · split at h
          · rw [List.mem_singleton.mp h]; exact Int.le_refl _
          · cases h
        · have := missR_ge t _ x h; omega
theorem tw_nil {q : Int} : ∀ {l : List Piece}, (∀ x ∈ l, q ≤ x.1) → l.takeWhile (fun x => decide (x.1 < q)) = [] ∧ l.dropWhile (fun x => decide (x.1 < q)) = l
  | [], _ => ⟨rfl, rfl⟩
  | x :: l, h => by
    have := h x (.head _)
    exact ⟨List.takeWhile_cons_of_neg (by simpa using this), List.dropWhile_cons_of_neg (by simpa using this)⟩
theorem tw_one {q : Int} {x : Piece} {l : List Piece} (hx : x.1 < q) (h : ∀ y ∈ l, q ≤ y.1) : (x :: l).takeWhile (fun x => decide (x.1 < q)) = [x] ∧ (x :: l).dropWhile (fun x => decide (x.1 < q)) = l := by
  rw [List.takeWhile_cons_of_pos (by simpa using hx), List.dropWhile_cons_of_pos (by simpa using hx), (tw_nil h).1, (tw_nil h).2]
  exact ⟨rfl, rfl⟩
theorem mergeR_nil : ∀ (l : List Piece), mergeR l [] = l
  | [] => rfl
  | (q, o) :: t => by simp [mergeR, mergeR_nil t]
theorem merge_fill {e bg : Int} {oct : List UInt8} : ∀ (l : List Piece) (lo a : Int), SD lo l → mergeR l (missR e bg oct l a) = fill e bg oct l a
  | [], lo, a, _ => rfl
  | (q, o) :: t, lo, a, hs => by
    have ho := len_pos hs.2.1
    simp only [mergeR, missR, fill]
    split
    · rename_i c1
      have h := tw_nil (q := q) (fun x hx => by have := missR_ge (e := e) (bg := bg) (oct := oct) t a x hx; omega)
      rw [h.1, h.2, merge_fill t _ a hs.2.2]; rfl
    · rename_i c1
      split
      · rename_i c2
        split
        · rename_i c3
          have h := tw_one (q := q) (x := (a, oct.drop (a - bg).toNat)) (l := []) (by show a < q; omega) (by simp)
          rw [h.1, h.2, mergeR_nil]
        · simp [mergeR_nil]
      · rename_i c2
        have hge : ∀ x ∈ missR e bg oct t (q + o.length), q ≤ x.1 := fun x hx => by have := missR_ge (e := e) (bg := bg) (oct := oct) t _ x hx; omega
        split
        · rename_i c3
          have h := tw_one (q := q) (x := (a, (oct.drop (a - bg).toNat).take (q - a).toNat)) c3 hge
          rw [List.cons_append, List.nil_append, h.1, h.2, merge_fill t _ _ hs.2.2]
        · have h := tw_nil hge
          rw [List.nil_append, h.1, h.2, merge_fill t _ _ hs.2.2]
theorem joinGo_eq {r next : Int} : ∀ (t fd : List Piece) (q : Int) (o : List UInt8), joinGo r next t (fd ++ [sq r next (q, o)]) (some (q + o.length)) = fd ++ (glue (q, o) t).map (sq r next)
  | [], fd, q, o => rfl
  | (q', o') :: t, fd, q, o => by
    unfold joinGo glue
    by_cases c : q + o.length = q'
    · rw [if_pos (by rw [c]), if_pos c]
      simp only [List.getLast?_append, List.getLast?_singleton, Option.or_some, sq, List.dropLast_concat]
      have := joinGo_eq (r := r) (next := next) t fd q (o ++ o')
      have e1 : q + ((o ++ o').length : Int) = q' + o'.length := by rw [List.length_append]; omega
      rw [e1] at this
      exact this
    · rw [if_neg (fun h => c (Option.some.inj h)), if_neg c]
      have := joinGo_eq (r := r) (next := next) t (fd ++ [sq r next (q, o)]) q' o'
      simp only [sq, List.append_assoc, List.cons_append, List.nil_append, List.map_cons] at this ⊢
      exact this
theorem joinedL_eq {r next q : Int} {o : List UInt8} {t : List Piece} : joinedL r next ((q, o) :: t) = (glue (q, o) t).map (sq r next) := by
  have := joinGo_eq (r := r) (next := next) t [] q o
  unfold joinedL joinGo
  rw [if_neg (by simp)]
  exact this
theorem forgetL_eq {r next : Int} {l : List Piece} (hr : 0 < r) (hi : InR r l) : forgetL r next (l.map (sq r next)) = l.map (sq r next) := by
  cases l with
  | nil => rfl
  | cons x t =>
    obtain ⟨q, o⟩ := x
    have hq := off_sq (next := next) hr hi
    have h0 := (hi (q, o) (.head _)).1
    simp only [List.map_cons, sq, forgetL, hq]
    rw [if_pos h0]
theorem putL_rel {r next p : Int} {oct : List UInt8} {rl : List Piece} (hr : 0 < r) (hs : SG 0 rl) (hi : InR r rl) (h1 : -r < 2 * p) (h2 : 2 * p ≤ r) :
    ∃ rl', putL r next ((next + p) % r) oct (rl.map (sq r next)) = rl'.map (sq r next) ∧ SG 0 rl' ∧ ∀ i, 0 ≤ i → look rl' i = (look rl i).or (if p ≤ i ∧ i < p + oct.length then oct[(i - p).toNat]? else none) := by
  have key : ∀ (bg : Int) (o : List UInt8), 0 ≤ bg → ∃ rl', (if (missingL r next bg o (rl.map (sq r next))).isEmpty then rl.map (sq r next) else joinedL r next (mergedL r next (missingL r next bg o (rl.map (sq r next))) (rl.map (sq r next)))) = rl'.map (sq r next) ∧ SG 0 rl' ∧ ∀ i, look rl' i = (look rl i).or (runAt (bg + o.length) bg o bg i) := by
    intro bg o hbg
    have m := missingL_eq (next := next) (bg := bg) (oct := o) hr hi
    have fl := merge_fill (e := bg + o.length) (bg := bg) (oct := o) rl 0 bg hs.sd
    have look' := fill_look (e := bg + o.length) (oct := o) rfl (a := bg) hs.sd (Int.le_refl _)
    have sd := fill_sd (e := bg + o.length) (oct := o) rfl hs.sd hbg (Int.le_refl bg)
    rw [m]
    cases hm : missR (bg + o.length) bg o rl bg with
    | nil =>
      rw [hm, mergeR_nil] at fl
      exact ⟨rl, rfl, hs, fun i => by rw [← look', ← fl]⟩
    | cons x xs =>
      have mg : mergedL r next (x :: xs) (rl.map (sq r next)) = fill (bg + o.length) bg o rl bg := by
        rw [← fl, hm]
        have := mergeGo_eq (next := next) hr rl [] (x :: xs) hi
        unfold mergedL
        rw [this, List.nil_append]
      simp only [List.isEmpty_cons, Bool.false_eq_true, if_false]
      rw [mg]
      generalize fill (bg + o.length) bg o rl bg = f at *
      cases f with
      | nil => exact ⟨[], rfl, trivial, fun i => look' i⟩
      | cons y ys =>
        obtain ⟨q, oq⟩ := y
        exact ⟨glue (q, oq) ys, joinedL_eq, glue_sg sd.1 sd.2.1 sd.2.2, fun i => by rw [glue_look, look']⟩
  unfold putL
  rw [forgetL_eq hr hi, off_rel hr h1 h2]
  by_cases hp : p < 0
  · simp only [if_pos hp]
    obtain ⟨rl', e1, e2, e3⟩ := key 0 (cut oct (some (0 - p)) none) (Int.le_refl _)
    refine ⟨rl', e1, e2, fun i hi0 => ?_⟩
    rw [e3]
    congr 1
    unfold runAt
    rw [cut_drop (by omega), List.length_drop]
    by_cases c : p ≤ i ∧ i < p + oct.length
    · rw [if_pos (by omega), if_pos c, List.getElem?_drop]
      congr 1; omega
    · rw [if_neg (by omega), if_neg c]
  · simp only [if_neg hp]
    obtain ⟨rl', e1, e2, e3⟩ := key p oct (by omega)
    exact ⟨rl', e1, e2, fun i hi0 => by rw [e3]; rfl⟩
end
section
variable {r next n : Int} {l : List Piece} {m : Int → Option UInt8}
noncomputable def Asm (r next : Int) (l : List Piece) (n : Int) (m : Int → Option UInt8) : Prop := ∃ rl, l = rl.map (sq r next) ∧ SG 0 rl ∧ ∀ i, 0 ≤ i → look rl i = m (n + i)
noncomputable def Bd (n : Int) (B : Nat) (m : Int → Option UInt8) : Prop := ∀ j, n + B ≤ j → m j = none
theorem look_some {q : Int} {o : List UInt8} {t : List Piece} (ho : o ≠ []) : look ((q, o) :: t) (q + o.length - 1) ≠ none := by
  have := len_pos ho
  rw [look, if_pos (by omega), List.getElem?_eq_getElem (by omega)]
  simp
theorem sg_bounds : ∀ {rl : List Piece} {lo B : Int}, SG lo rl → (∀ i, B ≤ i → look rl i = none) → ∀ x ∈ rl, lo ≤ x.1 ∧ x.1 + x.2.length ≤ B
  | [], _, _, _, _ => by simp
  | (q, o) :: t, lo, B, hs, hb => by
    have ho := len_pos hs.2.1
    have h1 : q + o.length ≤ B := by
      apply Classical.byContradiction
      intro c
      exact look_some (q := q) (t := t) hs.2.1 (hb _ (by omega))
    have ht : ∀ i, B ≤ i → look t i = none := fun i hi => by
      have := hb i hi
      rwa [look, if_neg (by omega)] at this
    intro x hx
    rcases List.mem_cons.mp hx with e | hx
    · rw [e]; exact ⟨hs.1, h1⟩
    · have := sg_bounds hs.2.2 ht x hx
      have h0 := hs.1
      exact ⟨by omega, this.2⟩
theorem sg_count : ∀ {rl : List Piece} {lo B : Int}, SG lo rl → lo ≤ B → (∀ i, B ≤ i → look rl i = none) → (rl.length : Int) ≤ B - lo
  | [], _, _, _, h, _ => by simp; omega
  | (q, o) :: t, lo, B, hs, h, hb => by
    have ho := len_pos hs.2.1
    have b := sg_bounds hs hb (q, o) (.head _)
    have ht : ∀ i, B ≤ i → look t i = none := fun i hi => by
      have := hb i hi
      rwa [look, if_neg (by have := b.2; dsimp only at this; omega)] at this
    have h0 := hs.1
    have b2 := b.2
    dsimp only at b2
    have hs' : SG (q + o.length) t := hs.2.2.le (by omega)
    have := sg_count hs' (by omega) ht
    rw [List.length_cons]
    omega
theorem Asm.rel {B : Nat} (h : Asm r next l n m) (hb : Bd n B m) : ∃ rl, l = rl.map (sq r next) ∧ SG 0 rl ∧ (∀ i, 0 ≤ i → look rl i = m (n + i)) ∧ (∀ i, (B : Int) ≤ i → look rl i = none) := by
  obtain ⟨rl, e, s, k⟩ := h
  exact ⟨rl, e, s, k, fun i hi => by rw [k i (by omega)]; exact hb _ (by omega)⟩
theorem Asm.sizes {B : Nat} (h : Asm r next l n m) (hb : Bd n B m) : (∀ x ∈ l, x.2.length ≤ B) ∧ l.length ≤ B := by
  obtain ⟨rl, rfl, s, k, z⟩ := h.rel hb
  refine ⟨fun x hx => ?_, ?_⟩
  · obtain ⟨y, hy, rfl⟩ := List.mem_map.mp hx
    have := sg_bounds s z y hy
    show y.2.length ≤ B
    omega
  · have := sg_count s (by omega) z
    rw [List.length_map]; omega
theorem inR_of {rl : List Piece} {B : Int} (hB : 2 * B ≤ r) (s : SG 0 rl) (z : ∀ i, B ≤ i → look rl i = none) : InR r rl := fun x hx => by
  have := sg_bounds s z x hx
  exact ⟨this.1, by omega⟩
theorem Asm.congr {m' : Int → Option UInt8} (h : Asm r next l n m) (e : ∀ j, n ≤ j → m j = m' j) : Asm r next l n m' := by
  obtain ⟨rl, a, s, k⟩ := h
  exact ⟨rl, a, s, fun i hi => by rw [k i hi, e _ (by omega)]⟩
theorem Asm.nil (h : ∀ j, n ≤ j → m j = none) : Asm r next [] n m := ⟨[], rfl, trivial, fun i hi => by rw [h _ (by omega)]; rfl⟩
theorem Asm.put {B : Nat} {p : Int} {oct : List UInt8} (h : Asm r next l n m) (hb : Bd n B m) (hr : 0 < r) (hB : 2 * (B : Int) ≤ r) (h1 : -r < 2 * (p - n)) (h2 : 2 * (p - n) ≤ r) :
    Asm r next (putL r next ((next + (p - n)) % r) oct l) n (fun j => (m j).or (if p ≤ j ∧ j < p + oct.length then oct[(j - p).toNat]? else none)) := by
  obtain ⟨rl, rfl, s, k, z⟩ := h.rel hb
  obtain ⟨rl', e, s', k'⟩ := putL_rel (next := next) (p := p - n) (oct := oct) hr s (inR_of hB s z) h1 h2
  refine ⟨rl', e, s', fun i hi => ?_⟩
  rw [k' i hi, k i hi]
  congr 1
  by_cases c : p ≤ n + i ∧ n + i < p + oct.length
  · rw [if_pos c, if_pos (by omega)]; congr 1; omega
  · rw [if_neg c, if_neg (by omega)]
noncomputable def shift (k : Int) (rl : List Piece) : List Piece := rl.map fun x => (x.1 - k, x.2)
theorem shift_sg {k : Int} : ∀ {rl : List Piece} {lo : Int}, SG (lo + k) rl → SG lo (shift k rl)
  | [], _, _ => trivial
  | (q, o) :: t, lo, h => ⟨by have := h.1; show lo ≤ q - k; omega, h.2.1, by
      have := h.2.2
      have e : q + (o.length : Int) + 1 = (q - k + o.length + 1) + k := by omega
      rw [e] at this
      exact shift_sg this⟩
theorem shift_look {k : Int} : ∀ {rl : List Piece} (i : Int), look (shift k rl) i = look rl (i + k)
  | [], _ => rfl
  | (q, o) :: t, i => by
    show (if q - k ≤ i ∧ i < q - k + o.length then o[(i - (q - k)).toNat]? else look (shift k t) i) = _
    rw [look, shift_look]
    by_cases c : q ≤ i + k ∧ i + k < q + o.length
    · rw [if_pos c, if_pos (by omega)]; congr 1; omega
    · rw [if_neg c, if_neg (by omega)]
theorem shift_sq {k : Int} {rl : List Piece} : rl.map (sq r next) = (shift k rl).map (sq r ((next + k) % r)) := by
  rw [shift, List.map_map]
  refine List.map_congr_left fun x _ => ?_
  show ((next + x.1) % r, x.2) = (((next + k) % r + (x.1 - k)) % r, x.2)
  rw [Int.emod_add_emod]
  congr 2; omega
theorem Asm.take {B : Nat} (h : Asm r next l n m) (hb : Bd n B m) (hr : 0 < r) (hB : 2 * (B : Int) ≤ r) (hn0 : 0 ≤ next) (hn1 : next < r) :
    ∃ (o : List UInt8) (l' : List Piece), takeL next (forgetL r next l) = (o, l') ∧ (∀ i : Nat, i < o.length → o[i]? = m (n + i)) ∧ m (n + o.length) = none ∧ Asm r ((next + o.length) % r) l' (n + o.length) m := by
  obtain ⟨rl, rfl, s, k, z⟩ := h.rel hb
  have hi := inR_of hB s z
  rw [forgetL_eq hr hi]
  have enx : next % r = next := Int.emod_eq_of_lt hn0 hn1
  cases rl with
  | nil =>
    have := k 0 (Int.le_refl _)
    exact ⟨[], [], rfl, by simp, by simpa [look] using this.symm, ⟨[], rfl, trivial, fun i hi => by simpa using k i hi⟩⟩
  | cons x t =>
    obtain ⟨q, o⟩ := x
    have hq := hi (q, o) (.head _)
    dsimp only at hq
    have ho := len_pos s.2.1
    by_cases c : q = 0
    · subst c
      refine ⟨o, t.map (sq r next), ?_, fun i hi => ?_, ?_, ⟨shift o.length t, shift_sq, ?_, fun i hi => ?_⟩⟩
      · simp only [List.map_cons, sq, Int.add_zero, enx, takeL, if_pos]
      · rw [← k i (by omega), look, if_pos (by omega)]; congr 1
      · rw [← k o.length (by omega), look, if_neg (by omega)]
        exact look_below s.2.2.sd (by omega)
      · refine shift_sg (s.2.2.le (by omega))
      · rw [shift_look]
        have := k (i + o.length) (by omega)
        rw [look, if_neg (by omega)] at this
        rw [this]; congr 1; omega
    · have ne : ¬ (next + q) % r = next := by
        intro e
        have := mod_ahead (e := next) (q := q) (r := r)
        rw [e, Int.sub_self, Int.emod_eq_of_lt hq.1 (by omega)] at this
        simp at this
        omega
      have h0 := k 0 (Int.le_refl _)
      rw [Int.add_zero, look_below (l := (q, o) :: t) (lo := q) ⟨Int.le_refl _, s.2.1, s.2.2.sd.le (by omega)⟩ (by omega)] at h0
      refine ⟨[], ((q, o) :: t).map (sq r next), ?_, by simp, ?_, ⟨(q, o) :: t, ?_, s, fun i hi => ?_⟩⟩
      · simp only [List.map_cons, sq, takeL, if_neg ne]
      · simpa using h0.symm
      · simp [enx]
      · rw [k i hi]; simp
noncomputable def cutR (e : Int) : List Piece → List Piece
  | [] => []
  | (q, o) :: t => if o.take (max 0 (e - q)).toNat = [] then cutR e t else (q, o.take (max 0 (e - q)).toNat) :: cutR e t
theorem cutGo_eq {e : Int} (hr : 0 < r) (he0 : 0 ≤ e) (he : 2 * e ≤ r) : ∀ (l fd : List Piece), InR r l → cutGo r next ((next + e) % r) (l.map (sq r next)) fd = fd ++ (cutR e l).map (sq r next)
  | [], fd, _ => by simp [cutGo, cutR]
  | (q, o) :: t, fd, hi => by
    have hq := off_sq (next := next) hr hi
    have hi' : InR r t := fun x hx => hi x (.tail _ hx)
    have hE : off ((next + e) % r) next r = e := off_rel hr (by omega) he
    simp only [List.map_cons, sq, cutGo, hq, hE, cutR]
    rw [cut_take (by omega)]
    split
    · exact cutGo_eq hr he0 he t fd hi'
    · rw [cutGo_eq hr he0 he t _ hi']
      simp [sq]
theorem cutR_sg {e : Int} : ∀ {rl : List Piece} {lo : Int}, SG lo rl → SG lo (cutR e rl)
  | [], _, _ => trivial
  | (q, o) :: t, lo, h => by
    unfold cutR
    split
    · exact cutR_sg (h.2.2.le (by have := h.1; omega))
    · rename_i c
      refine ⟨h.1, c, cutR_sg (h.2.2.le ?_)⟩
      rw [List.length_take]; omega
theorem cutR_look {e : Int} : ∀ {rl : List Piece} {lo : Int} (i : Int), SG lo rl → look (cutR e rl) i = if i < e then look rl i else none
  | [], _, i, _ => by simp [cutR, look]
  | (q, o) :: t, lo, i, h => by
    have ho := len_pos h.2.1
    have ih := cutR_look (e := e) i h.2.2
    have hb : i < q + o.length + 1 → look t i = none := fun c => look_below h.2.2.sd c
    unfold cutR
    split
    · rename_i c
      have hz : e ≤ q := by
        apply Classical.byContradiction
        intro c'
        have := congrArg List.length c
        rw [List.length_take, List.length_nil] at this
        omega
      rw [ih, look]
      by_cases hi : i < e
      · rw [if_pos hi, if_pos hi, if_neg (by omega)]
      · rw [if_neg hi, if_neg hi]
    · rename_i c
      have hz : q < e := by
        apply Classical.byContradiction
        intro c'
        apply c
        have : (max 0 (e - q)).toNat = 0 := by omega
        rw [this]; rfl
      rw [look, List.length_take, look, ih]
      by_cases hi : i < e
      · rw [if_pos hi, if_pos hi]
        by_cases hc : q ≤ i ∧ i < q + o.length
        · rw [if_pos hc, if_pos (by omega), List.getElem?_take, if_pos (by omega)]
        · rw [if_neg hc, if_neg (by omega)]
      · rw [if_neg hi, if_neg hi, if_neg (by omega)]
theorem Asm.cut {B : Nat} {e : Int} (h : Asm r next l n m) (hb : Bd n B m) (hr : 0 < r) (hB : 2 * (B : Int) ≤ r) (he0 : 0 ≤ e) (he : 2 * e ≤ r) :
    Asm r next (cutGo r next ((next + e) % r) l []) n (fun j => if j < n + e then m j else none) := by
  obtain ⟨rl, rfl, s, k, z⟩ := h.rel hb
  refine ⟨cutR e rl, by rw [cutGo_eq hr he0 he rl [] (inR_of hB s z), List.nil_append], cutR_sg s, fun i hi => ?_⟩
  rw [cutR_look i s, k i hi]
  show (if i < e then m (n + i) else none) = (if n + i < n + e then m (n + i) else none)
  by_cases c : i < e
  · rw [if_pos c, if_pos (by omega)]
  · rw [if_neg c, if_neg (by omega)]
end
section
structure GM (R : Rec) (base : Int) (m : Int → Option UInt8) (n : Nat) (E : Option Int) : Prop where
  ring : R.ring = 256 ∨ R.ring = 4294967296
  b0 : 0 ≤ base
  b1 : base < R.ring
  told : R.told = (base + 60) % R.ring
  fin : R.fin = E.map fun e => (base + e) % R.ring
  has : R.has = true → E = some (n : Int)
  next : R.next = (base + n + (if R.has = true then 1 else 0)) % R.ring
  rdl : R.ready.length = n
  rdy : ∀ i : Nat, i < n → m i = R.ready[i]?
  asm : Asm R.ring ((base + n) % R.ring) R.parts n m
  bd : ∀ j : Int, 60 ≤ j → m j = none
  fge : ∀ e, E = some e → n ≤ e ∧ 2 * (e - n) ≤ R.ring
  cutE : ∀ e, E = some e → ∀ j, e ≤ j → m j = none
variable {R : Rec} {base : Int} {m : Int → Option UInt8} {n : Nat} {E : Option Int}
theorem GM.rp (h : GM R base m n E) : 0 < R.ring ∧ 256 ≤ R.ring := by have := h.ring; omega
theorem GM.bd' (h : GM R base m n E) : Bd n 60 m := fun j hj => h.bd j (by omega)
theorem GM.is (h : GM R base m n E) {i : Nat} (hi : i < n) : m i ≠ none := by
  rw [h.rdy i hi, List.getElem?_eq_getElem (by rw [h.rdl]; exact hi)]; simp
theorem GM.n60 (h : GM R base m n E) : n ≤ 60 := by
  refine Classical.byContradiction fun c => ?_
  exact h.is (i := n - 1) (by omega) (h.bd _ (by omega))
theorem mod_diffM {b x y r : Int} : ((b + x) % r - (b + y) % r) % r = (x - y) % r := by
  rw [← Int.sub_emod]; congr 1; omega
theorem before_gapM {b x y r : Int} (h0 : x ≤ y) (h1 : 2 * (y - x) < r) : before ((b + x) % r) ((b + y) % r) r = decide (x < y) := by
  unfold before
  rw [mod_diffM, Int.emod_eq_of_lt (by omega) (by omega)]
  by_cases c : x < y
  · rw [decide_eq_true c, decide_eq_true (by omega : 0 < y - x), decide_eq_true h1]; rfl
  · rw [decide_eq_false c, decide_eq_false (by omega : ¬ 0 < y - x)]; rfl
theorem gap_ofM {b x y r : Int} (h0 : x ≤ y) (h1 : y - x < r) : ((b + y) % r - (b + x) % r) % r = y - x := by
  rw [mod_diffM, Int.emod_eq_of_lt (by omega) (by omega)]
theorem GM.at (h : GM R base m n E) (p : Int) : (base + p) % R.ring = ((base + n) % R.ring + (p - n)) % R.ring := by
  rw [Int.emod_add_emod]; congr 1; omega
noncomputable def comeM (m : Int → Option UInt8) (p : Int) (oct : List UInt8) (j : Int) : Option UInt8 := (m j).or (if p ≤ j ∧ j < p + oct.length then oct[(j - p).toNat]? else none)
theorem comeM_nil {p : Int} : comeM m p [] = m := by
  funext j
  unfold comeM
  split
  · rename_i c; simp at c; omega
  · cases m j <;> rfl
theorem putM (h : GM R base m n E) (hh : R.has = false) {p : Int} {oct : List UInt8} (h0 : -60 ≤ p) (h1 : p + oct.length ≤ 60) (he : ∀ e, E = some e → oct = [] ∨ p + oct.length ≤ e) :
    GM { R with parts := putL R.ring R.next ((base + p) % R.ring) oct R.parts } base (comeM m p oct) n E := by
  obtain ⟨hr0, hr⟩ := h.rp
  have h60 := h.n60
  have hnx : R.next = (base + n) % R.ring := by rw [h.next, hh]; simp
  refine ⟨h.ring, h.b0, h.b1, h.told, h.fin, h.has, h.next, h.rdl, fun i hi => ?_, ?_, fun j hj => ?_, h.fge, fun e ee j hj => ?_⟩
  · have := h.is hi
    unfold comeM
    cases q : m i with
    | none => exact absurd q this
    | some b => rw [← h.rdy i hi, q]; rfl
  · show Asm R.ring ((base + n) % R.ring) (putL R.ring R.next ((base + p) % R.ring) oct R.parts) n _
    rw [hnx, h.at p]
    exact h.asm.put h.bd' hr0 (by omega) (p := p) (oct := oct) (by omega) (by omega)
  · unfold comeM
    rw [h.bd j hj, if_neg (by omega)]; rfl
  · unfold comeM
    rw [h.cutE e ee j hj]
    rcases he e ee with q | q
    · rw [q, if_neg (by rw [List.length_nil]; omega)]; rfl
    · rw [if_neg (by omega)]; rfl
theorem gatherM (h : GM R base m n E) : ∃ n' : Nat, n ≤ n' ∧ GM (gatherR R) base m n' E ∧ m n' = none ∧ (taken R).length = n' - n ∧ ((gatherR R).has = true ↔ E = some (n' : Int)) := by
  obtain ⟨hr0, hr⟩ := h.rp
  have h60 := h.n60
  cases hh : R.has
  · have hnx : R.next = (base + n) % R.ring := by rw [h.next, hh]; simp
    have hn0 : 0 ≤ R.next := by rw [hnx]; exact Int.emod_nonneg _ (by omega)
    have hn1 : R.next < R.ring := by rw [hnx]; exact Int.emod_lt_of_pos _ hr0
    have ha := h.asm
    rw [← hnx] at ha
    obtain ⟨o, l', e, hi, hk, hA⟩ := ha.take h.bd' hr0 (by omega) hn0 hn1
    have et : taken R = o := by rw [taken, if_neg (by rw [hh]; decide), e]
    have el : leftP R = l' := by rw [leftP, if_neg (by rw [hh]; decide), e]
    have eT : takeR R = { R with parts := l', ready := R.ready ++ o, next := (base + (n + o.length : Nat)) % R.ring } := by
      unfold takeR
      rw [et, el, hnx, Int.emod_add_emod]
      have e1 : base + (n : Int) + (o.length : Int) = base + ((n + o.length : Nat) : Int) := by omega
      rw [e1]
    have hA' : Asm R.ring ((base + (n + o.length : Nat)) % R.ring) l' ((n + o.length : Nat) : Int) m := by
      rw [hnx, Int.emod_add_emod] at hA
      have e1 : base + (n : Int) + (o.length : Int) = base + ((n + o.length : Nat) : Int) := by omega
      have e2 : (n : Int) + (o.length : Int) = ((n + o.length : Nat) : Int) := by omega
      rw [e1, e2] at hA
      exact hA
    have hk' : m ((n + o.length : Nat) : Int) = none := by
      have e2 : (n : Int) + (o.length : Int) = ((n + o.length : Nat) : Int) := by omega
      rw [← e2]; exact hk
    have rdy' : ∀ i : Nat, i < n + o.length → m i = (R.ready ++ o)[i]? := fun i hlt => by
      by_cases c : i < n
      · rw [List.getElem?_append_left (by rw [h.rdl]; exact c)]; exact h.rdy i c
      · rw [List.getElem?_append_right (by rw [h.rdl]; omega), h.rdl]
        have := hi (i - n) (by omega)
        rw [this]; congr 1; omega
    have is' : ∀ i : Nat, i < n + o.length → m i ≠ none := fun i hlt => by
      rw [rdy' i hlt, List.getElem?_eq_getElem (by rw [List.length_append, h.rdl]; exact hlt)]; simp
    have fge' : ∀ e, E = some e → ((n + o.length : Nat) : Int) ≤ e ∧ 2 * (e - (n + o.length : Nat)) ≤ R.ring := fun e ee => by
      obtain ⟨a, b⟩ := h.fge e ee
      have : ((n + o.length : Nat) : Int) ≤ e := by
        refine Classical.byContradiction fun c => ?_
        by_cases z : o.length = 0
        · omega
        · exact is' (n + o.length - 1) (by omega) (h.cutE e ee _ (by omega))
      exact ⟨this, by omega⟩
    have iff : (R.fin = some ((base + (n + o.length : Nat)) % R.ring)) ↔ E = some ((n + o.length : Nat) : Int) := by
      rw [h.fin]
      cases E with
      | none => simp
      | some e =>
        obtain ⟨a, b⟩ := fge' e rfl
        simp only [Option.map_some, Option.some.injEq]
        constructor
        · intro q
          have := gap_ofM (b := base) (r := R.ring) a (by omega)
          rw [q, Int.sub_self, Int.zero_emod] at this
          omega
        · intro q; rw [q]
    refine ⟨n + o.length, by omega, ?_, hk', by rw [et]; omega, ?_⟩
    · unfold gatherR
      rw [eT]
      unfold endR
      split
      · rename_i c
        obtain ⟨c1, c2⟩ := c
        refine ⟨h.ring, h.b0, h.b1, h.told, h.fin, fun _ => iff.mp c1, ?_, ?_, rdy', hA', h.bd, fge', h.cutE⟩
        · show ((base + (n + o.length : Nat)) % R.ring + 1) % R.ring = _; rw [Int.emod_add_emod]; simp
        · show (R.ready ++ o).length = _; rw [List.length_append, h.rdl]
      · refine ⟨h.ring, h.b0, h.b1, h.told, h.fin, fun c => (by have c' : R.has = true := c; rw [hh] at c'; cases c'), ?_, ?_, rdy', hA', h.bd, fge', h.cutE⟩
        · show (base + (n + o.length : Nat)) % R.ring = (base + (n + o.length : Nat) + (if R.has = true then 1 else 0)) % R.ring; rw [hh]; simp
        · show (R.ready ++ o).length = _; rw [List.length_append, h.rdl]
    · unfold gatherR
      rw [eT]
      unfold endR
      by_cases c : R.fin = some ((base + (n + o.length : Nat)) % R.ring)
      · rw [if_pos ⟨c, hh⟩]
        exact ⟨fun _ => iff.mp c, fun _ => rfl⟩
      · rw [if_neg fun q => c q.1]
        constructor
        · intro q; have q' : R.has = true := q; rw [hh] at q'; cases q'
        · intro q; exact absurd (iff.mpr q) c
  · have et : taken R = [] := by rw [taken, if_pos hh]
    have el : leftP R = R.parts := by rw [leftP, if_pos hh]
    have f1 := h.has hh
    have enx : R.next % R.ring = R.next := by rw [h.next]; exact Int.emod_emod_of_dvd _ (Int.dvd_refl _)
    have eT : takeR R = R := by
      unfold takeR
      rw [et, el, List.append_nil, List.length_nil]
      simp only [Int.ofNat_zero, Int.add_zero]
      rw [enx]
    have eG : gatherR R = R := by
      unfold gatherR
      rw [eT]
      unfold endR
      rw [if_neg (by rw [hh]; simp)]
    rw [eG]
    exact ⟨n, Nat.le_refl _, h, h.cutE _ f1 _ (Int.le_refl _), by rw [et]; simp, fun _ => f1, fun _ => hh⟩
theorem newM {irs ring : Int} (hr : ring = 256 ∨ ring = 4294967296) : GM (newR irs ring 60) ((irs + 1) % ring) (fun _ => none) 0 none := by
  have e0 : (irs + 1) % ring % ring = (irs + 1) % ring := Int.emod_emod_of_dvd _ (Int.dvd_refl _)
  refine ⟨hr, Int.emod_nonneg _ (by omega), Int.emod_lt_of_pos _ (by omega), rfl, rfl, fun q => (by cases q), ?_, rfl, fun i hi => absurd hi (Nat.not_lt_zero _), Asm.nil fun j _ => rfl, fun _ _ => rfl, fun e ee => (by cases ee), fun e ee => (by cases ee)⟩
  show (irs + 1) % ring = ((irs + 1) % ring + ((0 : Nat) : Int) + 0) % ring
  simp [e0]
noncomputable def cutM (m : Int → Option UInt8) (e j : Int) : Option UInt8 := if j < e then m j else none
theorem noteM (h : GM R base m n none) {gap : Int} (h0 : 0 ≤ gap) (h1 : 2 * gap ≤ R.ring) : GM (noteR R ((base + (n + gap)) % R.ring)) base (cutM m (n + gap)) n (some (n + gap)) := by
  obtain ⟨hr0, hr⟩ := h.rp
  have h60 := h.n60
  have hh : R.has = false := by
    cases q : R.has
    · rfl
    · have := h.has q; cases this
  have hnx : R.next = (base + n) % R.ring := by rw [h.next, hh]; simp
  have hpl : (base + (n + gap)) % R.ring = ((base + n) % R.ring + gap) % R.ring := by rw [Int.emod_add_emod]; congr 1; omega
  have hbf : before ((base + (n + gap)) % R.ring) R.next R.ring = false := by
    rw [hnx, hpl, before_rel (by omega) h1]
    exact decide_eq_false (by omega)
  unfold noteR
  rw [if_pos ⟨by rw [h.fin]; rfl, hbf⟩]
  refine ⟨h.ring, h.b0, h.b1, h.told, rfl, fun q => (by have q' : R.has = true := q; rw [hh] at q'; cases q'), h.next, h.rdl, fun i hi => ?_, ?_, fun j hj => ?_, fun e ee => ?_, fun e ee j hj => ?_⟩
  · unfold cutM; rw [if_pos (by omega)]; exact h.rdy i hi
  · show Asm R.ring ((base + n) % R.ring) (cutGo R.ring R.next ((base + (n + gap)) % R.ring) R.parts []) n _
    rw [hnx, hpl]
    exact h.asm.cut h.bd' hr0 (by omega) h0 h1
  · unfold cutM; split
    · exact h.bd j hj
    · rfl
  · cases ee
    have e1 : (n : Int) + gap - n = gap := by omega
    exact ⟨by omega, by rw [e1]; exact h1⟩
  · cases ee; unfold cutM; rw [if_neg (by omega)]
theorem noteM_old (h : GM R base m n (some e)) {place : Int} : noteR R place = R := by
  unfold noteR
  rw [if_neg fun q => by rw [h.fin] at q; cases q.1]
end
section
variable {R : Rec} {base : Int} {m : Int → Option UInt8} {n : Nat} {E : Option Int}
noncomputable def toI (o : Option UInt8) : Option Int := o.map fun b => (b.toNat : Int)
theorem pairs_rep : ∀ (L : List (Int × Int)) {l : List (Int × Int)} {g : Int → Option Int}, Rep l g → (L.map (·.1)).Nodup → Rep (L.foldl (fun acc kv => dPut acc kv.1 kv.2) l) (fun j => (dAt L j).or (g j))
  | [], l, g, h, _ => h.congr fun _ => rfl
  | (i, v) :: L, l, g, h, nd => by
    rw [List.map_cons, List.nodup_cons] at nd
    refine (pairs_rep L (h.put (k := i) (v := v)) nd.2).congr fun j => ?_
    rw [dAt_cons]
    by_cases c : j = i
    · rw [if_pos c, if_pos c.symm, c, dAt_none.mpr nd.1]; rfl
    · rw [if_neg c, if_neg (Ne.symm c)]
theorem cut_rep {kn : List (Int × Int)} {f : Int → Option UInt8} {e : Int} (h : Rep kn fun j => toI (f j)) : Rep ((kn.filter fun kv => decide (kv.1 < e)).foldl (fun acc kv => dPut acc kv.1 kv.2) []) fun j => toI (cutM f e j) := by
  have nd : ((kn.filter fun kv => decide (kv.1 < e)).map (·.1)).Nodup := List.pairwise_map.mpr ((List.pairwise_map.mp h.1).sublist List.filter_sublist)
  refine (pairs_rep _ Rep.nil nd).congr fun j => ?_
  rw [Option.or_none]
  have hj := h.2 j
  dsimp only at hj
  apply Option.ext
  intro v
  rw [dAt_mem nd, List.mem_filter, ← dAt_mem h.1, hj]
  unfold cutM
  by_cases c : j < e
  · rw [if_pos c]; exact ⟨fun q => q.1, fun q => ⟨q, decide_eq_true c⟩⟩
  · rw [if_neg c]
    exact ⟨fun q => absurd (of_decide_eq_true q.2) c, fun q => by cases q⟩
theorem come_step {p : Int} {oct : List UInt8} {c : Nat} (hc : c < oct.length) (j : Int) : comeM m p (oct.take (c + 1)) j = if j = p + c ∧ comeM m p (oct.take c) j = none then some (oct.getD c 0) else comeM m p (oct.take c) j := by
  have l1 : (oct.take (c + 1)).length = c + 1 := by rw [List.length_take]; omega
  have l2 : (oct.take c).length = c := by rw [List.length_take]; omega
  unfold comeM
  rw [l1, l2]
  by_cases d : j = p + c
  · subst d
    rw [if_neg (by omega : ¬ (p ≤ p + (c : Int) ∧ p + (c : Int) < p + (c : Nat))), if_pos (by omega), Option.or_none]
    have e2 : (p + (c : Int) - p).toNat = c := by omega
    rw [e2, List.getElem?_take, if_pos (Nat.lt_succ_self c)]
    cases q : m (p + c) with
    | none =>
      rw [if_pos ⟨rfl, rfl⟩, List.getElem?_eq_getElem hc, List.getD_eq_getElem?_getD, List.getElem?_eq_getElem hc]; rfl
    | some b => rw [if_neg fun z => by cases z.2]; rfl
  · rw [if_neg (c := j = p + (c : Int) ∧ _) fun z => d z.1]
    by_cases f : p ≤ j ∧ j < p + (c : Int)
    · rw [if_pos (c := p ≤ j ∧ j < p + ((c + 1 : Nat) : Int)) (by omega), if_pos f, List.getElem?_take, List.getElem?_take, if_pos (by omega), if_pos (by omega)]
    · rw [if_neg f, if_neg (c := p ≤ j ∧ j < p + ((c + 1 : Nat) : Int)) (by omega)]
theorem come_zero {p : Int} {oct : List UInt8} (j : Int) : comeM m p (oct.take 0) j = m j := by
  rw [List.take_zero, comeM_nil]
end
section
variable {R : Rec} {base : Int} {m : Int → Option UInt8} {n : Nat} {E : Option Int}
noncomputable def bookL (kd : Addr) (n : Int) (E : Option Int) (v : Bool) : List (Str × MV) := [("known", .ref kd), ("next", .int n), ("end", oi E), ("over", .bool v)]
theorem op_setstr2 {W : Wd} {k : Nat} {env : Env} {ns : List Str} {vals : List (Option MV)} {σ : Store} {QU : Unit → Store → Prop} {d : Addr} {l l' : List (Str × MV)} {i : Str} {v : MV} (ha : σ d = some (.dds l)) (hl : l.length ≤ 1000000) (e : dPut l i v = l') (q : QU () (σ.put d (.dds l'))) : M3 RU W k setItem (.ref d) (.str i) v env ns vals σ QU := by
  subst e
  exact op_setstr ha hl q
theorem GM.congr {m' : Int → Option UInt8} (h : GM R base m n E) (e : ∀ j, 0 ≤ j → m' j = m j) : GM R base m' n E :=
  ⟨h.ring, h.b0, h.b1, h.told, h.fin, h.has, h.next, h.rdl, fun i hi => by rw [e _ (by omega)]; exact h.rdy i hi, h.asm.congr fun j hj => (e j (by omega)).symm, fun j hj => by rw [e j (by omega)]; exact h.bd j hj, h.fge,
    fun x ex j hj => by rw [e j (by have := (h.fge x ex).1; omega)]; exact h.cutE x ex j hj⟩
noncomputable def putN (m : Int → Option UInt8) (n : Nat) (p : Int) (oct : List UInt8) (j : Int) : Option UInt8 := if j < n then m j else comeM m p oct j
theorem GM.put4 (h : GM R base m n E) (hh : R.has = false) {p : Int} {oct : List UInt8} (h0 : -60 ≤ p) (h1 : p + oct.length ≤ 60) (he : ∀ e, E = some e → oct = [] ∨ p + oct.length ≤ e) :
    GM { R with parts := putL R.ring R.next ((base + p) % R.ring) oct R.parts } base (putN m n p oct) n E := (putM h hh h0 h1 he).congr fun j hj => by
  unfold putN
  split
  · rename_i c
    have e : (j.toNat : Int) = j := by omega
    have := h.is (i := j.toNat) (by omega)
    rw [e] at this
    unfold comeM
    cases q : m j with
    | none => exact absurd q this
    | some z => rfl
  · rfl
theorem n_le_kn {kn : List (Int × Int)} (h : GM R base m n E) (hk : Rep kn fun j => toI (m j)) : n ≤ kn.length := by
  have := nodup_len (l := (List.range n).map Int.ofNat) (m := kn.map (·.1)) (List.pairwise_map.mpr (List.nodup_range.imp fun hab q => hab (Int.ofNat.inj q))) (fun x hx => by
    obtain ⟨i, hi, rfl⟩ := List.mem_map.mp hx
    refine Classical.byContradiction fun q => ?_
    have q1 := dAt_none.mpr q
    rw [hk.2] at q1
    have := h.is (List.mem_range.mp hi)
    cases z : m (Int.ofNat i) with
    | none => exact this z
    | some b => dsimp only at q1; rw [z] at q1; cases q1)
  simpa using this
theorem putN_zero {p : Int} {oct : List UInt8} (j : Int) : putN m n p (oct.take 0) j = m j := by
  unfold putN; split
  · rfl
  · exact come_zero j
theorem putN_step {p : Int} {oct : List UInt8} {c : Nat} (hc : c < oct.length) (j : Int) :
    putN m n p (oct.take (c + 1)) j = if j = p + c ∧ (n : Int) ≤ p + c ∧ putN m n p (oct.take c) (p + c) = none then some (oct.getD c 0) else putN m n p (oct.take c) j := by
  have s := come_step (m := m) (p := p) hc j
  unfold putN
  by_cases a : j < n
  · rw [if_pos a, if_pos a, if_neg fun q => by omega]
  · rw [if_neg a, if_neg a, s]
    by_cases b : j = p + c
    · subst b
      rw [if_neg a]
      by_cases d : comeM m p (oct.take c) (p + c) = none
      · rw [if_pos ⟨rfl, d⟩, if_pos ⟨rfl, by omega, d⟩]
      · rw [if_neg fun q => d q.2, if_neg fun q => d q.2.2]
    · rw [if_neg fun q => b q.1, if_neg fun q => b q.1]
theorem cut_end {oct : List UInt8} {p e : Int} : cut oct none (some (max 0 (e - p))) = oct.take (max 0 (e - p)).toNat := cut_take (by omega)
theorem end_fits {oct : List UInt8} {p e : Int} : oct.take (max 0 (e - p)).toNat = [] ∨ p + (oct.take (max 0 (e - p)).toNat).length ≤ e := by
  by_cases c : e - p ≤ 0
  · left
    have : (max 0 (e - p)).toNat = 0 := by omega
    rw [this, List.take_zero]
  · right
    rw [List.length_take]; omega
theorem over_eq {R' : Rec} {n' : Nat} (h : GM R base m n E) (h' : GM R' base m n' E) (hn : n ≤ n') (iff : R'.has = true ↔ E = some (n' : Int)) : (R.has || decide (E = some (n' : Int))) = R'.has := by
  cases q : R.has with
  | true =>
    have e := h.has q
    have := (h'.fge _ e).1
    have en : (n : Int) = n' := by omega
    rw [en] at e
    rw [iff.mpr e]; rfl
  | false =>
    rw [Bool.false_or]
    cases z : R'.has with
    | true => exact decide_eq_true (iff.mp z)
    | false => exact decide_eq_false fun w => by rw [iff.mpr w] at z; cases z
theorem bytes_back {l : List UInt8} : (l.map fun b => (b.toNat : Int)).map (fun n => n.toNat.toUInt8) = l := by
  rw [List.map_map]
  have : ((fun n : Int => n.toNat.toUInt8) ∘ fun b : UInt8 => (b.toNat : Int)) = id := by funext b; simp
  rw [this, List.map_id]
theorem ne_obj {τ : Store} {a c : Addr} {o o' : MO} (h : τ a = some o) (h' : τ c = some o') (e : o ≠ o') : a ≠ c := fun q => e (by rw [q, h'] at h; exact (Option.some.inj h).symm)
end
section
variable {b : Base} {σ σ₀ τ : Store} {Q : MV → Store → Prop} {rc rd as ps : Addr} {R : Rec}
theorem dPut_len {l : List (Int × Int)} {k v : Int} : (dPut l k v).length ≤ l.length + 1 := by
  unfold dPut
  split
  · rw [List.length_map]; omega
  · rw [List.length_append]; simp
theorem lput_ok {rg : Int} (er₀ : R.ring = rg) {x bk kd : Addr} {A B base turn : Int} {n i : Nat} {E : Option Int} {m : Int → Option UInt8} {kn : List (Int × Int)} {v : Bool}
    (hx : τ x = some (srcO A B)) (hd : Drawn A B) (hb : τ bk = some (.dds (bookL kd n E v))) (hk : τ kd = some (.ddi (mi kn))) (hR : RAt τ σ rc rd as ps R) (hG : GM R base m n E) (hh : R.has = false)
    (hkn : Rep kn fun j => toI (m j)) (hl : kn.length ≤ 4 * i) (hi : i ≤ 6) (ht0 : 0 ≤ turn) (ht1 : turn ≤ 6)
    (q : ∀ A' B' τ' σ' ps' R' kn' m', Drawn A' B' → τ' x = some (srcO A' B') → τ' bk = some (.dds (bookL kd n E v)) → τ' kd = some (.ddi (mi kn')) → RAt τ' σ' rc rd as ps' R' → R'.ring = rg → R'.has = false → GM R' base m' n E → Rep kn' (fun j => toI (m' j)) → kn'.length ≤ 4 * (i + 1) → Q .none σ') :
    MCall b.W 7 300 [.ref x, .ref rc, .ref bk, .int base, .int rg, .int turn] σ Q := by
  subst er₀
  obtain ⟨hr0, hr256⟩ := hG.rp
  have hn24 : n ≤ 24 := by have := n_le_kn hG hkn; omega
  have hxk : x ≠ kd := ne_obj hx hk (by intro q; cases q)
  have hxb : x ≠ bk := ne_obj hx hb (by intro q; cases q)
  have hkb : kd ≠ bk := ne_obj hk hb (by intro q; cases q)
  refine MCall.enter (ps := ["source", "receiver", "book", "base", "ring", "turn"]) ["spot", "octets", "step"] rfl rfl ?_ rfl rfl rfl (by decide +kernel) fun L => ?_
  · walk_at "binds"
  walk_at "norm"
  refine (let e₁ : Env := _; let Q₁ : MFlow → List (Option MV) → Store → Prop := _; (?_ : MG _ _ _ (execs _ e₁) e₁ _ _ _ Q₁))
  refine ms_cons ?_
  refine ms_swap (names := ["spot", "octets"]) (ok2 (.inl rfl) (.inl rfl)) ?_ (by with_unfolding_all rfl)
  repeat tb_start
  refine sub_str (v := .int n) (hR.keep _ _ hb) (by rfl) ?_ (by intros; rfl)
  repeat tb_start
  refine mx_call fn_take rfl ?_
  repeat tb_start
  refine MCall.le (take_ok' (hR.keep _ _ hx) hd (by decide) fun A3 B3 d3 hd3 d30 d31 => ?_) (by decide)
  have hR3 := hR.outerPut (o' := srcO A3 B3) hx
  have hx3 : (τ.put x (srcO A3 B3)) x = some (srcO A3 B3) := Store.put_self
  have hk3 : (τ.put x (srcO A3 B3)) kd = some (.ddi (mi kn)) := by rw [Store.put_ne (Ne.symm hxk)]; exact hk
  have hb3 : (τ.put x (srcO A3 B3)) bk = some (.dds (bookL kd n E v)) := by rw [Store.put_ne (Ne.symm hxb)]; exact hb
  generalize (τ.put x (srcO A3 B3)) = τ3 at *
  generalize (σ.put x (srcO A3 B3)) = σ3 at *
  clear hR hx hk hb
  repeat tb_start
  refine mx_tcall bt_bytes rfl ?_
  repeat tb_start
  refine ⟨by simp, fun th hth => ?_⟩
  have hR4 := hR3.outerNew (o := .lst [.int (65 + turn)]) hth
  have hx4 : (τ3.put th (.lst [.int (65 + turn)])) x = some (srcO A3 B3) := by rw [Store.put_ne (ne_of hth (hR3.keep _ _ hx3))]; exact hx3
  have hk4 : (τ3.put th (.lst [.int (65 + turn)])) kd = some (.ddi (mi kn)) := by rw [Store.put_ne (ne_of hth (hR3.keep _ _ hk3))]; exact hk3
  have hb4 : (τ3.put th (.lst [.int (65 + turn)])) bk = some (.dds (bookL kd n E v)) := by rw [Store.put_ne (ne_of hth (hR3.keep _ _ hb3))]; exact hb3
  have hxt : x ≠ th := ne_of hth (hR3.keep _ _ hx3)
  have ht4 : (τ3.put th (.lst [.int (65 + turn)])) th = some (.lst [.int (65 + turn)]) := Store.put_self
  generalize (τ3.put th (.lst [.int (65 + turn)])) = τ4 at *
  generalize (σ3.put th (.lst [.int (65 + turn)])) = σ4 at *
  clear hR3 hx3 hk3 hb3
  repeat tb_start
  refine mx_call fn_take rfl ?_
  repeat tb_start
  refine MCall.le (take_ok' (hR4.keep _ _ hx4) hd3 (by decide) fun A5 B5 d5 hd5 d50 d51 => ?_) (by decide)
  have hR5 := hR4.outerPut (o' := srcO A5 B5) hx4
  have hx5 : (τ4.put x (srcO A5 B5)) x = some (srcO A5 B5) := Store.put_self
  have hk5 : (τ4.put x (srcO A5 B5)) kd = some (.ddi (mi kn)) := by rw [Store.put_ne (Ne.symm hxk)]; exact hk4
  have hb5 : (τ4.put x (srcO A5 B5)) bk = some (.dds (bookL kd n E v)) := by rw [Store.put_ne (Ne.symm hxb)]; exact hb4
  have ht5 : (τ4.put x (srcO A5 B5)) th = some (.lst [.int (65 + turn)]) := by rw [Store.put_ne (Ne.symm hxt)]; exact ht4
  generalize (τ4.put x (srcO A5 B5)) = τ5 at *
  generalize (σ4.put x (srcO A5 B5)) = σ5 at *
  clear hR4 hx4 hk4 hb4 ht4
  repeat tb_start
  refine op_mul_list (hR5.keep _ _ ht5) (by omega) (by omega) fun D hD => ?_
  have hR6 := hR5.outerNew (o := .lst (List.replicate (1 + d5).toNat (.int (65 + turn)))) hD
  have hx6 : (τ5.put D (.lst (List.replicate (1 + d5).toNat (.int (65 + turn))))) x = some (srcO A5 B5) := by rw [Store.put_ne (ne_of hD (hR5.keep _ _ hx5))]; exact hx5
  have hk6 : (τ5.put D (.lst (List.replicate (1 + d5).toNat (.int (65 + turn))))) kd = some (.ddi (mi kn)) := by rw [Store.put_ne (ne_of hD (hR5.keep _ _ hk5))]; exact hk5
  have hb6 : (τ5.put D (.lst (List.replicate (1 + d5).toNat (.int (65 + turn))))) bk = some (.dds (bookL kd n E v)) := by rw [Store.put_ne (ne_of hD (hR5.keep _ _ hb5))]; exact hb5
  have hD6 : (τ5.put D (.lst (List.replicate (1 + d5).toNat (.int (65 + turn))))) D = some (.lst ((List.replicate (1 + d5).toNat (65 + turn)).map .int)) := by
    rw [Store.put_self, List.map_replicate]
  generalize (τ5.put D (.lst (List.replicate (1 + d5).toNat (.int (65 + turn))))) = τ6 at *
  generalize (σ5.put D (.lst (List.replicate (1 + d5).toNat (.int (65 + turn))))) = σ6 at *
  clear hR5 hx5 hk5 hb5 ht5
  repeat tb_start
  refine ty_bytes_list (l := List.replicate (1 + d5).toNat (65 + turn)) (hR6.keep _ _ hD6) (by simp; omega) (fun z hz => by have := List.eq_of_mem_replicate hz; omega) ?_
  have ol : ((List.replicate (1 + d5).toNat (65 + turn)).map fun n => n.toNat.toUInt8).length ≤ 4 := by simp; omega
  generalize ((List.replicate (1 + d5).toNat (65 + turn)).map fun n => n.toNat.toUInt8) = oct at *
  repeat tb_start
  refine ⟨by simp, ?_⟩
  repeat tb_start
  refine ⟨by rfl, ?_⟩
  simp only [List.reverse_cons, List.reverse_nil, List.nil_append, List.cons_append, puts]
  repeat tb_start
  refine ms_cons ?_
  refine MG.mono (Q := fun fl vals σ' => fl = .next ∧ Ex1 fun (oct : List UInt8) => And4 (vals = [some (.ref x), some (.ref rc), some (.ref bk), some (.int base), some (.int R.ring), some (.int turn), some (.int (n - 2 + d3)), some (.bytes oct), none]) (σ' = σ6) (oct.length ≤ 4) ((∀ e, E = some e → oct = [] ∨ (n - 2 + d3) + oct.length ≤ e))) ?_ ?_
  · refine (let Q₁ : MFlow → List (Option MV) → Store → Prop := _; (?_ : MG _ _ _ _ _ _ _ _ Q₁))
    repeat tb_start
    refine sub_str (v := oi E) (hR6.keep _ _ hb6) (by rfl) ?_ (by intros; rfl)
    cases hE : E with
    | none =>
      repeat tb_start
      simp only [oi, MV.isNone, Bool.not_true, Bool.false_eq_true, if_false]
      repeat tb_start
      exact ⟨by first | rfl | trivial, oct, rfl, rfl, ol, fun e q => by rw [hE] at q; cases q⟩
    | some e =>
      repeat tb_start
      simp only [oi, MV.isNone, Bool.not_false, if_true]
      repeat (first | tb_start | refine ms_cons ?_)
      refine mx_bcall bt_max rfl ?_
      repeat tb_start
      refine sub_str (v := .int e) (hR6.keep _ _ hb6) (by rw [hE]; rfl) ?_ (by intros; rfl)
      repeat tb_start
      refine bl_max ?_
      repeat tb_start
      refine sl_bytes (by omega) ?_
      repeat tb_start
      rw [cut_end]
      refine ⟨by first | rfl | trivial, _, rfl, rfl, ?_, fun e' q => ?_⟩
      · rw [List.length_take]; omega
      · rw [hE] at q; cases q; exact end_fits
  clear ol oct
  rintro fl vals σ' ⟨rfl, oct, rfl, rfl, ol, hfit⟩
  repeat tb_start
  refine ms_cons ?_
  repeat tb_start
  refine me_ins hR6.asm.at_ me_put ?_
  repeat tb_start
  have zs := hG.asm.sizes hG.bd'
  have hG2 := hG.put4 hh (p := n - 2 + d3) (oct := oct) (by omega) (by omega) hfit
  refine MCall.le (put_ok hr0 hR6.inner (fun y hy => Nat.le_trans (zs.1 y hy) (by decide)) (by omega) (by omega) fun σ7 ps7 h7 => ?_) (by decide)
  have hR7 := hR6.outer h7
  clear h7 hR6 zs hG
  have er7 : ({ R with parts := putL R.ring R.next ((base + (n - 2 + d3)) % R.ring) oct R.parts } : Rec).ring = R.ring := rfl
  have hh7 : ({ R with parts := putL R.ring R.next ((base + (n - 2 + d3)) % R.ring) oct R.parts } : Rec).has = false := hh
  generalize ({ R with parts := putL R.ring R.next ((base + (n - 2 + d3)) % R.ring) oct R.parts } : Rec) = R7 at *
  repeat tb_start
  refine ms_cons ?_
  generalize (n : Int) - 2 + d3 = p at *
  refine MG.mono (Q := fun fl vals σ' => fl = .next ∧ Ex2 fun (τ' : Store) (kn' : List (Int × Int)) => And6 (τ' x = some (srcO A5 B5)) (τ' bk = some (.dds (bookL kd n E v))) (τ' kd = some (.ddi (mi kn'))) (RAt τ' σ' rc rd as ps7 R7) (Rep kn' (fun j => toI (putN m n p oct j))) (kn'.length ≤ 4 * (i + 1))) ?_ ?_
  · refine (let Q₁ : MFlow → List (Option MV) → Store → Prop := _; (?_ : MG _ _ _ _ _ _ _ _ Q₁))
    refine ms_forR rfl ?_
    refine mr_one bt_range rfl ?_
    repeat tb_start
    refine mx_bcall bt_len rfl ?_
    repeat tb_start
    refine bl_len_bytes (by omega) ?_
    repeat tb_start
    refine ⟨by omega, by omega, by omega, by omega, fun c vals σ' => Ex3 fun (v4 : Option MV) (τ' : Store) (kn' : List (Int × Int)) => And7 (vals = [some (.ref x), some (.ref rc), some (.ref bk), some (.int base), some (.int R.ring), some (.int turn), some (.int p), some (.bytes oct), v4]) (τ' x = some (srcO A5 B5)) (τ' bk = some (.dds (bookL kd n E v))) (τ' kd = some (.ddi (mi kn'))) (RAt τ' σ' rc rd as ps7 R7) (Rep kn' (fun j => toI (putN m n p (oct.take c) j))) (kn'.length ≤ 4 * i + c), ?_, ?_, ?_⟩
    · exact ⟨_, τ6, kn, rfl, hx6, hb6, hk6, hR7, hkn.congr fun j => by rw [putN_zero], by omega⟩
    · rintro c vals σ' hc ⟨v4, τ', kn', rfl, hx', hb', hk', hR', hkn', hl'⟩
      have hc' : c < oct.length := by omega
      refine (let Q₁ : Unit → List (Option MV) → Store → Prop := _; (?_ : G1 _ _ _ _ _ _ _ _ _ Q₁))
      refine as_name (.inl rfl) (by krn_off) ?_
      refine ms_cons ?_
      repeat tb_start
      refine sub_str (v := .int n) (hR'.keep _ _ hb') (by rfl) ?_ (by intros; rfl)
      repeat tb_start
      have e1 : p + (0 + (c : Int)) = p + c := by omega
      rw [e1]
      have step := putN_step (m := m) (n := n) (p := p) hc'
      by_cases w : (n : Int) ≤ p + c
      · rw [decide_eq_true w]
        repeat tb_start
        rw [e1]
        refine sub_str (v := .ref kd) (hR'.keep _ _ hb') (by rfl) ?_ (by intros; rfl)
        repeat tb_start
        refine op_notin_ddi (hR'.keep _ _ hk') ?_
        rw [dAt_mi, Option.isSome_map, hkn'.2]
        cases hq : putN m n p (oct.take c) (p + c) with
        | some z =>
          simp only [toI, hq, Option.map_some, Option.isSome_some, Bool.not_true]
          repeat (first | tb_start | refine ms_cons ?_)
          refine ⟨_, τ', kn', rfl, hx', hb', hk', hR', hkn'.congr fun j => ?_, by omega⟩
          rw [step j, if_neg fun w => by rw [hq] at w; cases w.2.2]
          rfl
        | none =>
          simp only [toI, hq, Option.map_none, Option.isSome_none, Bool.not_false]
          repeat (first | tb_start | refine ms_cons ?_)
          refine sub_bytes (by omega) (by omega) (by omega) ?_ (by intros; rfl)
          repeat tb_start
          refine sub_str (v := .ref kd) (hR'.keep _ _ hb') (by rfl) ?_ (by intros; rfl)
          repeat tb_start
          refine op_setkey (hR'.keep _ _ hk') (by simp; omega) ?_
          rw [e1, dPut_mi]
          have hR8 := hR'.outerPut (o' := .ddi (mi (dPut kn' (p + c) ((oct.getD (0 + (c : Int)).toNat 0).toNat : Int)))) hk'
          have e2 : (0 + (c : Int)).toNat = c := by omega
          rw [e2] at hR8 ⊢
          repeat tb_start
          refine ⟨_, _, _, rfl, ?_, ?_, Store.put_self, hR8, hkn'.put.congr fun j => ?_, ?_⟩
          · rw [Store.put_ne hxk]; exact hx'
          · rw [Store.put_ne (Ne.symm hkb)]; exact hb'
          · rw [step j]
            by_cases u : j = p + c
            · rw [if_pos u, if_pos ⟨u, w, hq⟩]; rfl
            · rw [if_neg u, if_neg fun z => u z.1]; rfl
          · have := dPut_len (l := kn') (k := p + c) (v := ((oct.getD c 0).toNat : Int)); omega
      · rw [decide_eq_false w]
        repeat (first | tb_start | refine ms_cons ?_)
        refine ⟨_, τ', kn', rfl, hx', hb', hk', hR', hkn'.congr fun j => ?_, by omega⟩
        rw [step j, if_neg fun z => w z.2.1]
    · rintro vals σ' ⟨v4, τ', kn', rfl, hx', hb', hk', hR', hkn', hl'⟩
      have e1 : ((oct.length : Int) - 0).toNat = oct.length := by omega
      rw [e1] at hkn' hl'
      rw [List.take_length] at hkn'
      exact ⟨by first | rfl | trivial, τ', kn', hx', hb', hk', hR', hkn', by omega⟩
  · rintro fl vals σ' ⟨rfl, τ', kn', hx', hb', hk', hR', hkn', hl'⟩
    repeat tb_start
    exact q A5 B5 τ' σ' ps7 R7 kn' _ hd5 hx' hb' hk' hR' er7 hh7 hG2 hkn' hl'
end
section
variable {b : Base} {σ σ₀ τ : Store} {Q : MV → Store → Prop} {rc rd as ps : Addr} {R : Rec}
theorem bt_dict : BtOK b.W "dict" (.type "dict") := ⟨by rfl, by rfl, by decide, by decide⟩
theorem keyAt {kn : List (Int × Int)} {i : Nat} {v : MV} (hv : (keysM (mi kn))[i]? = some v) : ∃ kv, kn[i]? = some kv ∧ v = .int kv.1 := by
  rw [List.getElem?_map, List.getElem?_map] at hv
  cases q : kn[i]? with
  | none => rw [q] at hv; cases hv
  | some kv => rw [q] at hv; cases hv; exact ⟨kv, rfl, rfl⟩
theorem take_one {α : Type} {l : List α} {i : Nat} {a : α} (h : l[i]? = some a) : l.take (i + 1) = l.take i ++ [a] := by
  rw [List.take_add_one, h]; rfl
theorem bookL_len {kd : Addr} {n : Int} {E : Option Int} {v : Bool} : (bookL kd n E v).length ≤ 1000000 := by show 4 ≤ 1000000; decide
theorem fold_len : ∀ (L l : List (Int × Int)), (L.foldl (fun acc kv => dPut acc kv.1 kv.2) l).length ≤ l.length + L.length
  | [], l => by simp
  | y :: L, l => by
    rw [List.foldl_cons, List.length_cons]
    have a := fold_len L (dPut l y.1 y.2)
    have b := dPut_len (l := l) (k := y.1) (v := y.2)
    omega
theorem lnote_ok {rg : Int} (er₀ : R.ring = rg) {x bk kd : Addr} {A B base : Int} {n : Nat} {E : Option Int} {m : Int → Option UInt8} {kn : List (Int × Int)} {v : Bool}
    (hx : τ x = some (srcO A B)) (hd : Drawn A B) (hb : τ bk = some (.dds (bookL kd n E v))) (hk : τ kd = some (.ddi (mi kn))) (hR : RAt τ σ rc rd as ps R) (hG : GM R base m n E)
    (hkn : Rep kn fun j => toI (m j)) (hl : kn.length ≤ 1000)
    (q : ∀ A' B' τ' σ' ps' R' kd' kn' m' E', Drawn A' B' → τ' x = some (srcO A' B') → τ' bk = some (.dds (bookL kd' n E' v)) → τ' kd' = some (.ddi (mi kn')) → RAt τ' σ' rc rd as ps' R' → R'.ring = rg → R'.has = R.has → GM R' base m' n E' → Rep kn' (fun j => toI (m' j)) → kn'.length ≤ kn.length → Q .none σ') :
    MCall b.W 7 305 [.ref x, .ref rc, .ref bk, .int base, .int rg] σ Q := by
  subst er₀
  obtain ⟨hr0, hr256⟩ := hG.rp
  have hxk : x ≠ kd := ne_obj hx hk (by intro q; cases q)
  have hxb : x ≠ bk := ne_obj hx hb (by intro q; cases q)
  have hkb : kd ≠ bk := ne_obj hk hb (by intro q; cases q)
  refine MCall.enterC (ps := ["source", "receiver", "book", "base", "ring"]) ["place", "known"] rfl rfl ?_ rfl rfl rfl (by decide +kernel) fun L => ?_
  · walk_at "binds"
  walk_at "norm"
  refine (let e₁ : Env := _; let Q₁ : MFlow → List (Option MV) → Store → Prop := _; (?_ : MG _ _ _ (execs _ e₁) e₁ _ _ _ Q₁))
  refine ms_cons ?_
  repeat tb_start
  refine sub_str (v := .int n) (hR.keep _ _ hb) (by rfl) ?_ (by intros; rfl)
  repeat tb_start
  refine mx_call fn_take rfl ?_
  repeat tb_start
  refine MCall.le (take_ok' (hR.keep _ _ hx) hd (by decide) fun A2 B2 d hd2 d0 d1 => ?_) (by decide)
  have hR2 := hR.outerPut (o' := srcO A2 B2) hx
  have hx2 : (τ.put x (srcO A2 B2)) x = some (srcO A2 B2) := Store.put_self
  have hk2 : (τ.put x (srcO A2 B2)) kd = some (.ddi (mi kn)) := by rw [Store.put_ne (Ne.symm hxk)]; exact hk
  have hb2 : (τ.put x (srcO A2 B2)) bk = some (.dds (bookL kd n E v)) := by rw [Store.put_ne (Ne.symm hxb)]; exact hb
  generalize (τ.put x (srcO A2 B2)) = τ2 at *
  generalize (σ.put x (srcO A2 B2)) = σ2 at *
  clear hR hx hk hb
  repeat tb_start
  refine ms_cons ?_
  repeat tb_start
  refine me_ins hR2.rcv me_note_fin ?_
  repeat tb_start
  have zs := hG.asm.sizes hG.bd'
  refine MCall.le (note_fin_ok hR2 hr0 (fun y hy => Nat.le_trans (zs.1 y hy) (by decide)) (by omega) fun σa pa hR3 => ?_) (by decide)
  clear hR2 zs
  repeat tb_start
  refine ms_cons ?_
  repeat tb_start
  refine sub_str (v := oi E) (hR3.keep _ _ hb2) (by rfl) ?_ (by intros; rfl)
  cases E with
  | some e =>
    have en : noteR R ((base + ((n : Int) + d)) % R.ring) = R := noteM_old hG
    rw [en] at hR3
    repeat tb_start
    simp only [oi, MV.isNone, Bool.false_eq_true, if_false]
    repeat tb_start
    exact q A2 B2 τ2 σa pa R kd kn m (some e) hd2 hx2 hb2 hk2 hR3 rfl rfl hG hkn (Nat.le_refl _)
  | none =>
    have hN := noteM hG (gap := d) d0 (by omega)
    have er : (noteR R ((base + ((n : Int) + d)) % R.ring)).ring = R.ring := noteR_ring
    have eh : (noteR R ((base + ((n : Int) + d)) % R.ring)).has = R.has := by unfold noteR; split <;> rfl
    generalize noteR R ((base + ((n : Int) + d)) % R.ring) = R3 at *
    clear hG
    repeat tb_start
    simp only [oi, MV.isNone, if_true]
    repeat (first | tb_start | refine ms_cons ?_)
    refine sub_str (v := .ref kd) (hR3.keep _ _ hb2) (by rfl) ?_ (by intros; rfl)
    repeat (first | tb_start | refine ms_cons ?_)
    refine mx_tcall bt_dict rfl ?_
    repeat tb_start
    refine mx_comp_dict (x := "spot") (y := "known") (ys := ["known", "place"]) (vs := [.ref kd, .int (n + d)]) (d := kd) (l := mi kn) (by kp_flats) (hR3.keep _ _ hk2) (CompOK.of (by rfl)) ⟨by kp_flats, by kp_flats, trivial⟩
      (fun i acc => acc = ((kn.take i).filter fun kv => decide (kv.1 < (n : Int) + d)).map pairM) rfl (fun i acc e => ?_) (fun C D ep i v acc hD hv hacc => ?_) (fun D acc hD hacc => ?_)
    · subst e
      rw [List.length_map]
      have := List.length_filter_le (fun kv : Int × Int => decide (kv.1 < (n : Int) + d)) (kn.take i)
      have : (kn.take i).length ≤ kn.length := by rw [List.length_take]; omega
      omega
    · obtain ⟨kv, hkv, rfl⟩ := keyAt hv
      have hne : kd ≠ D := ne_of hD (hR3.keep _ _ hk2)
      have hkn2 : ((σa.put kd (.dde (mi kn) ep)).put D (.lst acc)) kd = some (.dde (mi kn) ep) := by rw [Store.put_ne hne, Store.put_self]
      have hat : dAt (mi kn) kv.1 = some (.int kv.2) := by
        rw [dAt_mi, (dAt_mem hkn.1).mpr (List.mem_of_getElem? hkv)]; rfl
      generalize ((σa.put kd (.dde (mi kn) ep)).put D (.lst acc)) = σ3 at *
      simp only [List.map_cons, List.map_nil]
      refine mt_one ?_
      repeat tb_start
      refine ⟨by first | rfl | trivial, ?_⟩
      have htk : kn.take (_ + 1) = kn.take _ ++ [kv] := take_one hkv
      split
      · rename_i c
        repeat tb_start
        refine sub_keye hkn2 hat ?_ (by intros; rfl)
        repeat tb_start
        refine ⟨by simp, by first | rfl | trivial, ?_⟩
        dsimp only
        rw [hacc, htk, List.filter_append, List.map_append]
        rw [List.filter_cons_of_pos (by exact c)]
        rfl
      · rename_i c
        rw [hacc, htk, List.filter_append, List.map_append, List.filter_cons_of_neg (by exact c)]
        simp
    · have hR4 := hR3.outerNew (o := .lst acc) hD
      have hx4 : (τ2.put D (.lst acc)) x = some (srcO A2 B2) := by rw [Store.put_ne (ne_of hD (hR3.keep _ _ hx2))]; exact hx2
      have hb4 : (τ2.put D (.lst acc)) bk = some (.dds (bookL kd n none v)) := by rw [Store.put_ne (ne_of hD (hR3.keep _ _ hb2))]; exact hb2
      have hD4 : (τ2.put D (.lst acc)) D = some (.lst acc) := Store.put_self
      generalize (τ2.put D (.lst acc)) = τ4 at *
      generalize (σa.put D (.lst acc)) = σ4 at *
      clear hR3 hx2 hb2 hk2
      have hll : (mi kn).length = kn.length := by simp
      rw [hll, List.take_length] at hacc
      subst hacc
      have hfl := List.length_filter_le (fun kv : Int × Int => decide (kv.1 < (n : Int) + d)) kn
      repeat tb_start
      refine ty_dict_pairs (hR4.keep _ _ hD4) (by omega) fun D2 hD2 => ?_
      have rep := cut_rep (e := (n : Int) + d) hkn
      have hdl2 := fold_len (kn.filter fun kv => decide (kv.1 < (n : Int) + d)) []
      rw [List.length_nil] at hdl2
      generalize ((kn.filter fun kv => decide (kv.1 < (n : Int) + d)).foldl (fun acc kv => dPut acc kv.1 kv.2) []) = dd at *
      have hR5 := hR4.outerNew (o := .ddi (mi dd)) hD2
      have hx5 : (τ4.put D2 (.ddi (mi dd))) x = some (srcO A2 B2) := by rw [Store.put_ne (ne_of hD2 (hR4.keep _ _ hx4))]; exact hx4
      have hb5 : (τ4.put D2 (.ddi (mi dd))) bk = some (.dds (bookL kd n none v)) := by rw [Store.put_ne (ne_of hD2 (hR4.keep _ _ hb4))]; exact hb4
      have hD5 : (τ4.put D2 (.ddi (mi dd))) D2 = some (.ddi (mi dd)) := Store.put_self
      have hbD : bk ≠ D2 := ne_of hD2 (hR4.keep _ _ hb4)
      generalize (τ4.put D2 (.ddi (mi dd))) = τ5 at *
      generalize (σ4.put D2 (.ddi (mi dd))) = σ5 at *
      clear hR4 hx4 hb4 hD4
      repeat tb_start
      refine ⟨by simp, ?_⟩
      refine as_pair (by rfl) ?_
      refine as_sub ?_ (by intro _ _ _ h; cases h)
      repeat tb_start
      refine op_setstr2 (l' := bookL kd n (some (n + d)) v) (hR5.keep _ _ hb5) bookL_len (by rfl) ?_
      have hR6 := hR5.outerPut (o' := .dds (bookL kd n (some (n + d)) v)) hb5
      have hx6 : (τ5.put bk (.dds (bookL kd n (some (n + d)) v))) x = some (srcO A2 B2) := by rw [Store.put_ne hxb]; exact hx5
      have hD6 : (τ5.put bk (.dds (bookL kd n (some (n + d)) v))) D2 = some (.ddi (mi dd)) := by rw [Store.put_ne (Ne.symm hbD)]; exact hD5
      have hb6 : (τ5.put bk (.dds (bookL kd n (some (n + d)) v))) bk = some (.dds (bookL kd n (some (n + d)) v)) := Store.put_self
      generalize (τ5.put bk (.dds (bookL kd n (some (n + d)) v))) = τ6 at *
      generalize (σ5.put bk (.dds (bookL kd n (some (n + d)) v))) = σ6 at *
      refine as_sub ?_ (by intro _ _ _ h; cases h)
      repeat tb_start
      refine op_setstr2 (l' := bookL D2 n (some (n + d)) v) (hR6.keep _ _ hb6) bookL_len (by rfl) ?_
      have hR7 := hR6.outerPut (o' := .dds (bookL D2 n (some (n + d)) v)) hb6
      have hx7 : (τ6.put bk (.dds (bookL D2 n (some (n + d)) v))) x = some (srcO A2 B2) := by rw [Store.put_ne hxb]; exact hx6
      have hD7 : (τ6.put bk (.dds (bookL D2 n (some (n + d)) v))) D2 = some (.ddi (mi dd)) := by rw [Store.put_ne (Ne.symm hbD)]; exact hD6
      repeat tb_start
      exact q A2 B2 _ _ pa R3 D2 dd _ _ hd2 hx7 Store.put_self hD7 hR7 er eh hN rep (by omega)
end
section
variable {b : Base} {σ σ₀ τ : Store} {Q : MV → Store → Prop} {rc rd as ps : Addr} {R : Rec}
theorem lgath_ok {rg : Int} (er₀ : R.ring = rg) {x bk kd : Addr} {A B base : Int} {n : Nat} {E : Option Int} {m : Int → Option UInt8} {kn : List (Int × Int)}
    (hx : τ x = some (srcO A B)) (hb : τ bk = some (.dds (bookL kd n E R.has))) (hk : τ kd = some (.ddi (mi kn))) (hR : RAt τ σ rc rd as ps R) (hG : GM R base m n E)
    (hkn : Rep kn fun j => toI (m j))
    (q : ∀ τ' σ' R' n', τ' x = some (srcO A B) → τ' bk = some (.dds (bookL kd n' E R'.has)) → τ' kd = some (.ddi (mi kn)) → RAt τ' σ' rc rd as ps R' → R'.ring = rg → GM R' base m n' E → Q (.bool true) σ') :
    MCall b.W 8 310 [.ref rc, .ref bk, .int base, .int rg] σ Q := by
  subst er₀
  obtain ⟨hr0, hr256⟩ := hG.rp
  have hxb : x ≠ bk := ne_obj hx hb (by intro q; cases q)
  have hkb : kd ≠ bk := ne_obj hk hb (by intro q; cases q)
  obtain ⟨n', hnn, hG', hmn, htl, hiff⟩ := gatherM hG
  have hov := over_eq hG hG' hnn hiff
  have hn60 := hG'.n60
  refine MCall.enterC (ps := ["receiver", "book", "base", "ring"]) ["many", "known"] rfl rfl ?_ rfl rfl rfl (by decide +kernel) fun L => ?_
  · walk_at "binds"
  walk_at "norm"
  refine (let e₁ : Env := _; let Q₁ : MFlow → List (Option MV) → Store → Prop := _; (?_ : MG _ _ _ (execs _ e₁) e₁ _ _ _ Q₁))
  refine ms_cons ?_
  repeat tb_start
  refine sub_str (v := .ref kd) (hR.keep _ _ hb) (by rfl) ?_ (by intros; rfl)
  repeat tb_start
  refine ⟨by simp, ?_⟩
  repeat tb_start
  refine (let Q₁ : Unit → List (Option MV) → Store → Prop := _; (?_ : G1 _ _ _ _ _ _ _ _ _ Q₁))
  refine as_tuple (xs := [("many", _), ("known", _)]) (by with_unfolding_all rfl) (okp (.inl rfl) (.inr rfl)) ?_ rfl
  simp only [List.map_cons, List.map_nil, puts]
  repeat tb_start
  refine ms_cons ?_
  refine MG.mono (Q := fun fl vals σ' => fl = .next ∧ Ex1 fun (τ' : Store) => And5 (vals = [some (.ref rc), some (.ref bk), some (.int base), some (.int R.ring), some (.int ((n' : Int) - n)), some (.ref kd)]) (τ' x = some (srcO A B)) (τ' bk = some (.dds (bookL kd n' E R.has))) (τ' kd = some (.ddi (mi kn))) (RAt τ' σ' rc rd as ps R)) ?_ ?_
  · refine (let Q₁ : MFlow → List (Option MV) → Store → Prop := _; (?_ : MG _ _ _ _ _ _ _ _ Q₁))
    refine ms_while (fun k vals σ' => Ex2 fun (a : Nat) (τ' : Store) => And8 (k = n' - a) (n ≤ a) (a ≤ n') (vals = [some (.ref rc), some (.ref bk), some (.int base), some (.int R.ring), some (.int ((a : Int) - n)), some (.ref kd)]) (τ' x = some (srcO A B)) (τ' bk = some (.dds (bookL kd a E R.has))) (τ' kd = some (.ddi (mi kn))) (RAt τ' σ' rc rd as ps R)) (n' - n) ⟨n, τ, rfl, Nat.le_refl _, hnn, by rw [Int.sub_self], hx, hb, hk, hR⟩ ?_
    rintro k vals σ' ⟨a, τ1, rfl, ha, han, rfl, hx1, hb1, hk1, hR1⟩
    repeat tb_start
    refine sub_str (v := .int a) (hR1.keep _ _ hb1) (by rfl) ?_ (by intros; rfl)
    repeat tb_start
    refine op_in_ddi (hR1.keep _ _ hk1) ?_
    rw [dAt_mi, Option.isSome_map, hkn.2]
    by_cases c : a = n'
    · subst c
      simp only [hmn, toI, Option.map_none, Option.isSome_none]
      repeat tb_start
      exact ⟨by first | rfl | trivial, τ1, rfl, hx1, hb1, hk1, hR1⟩
    · have hs := hG'.is (i := a) (by omega)
      cases hq : m a with
      | none => exact absurd hq hs
      | some z =>
        simp only [hq, toI, Option.map_some, Option.isSome_some]
        repeat (first | tb_start | refine ms_cons ?_)
        refine sub_str (v := .int a) (hR1.keep _ _ hb1) (by rfl) ?_ (by intros; rfl)
        repeat (first | tb_start | refine ms_cons ?_)
        refine ⟨by simp, ?_⟩
        refine as_pair (by rfl) ?_
        refine as_sub ?_ (by intro _ _ _ h; cases h)
        repeat tb_start
        refine op_setstr2 (l' := bookL kd (a + 1 : Nat) E R.has) (hR1.keep _ _ hb1) bookL_len (by rfl) ?_
        have hR2 := hR1.outerPut (o' := .dds (bookL kd (a + 1 : Nat) E R.has)) hb1
        have hx2 : (τ1.put bk (.dds (bookL kd (a + 1 : Nat) E R.has))) x = some (srcO A B) := by rw [Store.put_ne hxb]; exact hx1
        have hk2 : (τ1.put bk (.dds (bookL kd (a + 1 : Nat) E R.has))) kd = some (.ddi (mi kn)) := by rw [Store.put_ne hkb]; exact hk1
        refine (let Q₁ : Unit → List (Option MV) → Store → Prop := _; (?_ : G1 _ _ _ _ _ _ _ _ _ Q₁))
        refine as_name (.inl rfl) (by krn_off) ?_
        repeat tb_start
        refine ⟨n' - (a + 1), by omega, a + 1, _, rfl, by omega, by omega, ?_, hx2, Store.put_self, hk2, hR2⟩
        have e1 : (a : Int) - n + 1 = ((a + 1 : Nat) : Int) - n := by omega
        rw [e1]
  rintro fl vals σ' ⟨rfl, τ1, rfl, hx1, hb1, hk1, hR1⟩
  clear hR hx hb hk
  repeat tb_start
  refine ms_cons ?_
  refine ms_sub ?_ (by with_unfolding_all rfl)
  refine ME.mono (Q := fun v σ1 => v = .bool (gatherR R).has ∧ σ1 = σ') ?_ ?_
  · repeat tb_start
    refine sub_str (v := .bool R.has) (hR1.keep _ _ hb1) (by rfl) ?_ (by intros; rfl)
    repeat tb_start
    rw [← hov]
    cases hh : R.has with
    | true =>
      simp only [if_true, Bool.true_or]
      exact ⟨by first | rfl | trivial, by first | rfl | trivial⟩
    | false =>
      simp only [Bool.false_eq_true, if_false, Bool.false_or]
      repeat tb_start
      refine sub_str (v := oi E) (hR1.keep _ _ hb1) (by rfl) ?_ (by intros; rfl)
      repeat tb_start
      refine sub_str (v := .int n') (hR1.keep _ _ hb1) (by rfl) ?_ (by intros; rfl)
      cases E with
      | none =>
        refine op_eq_none_int ?_
        exact ⟨by rw [decide_eq_false (fun q => by cases q)], by first | rfl | trivial⟩
      | some e =>
        refine op_eq (a := e) ?_
        refine ⟨?_, by first | rfl | trivial⟩
        congr 1
        rw [Bool.eq_iff_iff]; simp
  rintro v σ2 ⟨rfl, rfl⟩
  repeat tb_start
  refine op_setstr2 (l' := bookL kd n' E (gatherR R).has) (hR1.keep _ _ hb1) bookL_len (by rfl) ?_
  have hR2 := hR1.outerPut (o' := .dds (bookL kd n' E (gatherR R).has)) hb1
  have hx2 : (τ1.put bk (.dds (bookL kd n' E (gatherR R).has))) x = some (srcO A B) := by rw [Store.put_ne hxb]; exact hx1
  have hk2 : (τ1.put bk (.dds (bookL kd n' E (gatherR R).has))) kd = some (.ddi (mi kn)) := by rw [Store.put_ne hkb]; exact hk1
  have hb2 : (τ1.put bk (.dds (bookL kd n' E (gatherR R).has))) bk = some (.dds (bookL kd n' E (gatherR R).has)) := Store.put_self
  generalize (τ1.put bk (.dds (bookL kd n' E (gatherR R).has))) = τ2 at *
  generalize (σ2.put bk (.dds (bookL kd n' E (gatherR R).has))) = σ3 at *
  clear hR1 hx1 hb1 hk1
  repeat tb_start
  refine ms_cons ?_
  repeat tb_start
  refine me_ins0 hR2.rcv me_gather ?_
  have zs := hG.asm.sizes hG.bd'
  refine MCall.le (gather_ok hR2 hr0 (fun y hy => Nat.le_trans (zs.1 y hy) (by decide)) (by omega) (by rw [hG.rdl]; omega) fun σ4 hR4 => ?_) (by decide)
  clear zs hR2
  have er : (gatherR R).ring = R.ring := by unfold gatherR endR; split <;> rfl
  generalize gatherR R = R4 at *
  repeat tb_start
  have et : (((taken R).length : Int) != (n' : Int) - n) = false := by rw [htl, bne_eq_false_iff_eq]; omega
  rw [et]
  repeat tb_start
  refine sub_str (v := .bool R4.has) (hR4.keep _ _ hb2) (by rfl) ?_ (by intros; rfl)
  refine op_ne_bool ?_
  rw [bne_self_eq_false]
  repeat tb_start
  refine ms_cons ?_
  repeat tb_start
  refine sub_str (v := .int n') (hR4.keep _ _ hb2) (by rfl) ?_ (by intros; rfl)
  repeat tb_start
  refine mx_tcall bt_int rfl ?_
  repeat tb_start
  refine sub_str (v := .bool R4.has) (hR4.keep _ _ hb2) (by rfl) ?_ (by intros; rfl)
  repeat tb_start
  refine ty_int_bool ?_
  repeat tb_start
  have en := hG'.next
  rw [er] at en
  have e0 : (R4.next != (base + (n' : Int) + if R4.has = true then 1 else 0) % R.ring) = false := by rw [bne_eq_false_iff_eq]; exact en
  rw [e0]
  repeat tb_start
  refine ms_cons ?_
  repeat tb_start
  refine mx_tcall bt_bytes rfl ?_
  repeat tb_start
  refine ty_bytes_bya hR4.rdy (by rw [hG'.rdl]; omega) ?_
  refine mx_tcall bt_bytes rfl ?_
  repeat tb_start
  refine mx_comp_range (x := "spot") (ys := ["known"]) (vs := [.ref kd]) (CompOK.of (by rfl)) ⟨by kp_flats, trivial⟩ ?_
  refine mr_one bt_range rfl ?_
  repeat tb_start
  refine sub_str (v := .int n') (hR4.keep _ _ hb2) (by rfl) ?_ (by intros; rfl)
  repeat tb_start
  refine ⟨by omega, by omega, by omega, by omega, fun i acc => acc = (R4.ready.take i).map fun z => MV.int (z.toNat : Int), rfl, fun i acc e => ?_, fun C D i acc hD hi hacc => ?_, fun D acc hD hacc => ?_⟩
  · subst e
    rw [List.length_map, List.length_take, hG'.rdl]; omega
  · have hi' : i < n' := by omega
    have hz : R4.ready[i]? = some (R4.ready[i]'(by rw [hG'.rdl]; exact hi')) := List.getElem?_eq_getElem _
    have hat : dAt (mi kn) (0 + (i : Int)) = some (.int ((R4.ready[i]'(by rw [hG'.rdl]; exact hi')).toNat : Int)) := by
      rw [Int.zero_add, dAt_mi, hkn.2]
      dsimp only
      rw [hG'.rdy i hi', hz]; rfl
    have hkD : (σ4.put D (.lst acc)) kd = some (.ddi (mi kn)) := by rw [Store.put_ne (ne_of hD (hR4.keep _ _ hk2))]; exact hR4.keep _ _ hk2
    generalize (σ4.put D (.lst acc)) = σ5 at *
    simp only [List.map_cons, List.map_nil]
    refine mt_none ?_
    refine ⟨by first | rfl | trivial, ?_⟩
    simp only [if_true]
    repeat tb_start
    refine sub_key hkD hat ?_ (by intros; rfl)
    refine ⟨by first | rfl | trivial, ?_⟩
    rw [hacc, take_one hz, List.map_append]
    rfl
  · have ell : ((n' : Int) - 0).toNat = R4.ready.length := by rw [hG'.rdl]; omega
    rw [ell, List.take_length] at hacc
    have hD2 : (σ4.put D (.lst acc)) D = some (.lst ((R4.ready.map fun z => (z.toNat : Int)).map .int)) := by
      rw [Store.put_self, hacc, List.map_map]; rfl
    have hR5 := hR4.outerNew (o := .lst acc) hD
    repeat tb_start
    refine ty_bytes_list hD2 (by rw [List.length_map, hG'.rdl]; omega) (fun z hz => ?_) ?_
    · obtain ⟨y, _, rfl⟩ := List.mem_map.mp hz
      have := y.toNat_lt
      omega
    rw [bytes_back]
    repeat tb_start
    rw [beq_self_eq_true]
    refine q _ _ R4 n' ?_ ?_ ?_ hR5 er hG'
    · rw [Store.put_ne (ne_of hD (hR4.keep _ _ hx2))]; exact hx2
    · rw [Store.put_ne (ne_of hD (hR4.keep _ _ hb2))]; exact hb2
    · rw [Store.put_ne (ne_of hD (hR4.keep _ _ hk2))]; exact hk2
end
section
variable {b : Base} {σ σ₀ τ : Store} {Q : MV → Store → Prop} {rc rd as ps : Addr} {R : Rec}
theorem fn_lput : FnOK b.W "_law_put" 300 := ⟨by rfl, by rfl, by decide⟩
theorem fn_lnote : FnOK b.W "_law_note" 305 := ⟨by rfl, by rfl, by decide⟩
theorem fn_lgath : FnOK b.W "_law_gathered_right" 310 := ⟨by rfl, by rfl, by decide⟩
theorem fn_round : FnOK b.W "_law_round_right" 317 := ⟨by rfl, by rfl, by decide⟩
theorem round_ok {x : Addr} {A B : Int} (h : σ x = some (srcO A B)) (hd : Drawn A B) (q : ∀ σ' A' B', Drawn A' B' → σ' x = some (srcO A' B') → Q (.bool true) σ') : MCall b.W 10 317 [.ref x] σ Q := by
  refine MCall.enter (ps := ["source"]) ["ring", "irs", "base", "receiver", "book", "turn"] rfl rfl ?_ rfl rfl rfl (by decide +kernel) fun L => ?_
  · walk_at "binds"
  walk_at "norm"
  refine (let e₁ : Env := _; let Q₁ : MFlow → List (Option MV) → Store → Prop := _; (?_ : MG _ _ _ (execs _ e₁) e₁ _ _ _ Q₁))
  refine ms_cons ?_
  repeat tb_start
  refine mx_call fn_one rfl ?_
  repeat tb_start
  refine op_pow (by decide) (by decide) (by decide) ?_
  rw [two32]
  repeat tb_start
  refine ⟨by simp, fun th hth => ?_⟩
  repeat tb_start
  refine MCall.le (one_ok (l := [256, 4294967296]) (by rw [Store.put_ne (ne_of hth h)]; exact h) hd Store.put_self (by simp) (by simp) (Ne.symm (ne_of hth h)) fun A1 B1 rg hd1 hrg => ?_) (by decide)
  have hr : rg = 256 ∨ rg = 4294967296 := by simpa using hrg
  have hp : 0 < rg := by omega
  have h1 : ((σ.put th (.lst [.int 256, .int 4294967296])).put x (srcO A1 B1)) x = some (srcO A1 B1) := Store.put_self
  generalize ((σ.put th (.lst [.int 256, .int 4294967296])).put x (srcO A1 B1)) = σ1 at *
  clear hrg hth h
  repeat tb_start
  refine ms_cons ?_
  repeat tb_start
  refine mx_call fn_take rfl ?_
  repeat tb_start
  refine MCall.le (take_ok' h1 hd1 (by decide) fun A2 B2 d2 hd2 d20 d21 => ?_) (by decide)
  have h2 : (σ1.put x (srcO A2 B2)) x = some (srcO A2 B2) := Store.put_self
  generalize (σ1.put x (srcO A2 B2)) = σ2 at *
  clear h1
  repeat tb_start
  generalize hirs : (rg - 1 - d2) % rg = irs at *
  refine ms_cons ?_
  refine ms_swap (names := ["base", "receiver"]) (ok2 (.inl rfl) (.inl rfl)) ?_ (by with_unfolding_all rfl)
  repeat tb_start
  refine mx_call fn_Receiver rfl ?_
  repeat tb_start
  refine MCall.le (receiver_ok hp fun σ4 rc rd as ps hR => ?_) (by decide)
  repeat tb_start
  refine ⟨by simp, ?_⟩
  repeat tb_start
  refine ⟨by rfl, ?_⟩
  simp only [List.reverse_cons, List.reverse_nil, List.nil_append, List.cons_append, puts]
  repeat tb_start
  have hG := newM (irs := irs) hr
  have hrn : (newR irs rg 60).ring = rg := rfl
  have hhn : (newR irs rg 60).has = false := rfl
  generalize newR irs rg 60 = R at *
  generalize (irs + 1) % rg = base at *
  refine ms_cons ?_
  repeat tb_start
  with_reducible refine' mx_book (fun kd => bookL kd 0 none false) ?hL ?_
  case hL => intro kd; rfl
  intro bk kd hbk hkd
  have hR1 := (hR.outerNew (o := .dds []) hbk).outerNew (o := .ddi []) hkd
  have hxb : x ≠ bk := ne_of hbk (hR.keep _ _ h2)
  have hx1 : ((σ2.put bk (.dds [])).put kd (.ddi [])) x = some (srcO A2 B2) := by
    rw [Store.put_ne, Store.put_ne hxb]
    · exact h2
    · exact ne_of hkd (by rw [Store.put_ne hxb]; exact hR.keep _ _ h2)
  have hbk' : bk ≠ kd := ne_of hkd Store.put_self
  have hb1 : ((σ2.put bk (.dds [])).put kd (.ddi [])) bk = some (.dds []) := by rw [Store.put_ne hbk', Store.put_self]
  have hk1 : ((σ2.put bk (.dds [])).put kd (.ddi [])) kd = some (.ddi (mi [])) := Store.put_self
  generalize ((σ2.put bk (.dds [])).put kd (.ddi [])) = τ1 at *
  generalize ((σ4.put bk (.dds [])).put kd (.ddi [])) = σ5 at *
  have hR2 := hR1.outerPut (o' := .dds (bookL kd 0 none false)) hb1
  have hx2 : (τ1.put bk (.dds (bookL kd 0 none false))) x = some (srcO A2 B2) := by rw [Store.put_ne hxb]; exact hx1
  have hk2 : (τ1.put bk (.dds (bookL kd 0 none false))) kd = some (.ddi (mi [])) := by rw [Store.put_ne (Ne.symm hbk')]; exact hk1
  have hb2 : (τ1.put bk (.dds (bookL kd 0 none false))) bk = some (.dds (bookL kd 0 none false)) := Store.put_self
  generalize (τ1.put bk (.dds (bookL kd 0 none false))) = τ2 at *
  generalize (σ5.put bk (.dds (bookL kd 0 none false))) = σ6 at *
  clear hR hR1 hx1 hb1 hk1 h2
  repeat tb_start
  refine ms_cons ?_
  refine MG.mono (Q := fun fl vals σ' => fl = .next ∧ Ex11 fun (v1 : Option MV) (τ : Store) (A : Int) (B : Int) (pa : Addr) (kd : Addr) (R : Rec) (kn : List (Int × Int)) (m : Int → Option UInt8) (n : Nat) (E : Option Int) => And9 (vals = [some (.ref x), some (.int rg), some (.int irs), some (.int base), some (.ref rc), some (.ref bk), v1]) (Drawn A B) (τ x = some (srcO A B)) (τ bk = some (.dds (bookL kd n E R.has))) (τ kd = some (.ddi (mi kn))) (RAt τ σ' rc rd as pa R) (R.ring = rg) (GM R base m n E) (Rep kn (fun j => toI (m j)))) ?_ ?_
  · refine (let Q₁ : MFlow → List (Option MV) → Store → Prop := _; (?_ : MG _ _ _ _ _ _ _ _ Q₁))
    refine ms_forR rfl ?_
    refine mr_one bt_range rfl ?_
    repeat tb_start
    refine mx_call fn_take rfl ?_
    repeat tb_start
    refine MCall.le (take_ok' (hR2.keep _ _ hx2) hd2 (by decide) fun A4 B4 d4 hd4 d40 d41 => ?_) (by decide)
    have hR4 := hR2.outerPut (o' := srcO A4 B4) hx2
    have hx4 : (τ2.put x (srcO A4 B4)) x = some (srcO A4 B4) := Store.put_self
    have hk4 : (τ2.put x (srcO A4 B4)) kd = some (.ddi (mi [])) := by rw [Store.put_ne (Ne.symm (ne_obj hx2 hk2 (by intro q; cases q)))]; exact hk2
    have hb4 : (τ2.put x (srcO A4 B4)) bk = some (.dds (bookL kd 0 none false)) := by rw [Store.put_ne (Ne.symm hxb)]; exact hb2
    generalize (τ2.put x (srcO A4 B4)) = τ4 at *
    generalize (σ6.put x (srcO A4 B4)) = σ7 at *
    repeat tb_start
    refine ⟨by omega, by omega, by omega, by omega, fun i vals σ' => Ex11 fun (v1 : Option MV) (τ : Store) (A : Int) (B : Int) (pa : Addr) (kd : Addr) (R : Rec) (kn : List (Int × Int)) (m : Int → Option UInt8) (n : Nat) (E : Option Int) => And10 (vals = [some (.ref x), some (.int rg), some (.int irs), some (.int base), some (.ref rc), some (.ref bk), v1]) (Drawn A B) (τ x = some (srcO A B)) (τ bk = some (.dds (bookL kd n E R.has))) (τ kd = some (.ddi (mi kn))) (RAt τ σ' rc rd as pa R) (R.ring = rg) (GM R base m n E) (Rep kn (fun j => toI (m j))) (kn.length ≤ 4 * i), ?_, ?_, ?_⟩
    · exact ⟨none, τ4, A4, B4, ps, kd, R, [], _, 0, none, rfl, hd4, hx4, by rw [hhn]; exact hb4, hk4, hR4, hrn, hG, Rep.nil, by simp⟩
    · rintro i vals σ' hi ⟨v1, τ, A, B, pa, kd, R, kn, m, n, E, rfl, hd, hx, hb, hk, hR, er, hG, hkn, hlen⟩
      clear hR2 hR4 hx2 hx4 hk2 hk4 hb2 hb4
      have hi6 : i ≤ 6 := by omega
      refine (let Q₁ : Unit → List (Option MV) → Store → Prop := _; (?_ : G1 _ _ _ _ _ _ _ _ _ Q₁))
      refine as_name (.inl rfl) (by krn_off) ?_
      refine ms_cons ?_
      refine MG.mono (Q := fun fl vals σ' => fl = .next ∧ Ex9 fun (τ : Store) (A : Int) (B : Int) (pa : Addr) (kd : Addr) (R : Rec) (kn : List (Int × Int)) (m : Int → Option UInt8) (E : Option Int) => And10 (vals = [some (.ref x), some (.int rg), some (.int irs), some (.int base), some (.ref rc), some (.ref bk), some (.int (0 + i))]) (Drawn A B) (τ x = some (srcO A B)) (τ bk = some (.dds (bookL kd n E R.has))) (τ kd = some (.ddi (mi kn))) (RAt τ σ' rc rd as pa R) (R.ring = rg) (GM R base m n E) (Rep kn (fun j => toI (m j))) (kn.length ≤ 4 * (i + 1))) ?_ ?_
      · refine (let Q₁ : MFlow → List (Option MV) → Store → Prop := _; (?_ : MG _ _ _ _ _ _ _ _ Q₁))
        repeat tb_start
        refine mx_call fn_take rfl ?_
        repeat tb_start
        refine MCall.le (take_ok' (hR.keep _ _ hx) hd (by decide) fun A1 B1 d1 hd1 d10 d11 => ?_) (by decide)
        have hR1 := hR.outerPut (o' := srcO A1 B1) hx
        have hx1 : (τ.put x (srcO A1 B1)) x = some (srcO A1 B1) := Store.put_self
        have hk1 : (τ.put x (srcO A1 B1)) kd = some (.ddi (mi kn)) := by rw [Store.put_ne (Ne.symm (ne_obj hx hk (by intro q; cases q)))]; exact hk
        have hb1 : (τ.put x (srcO A1 B1)) bk = some (.dds (bookL kd n E R.has)) := by rw [Store.put_ne (Ne.symm hxb)]; exact hb
        generalize (τ.put x (srcO A1 B1)) = τ1 at *
        generalize (σ'.put x (srcO A1 B1)) = σ1 at *
        clear hR hx hk hb
        repeat tb_start
        split
        · repeat (first | tb_start | refine ms_cons ?_)
          refine mx_call fn_lnote rfl ?_
          repeat tb_start
          refine MCall.le (lnote_ok er hx1 hd1 hb1 hk1 hR1 hG hkn (by omega) fun A2 B2 τ2 σ2 pa2 R2 kd2 kn2 m2 E2 hd2 hx2 hb2 hk2 hR2 er2 eh2 hG2 hkn2 hl2 => ?_) (by decide)
          repeat tb_start
          exact ⟨by first | rfl | trivial, τ2, A2, B2, pa2, kd2, R2, kn2, m2, E2, rfl, hd2, hx2, by rw [eh2]; exact hb2, hk2, hR2, er2, hG2, hkn2, by omega⟩
        · repeat (first | tb_start | refine ms_cons ?_)
          refine sub_str (v := .bool R.has) (hR1.keep _ _ hb1) (by rfl) ?_ (by intros; rfl)
          cases hh : R.has with
          | true =>
            repeat tb_start
            simp only [Bool.not_true, Bool.false_eq_true, if_false]
            repeat tb_start
            exact ⟨by first | rfl | trivial, τ1, A1, B1, pa, kd, R, kn, m, E, rfl, hd1, hx1, hb1, hk1, hR1, er, hG, hkn, by omega⟩
          | false =>
            repeat tb_start
            simp only [Bool.not_false, if_true]
            repeat (first | tb_start | refine ms_cons ?_)
            refine mx_call fn_lput rfl ?_
            repeat tb_start
            refine MCall.le (lput_ok er hx1 hd1 hb1 hk1 hR1 hG hh hkn hlen hi6 (by omega) (by omega) fun A2 B2 τ2 σ2 pa2 R2 kn2 m2 hd2 hx2 hb2 hk2 hR2 er2 eh2 hG2 hkn2 hl2 => ?_) (by decide)
            repeat tb_start
            exact ⟨by first | rfl | trivial, τ2, A2, B2, pa2, kd, R2, kn2, m2, E, rfl, hd2, hx2, by rw [eh2, ← hh]; exact hb2, hk2, hR2, er2, hG2, hkn2, hl2⟩
      clear hR hx hk hb hG hkn hlen er hd
      rintro fl vals σ1 ⟨rfl, τ1, A1, B1, pa, kd, R, kn, m, E, rfl, hd1, hx1, hb1, hk1, hR1, er, hG, hkn, hlen⟩
      repeat tb_start
      refine ms_cons ?_
      repeat tb_start
      refine mx_call fn_take rfl ?_
      repeat tb_start
      refine MCall.le (take_ok' (hR1.keep _ _ hx1) hd1 (by decide) fun A2 B2 d2 hd2 d20 d21 => ?_) (by decide)
      have hR2 := hR1.outerPut (o' := srcO A2 B2) hx1
      have hx2 : (τ1.put x (srcO A2 B2)) x = some (srcO A2 B2) := Store.put_self
      have hk2 : (τ1.put x (srcO A2 B2)) kd = some (.ddi (mi kn)) := by rw [Store.put_ne (Ne.symm (ne_obj hx1 hk1 (by intro q; cases q)))]; exact hk1
      have hb2 : (τ1.put x (srcO A2 B2)) bk = some (.dds (bookL kd n E R.has)) := by rw [Store.put_ne (Ne.symm hxb)]; exact hb1
      generalize (τ1.put x (srcO A2 B2)) = τ2 at *
      generalize (σ1.put x (srcO A2 B2)) = σ2 at *
      clear hR1 hx1 hk1 hb1
      repeat tb_start
      split
      · repeat tb_start
        refine mx_call fn_lgath rfl ?_
        repeat tb_start
        refine MCall.le (lgath_ok er hx2 hb2 hk2 hR2 hG hkn fun τ3 σ3 R3 n3 hx3 hb3 hk3 hR3 er3 hG3 => ?_) (by decide)
        repeat tb_start
        simp only [Bool.not_true, Bool.false_eq_true, if_false]
        repeat tb_start
        exact ⟨_, τ3, A2, B2, pa, kd, R3, kn, m, n3, E, rfl, hd2, hx3, hb3, hk3, hR3, er3, hG3, hkn, hlen⟩
      · repeat tb_start
        exact ⟨_, τ2, A2, B2, pa, kd, R, kn, m, n, E, rfl, hd2, hx2, hb2, hk2, hR2, er, hG, hkn, hlen⟩
    · rintro vals σ' ⟨v1, τ, A, B, pa, kd, R, kn, m, n, E, rfl, hd, hx, hb, hk, hR, er, hG, hkn, hlen⟩
      exact ⟨by first | rfl | trivial, v1, τ, A, B, pa, kd, R, kn, m, n, E, rfl, hd, hx, hb, hk, hR, er, hG, hkn⟩
  clear hR2 hx2 hk2 hb2 hG
  rintro fl vals σ1 ⟨rfl, v1, τ1, A1, B1, pa, kd, R, kn, m, n, E, rfl, hd1, hx1, hb1, hk1, hR1, er, hG, hkn⟩
  repeat tb_start
  refine ms_cons ?_
  repeat tb_start
  refine mx_call fn_lgath rfl ?_
  repeat tb_start
  refine MCall.le (lgath_ok er hx1 hb1 hk1 hR1 hG hkn fun τ2 σ2 R2 n2 hx2 hb2 hk2 hR2 er2 hG2 => ?_) (by decide)
  repeat tb_start
  refine mx_call fn_lgath rfl ?_
  repeat tb_start
  refine MCall.le (lgath_ok er2 hx2 hb2 hk2 hR2 hG2 hkn fun τ3 σ3 R3 n3 hx3 hb3 hk3 hR3 er3 hG3 => ?_) (by decide)
  repeat tb_start
  exact q σ3 A1 B1 hd1 (hR3.keep _ _ hx3)
end
section
variable {b : Base} {σ σ₀ τ : Store} {Q : MV → Store → Prop} {rc rd as ps : Addr} {R : Rec}
theorem law_ok {sc : Addr} {l : List Int} (h : Script b.W sc l) (hl : l.length ≤ 63) : MCall b.W 20 324 [.ref sc] σ (fun v _ => v = .bool true) := by
  refine MCall.enter (ps := ["script"]) ["told", "source"] rfl rfl ?_ rfl rfl rfl (by decide +kernel) fun L => ?_
  · walk_at "binds"
  walk_at "norm"
  refine (let e₁ : Env := _; let Q₁ : MFlow → List (Option MV) → Store → Prop := _; (?_ : MG _ _ _ (execs _ e₁) e₁ _ _ _ Q₁))
  refine ms_cons ?_
  repeat tb_start
  refine mx_call fn_Receiver rfl ?_
  repeat tb_start
  refine MCall.le (receiver_ok (by decide) fun σ1 rc rd as ps hR => ?_) (by decide)
  repeat (first | tb_start | refine ms_cons ?_)
  refine me_ins hR.rcv me_note_fin ?_
  repeat tb_start
  refine MCall.le (note_fin_ok hR (by decide) (by simp [newR]) (by simp [newR]) fun σ2 ps2 hR2 => ?_) (by decide)
  have e0 : noteR (newR 9 256 8) 12 = { newR 9 256 8 with fin := some 12 } := by
    have hb : before 12 (newR 9 256 8).next (newR 9 256 8).ring = false := by decide +kernel
    unfold noteR
    rw [if_pos ⟨rfl, hb⟩]
    rfl
  rw [e0] at hR2
  repeat (first | tb_start | refine ms_cons ?_)
  refine me_ins0 hR2.rcv me_gather ?_
  refine MCall.le (gather_ok hR2 (by decide) (by simp [newR]) (by simp [newR]) (by simp [newR]) fun σ3 hR3 => ?_) (by decide)
  have et : (taken { newR 9 256 8 with fin := some 12 }).length = 0 := by decide +kernel
  have en : (gatherR { newR 9 256 8 with fin := some 12 }).next = 10 := by decide +kernel
  have eh : (gatherR { newR 9 256 8 with fin := some 12 }).has = false := by decide +kernel
  rw [et]
  generalize gatherR { newR 9 256 8 with fin := some 12 } = R3 at *
  repeat tb_start
  rw [en, eh]
  refine ⟨by simp, fun la hla => ?_⟩
  repeat tb_start
  refine ⟨by simp, fun lb hlb => ?_⟩
  refine op_ne_same (l := [.int 0, .int 10, .bool false]) (by rw [Store.put_ne (ne_of hlb Store.put_self)]; exact Store.put_self) Store.put_self (fun y hy => ?_) ?_
  · simp only [List.mem_cons, List.not_mem_nil, or_false] at hy
    rcases hy with rfl | rfl | rfl
    · exact .int
    · exact .int
    · exact .bool
  repeat (first | tb_start | refine ms_cons ?_)
  refine mx_call fn_pool rfl ?_
  repeat tb_start
  refine MCall.le (pool_ok h (by omega) fun x A B hd hx => ?_) (by decide)
  generalize hs4 : ((((σ3.put la (.lst [.int ((0 : Nat) : Int), .int 10, .bool false])).put lb (.lst [.int 0, .int 10, .bool false]))).put x (srcO A B)) = σ4 at *
  have hs : σ4 x = some (srcO A B) := by rw [← hs4, Store.put_self]
  repeat (first | tb_start | refine ms_cons ?_)
  refine mx_call fn_round rfl ?_
  repeat tb_start
  refine MCall.le (round_ok hs hd fun σ5 A3 B3 hd3 hs3 => ?_) (by decide)
  repeat tb_start
  refine mx_call fn_round rfl ?_
  repeat tb_start
  refine MCall.le (round_ok hs3 hd3 fun σ6 A4 B4 hd4 hs4 => ?_) (by decide)
  repeat tb_start
  rfl
end
end Mine
theorem PySem.Challenge.cw_xw0334_04_holds : PySem.Challenge.rw_xw0334_04.Holds :=
  Mine.law_of fun b sc l h hl => Mine.law_ok h hl
