import PyProof.Rows.All
import Wide.All
import OpenK.AllK
import Wide.FinOn
import KE.BytesMake
import KE.KBytesWalk
import PySem.Challenge.RW_xm0624_01
open PySem PySem.W PySem.Spec PySem.Calls PyProof.Rows
set_option Elab.async false
set_option compiler.extract_closed false
set_option maxRecDepth 100000
set_option maxHeartbeats 8000000
namespace Mine
open Sem (wp)
noncomputable def Held (P : Prop) : Prop := P

noncomputable def holderIds : List String := ["bytearray.__contains__", "bytearray.__mod__", "bytearray.__rmod__", "_struct.pack_into.held", "bytearray.find.held"] ++ Builtin.Bytes.decodersThatHold
noncomputable def holder : Code → Bool
  | .builtin id _ => holderIds.contains id
  | _ => false
noncomputable def Free (l : List (Code × Pos)) : Prop := ∀ x ∈ l, holder x.1 = false
theorem Free.cons {c : Code} {p : Pos} {l : List (Code × Pos)} (hc : holder c = false) (h : Free l) : Free ((c, p) :: l) := fun x hx => by
  rcases List.mem_cons.mp hx with rfl | hx
  · exact hc
  · exact h x hx

noncomputable def wpN {α : Type} (M : Model) (A : Around) (t : Sem α) (Q : α → Shared → Prop) (s : Shared) : Prop :=
  ∀ Γ p, Γ.In A → holder Γ.code = false → Free Γ.below → wp M Γ t (fun a _ s' => Q a s') (fun _ _ _ => False) p s
noncomputable def codeN (M : Model) (A : Around) (c : Code) (R : Result → Shared → Prop) (s : Shared) : Prop :=
  ∀ Γ p, Γ.code = c → Γ.Below A → Free Γ.below → wpCode M Γ R p s

section
variable {α β : Type} {M : Model} {A : Around} {s : Shared}
theorem wpN_any {t : Sem α} {Q : α → Shared → Prop} (h : wpAny M A t Q (fun _ _ => False) s) : wpN M A t Q s := fun Γ p hΓ _ _ => h Γ p hΓ
theorem wpN_mono {t : Sem α} {Q Q' : α → Shared → Prop} (h : wpN M A t Q s) (hQ : ∀ a s, Q a s → Q' a s) : wpN M A t Q' s :=
  fun Γ p hΓ h1 h2 => Sem.wp_mono M Γ t (fun a _ s => hQ a s) (fun _ _ _ h => h) p s (h Γ p hΓ h1 h2)
theorem wpN_pure {a : α} {Q : α → Shared → Prop} (h : Q a s) : wpN M A (pure a) Q s := fun _ _ _ _ _ => h
theorem wpN_bind {m : Sem α} {f : α → Sem β} {Q : β → Shared → Prop} (h : wpN M A m (fun a s' => wpN M A (f a) Q s') s) : wpN M A (m >>= f) Q s := fun Γ p hΓ h1 h2 => by
  rw [Sem.wp_bind']
  exact Sem.wp_mono M Γ m (fun a p' s' h' => h' Γ p' hΓ h1 h2) (fun _ _ _ h' => h') p s (h Γ p hΓ h1 h2)
theorem wpN_holding {vs : List Value} {m : Sem α} {Q : α → Shared → Prop} (h : wpN M A m Q s) : wpN M A (holding vs m) Q s :=
  fun Γ p hΓ h1 h2 => by rw [Sem.wp_holding]; exact h Γ p hΓ h1 h2
theorem wpN_keep {vs : List Value} {m : Sem α} {Q : α → Shared → Prop} (h : wpN M A m Q s) : wpN M A (m.keep vs) Q s :=
  fun Γ p hΓ h1 h2 => by rw [Sem.wp_keep]; exact h Γ p hΓ h1 h2
theorem wpN_standAt {pos : Pos} {Q : Unit → Shared → Prop} (h : Q () s) : wpN M A (standAt pos) Q s := fun _ _ _ _ _ => h
theorem wpN_point {Q : Unit → Shared → Prop} (h : Q () s) : wpN M A point Q s := fun _ _ _ _ _ => h
theorem wpN_onRaise {m : Sem α} {k : Value → Sem Unit} {Q : α → Shared → Prop} (h : wpN M A m Q s) : wpN M A (m.onRaise k) Q s := fun Γ p hΓ h1 h2 => by
  rw [Sem.wp_onRaise]
  exact Sem.wp_mono M Γ m (fun _ _ _ h' => h') (fun _ _ _ h' => h'.elim) p s (h Γ p hΓ h1 h2)
theorem wpN_operate {vs : List Value} {m : Sem Value} {Q : Value → Shared → Prop} (h : wpN M A m Q s) : wpN M A (operate vs m) Q s := fun Γ p hΓ h1 h2 => by
  rw [Sem.wp_operate]; exact h Γ p hΓ h1 h2
theorem wpN_stack {Q : List (Code × Pos) → Shared → Prop} (h : ∀ st, Free st → Q st s) : wpN M A stack Q s := fun Γ p _ h1 h2 => by
  show Q ((Γ.code, p) :: Γ.below) s
  exact h _ (Free.cons h1 h2)

theorem codeN_mono {c : Code} {R R' : Result → Shared → Prop} (h : codeN M A c R s) (hR : ∀ r s, R r s → R' r s) : codeN M A c R' s :=
  fun Γ p hc hΓ h2 => wpCode_mono hR (h Γ p hc hΓ h2)
theorem wpN_run {c : Code} {Q : Flow → Shared → Prop} (hc : codeN M A c (fun r s' => match r with | .ok f => Q f s' | .error _ => False) s) : wpN M A (run c) Q s :=
  fun Γ p hΓ h1 h2 => by
    rw [Sem.wp_run]
    have e := (hΓ.enter c none p (by intro x; cases x))
    refine wpCode_mono (fun r s' h => ?_) (hc _ p rfl e (Free.cons h1 h2))
    cases r <;> exact h
theorem wpN_runValue {c : Code} {Q : Value → Shared → Prop} (hc : codeN M A c (fun r s' => match r with | .ok (.ret v) => Q v s' | .ok _ => False | .error _ => False) s) : wpN M A (runValue c) Q s :=
  fun Γ p hΓ h1 h2 => by
    rw [Sem.wp_runValue]
    refine wpCode_mono (fun r s' h => ?_) (hc _ p rfl (hΓ.enter c none p (by intro x; cases x)) (Free.cons h1 h2))
    cases r with
    | error e => exact h
    | ok f => cases f <;> exact h
theorem wpN_call {f : Value} {pos : List Value} {kw : List (Str × Value)} {Q : Value → Shared → Prop} (hc : codeN M A (.call f ⟨pos, kw⟩) (fun r s' => match r with | .ok (.ret v) => Q v s' | .ok _ => False | .error _ => False) s) :
    wpN M A (call f pos kw) Q s := wpN_runValue hc
theorem codeN_of_tree {c : Code} {R : Result → Shared → Prop} (hq : holder c = false)
    (h : wpN M (A.under c) (M.den c) (fun fin s' => match fin with | .done f => R (.ok f) s' | .again c' => c'.quiet = true ∧ codeN M A c' R s') s) : codeN M A c R s := fun Γ p hc hΓ h2 => by
  rw [wpCode_iff_wp, hc]
  refine Sem.wp_mono M Γ _ (fun fin p' s' h' => ?_) (fun _ _ _ h' => h'.elim) p s (h Γ p (hc ▸ hΓ.in) (hc ▸ hq) h2)
  cases fin with
  | done f => exact h'
  | again c' => exact ⟨h'.1, h'.2 (Γ.goto c') p' rfl (hΓ.goto c') h2⟩
theorem codeN_any {c : Code} {R : Result → Shared → Prop} (h : codeAny M A c R s) : codeN M A c R s := fun Γ p hc hΓ _ => h Γ p hc hΓ
theorem codeN_loop {c : Code} {R : Result → Shared → Prop} (hh : holder c = false) (hq : c.quiet = true) (I : Nat → Shared → Prop)
    (turn : ∀ n s, I n s → wpN M (A.under c) (M.den c) (fun fin s' => match fin with | .done f => R (.ok f) s' | .again c' => c' = c ∧ ∃ m, m < n ∧ I m s') s)
    (n : Nat) (h : I n s) : codeN M A c R s := by
  induction n using Nat.strongRecOn generalizing s with
  | ind n ih =>
    refine codeN_of_tree hh (wpN_mono (turn n s h) (fun fin s' hf => ?_))
    cases fin with
    | done f => exact hf
    | again c' => obtain ⟨rfl, m, hm, hI⟩ := hf; exact ⟨hq, ih m hm hI⟩
end

section
variable {prog : Program} {w : World} {A : Around} {R : Result → Shared → Prop} {s : Shared} {env : Env}
theorem wpN_execs_cons {st : Stmt} {rest : List Stmt} {Q : Flow → Shared → Prop} (h : wpN (model prog w) A (exec st env) (fun f s' => match f with | .next => wpN (model prog w) A (execs rest env) Q s' | f => Q f s') s) :
    wpN (model prog w) A (execs (st :: rest) env) Q s := by
  rw [execs_cons]
  refine wpN_bind (wpN_mono h fun f s' h' => ?_)
  cases f <;> first | exact h' | exact wpN_pure h'
theorem wpN_execs_nil {Q : Flow → Shared → Prop} (h : Q .next s) : wpN (model prog w) A (execs [] env) Q s := fun _ _ _ _ _ => h
theorem wpN_If {test : PySem.Expr} {body orelse : List Stmt} {pos : Pos} {Q : Flow → Shared → Prop}
    (h : wpN (model prog w) A (isTrue test env (eval test env)) (fun b s₂ => if b = true then wpN (model prog w) A (execs body env) Q s₂ else wpN (model prog w) A (execs orelse env) Q s₂) s) :
    wpN (model prog w) A (exec (.If test body orelse pos) env) Q s := by
  rw [exec_If]
  refine wpN_bind (wpN_standAt (wpN_bind (wpN_mono h fun b s₂ h₂ => ?_)))
  cases b <;> exact h₂
theorem wpN_Return_some {e : PySem.Expr} {pos : Pos} {Q : Flow → Shared → Prop} (h : wpN (model prog w) A (eval e env) (fun v s' => Q (.ret v) s') s) : wpN (model prog w) A (exec (.Return (some e) pos) env) Q s := by
  rw [exec_Return_some]
  exact wpN_bind (wpN_standAt (wpN_bind (wpN_mono h fun v s' h' => wpN_pure h')))
theorem wpN_isTrue_Compare1 {l r : PySem.Expr} {op : CmpOp} {pos : Pos} {whole : Sem Value} {Q : Bool → Shared → Prop}
    (h : wpN (model prog w) A (eval l env) (fun a s₁ => wpN (model prog w) A (eval r env) (fun b s₂ => wpN (model prog w) A (compareOp op a b) (fun c s₃ => wpN (model prog w) A (truthy c) Q s₃) s₂) s₁) s)
    (hm : behindInMarks op r = false := by with_unfolding_all rfl) : wpN (model prog w) A (isTrue (.Compare l [op] [r] pos) env whole) Q s := by
  rw [isTrue_Compare1, markedBehindIn_of_false hm]
  exact wpN_bind (wpN_mono h fun a s₁ h₁ => wpN_bind (wpN_holding (wpN_mono h₁ fun b s₂ h₂ => wpN_bind (wpN_standAt (wpN_bind (wpN_operate (wpN_mono h₂ fun c s₃ h₃ => wpN_holding h₃)))))))
theorem wpN_Compare1 {l r : PySem.Expr} {op : CmpOp} {pos : Pos} {Q : Value → Shared → Prop}
    (h : wpN (model prog w) A (eval l env) (fun a s₁ => wpN (model prog w) A (eval r env) (fun b s₂ => wpN (model prog w) A (compareOp op a b) Q s₂) s₁) s)
    (hm : behindInMarks op r = false := by with_unfolding_all rfl) : wpN (model prog w) A (eval (.Compare l [op] [r] pos) env) Q s := by
  rw [eval_Compare1, markedBehindIn_of_false hm]
  exact wpN_bind (wpN_mono h fun a s₁ h₁ => wpN_bind (wpN_holding (wpN_mono h₁ fun b s₂ h₂ => wpN_bind (wpN_standAt (wpN_operate h₂)))))
theorem wpN_Expr {e : PySem.Expr} {pos : Pos} {Q : Flow → Shared → Prop} (h : wpN (model prog w) A (eval e env) (fun v s' => match v with | .ref _ => False | _ => Q .next s') s)
    (hi : interactive env = false := by rfl) (hs : swapsWith e none pos.line env = pure false := by rfl) : wpN (model prog w) A (exec (.Expr e pos) env) Q s := by
  rw [exec_Expr env e pos hi hs]
  refine wpN_bind (wpN_standAt (wpN_bind (wpN_mono h (fun v s' h' => ?_))))
  have hv : ∀ a, v ≠ .ref a := fun a hva => by subst hva; exact h'
  rw [dropValue_plain hv]
  refine wpN_pure ?_
  cases v <;> first | exact h' | exact (hv _ rfl).elim
theorem wpN_While {test : PySem.Expr} {body orelse : List Stmt} {pos : Pos} {Q : Flow → Shared → Prop}
    (h : codeN (model prog w) A (.whileLoop test body orelse env) (fun r s' => match r with | .ok f => Q f s' | .error _ => False) s) : wpN (model prog w) A (exec (.While test body orelse pos) env) Q s := by
  rw [exec_While]
  refine wpN_bind (wpN_standAt ?_)
  unfold runOwn
  exact wpN_onRaise (wpN_run h)
theorem codeN_whileLoop {test : PySem.Expr} {body orelse : List Stmt} (I : Nat → Shared → Prop)
    (turn : ∀ n s, I n s → wpN (model prog w) A (isTrue test env (eval test env)) (fun b s₂ =>
        if b = true then wpN (model prog w) A (execs body env) (fun f s₃ => match f with
            | .next | .cont => Held (∃ m, m < n ∧ I m s₃)
            | .brk => R (.ok .next) s₃
            | .ret v => R (.ok (.ret v)) s₃) s₂
        else wpN (model prog w) A (execs orelse env) (fun f s₃ => R (.ok f) s₃) s₂) s)
    (n : Nat) (h : I n s) : codeN (model prog w) A (.whileLoop test body orelse env) R s := by
  refine codeN_loop rfl rfl I (fun n s hI => ?_) n h
  show wpN _ A ((whileTurn test body orelse env).onRaise (fun x => do noteFrame x env; theTreesLotGoes x)) _ s
  refine wpN_onRaise ?_
  simp only [whileTurn]
  refine wpN_bind (wpN_mono (turn n s hI) (fun b s₂ h₂ => ?_))
  cases b with
  | false =>
    simp only [Bool.false_eq_true, if_false] at h₂ ⊢
    exact wpN_bind (wpN_mono h₂ (fun f s₃ h₃ => wpN_pure h₃))
  | true =>
    simp only [if_true] at h₂ ⊢
    refine wpN_bind (wpN_mono h₂ (fun f s₃ h₃ => ?_))
    cases f with
    | next => exact wpN_pure ⟨rfl, h₃⟩
    | cont => exact wpN_pure ⟨rfl, h₃⟩
    | brk => exact wpN_pure h₃
    | ret v => exact wpN_pure h₃
theorem codeN_func {body : List Stmt} (h : wpN (model prog w) (A.deeper env) (execs body env) (fun f s' => R (.ok (.ret (match f with | .ret v => v | _ => .none))) s') s) :
    codeN (model prog w) A (.func body env) R s := by
  refine codeN_of_tree rfl ?_
  show wpN _ (A.deeper env) (do point; match ← (execs body env).onRaise (leaving env) with | .ret v => ret v | _ => ret .none) _ s
  refine wpN_bind (wpN_point (wpN_bind (wpN_onRaise (wpN_mono h (fun f s' h' => ?_)))))
  cases f <;> exact wpN_pure h'
theorem codeN_call_function {a : Addr} {args : Args} {o : Obj} {fd : FuncData} {body : List Stmt} (hroom : A.depth < recursionLimit)
    (ho : s.heap.get? a = some o) (hd' : o.data = .func fd) (hco : fd.scope.isCoroutine = false) (hgen : fd.scope.isGenerator = false) (hbody : fd.body = .stmts body) (hcd : s.heap.CodeRec fd.code fd.qualname)
    (h : wpAny (model prog w) A.in1 (bindArgs fd args) (fun binds s₁ =>
      wpAny (model prog w) A.in1 (newFunctionEnv fd.scope fd.globals fd.closure binds (fd.qualname ++ ".<locals>.") (some a) fd.code none fd.builtins)
        (fun env s₂ => s₂.heap.NoLimit ∧ codeN (model prog w) A (.func body env) R s₂) (fun _ _ => False) s₁) (fun _ _ => False) s) :
    codeN (model prog w) A (.call (.ref a) args) R s := by
  refine codeN_of_tree rfl ?_
  show wpN _ A.in1 (callAny (.ref a) args) _ s
  refine wpN_any ?_
  simp only [callAny]
  refine wpAny_bind (wpAny_load ho ?_)
  obtain ⟨c, oc, vs, tq, hc, hoc, hdc, hq⟩ := hcd
  simp only [hd', callFunction, hco, hgen, hbody, hc]
  rw [hc] at h
  refine wpAny_bind (m := field (.ref c) 1) (wpAny_field hoc hdc hq (wpAny_bind (wpAny_pure ?_)))
  exact wpAny_bind (wpAny_mono h (fun binds s₁ h₁ => wpAny_bind (wpAny_mono h₁ (fun env s₂ h₂ => wpAny_bind (wpAny_enterFrame h₂.1 hroom
    (wpAny_pure (And.intro rfl h₂.2)))) fun _ _ h' => h')) fun _ _ h' => h')
end
end Mine
namespace Mine
theorem ex_one {α : Type} {l : List α} (h : l.length = 1) : ∃ a, l = [a] := List.length_eq_one_iff.mp h
theorem ex_cons {α : Type} {l : List α} {n : Nat} (h : l.length = n + 1) : ∃ a r, l = a :: r ∧ r.length = n := List.casesOn (motive := fun l => l.length = n + 1 → ∃ a r, l = a :: r ∧ r.length = n) l (fun h => nomatch h) (fun a r h => ⟨a, r, rfl, Nat.succ.inj h⟩) h
theorem ex_two {α : Type} {l : List α} (h : l.length = 2) : ∃ a b, l = [a, b] := by
  obtain ⟨a, r, rfl, h2⟩ := ex_cons (n := 1) h
  obtain ⟨b, rfl⟩ := ex_one h2
  exact ⟨a, b, rfl⟩
theorem ex_three {α : Type} {l : List α} (h : l.length = 3) : ∃ a b c, l = [a, b, c] := by
  obtain ⟨a, r, rfl, h2⟩ := ex_cons (n := 2) h
  obtain ⟨b, c, rfl⟩ := ex_two h2
  exact ⟨a, b, c, rfl⟩
end Mine
namespace Mine
open Sem (wp)
theorem free_caller : holder (.builtin "claim.caller" {}) = false ∧ Free [] := ⟨by decide, fun _ h => nomatch h⟩
theorem thread_endsN {prog : Program} {w : World} {t : Sem Fin} {s : Shared} {R : Result → Shared → Prop} (hreg : s.asleep)
    (h : wpN (model prog w) callerA t (fun fin s' => ∃ f, fin = .done f ∧ (R (.ok f) s' ∧ leftWithCleanup s'.gens = false)) s) :
    ∃ n r s' s'', runN (denote table) prog w n s ⟨t, .builtin "claim.caller" {}, default, []⟩ = .halted (outcomeOf r) s' ∧
      schedN (denote table) prog w n (.single s ⟨t, .builtin "claim.caller" {}, default, []⟩) = .halted (outcomeOf r) s' ∧ s'.forget = s''.forget ∧ R r s'' := by
  have h' : wp (model prog w) ⟨.builtin "claim.caller" {}, none, none, [], none⟩ t (Sem.finPost (model prog w) ⟨.builtin "claim.caller" {}, none, none, [], none⟩ fun r s' => R r s' ∧ leftWithCleanup s'.gens = false) (fun e _ s' => R (.error e) s' ∧ leftWithCleanup s'.gens = false) default s := by
    refine Sem.wp_mono _ _ t (fun fin p' s' h' => ?_) (fun _ _ _ h' => h'.elim) default s (h _ default caller_in free_caller.1 free_caller.2)
    obtain ⟨f, rfl, hf⟩ := h'
    exact hf
  obtain ⟨n, r, s₁, s₂, hs, hn, hfo, hR⟩ := wp_halts_full (M := model prog w) (R := R) hreg h'
  exact ⟨n, r, s₂, s₁, hn, hs, hfo, hR⟩
theorem callFromN {c : ClaimW} {tree : List Value → Sem Fin} {w : World} {s : Shared} {free : Addr → Prop} {gens : Prop} {kept : Heap → Prop} (hz : s.asleep) (hgens : s.gens = #[])
    (hspec : ∀ args, c.pre args = true → WData.layableAll args = true →
      ∀ ord : List DictEntry → List DictEntry, (∀ l, (ord l).Perm l) →
      ∃ vs s₁, layAllW c.records (classAt s.heap) w.params ord args s = some (vs, s₁) ∧
        wpN (model c.prog w) callerA (tree vs) (fun fin s' => ∃ f, fin = .done f ∧ (c.Ends s args vs s₁ (.ok f) s' ∧ s'.os = s.os ∧ AllBare s'.gens ∧ kept s'.heap)) s₁) :
    c.CallFrom (fun vs => ⟨tree vs, .builtin "claim.caller" {}, default, []⟩) w free gens kept s := by
  intro args hpre hlay ord hord
  obtain ⟨vs, s₁, hlaid, hcode⟩ := hspec args hpre hlay ord hord
  have hal := layAllW_rest _ _ _ hlaid
  obtain ⟨k, r, s', s'', hrun, hsched, hfo, hcase, hos, hkp⟩ := thread_endsN (prog := c.prog) (w := w) (t := tree vs) (s := s₁)
    (R := fun r s' => c.Ends s args vs s₁ r s' ∧ s'.os = s.os ∧ kept s'.heap)
    (Shared.asleep_of_life hal.2.2.2 hz)
    (wpN_mono hcode (by
      rintro fin s' ⟨f, e, h1, h2, h3, h4⟩
      exact ⟨f, e, ⟨h1, h2, h4⟩, leftWithCleanup_false_of_bare h3⟩))
  obtain ⟨eh, _, _, eo, _⟩ := Shared.forget_eq hfo
  have hcase := hcase.congr eh
  have hkp : kept s'.heap := by first | exact eh ▸ hkp | (rw [eh] at hkp; exact hkp) | (rw [← eh] at hkp; exact hkp)
  rw [← eo] at hos
  have hlife : s'.heap.life = s.heap.life := (runN_life _ _ _ hrun).trans hal.2.2.2
  refine ⟨vs, s₁, hlaid, k, _, s', hsched, ?_, (fun _ i x hx => by rw [hgens] at hx; simp at hx), hkp, by rw [hlife], Shared.rest_eq hos⟩
  rcases hcase with ⟨v, rfl, d1, d2, d3, d4, d5⟩ | ⟨e, ob, cls, rfl, d1, d2, d3, d4, d5⟩
  · exact .inl ⟨v, rfl, d1, d2, d3, fun b o y _ => d4 b o y, d5⟩
  · exact .inr ⟨e, ob, cls, rfl, d1, d2, d3, d4, fun b o y _ => d5 b o y⟩

theorem open_anyGN {r : RowW} {run : Value → List Value → Sem Value} {tree : List Value → Sem Fin} {q : Program} {loose defs kps : List Str} {writes : Bool} {Xt : Shared → Bool} {XP : (Str → Option Value) → Heap → Prop} {α : Type} {Yf : Shared → α} {Ya : World → α} {YP : World → Heap → Prop} {N : Nat}
    (left : LeftO r.prog q loose Xt Yf Ya N) (hY : ∀ w s, Yf s = Ya w → YP w s.heap) (hYk : ∀ w h h', YP w h → (∀ b o, h.get? b = some o → h'.get? b = some o) → YP w h') (hX : ∀ s, Xt s = true → XP (s.heap.nsMap mainGlobals) s.heap) (hXk : ∀ mg h h', XP mg h → (∀ b o, h.get? b = some o → h'.get? b = some o) → XP mg h')
    (hRf : ∀ s, Xt s = true → RecFacts r.records s.heap) (hwr : (!writes || r.records.isEmpty) = true) (ok : (chainsOk q && opensWell r.prog && (frees r && r.within.isEmpty)) = true) (hb : r.prog.bare) (hw : r.promised)
    (ht : ∀ vs (w : World) (s : Shared) mg f (Q : Fin → Shared → Prop), s.heap.Ns mainGlobals mg → mg r.name = some f → wpN (model r.prog w) callerA (run f vs) (fun v s' => Q (.done (.ret v)) s') s → wpN (model r.prog w) callerA (tree vs) Q s)
    (pin : ∀ w s, s.heap.isNs mainGlobals = true → Ground q loose [] XP w s (s.heap.nsMap mainGlobals) (s.heap.nsMap builtinsNs) s.heap → ∀ n ∈ defs, isTheDefsW r.prog s.heap n)
    (call : ∀ (w : World) (s₀ s₁ : Shared) (mg mb : Str → Option Value), Ground q loose r.records XP w s₀ mg mb s₁.heap → YP w s₁.heap → ∀ (args : List WData) (vs : List Value) (as : List Addr),
      r.claim.pre args = true → WData.layableAll args = true → Laid r.records w s₀ s₁ args vs as → sysModules < s₀.heap.objs.size → ∃ f, mg r.name = some f ∧
        wpN (model r.prog w) callerA (run f vs) (fun v s' => GoodWG r.claim (classAt s₀.heap) (ExcName.means s₀.heap) args s₁ (.ok (.ret v)) s') s₁) : r.claim.HoldsOpenBy (fun vs => ⟨tree vs, .builtin "claim.caller" {}, default, []⟩) defs kps writes := by
  obtain ⟨ok, k5⟩ := Bool.and_eq_true_iff.mp ok
  obtain ⟨hch, o1⟩ := Bool.and_eq_true_iff.mp ok
  obtain ⟨k5, k6⟩ := Bool.and_eq_true_iff.mp k5
  obtain ⟨hsame, hu, ha, hap, hm⟩ := frees_parts k5
  refine ⟨⟨hb, o1, by show r.makers.map _ = []; rw [hm]; rfl⟩, hw.witness, fun w => ⟨(left.behind hX hch w).1, fun s' hs' => ?_⟩⟩
  obtain ⟨s₀, hf, hg0, s, hT, hz, hgens, hg, G00, y⟩ := (left.behind (XP := fun mg h => XP mg h ∧ RecFacts r.records h) (fun s hs => ⟨hX s hs, hRf s hs⟩) hch w).2 s' hs'
  have G0 : Ground q loose [] XP w s (s.heap.nsMap mainGlobals) (s.heap.nsMap builtinsNs) s.heap := ⟨G00.T, G00.B, G00.D, G00.TE, G00.TD, G00.W, G00.X.1, G00.cls, G00.has, G00.apart, G00.once, G00.K⟩
  have RF := G00.X.2
  have hT' := hT
  refine ⟨s₀, hf, hg0, s, hT, pin w s hg G0, RF.1, RF.2.1, ?_⟩
  have hgens : s.gens = #[] := Array.eq_empty_of_size_eq_zero (beq_iff_eq.mp hgens)
  have G : Ground q loose r.records XP w s _ _ s.heap := RF.ground G0
  refine callFromN (c := r.claim) hz hgens fun args hpre hlay ord hord => ?_
  obtain ⟨⟨vs, s₁⟩, hlaid⟩ := Option.isSome_iff_exists.mp (layAllW_isSome (P := w.params) (ord := ord) G.has args r.args s (pre_splitW hpre).1)
  have keeps := layAllW_keeps _ _ _ hlaid
  have hal := layAllW_rest _ _ _ hlaid
  obtain ⟨as, hrd, hin, hold⟩ := reads_layAllW hord _ _ _ hlaid hlay s₁.heap (fun _ _ e => e)
  have L : Laid r.records w s s₁ args vs as := ⟨⟨ord, hord, hlaid⟩, hrd, hin, hold, keeps, hal.1.trans hgens, hal.2.2.1⟩
  have G₁ := G.keeps hXk keeps
  obtain ⟨f, hf, h⟩ := call w s s₁ _ _ G₁ (hYk _ _ _ (hY w s y) keeps) args vs as hpre hlay L G.low
  have hi := ident_freeW hu ha hap
  have hwi : r.claim.within = [] := List.isEmpty_iff.mp k6
  exact ⟨vs, s₁, hlaid, ht vs w s₁ _ f _ G₁.T.g hf (wpN_mono h (fun v s' g => ⟨_, rfl, have z := g.laid (c := r.claim) hsame hwi hi L; ⟨z.1, z.2.1, z.2.2, fun q => ⟨namesKept_of hT' hg kps keeps g.2.1.old, noTable hwr q⟩⟩⟩))⟩

noncomputable abbrev WalkON (q : Program) (loose : List Str) (XP : (Str → Option Value) → Heap → Prop) (YP : World → Heap → Prop) (r : RowW) (d : DefRec) (kwd : List (Str × Expr)) (run : Value → List Value → Sem Value) : Prop :=
  ∀ (w : World) (s₀ s₁ : Shared) (mg mb : Str → Option Value), Ground q loose r.records XP w s₀ mg mb s₁.heap → YP w s₁.heap → ∀ (a : Addr) (o : Obj) (pm cd doc dV kV : Value), s₁.heap.get? a = some o →
    o.data = .func { docDef d.name d.params d.body d.scope pm cd doc with defaults := dV, kwdefaults := kV } → s₁.heap.CodeRec cd d.name → Dflts mg s₁.heap d.params kwd dV kV → mg d.name = some (.ref a) → s₁.gens = #[] →
    ∀ (args : List WData) (vals : List Value) (as : List Addr), r.claim.pre args = true → WData.layableAll args = true → ReadsAllW r.records (classAt s₀.heap) s₁.heap vals args as → WellAll w.params s₁.heap vals args → (∀ a ∈ as, (a == sysModules) = false) →
      wpN (model r.prog w) callerA (run (.ref a) vals) (fun v s' => GoodWG r.claim (classAt s₀.heap) (ExcName.means s₀.heap) args s₁ (.ok (.ret v)) s') s₁

theorem PySem.W.holds_open {r : OpenRow} {q : Program} {loose : List Str} {Xt : Shared → Bool} {XP : (Str → Option Value) → Heap → Prop} {α : Type} {Yf : Shared → α} {Ya : World → α} {YP : World → Heap → Prop} {d : DefRec} {kwd : List (Str × Expr)} {N : Nat}
    (left : LeftO r.prog q loose Xt Yf Ya N) (hY : ∀ w s, Yf s = Ya w → YP w s.heap) (hYk : ∀ w h h', YP w h → (∀ b o, h.get? b = some o → h'.get? b = some o) → YP w h')
    (hX : ∀ s, Xt s = true → XP (s.heap.nsMap mainGlobals) s.heap) (hXk : ∀ mg h h', XP mg h → (∀ b o, h.get? b = some o → h'.get? b = some o) → XP mg h')
    (hdef : defOf q r.name = some (d, kwd)) (hp : r.prog.theDef r.name = some (d.params, d.body, d.scope)) (hk : kwWritten? d.params.kwonlyargs d.params.kw_defaults = some kwd) (hRf : ∀ s, Xt s = true → RecFacts r.records s.heap) (hwr : (!r.writes || r.records.isEmpty) = true)
    (k1 : r.wellSaid = true) (ok : (chainsOk q && opensWell r.prog && (frees r.toRowW && r.within.isEmpty)) = true) (hb : r.prog.bare) (hw : r.toRowW.promised)
    (call : WalkON q loose XP YP r.toRowW d kwd fun f vs => PySem.call f vs) : r.Holds := by
  refine ⟨k1, hw, open_anyGN (r := r.toRowW) (run := fun f vs => PySem.call f vs) (tree := fun vs => do match ← nsGet mainNs r.name with
      | some f => do ret (← PySem.call f vs)
      | none => unsupported "claim.caller:no-such-global") left hY hYk hX hXk hRf hwr ok hb hw
    (fun vs w s mg f Q hg hf h => wpN_bind (wpN_any (wpAny_nsGet hg (by rw [hf]; exact wpN_bind (wpN_mono h (fun _ _ x => wpN_pure x))))))
    (fun w s hg G n hn => ?_) fun w s₀ s₁ mg mb G Y args vs as hpre hlay L low => ?_⟩
  · obtain rfl : n = r.name := by split at hn <;> simp_all
    exact pinned_of_view hg G hdef hp hk
  · obtain ⟨a, o, pm, cd, doc, dV, kV, h1, h2, h3, h4, h5⟩ := G.fn hdef
    exact ⟨.ref a, h1, call w s₀ s₁ mg mb G Y a o pm cd doc dV kV h2 h3 h4 h5 (defOf_name hdef ▸ h1) L.gens args vs as hpre hlay L.reads L.well (L.low low)⟩
theorem PySem.W.holds_open9 {r : OpenRow} {q : Program} {loose : List Str} {Xt : Shared → Bool} {XP : (Str → Option Value) → Heap → Prop} {α : Type} {Yf : Shared → α} {Ya : World → α} {YP : World → Heap → Prop} {d : DefRec} {kwd : List (Str × Expr)} {N : Nat}
    (hY : ∀ w s, Yf s = Ya w → YP w s.heap) (hYk : ∀ w h h', YP w h → (∀ b o, h.get? b = some o → h'.get? b = some o) → YP w h')
    (hX : ∀ s, Xt s = true → XP (s.heap.nsMap mainGlobals) s.heap) (hXk : ∀ mg h h', XP mg h → (∀ b o, h.get? b = some o → h'.get? b = some o) → XP mg h')
    (hdef : defOf q r.name = some (d, kwd)) (hp : r.prog.theDef r.name = some (d.params, d.body, d.scope)) (hk : kwWritten? d.params.kwonlyargs d.params.kw_defaults = some kwd) (hRf : ∀ s, Xt s = true → RecFacts r.records s.heap) (hwr : (!r.writes || r.records.isEmpty) = true)
    (k1 : r.wellSaid = true) (ok : (chainsOk q && opensWell r.prog && (frees r.toRowW && r.within.isEmpty)) = true) (hb : r.prog.bare) (hw : r.toRowW.promised)
    (both : LeftO r.prog q loose Xt Yf Ya N ∧ WalkON q loose XP YP r.toRowW d kwd fun f vs => PySem.call f vs) : r.Holds :=
  PySem.W.holds_open both.1 hY hYk hX hXk hdef hp hk hRf hwr k1 ok hb hw both.2
noncomputable abbrev leftOf {L W C : Prop} (_ : L ∧ W → C) : Prop := L
end Mine
namespace Mine
set_option maxHeartbeats 8000000
theorem law_said : OpenLaw.wellSaid PySem.Challenge.rw_xm0624_01 = true := by kernel_rfl
def pickAt (l : List Stmt) (ks : List Nat) : List Stmt := ks.filterMap fun k => l[k]?
abbrev rowW : RowW := OpenRow.toRowW (OpenLaw.row PySem.Challenge.rw_xm0624_01)
def view : Program := { rowW.prog with main := { rowW.prog.main with body := pickAt rowW.prog.main.body [0, 2, 4, 6, 7, 8, 9, 10, 11, 12, 13, 14, 15, 16, 17, 18, 19, 20, 21, 22, 23, 24, 25, 26, 27, 28, 29, 30, 32, 33, 34, 35, 36, 37] } }
local macro_rules | `(tactic| o_law) => `(tactic| refine holds_law law_said fun said => ?_)
abbrev rowO : OpenRow := OpenLaw.row PySem.Challenge.rw_xm0624_01
theorem head9 (H : Hook) {d : DefRec} {kwd : List (Str × Expr)} (hdef : defOf view rowO.name = some (d, kwd)) (hp : rowO.prog.theDef rowO.name = some (d.params, d.body, d.scope)) (hk : kwWritten? d.params.kwonlyargs d.params.kw_defaults = some kwd) (k1 : rowO.wellSaid = true) (hw : rowO.toRowW.promised)
    (both : LeftO rowO.prog view [] (fun s => xlAt view [] s && recOk (RowW.records rowW) s) H.obs H.val 3810 ∧ WalkON view [] (XL view []) H.says rowO.toRowW d kwd fun f vs => PySem.call f vs) : rowO.Holds :=
  PySem.W.holds_open9 (q := view) (loose := []) (Xt := fun s => xlAt view [] s && recOk (RowW.records rowW) s) (XP := XL view []) (Yf := H.obs) (Ya := H.val) (YP := H.says) (N := 3810) H.of H.keeps (fun s e => xl_of s (Bool.and_eq_true_iff.mp e).1) XL.keeps hdef hp hk (fun s e => recFacts_of (Bool.and_eq_true_iff.mp e).2) (by rfl) k1 (by decide +kernel) ⟨rfl, rfl, rfl, rfl, rfl, by decide +kernel⟩ hw both
local macro_rules | `(tactic| o_head $H) => `(tactic| refine Mine.head9 $H (by rfl) (by rfl) (by rfl) (by assumption) ?hw ?hc)
noncomputable def topRunT (tb : String → Option Builtin) (p : Program) (w : World) (n₀ : Nat) (ann : Option Value) (n : Nat) : SharedT → Thread → Option SharedT :=
  Nat.rec (fun _ _ => none) (fun _ k s t => match through t with
    | true => some s
    | false => match stepOk n₀ ann t with
      | false => none
      | true => match stepT (denote tb) p w s t with
        | some x => k x.1 x.2
        | none => none) n
theorem topRun_of {tb : String → Option Builtin} {p : Program} {w : World} {n₀ : Nat} {ann : Option Value} (n : Nat) : ∀ (s s' : SharedT) (t : Thread), topRunT tb p w n₀ ann n s t = some s' → topRun tb p w n₀ ann n s.abs t = some s'.abs := by
  induction n with
  | zero => intro s s' t h; cases h
  | succ n ih =>
    intro s s' t h
    replace h : (match through t with
      | true => some s
      | false => match stepOk n₀ ann t with
        | false => none
        | true => match stepT (denote tb) p w s t with
          | some x => topRunT tb p w n₀ ann n x.1 x.2
          | none => none) = some s' := h
    unfold topRun
    cases he : through t with
    | true => rw [he] at h; cases h; rfl
    | false =>
      rw [he] at h
      cases hk : stepOk n₀ ann t with
      | false => rw [hk] at h; cases h
      | true =>
        rw [hk] at h
        cases hs : stepT (denote tb) p w s t with
        | none => rw [hs] at h; cases h
        | some r => rw [hs] at h; rw [stepT_spec (s' := r.1) (t' := r.2) hs]; exact ih _ _ _ h
noncomputable def treeOf (l : List Obj) : Nat → BT → Option BT :=
  List.rec (fun _ T => some T) (fun o _ k n T => match ((T.ins n o).get n).isSome with
    | true => k (n + 1) (T.ins n o)
    | false => none) l
theorem treeOf_abs {life : Life} (l : List Obj) : ∀ (n : Nat) (T T' : BT), treeOf l n T = some T' → absHeap T' (n + l.length) life = ⟨(absHeap T n life).objs ++ l.toArray, life⟩ := by
  induction l with
  | nil => intro n T T' h; cases h; exact congrArg (Heap.mk · life) (Array.append_empty).symm
  | cons o l ih =>
    intro n T T' h
    replace h : (match ((T.ins n o).get n).isSome with
      | true => treeOf l (n + 1) (T.ins n o)
      | false => none) = some T' := h
    cases hk : ((T.ins n o).get n).isSome with
    | false => rw [hk] at h; cases h
    | true =>
      rw [hk] at h
      have e := ih _ _ _ h
      rw [absHeap_ins hk, Nat.add_right_comm] at e
      exact e.trans (congrArg (Heap.mk · life) (show (absHeap T n life).objs.push o ++ l.toArray = (absHeap T n life).objs ++ (o :: l).toArray by simp))
noncomputable def runT {β : Type} (p : Program) (w : World) (N : Nat) (F : Shared → β) : Option β := (fencedOpening treeTable p w N).bind fun s₀ =>
  if (s₀.heap.isNs mainGlobals && s₀.gens.size == 0) = true then (treeOf s₀.heap.objs.toList 0 .nil).bind fun T =>
      (topRunT treeTable p w s₀.heap.objs.size (s₀.heap.nsMap mainGlobals "__annotations__") N ⟨T, s₀.heap.objs.size, s₀.heap.life, s₀.gens, s₀.drawn, s₀.toks, s₀.os⟩ (topStub p)).bind fun S =>
        if (staticsOk (importedModules p.main.body) s₀.heap S.abs.heap && namesBound p S.abs.heap && gensDone S.abs && laidKept s₀.heap S.abs.heap) = true then some (F S.abs) else none
  else none
theorem run_of {β : Type} {p : Program} {w : World} {N : Nat} {F : Shared → β} {g : β} (h : runT p w N F = some g) : (openEnds treeTable p w N).map F = some g := by
  obtain ⟨s₀, h0, h⟩ := Option.bind_eq_some_iff.mp h
  unfold openEnds
  rw [h0]
  show Option.map F (topFrom treeTable p w N s₀) = some g
  by_cases h1 : (s₀.heap.isNs mainGlobals && s₀.gens.size == 0) = true
  · rw [if_pos h1] at h
    obtain ⟨T, h2, h⟩ := Option.bind_eq_some_iff.mp h
    obtain ⟨S, h3, h⟩ := Option.bind_eq_some_iff.mp h
    have e := treeOf_abs (life := s₀.heap.life) _ _ _ _ h2
    have r := topRun_of _ _ _ _ h3
    have e2 : (SharedT.mk T s₀.heap.objs.size s₀.heap.life s₀.gens s₀.drawn s₀.toks s₀.os).abs = s₀ := by
      rw [Nat.zero_add] at e
      show Shared.mk (absHeap T s₀.heap.objs.size s₀.heap.life) s₀.gens s₀.drawn s₀.toks s₀.os = s₀
      have e3 : absHeap T s₀.heap.objs.size s₀.heap.life = s₀.heap := e.trans (congrArg (Heap.mk · s₀.heap.life) (show (absHeap .nil 0 s₀.heap.life).objs ++ s₀.heap.objs.toList.toArray = s₀.heap.objs from Array.empty_append))
      rw [e3]
    rw [e2] at r
    unfold topFrom
    rw [h1]
    dsimp only
    rw [r]
    by_cases h4 : (staticsOk (importedModules p.main.body) s₀.heap S.abs.heap && namesBound p S.abs.heap && gensDone S.abs && laidKept s₀.heap S.abs.heap) = true
    · rw [if_pos h4] at h
      dsimp only [Option.bind]
      rw [h4]
      exact h
    · rw [if_neg h4] at h; cases h
  · rw [if_neg h1] at h; cases h
open_top hd for PySem.Challenge.rw_xm0624_01
theorem left9 : leftOf hd := fun w => run_of (by kernel_rfl)
end Mine
namespace Mine


noncomputable def Kept (pre : List (Addr × Obj)) (L : Addr) (h h' : Heap) : Prop :=
  ∀ b o, h.get? b = some o → b ∉ pre.map (·.1) → b ≠ L → h'.get? b = some o

noncomputable def Ret (h₀ : Heap) (L : Addr) (m : Str → Option Value) (h : Heap) (pre : List (Addr × Obj)) (Post : Value → List (Addr × Obj) → Prop) (Q : Value → Shared → Prop) (gs : Array GenState) (dr : Drawn) (os : OsState) : Prop :=
  ∀ r h' tk' new, Fr h₀ L h' m → News h₀ L h' new → Post r new → Kept pre L h h' → Q r ⟨h', gs, dr, tk', os⟩

noncomputable def Grd (h g : Heap) (pre : List (Addr × Obj)) : Prop := ∀ b o, h.get? b = some o → b ∉ pre.map (·.1) → g.get? b = some o

noncomputable def Spec (prog : Program) (w : World) (f : Value) (vs : List Value) (dk uk : Nat) (pre : List (Addr × Obj)) (Post : Value → List (Addr × Obj) → Prop) : Prop :=
  ∀ (p : Program) (loose : List Str) (mean : ExcName → Option Value) (mg mb : Str → Option Value) (dp un : Nat) (gd : Option (List Code)) (cn : Str) (cs : Scope) (a : Addr) (ccd : Value) (cl : List (Str × Addr)) (outer : List Env) (A₀ : Around) (base h₀ : Heap) (L : Addr) (m : Str → Option Value) (s : Shared) (Q E : Value → Shared → Prop),
    Below A₀ base outer h₀ → Fr h₀ L s.heap m → (hd.heap_1 w.params).In h₀ → News h₀ L s.heap pre → Top p loose mean mg mb h₀ → cs.kind = .function → dp + dk < recursionLimit → un + uk < cLine →
    Ret h₀ L m s.heap pre Post Q s.gens s.drawn s.os →
    wpAny (model prog w) (ktrTop dp un gd cn cs L a ccd cl outer) (call f vs) Q E s

section
variable {prog : Program} {w : World} {A₀ A : Around} {s : Shared} {K : Frag} {base h₀ : Heap} {outer : List Env} {L : Addr} {m mg mb : Str → Option Value} {env : Env} {news : List (Addr × Obj)} {p : Program} {loose : List Str} {mean : ExcName → Option Value}
  {R : Result → Shared → Prop} {name qual : Str} {params : Arguments} {body : List Stmt} {scope : Scope} {cl : List (Str × Addr)} {dV kV doc pm cdv ct oc : Value} {an od : Option Addr} {osl : Array (Option Value)} {fo : Obj} {f : Addr} {args : Args} {binds : List (Str × Value)}

theorem enterM (B : Below A₀ base outer h₀) (F : Fr h₀ L s.heap m) (X₀ : K.In h₀) (N : News h₀ L s.heap news) (T : Top p loose mean mg mb h₀) (hA : A.frames = some (env :: outer)) (hf : env.frame = some L) (hke : env.scope.kind = .function)
    (ho : s.heap.get? f = some fo) (hd : fo.data = .func (fnX name qual params body scope cl dV kV doc pm an cdv ct)) (hcd : s.heap.CodeRec cdv qual) (hroom : A.depth < recursionLimit)
    (hbind : BindsTo s (fnX name qual params body scope cl dV kV doc pm an cdv ct) args binds) (hloc : ∀ y ∈ binds, scope.names.lookup y.1 = some .local)
    (h : ∀ g L' h₁, Fr h₀ L g m → Fr g L' h₁ (fun y => binds.reverse.lookup y) → News g L' h₁ news → Below A base (env :: outer) g → K.In g → Top p loose mean mg mb g → (∀ p ∈ news, p.1 < L') → Grd s.heap g news →
      wpAny (model prog w) (A.deeper (envX qual scope L' f cdv cl)) (execs body (envX qual scope L' f cdv cl))
        (fun fl s' => LeaveK h₀ L m g R (match fl with | .ret v => v | _ => .none) s')
        (fun e s' => wpAny (model prog w) (A.deeper (envX qual scope L' f cdv cl)) (leaving (envX qual scope L' f cdv cl) e) (fun _ s'' => R (.error e) s'') (fun e' s'' => R (.error e') s'') s')
        { s with heap := h₁, toks := s.toks + binds.length })
    (hco : scope.isCoroutine = false) (hgen : scope.isGenerator = false) (hk : scope.kind = .function)
    (hcell : ∀ x ∈ scope.names, x.2 ≠ .cell) : codeAny (model prog w) A (.call (.ref f) args) R s := by
  obtain ⟨FG, BG, st, lv⟩ := groundX (R := R) B F N hA hf hke
  refine codeAny_call_def (fd := fnX name qual params body scope cl dV kV doc pm an cdv ct) (body := body) (binds := binds) hroom ho hd (T.nolimit.keeps F.keep) hcd rfl hbind hcell hloc (fun h₁ hns hk₁ => ?_) hco hgen hk
  exact wpAny_mono (h _ s.heap.objs.size h₁ FG ⟨hns, fun b o e => hk₁ b o (of_hideAll _ e), Nat.le_of_eq (hideAll_size _ _)⟩
    (fun p hp => ⟨hk₁ _ _ (N p hp).1, Nat.ne_of_lt (Heap.lt_size (N p hp).1), hideAll_none _ (List.mem_map_of_mem hp)⟩) BG (X₀.keeps st) (T.keeps st) (fun p hp => Heap.lt_size (N p hp).1) (fun b o e hb => hideAll_get _ e hb)) (fun fl s' hl => lv _ _ hl) fun _ _ y => y

theorem enterC (B : Below A₀ base outer h₀) (F : Fr h₀ L s.heap m) (X₀ : K.In h₀) (N : News h₀ L s.heap news) (T : Top p loose mean mg mb h₀) (hA : A.frames = some (env :: outer)) (hf : env.frame = some L) (hke : env.scope.kind = .function)
    (ho : s.heap.get? f = some fo) (hd : fo.data = .func (fnX name qual params body scope [] dV kV doc pm an cdv ct)) (hcd : s.heap.CodeRec cdv qual) (hroom : A.depth < recursionLimit)
    (hbind : BindsTo s (fnX name qual params body scope [] dV kV doc pm an cdv ct) args binds)
    (hkind : (binds.all fun y => scope.names.lookup y.1 == some .local || scope.names.lookup y.1 == some .cell) = true)
    (hnd : ((cellsFrom 0 scope.names []).map (·.1)).Nodup)
    (h : ∀ g L' h₁ tk cells, Fr h₀ L g m → Fr g L' h₁ (bindL (envOfC qual scope L' f cdv).kindOf binds fun _ => none) → News g L' h₁ (cells ++ news) →
      CellsAre (bindC (envOfC qual scope L' f cdv).kindOf binds fun _ => none) (cellsFrom (L' + 1) scope.names []) cells → Below A base (env :: outer) g → K.In g → Top p loose mean mg mb g → (∀ p ∈ news, p.1 < L') → Grd s.heap g news →
      wpAny (model prog w) (A.deeper (envOfC qual scope L' f cdv)) (execs body (envOfC qual scope L' f cdv))
        (fun fl s' => LeaveK h₀ L m g R (match fl with | .ret v => v | _ => .none) s')
        (fun e s' => wpAny (model prog w) (A.deeper (envOfC qual scope L' f cdv)) (leaving (envOfC qual scope L' f cdv) e) (fun _ s'' => R (.error e) s'') (fun e' s'' => R (.error e') s'') s')
        { s with heap := h₁, toks := tk })
    (hco : scope.isCoroutine = false) (hgen : scope.isGenerator = false) (hk : scope.kind = .function) : codeAny (model prog w) A (.call (.ref f) args) R s := by
  obtain ⟨FG, BG, st, lv⟩ := groundX (R := R) B F N hA hf hke
  refine codeAny_call_function hroom ho hd hco hgen rfl hcd (hbind _ _ _ _ ?_)
  refine wpAny_newFunctionEnv_cells hk (kindsX hkind _) fun env' he s' x => ?_
  subst he
  refine ⟨(T.nolimit.keeps F.keep).keeps x.toInCall.keep, codeAny_func ?_⟩
  obtain ⟨h₁, tk, rfl, _⟩ := x.done
  have hk₁ := x.toInCall.keep
  obtain ⟨cells, NC, Y⟩ := Cl.news (h₀ := s.heap) (Nat.le_refl _) fun n c hm => ⟨x.cell n c (lookup_of_mem_nodup (cellsFrom_names scope.names 0 (s.heap.objs.size + 1) [] [] rfl ▸ hnd) hm), x.above n c hm⟩
  refine wpAny_mono (h _ s.heap.objs.size h₁ tk cells FG ⟨x.toInCall.ns, fun b o e => hk₁ b o (of_hideAll _ e), Nat.le_of_eq (hideAll_size _ _)⟩ (fun p hp => ?_) Y BG (X₀.keeps st) (T.keeps st) (fun p hp => Heap.lt_size (N p hp).1) (fun b o e hb => hideAll_get _ e hb)) (fun fl s' hl => lv _ _ hl) fun _ _ y => y
  rcases List.mem_append.mp hp with hp | hp
  · refine ⟨(NC p hp).1, (NC p hp).2.1, ?_⟩
    cases q : (hideAll s.heap (news.map (·.1))).get? p.1 with
    | none => rfl
    | some o => have := of_hideAll _ q; rw [(NC p hp).2.2] at this; cases this
  · exact ⟨hk₁ _ _ (N p hp).1, Nat.ne_of_lt (Heap.lt_size (N p hp).1), hideAll_none _ (List.mem_map_of_mem hp)⟩

theorem getK (X : K.In h₀) (F : Fr h₀ L s.heap m) {o : Obj} (e : K.lookup f = some o) : s.heap.get? f = some o := F.keep _ _ (X _ _ e)
theorem getN (N : News h₀ L s.heap news) {o : Obj} (e : (f, o) ∈ news) : s.heap.get? f = some o := (N _ e).1
theorem codeK (X : K.In h₀) (F : Fr h₀ L s.heap m) (e : codeIn K cdv qual = true) : s.heap.CodeRec cdv qual := codeRec_of (X.keeps F.keep) e

theorem leaveM_sub {g h h' : Heap} {L' : Addr} {m' : Str → Option Value} {news' : List (Addr × Obj)} {Q : Value → Shared → Prop} {E : Value → Shared → Prop} {v : Value} {tk' : Nat} {Post : Value → List (Addr × Obj) → Prop} {gs : Array GenState} {dr : Drawn} {os : OsState}
    (ret : Ret h₀ L m h news Post Q gs dr os)
    (F' : Fr g L' h' m') (N' : News g L' h' news') (G : Grd h g news) (P : Held (∃ news'', Post v news'' ∧ ∀ p ∈ news'', p ∈ news')) :
    LeaveK h₀ L m g (fun r s' => match r with | .ok (.ret v) => Q v s' | .ok _ => False | .error e => E e s') v ⟨h', gs, dr, tk', os⟩ :=
  let ⟨news'', P, sub⟩ := P
  ⟨L', m', news'', F', fun p hp => N' p (sub p hp), fun F₁ N₁ => ret v h' tk' news'' F₁ N₁ P fun b o e hb _ => F'.keep b o (G b o e hb)⟩
theorem keptNews {h h' : Heap} {pre news rest : List (Addr × Obj)} {new : List (Addr × Obj)} (N : News h₀ L h news) (N' : News h₀ L h' new) (k : Kept pre L h h') (hr : ∀ p ∈ rest, p ∈ news ∧ p.1 ∉ pre.map (·.1)) : News h₀ L h' (new ++ rest) := fun p hp => by
  rcases List.mem_append.mp hp with hp | hp
  · exact N' p hp
  · obtain ⟨a, b⟩ := hr p hp
    exact ⟨k _ _ (N p a).1 b (N p a).2.1, (N p a).2⟩
theorem Spec.useP {f : Value} {vs : List Value} {dk uk : Nat} {pre : List (Addr × Obj)} {P : Value → Prop} {dp un : Nat} {gd : Option (List Code)} {cn : Str} {cs : Scope} {a : Addr} {ccd : Value} {cl : List (Str × Addr)} {Q E : Value → Shared → Prop}
    (S : Spec prog w f vs dk uk pre (fun r new => P r ∧ new = pre)) (B : Below A₀ base outer h₀) (F : Fr h₀ L s.heap m) (X : (hd.heap_1 w.params).In h₀) (N : News h₀ L s.heap news) (T : Top p loose mean mg mb h₀) (hk : cs.kind = .function) (hd : dp + dk < recursionLimit) (hu : un + uk < cLine)
    (hpre : ∀ q ∈ pre, q ∈ news)
    (ret : ∀ r h' tk', Fr h₀ L h' m → News h₀ L h' news → P r → Q r { s with heap := h', toks := tk' }) :
    wpAny (model prog w) (ktrTop dp un gd cn cs L a ccd cl outer) (call f vs) Q E s :=
  S p loose mean mg mb dp un gd cn cs a ccd cl outer A₀ base h₀ L m s Q E B F X (fun q hq => N q (hpre q hq)) T hk hd hu fun r h' tk' new F' N' P k => by
    obtain ⟨P, rfl⟩ := P
    refine ret r h' tk' F' (fun q hq => ?_) P
    by_cases hm : q.1 ∈ new.map (·.1)
    · obtain ⟨q', hq', e⟩ := List.mem_map.mp hm
      have h1 := (N _ (hpre q' hq')).1
      rw [e, (N _ hq).1] at h1
      have h2 := N' q' hq'
      rw [e, ← Option.some.inj h1] at h2
      exact h2
    · exact ⟨k _ _ (N q hq).1 hm (N q hq).2.1, (N q hq).2⟩
theorem Held.out {P : Prop} (h : Held P) : P := h
theorem Spec.use {f : Value} {vs : List Value} {dk uk : Nat} {pre rest : List (Addr × Obj)} {Post : Value → List (Addr × Obj) → Prop} {dp un : Nat} {gd : Option (List Code)} {cn : Str} {cs : Scope} {a : Addr} {ccd : Value} {cl : List (Str × Addr)} {Q E : Value → Shared → Prop}
    (S : Spec prog w f vs dk uk pre Post) (B : Below A₀ base outer h₀) (F : Fr h₀ L s.heap m) (X : (hd.heap_1 w.params).In h₀) (N : News h₀ L s.heap news) (T : Top p loose mean mg mb h₀) (hk : cs.kind = .function) (hd : dp + dk < recursionLimit) (hu : un + uk < cLine)
    (hpre : ∀ q ∈ pre, q ∈ news) (hrest : ∀ q ∈ rest, q ∈ news ∧ q.1 ∉ pre.map (·.1))
    (ret : ∀ r h' tk' new, Fr h₀ L h' m → News h₀ L h' (new ++ rest) → Post r new → Q r { s with heap := h', toks := tk' }) :
    wpAny (model prog w) (ktrTop dp un gd cn cs L a ccd cl outer) (call f vs) Q E s :=
  S p loose mean mg mb dp un gd cn cs a ccd cl outer A₀ base h₀ L m s Q E B F X (fun q hq => N q (hpre q hq)) T hk hd hu fun r h' tk' new F' N' P k => ret r h' tk' new F' (keptNews N N' k hrest) P
end
end Mine
namespace Mine
open Sem (wp)
section
variable {prog : Program} {w : World} {A : Around} {R : Result → Shared → Prop} {s : Shared}
theorem wpN_of_eq {α : Type} {M : Model} {t : Sem α} {a : α} {Q : α → Shared → Prop} (e : t = pure a) (h : Q a s) : wpN M A t Q s := by rw [e]; exact wpN_pure h
theorem wpN_if_false {α : Type} {M : Model} {c : Bool} {a b : Sem α} {Q : α → Shared → Prop} (hc : c = false) (h : wpN M A b Q s) : wpN M A (if c = true then a else b) Q s := by subst hc; exact h
theorem wpN_if_true {α : Type} {M : Model} {c : Bool} {a b : Sem α} {Q : α → Shared → Prop} (hc : c = true) (h : wpN M A a Q s) : wpN M A (if c = true then a else b) Q s := by subst hc; exact h

theorem exported_no {M : Model} {v : Value} {Q : Bool → Shared → Prop} (h : Q false s) : wpN M A (Builtin.Bytes.exported v) Q s := by
  unfold Builtin.Bytes.exported
  refine wpN_bind (wpN_stack fun st hst => ?_)
  refine wpN_of_eq (a := false) ?_ h
  congr 1
  rw [List.any_eq_false]
  intro x hx
  have hf := hst x hx
  obtain ⟨c, k⟩ := x
  cases c
  case builtin id args =>
    obtain ⟨pos, kw⟩ := args
    delta Builtin.Bytes.exported.match_1
    delta Builtin.Bytes.exported._sparseCasesOn_1
    dsimp only
    have no : ∀ i : String, List.contains holderIds i = true → id ≠ i := fun i hi q => by
      subst q
      have hf' : List.contains holderIds id = false := hf
      rw [hf'] at hi
      cases hi
    rw [dif_neg (no _ (by decide)), dif_neg (no _ (by decide)), dif_neg (no _ (by decide)), dif_neg (no _ (by decide)), dif_neg (no _ (by decide))]
    cases pos with
    | nil => exact Bool.false_ne_true
    | cons v' r =>
      intro q
      have q : (Builtin.Bytes.sameRef v' v && Builtin.Bytes.decodersThatHold.contains id) = true := q
      rw [Bool.and_eq_true] at q
      have q2 : List.contains holderIds id = true := List.contains_iff_mem.mpr (List.mem_append_right _ (List.contains_iff_mem.mp q.2))
      have hf' : List.contains holderIds id = false := hf
      rw [hf'] at q2
      cases q2
  all_goals exact Bool.false_ne_true

noncomputable def BA (h : Heap) (a : Addr) (b : Array UInt8) : Prop := h.get? a = some { cls := .type "bytearray", data := .bytearray b }

theorem BA.typeIs {a : Addr} {b : Array UInt8} (h : BA s.heap a b) : s.TypeIs (.ref a) "bytearray" := ⟨_, h, rfl⟩
theorem checkResize_no {M : Model} {a : Addr} {b : Array UInt8} {Q : Unit → Shared → Prop} (hb : BA s.heap a b) (h : Q () s) : wpN M A (Builtin.Bytes.checkResize (.ref a)) Q s := by
  unfold Builtin.Bytes.checkResize
  refine wpN_bind ?_
  refine wpN_bind (exported_no ?_)
  refine wpN_bind ?_
  unfold Builtin.Bytes.exportsOf
  refine wpN_bind (wpN_any (wpAny_load hb ?_))
  refine wpN_pure (wpN_pure ?_)
  exact wpN_pure h

theorem write_ba {M : Model} {a : Addr} {b : Array UInt8} {f : Array UInt8 → Array UInt8} {Q : Unit → Shared → Prop} (hb : BA s.heap a b) (hz : (f b).size ≤ sizeLine)
    (h : ∀ h', BA h' a (f b) → Heap.SameBut a s.heap h' → Q () { s with heap := h' }) : wpN M A (Builtin.Bytes.write (.ref a) f) Q s := by
  refine wpN_any ?_
  unfold Builtin.Bytes.write
  show wpAny _ _ (updateBytearray a f) _ _ _
  unfold updateBytearray
  refine wpAny_bind (wpAny_load hb ?_)
  show wpAny _ _ (update a (Obj.mapBytearray f) >>= fun _ => lookBehind a) _ _ _
  refine wpAny_bind (wpAny_update hb ?_)
  have e : (s.heap.update a (Obj.mapBytearray f)).get? a = some { cls := .type "bytearray", data := .bytearray (f b) } := Heap.get?_update_self (Obj.mapBytearray f) hb rfl
  refine wpAny_lookBehind e ?_ (h _ e (Heap.SameBut.update ..))
  show (if (f b).size > sizeLine then some "bytearray:memory" else none) = none
  rw [if_neg (by omega)]

theorem codeN_call_builtin {id : String} {args : Args} {b : Builtin} (hp : plainId id = true) (hh : ∀ a, holder (.builtin id a) = false) (hb : entryFor table id = some b) 
    (h : wpAny (model prog w) A.in1 (checkBuiltinCall id args) (fun _ s₁ => wpN (model prog w) A.in1 (b args) (fun fin s' => match fin with | .done f => R (.ok f) s' | .again c' => c'.quiet = true ∧ codeN (model prog w) A c' R s') s₁) (fun _ _ => False) s) : codeN (model prog w) A (.call (.builtin id) args) R s := by
  refine codeN_of_tree rfl ?_
  show wpN _ A.in1 (do checkBuiltinCall id args; again (.builtin id args)) _ s
  refine wpN_bind (wpN_mono (wpN_any h) fun _ s₁ h => wpN_pure ⟨plainId_quiet hp args, codeN_of_tree (hh args) ?_⟩)
  rw [Around.under_plainId hp args]
  show wpN _ _ (match entryFor table id with | some b => b args | none => unsupported ((withoutEnding? id "#data").getD id)) _ s₁
  rw [hb]; exact h
theorem codeN_builtin {id : String} {args : Args} {b : Builtin} (hh : holder (.builtin id args) = false) (hb : entryFor table id = some b)
    (h : wpN (model prog w) (A.under (.builtin id args)) (b args) (fun fin s' => match fin with | .done f => R (.ok f) s' | .again c' => c'.quiet = true ∧ codeN (model prog w) A c' R s') s) : codeN (model prog w) A (.builtin id args) R s := by
  refine codeN_of_tree hh ?_
  show wpN _ _ (match entryFor table id with | some b => b args | none => unsupported ((withoutEnding? id "#data").getD id)) _ s
  rw [hb]; exact h
end
namespace F
theorem ba_append_entry : entryFor table "bytearray.append" = some Builtin.«bytearray.append» := by first | exact entryFor_of_fast (by kernel_rfl) | exact entryFor_of_tree (by kernel_rfl)
theorem ba_append_plain : plainId "bytearray.append" = true := by decide +kernel
theorem ba_slot_append : Slot "bytearray" "append" "bytearray.append" :=
  .of (owner := "bytearray") (n := "append") (by rw [typeLookup_type, builtinLookup_eq_fast]; kernel_rfl) (by decide +kernel) (by decide +kernel) (by decide +kernel)
    (by first | exact .inl (by decide +kernel) | exact .inr (by decide +kernel)) (by rw [isSubtype_type]; kernel_rfl)
theorem ba_append_args (a b : Value) : argsOk "bytearray.append" ⟨[a, b], []⟩ := by unfold argsOk; kernel_rfl
theorem ba_extend_entry : entryFor table "bytearray.extend" = some Builtin.«bytearray.extend» := by first | exact entryFor_of_fast (by kernel_rfl) | exact entryFor_of_tree (by kernel_rfl)
theorem ba_extend_plain : plainId "bytearray.extend" = true := by decide +kernel
theorem ba_slot_extend : Slot "bytearray" "extend" "bytearray.extend" :=
  .of (owner := "bytearray") (n := "extend") (by rw [typeLookup_type, builtinLookup_eq_fast]; kernel_rfl) (by decide +kernel) (by decide +kernel) (by decide +kernel)
    (by first | exact .inl (by decide +kernel) | exact .inr (by decide +kernel)) (by rw [isSubtype_type]; kernel_rfl)
theorem ba_extend_args (a b : Value) : argsOk "bytearray.extend" ⟨[a, b], []⟩ := by unfold argsOk; kernel_rfl
theorem by_buffer : typeLookup (.type "bytes") "__buffer__" = pure (some (.builtin "bytes.__buffer__")) := by rw [typeLookup_type, builtinLookup_eq_fast]; kernel_rfl
theorem by_release : typeLookup (.type "bytes") "__release_buffer__" = pure none := by rw [typeLookup_type, builtinLookup_eq_fast]; kernel_rfl
theorem ba_buffer : typeLookup (.type "bytearray") "__buffer__" = pure (some (.builtin "bytearray.__buffer__")) := by rw [typeLookup_type, builtinLookup_eq_fast]; kernel_rfl
theorem ba_release : typeLookup (.type "bytearray") "__release_buffer__" = pure (some (.builtin "bytearray.__release_buffer__")) := by rw [typeLookup_type, builtinLookup_eq_fast]; kernel_rfl
end F
section
variable {prog : Program} {w : World} {A : Around} {s : Shared}
theorem call_ba_append {a : Addr} {b : List UInt8} {k : Int} {u : Tok} {Q : Value → Shared → Prop} (hb : BA s.heap a b.toArray) (h0 : 0 ≤ k) (h1 : k < 256) (hz : b.length < sizeLine)
    (h : ∀ h', BA h' a (b ++ [k.toNat.toUInt8]).toArray → Heap.SameBut a s.heap h' → Q .none { s with heap := h' }) : wpN (model prog w) A (call (.builtin "bytearray.append") [.ref a, .int k u]) Q s := by
  refine wpN_call (codeN_call_builtin F.ba_append_plain (fun _ => by exact rfl) F.ba_append_entry (F.ba_slot_append.check _ _ _ _ _ _ _ _ (BA.typeIs hb) (F.ba_append_args _ _) ?_))
  unfold Builtin.«bytearray.append»
  refine wpN_bind (wpN_of_eq (a := (Value.ref a, Value.int k u)) rfl ?_)
  refine wpN_bind (wpN_of_eq (a := k.toNat.toUInt8) ?_ ?_)
  · unfold Builtin.Bytes.byteValue
    show (asIndex (.int k u) >>= _) = _
    rw [show asIndex (.int k u) = pure k from rfl]
    show (if (decide (k < 0) || decide (k ≥ 256)) = true then _ else _) = _
    rw [if_neg (by simp; omega)]
  refine wpN_bind (checkResize_no hb ?_)
  refine wpN_bind (write_ba hb (by simp; omega) fun h' hb' hs => ?_)
  refine wpN_pure ?_
  refine h h' ?_ hs
  simpa using hb'

theorem takeQuiet_eq {b : Array UInt8} {t : Tok} {id : String} : Builtin.Bytes.takeBufferQuiet? id (.bytes b t) 0 = pure (some (b, none)) := by
  unfold Builtin.Bytes.takeBufferQuiet? Builtin.Bytes.takeBuffer?
  rw [KBy.special_eq KBy.look_buffer, KBy.own_buffer]
  show (Sem.attempt (do let r ← (do let x ← Builtin.Bytes.buffer? id (.bytes b t); return x.map (·, none)); pure r) >>= _) = _
  rw [KBy.buffer_eq]
  rfl
theorem call_ba_extend {a : Addr} {b c : List UInt8} {t : Tok} {Q : Value → Shared → Prop} (hb : BA s.heap a b.toArray) (hz : b.length + c.length ≤ sizeLine)
    (h : ∀ h', BA h' a (b ++ c).toArray → Heap.SameBut a s.heap h' → Q .none { s with heap := h' }) : wpN (model prog w) A (call (.builtin "bytearray.extend") [.ref a, .bytes c.toArray t]) Q s := by
  refine wpN_call (codeN_call_builtin F.ba_extend_plain (fun _ => by exact rfl) F.ba_extend_entry (F.ba_slot_extend.check _ _ _ _ _ _ _ _ (BA.typeIs hb) (F.ba_extend_args _ _) ?_))
  unfold Builtin.«bytearray.extend»
  refine wpN_bind (wpN_of_eq (a := (Value.ref a, Value.bytes c.toArray t)) rfl ?_)
  refine wpN_bind (wpN_of_eq (KBy.special_eq KBy.look_buffer) ?_)
  refine wpN_if_true rfl ?_
  refine wpN_bind (wpN_any (wpAny_rule ?_))
  refine wpN_bind ?_
  unfold Builtin.Bytes.payload Builtin.Bytes.payload?
  refine wpN_bind (wpN_bind (wpN_any (wpAny_load hb ?_)))
  refine wpN_pure (wpN_pure ?_)
  refine wpN_bind (wpN_of_eq takeQuiet_eq ?_)
  have last : wpN (model prog w) A.in1 (do Builtin.Bytes.write (.ref a) (· ++ c.toArray); ret .none) (fun fin s' => match fin with | .done f => (match (Except.ok f : Result) with | .ok (.ret v) => Q v s' | .ok _ => False | .error _ => False) | .again c' => c'.quiet = true ∧ codeN (model prog w) A c' (fun r s' => match r with | .ok (.ret v) => Q v s' | .ok _ => False | .error _ => False) s') s := by
    refine wpN_bind (write_ba hb (by simp; omega) fun h' hb' hs => ?_)
    refine wpN_pure ?_
    refine h h' ?_ hs
    simpa using hb'
  show wpN _ _ (if (!(c.toArray).isEmpty) = true then Builtin.Bytes.checkResize (.ref a) >>= fun _ => (do Builtin.Bytes.write (.ref a) (· ++ c.toArray); ret .none) else (do Builtin.Bytes.write (.ref a) (· ++ c.toArray); ret .none)) _ s
  cases hc : (!(c.toArray).isEmpty) with
  | false => exact wpN_if_false rfl last
  | true => exact wpN_if_true rfl (wpN_bind (checkResize_no hb last))

end
end Mine
namespace Mine
open Sem (wp)
namespace F
theorem ba_mro : mroOf (.type "bytearray") = pure [.type "bytearray", .type "object"] := by rw [mroOf_type]; kernel_rfl
theorem ba_lookup_new : typeLookup (.type "bytearray") "__new__" = pure (some (.builtin "bytearray.__new__")) := by rw [typeLookup_type, builtinLookup_eq_fast]; kernel_rfl
theorem ba_sub : isSubtype (.type "bytearray") (.type "bytearray") = pure true := by rw [isSubtype_type]; kernel_rfl
theorem ba_slot_init : Slot "bytearray" "__init__" "bytearray.__init__" :=
  .of (owner := "bytearray") (n := "__init__") (by rw [typeLookup_type, builtinLookup_eq_fast]; kernel_rfl) (by decide +kernel) (by decide +kernel) (by decide +kernel)
    (by first | exact .inl (by decide +kernel) | exact .inr (by decide +kernel)) (by rw [isSubtype_type]; kernel_rfl)
theorem ba_called : TypeCalled "bytearray" "bytearray.__new__" "bytearray.__init__" :=
  ⟨by decide +kernel, by decide +kernel, ⟨_, _, ba_mro⟩, madeBy_type ba_mro ba_lookup_new (by decide +kernel), by decide +kernel, ba_sub, ba_slot_init⟩
theorem ba_typeCall : checkTypeCall "bytearray" ⟨[], []⟩ = pure () := by kernel_rfl
theorem ba_newCall : checkBuiltinCall "bytearray.__new__" ⟨[.type "bytearray"], []⟩ = pure () := by kernel_rfl
theorem ba_new_entry : entryFor table "bytearray.__new__" = some Builtin.«list.__new__» := entryFor_alias (id' := "list.__new__") (by kernel_rfl) rfl (by decide +kernel) (by kernel_rfl)
theorem ba_new_plain : plainId "bytearray.__new__" = true := by decide +kernel
theorem ba_init_entry : entryFor table "bytearray.__init__" = some Builtin.«bytearray.__init__» := by first | exact entryFor_of_fast (by kernel_rfl) | exact entryFor_of_tree (by kernel_rfl)
theorem ba_init_plain : plainId "bytearray.__init__" = true := by decide +kernel
theorem ba_init_args (a : Value) : argsOk "bytearray.__init__" ⟨[a], []⟩ := by unfold argsOk; kernel_rfl
theorem ba_init_bind : Builtin.Bytes.bindOptional "bytearray.__init__" "bytearray" ["source", "encoding", "errors"] [] [] = pure [none, none, none] := by kernel_rfl
set_option maxRecDepth 1000000 in
theorem ba_owner : ("bytearray.__new__".splitOn ".__new__").headD "" = "bytearray" := by simp +decide [String.splitOn, String.splitOnAux]
end F
section
variable {prog : Program} {w : World} {A : Around} {s : Shared}
theorem code_ba_new {Q₁ : Value → Shared → Prop} {E : Value → Shared → Prop}
    (h : Q₁ (.ref s.heap.objs.size) { s with heap := s.heap.push { cls := .type "bytearray", data := .bytearray #[] } }) :
    codeAny (model prog w) A (.call (.builtin "bytearray.__new__") ⟨[.type "bytearray"], []⟩) (wants Q₁ E) s := by
  refine codeAny_of_tree ?_
  show wpAny _ A.in1 (do checkBuiltinCall "bytearray.__new__" ⟨[.type "bytearray"], []⟩; again (.builtin "bytearray.__new__" ⟨[.type "bytearray"], []⟩)) _ _ s
  refine wpAny_bind (wpAny_of_eq F.ba_newCall (wpAny_pure ⟨plainId_quiet F.ba_new_plain _, codeAny_builtin_stack F.ba_new_entry rfl fun p st => ?_⟩))
  rw [Around.under_plainId F.ba_new_plain _]
  have hsub := F.ba_sub
  have hown := F.ba_owner
  obtain ⟨hp, g, d, tk, os⟩ := s
  simp only [hown]
  wp_walk
  exact h

theorem ba_ownRelease {a : Addr} {b : Array UInt8} {Q : Bool → Shared → Prop} {E : Value → Shared → Prop} (hb : BA s.heap a b) (h : Q false s) : wpAny (model prog w) A (Builtin.Bytes.ownRelease (.ref a)) Q E s := by
  unfold Builtin.Bytes.ownRelease Builtin.Bytes.slotIsOwn
  refine wpAny_bind (wpAny_bind (wpAny_specialOf (BA.typeIs hb) F.ba_release ?_))
  have key : ∀ x : String, x = "bytearray" → wpAny (model prog w) A (isInstance (.ref a) (.type x)) (fun r s' => wpAny (model prog w) A (pure !r) Q E s') E s := fun x hx => by
    subst hx
    exact wpAny_isInstance (BA.typeIs hb) F.ba_sub (wpAny_pure h)
  dsimp only
  split
  · rename_i hx
    exact absurd hx (by decide +kernel)
  · exact key _ (by decide +kernel)

theorem ba_init {a : Addr} {b : Array UInt8} {Q : Value → Shared → Prop} (hb : BA s.heap a b) (h : ∀ h', BA h' a #[] → Heap.SameBut a s.heap h' → Q .none { s with heap := h' }) :
    wpN (model prog w) A (call (.builtin "bytearray.__init__") [.ref a]) Q s := by
  refine wpN_call (codeN_call_builtin F.ba_init_plain (fun _ => by exact rfl) F.ba_init_entry (F.ba_slot_init.check _ _ _ _ _ _ _ _ (BA.typeIs hb) (F.ba_init_args _) ?_))
  unfold Builtin.«bytearray.__init__»
  refine wpN_bind (wpN_any (ba_ownRelease hb ?_))
  refine wpN_if_false rfl ?_
  refine wpN_bind (wpN_of_eq F.ba_init_bind ?_)
  refine wpN_bind (wpN_of_eq (a := ()) rfl ?_)
  refine wpN_bind (wpN_of_eq (a := ()) rfl ?_)
  refine wpN_bind ?_
  refine wpN_bind (exported_no ?_)
  refine wpN_bind ?_
  unfold Builtin.Bytes.exportsOf
  refine wpN_bind (wpN_any (wpAny_load hb ?_))
  refine wpN_pure (wpN_pure ?_)
  refine wpN_if_false rfl ?_
  refine wpN_bind (write_ba hb (Nat.zero_le _) fun h' hb' hs => ?_)
  exact wpN_of_eq rfl (h h' hb' hs)

theorem call_ba_new {Q : Value → Shared → Prop} (h : ∀ h', BA h' s.heap.objs.size #[] → (∀ b o, s.heap.get? b = some o → h'.get? b = some o) → Q (.ref s.heap.objs.size) { s with heap := h' }) : wpN (model prog w) A (call (.type "bytearray") []) Q s := by
  refine wpN_call (codeN_of_tree rfl ?_)
  show wpN _ _ (callAny (.type "bytearray") _) _ _
  refine wpN_pure ⟨Code.quiet_builtin _ (by decide +kernel), codeN_builtin rfl F.entry_type_call ?_⟩
  rw [Around.under_plain (weight_type_call_type "bytearray" [] []) rfl]
  unfold Builtin.«type.__call__»
  refine wpN_if_false rfl ?_
  refine wpN_if_false F.ba_called.canCreate ?_
  refine wpN_bind (wpN_of_eq F.ba_typeCall ?_)
  refine wpN_bind (wpN_of_eq F.ba_mro ?_)
  refine wpN_if_false rfl ?_
  refine wpN_bind (wpN_of_eq F.ba_called.made ?_)
  refine wpN_bind (wpN_pure ?_)
  have hb : BA (s.heap.push { cls := .type "bytearray", data := .bytearray #[] }) s.heap.objs.size #[] := Heap.get?_push_size _ rfl
  refine wpN_bind (wpN_holding (wpN_any (wpAny_call (code_ba_new (Q₁ := fun v s' => wpN (model prog w) A.in1 _ _ s') (E := fun _ _ => False) ?_))))
  refine wpN_bind (wpN_any (wpAny_isInstance (BA.typeIs (s := { s with heap := s.heap.push { cls := .type "bytearray", data := .bytearray #[] } }) hb) F.ba_sub ?_))
  refine wpN_if_false rfl ?_
  refine wpN_bind (wpN_holding ?_)
  unfold callSpecial?
  refine wpN_bind (wpN_any (wpAny_specialOf (BA.typeIs (s := { s with heap := s.heap.push { cls := .type "bytearray", data := .bytearray #[] } }) hb) F.ba_slot_init.lookup ?_))
  refine wpN_holding (wpN_bind (wpN_of_eq (F.ba_slot_init.bind _) ?_))
  refine wpN_bind (ba_init hb fun h' hb' hs => ?_)
  refine wpN_pure ?_
  exact wpN_pure (h h' hb' fun b o e => hs.extBut b o (Nat.ne_of_lt (Heap.lt_size e)) (Heap.get?_push_of_some _ e))
end
end Mine
namespace Mine
open Sem (wp)
namespace F
theorem ba_no_bytes : typeLookup (.type "bytearray") "__bytes__" = pure none := by rw [typeLookup_type, builtinLookup_eq_fast]; kernel_rfl
theorem ba_no_index : typeLookup (.type "bytearray") "__index__" = pure none := by rw [typeLookup_type, builtinLookup_eq_fast]; kernel_rfl
end F
section
variable {prog : Program} {w : World} {A : Around} {s : Shared} {E : Value → Shared → Prop}
theorem ba_ownBuffer {a : Addr} {b : Array UInt8} {Q : Bool → Shared → Prop} {E : Value → Shared → Prop} (hb : BA s.heap a b) (h : Q true s) : wpAny (model prog w) A (Builtin.Bytes.slotIsOwn (.ref a) "__buffer__") Q E s := by
  unfold Builtin.Bytes.slotIsOwn
  refine wpAny_bind (wpAny_specialOf (BA.typeIs hb) F.ba_buffer ?_)
  have key : ∀ x : String, x = "bytearray" → wpAny (model prog w) A (isInstance (.ref a) (.type x)) Q E s := fun x hx => by
    subst hx
    exact wpAny_isInstance (BA.typeIs hb) F.ba_sub h
  (try dsimp only)
  split
  · rename_i hx
    exact absurd hx (by decide +kernel)
  · exact key _ (by decide +kernel)
theorem ba_buffer {a : Addr} {b : Array UInt8} {id : String} {fl : Bool} {Q : Option (Array UInt8) → Shared → Prop} {E : Value → Shared → Prop} (hb : BA s.heap a b) (h : Q (some b) s) : wpAny (model prog w) A (Builtin.Bytes.buffer? id (.ref a) fl) Q E s := by
  unfold Builtin.Bytes.buffer?
  refine wpAny_bind (wpAny_specialOf (BA.typeIs hb) F.ba_buffer ?_)
  (try dsimp only)
  refine wpAny_bind (ba_ownBuffer hb ?_)
  refine bm_if_false rfl ?_
  refine wpAny_bind (wpAny_specialOf (BA.typeIs hb) F.ba_buffer ?_)
  (try dsimp only)
  refine wpAny_bind (ba_ownRelease hb ?_)
  refine bm_if_false rfl ?_
  refine wpAny_bind ?_
  unfold Builtin.Bytes.payload Builtin.Bytes.payload?
  refine wpAny_bind (wpAny_bind (wpAny_load hb ?_))
  exact wpAny_pure (wpAny_pure (wpAny_pure h))
theorem bytes_new_ba {a : Addr} {b : Array UInt8} {Q : Value → Shared → Prop} (hb : BA s.heap a b) (hz : b.size ≤ sizeLine)
    (hQ : ∀ t k, Q (.bytes b t) { s with toks := k }) :
    codeAny (model prog w) A (.call (.builtin "bytes.__new__") ⟨[.type "bytes", .ref a], []⟩) (wants Q E) s := by
  refine codeAny_of_tree ?_
  show wpAny _ A.in1 (do checkBuiltinCall "bytes.__new__" ⟨[.type "bytes", .ref a], []⟩; again (.builtin "bytes.__new__" ⟨[.type "bytes", .ref a], []⟩)) _ _ s
  refine wpAny_bind (wpAny_of_eq (F.bm_newCall _) (wpAny_pure ⟨plainId_quiet F.bm_plain _, codeAny_builtin F.bm_entry ?_⟩))
  rw [Around.under_plainId F.bm_plain _]
  have hT : s.TypeIs (.ref a) "bytearray" := BA.typeIs hb
  unfold Builtin.«bytes.__new__»
  refine wpAny_bind (wpAny_of_eq (a := true) rfl ?_)
  refine bm_if_false rfl ?_
  refine wpAny_bind (wpAny_of_eq F.bm_sub ?_)
  refine bm_if_false rfl ?_
  refine wpAny_bind (wpAny_of_eq (F.bm_bind _) ?_)
  refine wpAny_bind (wpAny_of_eq (a := ()) rfl ?_)
  refine wpAny_bind (wpAny_of_eq (a := ()) rfl ?_)
  refine bm_if_false rfl ?_
  refine wpAny_bind (wpAny_specialOf hT F.ba_no_bytes ?_)
  refine wpAny_bind (wpAny_bind ?_)
  show wpAny _ _ (load a >>= _) _ _ _
  refine wpAny_bind (wpAny_load hb ?_)
  refine wpAny_pure (wpAny_pure ?_)
  refine bm_if_false rfl ?_
  refine wpAny_bind (wpAny_specialOf hT F.ba_no_index ?_)
  refine bm_if_true rfl ?_
  first
    | show wpAny _ _ (Builtin.Bytes.buffer? "bytes.__new__" (.ref a) true >>= _) _ _ _
    | (refine wpAny_bind ?_; show wpAny _ _ (Builtin.Bytes.buffer? "bytes.__new__" (.ref a) true >>= _) _ _ _)
  refine wpAny_bind (ba_buffer hb ?_)
  refine wpAny_bind (wpAny_rule ?_)
  refine wpAny_bind (wpAny_mkBytes ?_ hz)
  first
    | show wpAny _ _ (if (Value.type "bytes" == Value.type "bytes") = true then _ else _) _ _ _
    | (refine wpAny_bind ?_; show wpAny _ _ (if (Value.type "bytes" == Value.type "bytes") = true then _ else _) _ _ _)
  refine bm_if_true (by decide) ?_
  first
    | exact wpAny_pure (hQ _ _)
    | exact wpAny_bind (wpAny_pure (wpAny_pure (hQ _ _)))
    | exact wpAny_pure (wpAny_pure (hQ _ _))
    | exact wpAny_bind (wpAny_pure (wpAny_pure (wpAny_pure (hQ _ _))))
theorem call_bytes_ba {a : Addr} {b : Array UInt8} {Q : Value → Shared → Prop} (hb : BA s.heap a b) (hz : b.size ≤ sizeLine) (hQ : ∀ t k, Q (.bytes b t) { s with toks := k }) : wpAny (model prog w) A (call (.type "bytes") [.ref a]) Q E s := by
  refine callType_codes (Q₁ := fun obj s₁ => s₁.TypeIs obj "bytes" ∧ Q obj s₁) F.bm_called (F.bm_typeCall _) F.entry_object_init
    (bytes_new_ba hb hz fun t k => ⟨PySem.W.typeIs_bytes _ _ _, hQ t k⟩) fun obj s₁ h₁ => ?_
  exact ⟨h₁.1, F.args_object_init_2 obj _, object_init_meets F.bm_called.init.lookup F.bm_called.made (by decide) prog w A.in1 _ s₁ ⟨h₁.1, rfl, h₁.2⟩⟩
end
end Mine
namespace Mine
open Sem (wp)
namespace F
theorem ba_plainAttrs : PlainAttrs "bytearray" :=
  ⟨⟨"bytearray.__getattribute__", by rw [typeLookup_type, builtinLookup_eq_fast]; kernel_rfl, by decide +kernel⟩, by rw [typeLookup_type, builtinLookup_eq_fast]; kernel_rfl⟩
theorem ba_ty_append : typeOf (.builtin "bytearray.append") = pure (.type "method_descriptor") := by kernel_rfl
theorem ba_ty_extend : typeOf (.builtin "bytearray.extend") = pure (.type "method_descriptor") := by kernel_rfl
end F
section
variable {prog : Program} {w : World} {A : Around} {s : Shared} {env : Env}
theorem Held.mk {P : Prop} (h : P) : Held P := h
theorem wpN_spliced_nil {pos : Pos} {Q : List Value → Shared → Prop} (h : Q [] s) : wpN (model prog w) A (spliced (backTo pos (starEach [] env))) Q s := wpN_pure h
theorem wpN_spliced_cons {pos : Pos} {e : PySem.Expr} {rest : List PySem.Expr} {Q : List Value → Shared → Prop}
    (h : wpN (model prog w) A (eval e env) (fun v s₁ => wpN (model prog w) A (spliced (backTo pos (starEach rest env))) (fun vs s₂ => Q (v :: vs) s₂) s₁) s)
    (he : starEach (e :: rest) env = (false, eval e env) :: starEach rest env := by rfl) : wpN (model prog w) A (spliced (backTo pos (starEach (e :: rest) env))) Q s := by
  rw [he]
  show wpN _ _ (spliced ((false, eval e env) :: backTo pos (starEach rest env))) _ _
  rw [spliced]
  refine wpN_bind (wpN_mono h fun v s₁ h₁ => ?_)
  simp only [Bool.false_eq_true, if_false]
  exact wpN_bind (wpN_pure (wpN_bind (wpN_holding (wpN_mono h₁ fun vs s₂ h₂ => wpN_pure h₂))))
theorem wpN_evalArgs_some {f : Value} {pos : Pos} {e : PySem.Expr} {rest : List PySem.Expr} {Q : Args → Shared → Prop}
    (h : wpN (model prog w) A (spliced (backTo pos (starEach (e :: rest) env))) (fun vs s' => Q ⟨vs, []⟩ s') s)
    (he : starEach (e :: rest) env = (false, eval e env) :: starEach rest env := by rfl) : wpN (model prog w) A (evalArgs f true (backTo pos (starEach (e :: rest) env)) []) Q s := by
  rw [he] at h ⊢
  show wpN _ _ (evalArgs f true ((false, eval e env) :: backTo pos (starEach rest env)) []) _ _
  unfold evalArgs
  show wpN _ A (spliced ((false, eval e env) :: backTo pos (starEach rest env)) >>= _) Q s
  refine wpN_bind (wpN_mono h fun vs s' h' => ?_)
  refine wpN_holding ?_
  exact wpN_bind (wpN_pure (wpN_bind (wpN_pure (wpN_pure h'))))
theorem wpN_evalArgs_nil {f : Value} {pos : Pos} {Q : Args → Shared → Prop} (h : Q ⟨[], []⟩ s) : wpN (model prog w) A (evalArgs f true (backTo pos (starEach [] env)) []) Q s :=
  wpN_any (evalArgs_nil3 h)

theorem wpN_callWith {f : Value} {first : List Value} {pos : Pos} {args : List (Bool × Sem Value)} {Q : Value → Shared → Prop} (hplain : args.any (·.1) = false)
    (h : wpN (model prog w) A (evalArgs f true args []) (fun a s₁ => Held ((∃ k, (k = Keeper.frame ∨ k = Keeper.machine ∨ k = Keeper.boundFrame) ∧ Looks (model prog w) s₁.heap (keeperOf f) k) ∧ wpN (model prog w) A (call f (first ++ a.pos) a.kw) Q s₁)) s) :
    wpN (model prog w) A (callWith pos f first args []) Q s := by
  unfold callWith
  refine wpN_bind (wpN_holding (wpN_mono h (fun a s₁ h₁ => wpN_bind (wpN_standAt ?_))))
  obtain ⟨⟨k, hk', L⟩, h₁⟩ := h₁
  simp only [hplain, List.any_nil, Bool.or_false]
  refine wpN_bind (wpN_any (L.here ?_))
  have tail : ∀ {t : Sem Value}, wpN (model prog w) A t Q s₁ → wpN (model prog w) A (t >>= fun r => holding [r] point >>= fun _ => pure r) Q s₁ :=
    fun ht => wpN_bind (wpN_mono ht (fun r s₂ hr => wpN_bind (wpN_holding (wpN_point (wpN_pure hr)))))
  have marked (mk : Value) : wpN (model prog w) A (callMarked mk f (first ++ a.pos) a.kw) Q s₁ := by unfold callMarked; exact wpN_keep h₁
  rcases hk' with rfl | rfl | rfl <;> dsimp only <;> first | exact tail h₁ | (split <;> first | exact tail h₁ | exact tail (marked _))

theorem wpN_Call_Name {id : Str} {p pos : Pos} {args : List PySem.Expr} {Q : Value → Shared → Prop}
    (h : wpN (model prog w) A (eval (.Name id p) env) (fun f s₁ => wpN (model prog w) A (callWith pos f [] (backTo pos (starEach args env)) []) Q s₁) s) : wpN (model prog w) A (eval (.Call (.Name id p) args [] pos) env) Q s := by
  rw [arm_eval_Call_Name']
  exact wpN_bind h
theorem wpN_Call_method {o : PySem.Expr} {name : Str} {apos pos : Pos} {args : List PySem.Expr} {T id : String} {Q : Value → Shared → Prop}
    (pa : PlainAttrs T) (slot : Slot T name id) (hty : typeOf (.builtin id) = pure (.type "method_descriptor"))
    (h : wpN (model prog w) A (eval o env) (fun ov s₁ => Held (s₁.TypeIs ov T ∧ (∀ a, ov = .ref a → ∃ ob, s₁.heap.get? a = some ob ∧ ob.dict = none) ∧
      wpN (model prog w) A (callWith pos (.builtin id) [ov] (backTo pos (starEach args env)) []) Q s₁)) s)
    (hbase : attributeBase o name env (eval o env) = eval o env := by rfl)
    (hfew : ((backTo pos (starEach args env)).all (fun x => !x.1) && (backToKw pos (keywordEach [] env)).all (fun x => x.1.isSome)
      && decide (args.length + ([] : List Keyword).length + (if ([] : List Keyword).isEmpty then 0 else 1) < 30)) = true := by rfl)
    (hline : (apos.endLine == pos.line) = true := by rfl) : wpN (model prog w) A (eval (.Call (.Attribute o name apos) args [] pos) env) Q s := by
  rw [arm_eval_Call, hbase]
  refine wpN_bind (wpN_mono h (fun ov s₁ h₁ => ?_))
  obtain ⟨hT, hd, hc⟩ := h₁
  refine wpN_bind (wpN_standAt ?_)
  have hform : methodCallForm (args.length + ([] : List Keyword).length) (backTo pos (starEach args env)) (backToKw pos (keywordEach [] env)) = true := hfew
  have hpos : methodCallPos true o env apos pos = pure pos := by unfold methodCallPos; simp [hline]
  unfold methodCall
  rw [hform]
  refine wpN_bind (wpN_holding (wpN_any (getMethod_builtin hT pa slot hty hd ?_)))
  exact wpN_bind (wpN_of_eq hpos hc)
theorem wpN_Subscript {value slice : PySem.Expr} {pos : Pos} {Q : Value → Shared → Prop}
    (h : wpN (model prog w) A (eval value env) (fun o s₁ => wpN (model prog w) A (eval slice env) (fun i s₂ => wpAny (model prog w) A (subscriptTail value slice o i) Q (fun _ _ => False) s₂) s₁) s) :
    wpN (model prog w) A (eval (.Subscript value slice pos) env) Q s := by
  rw [arm_eval_Subscript]
  refine wpN_bind (wpN_mono h fun o s₁ h₁ => wpN_bind (wpN_holding (wpN_mono h₁ fun i s₂ h₂ => wpN_bind (wpN_standAt ?_))))
  exact wpN_any h₂
theorem wpN_Tuple {es : List PySem.Expr} {n : Nat} {pos : Pos} {Q : Value → Shared → Prop} (h : wpN (model prog w) A (spliced (backTo pos (starEach es env))) (fun vs s₁ => wpAny (model prog w) A (newTuple vs) Q (fun _ _ => False) s₁) s) :
    wpN (model prog w) A (eval (.Tuple es n pos) env) Q s := by
  rw [arm_eval_Tuple]
  exact wpN_bind (wpN_standAt (wpN_bind (wpN_mono h fun vs s₁ h₁ => wpN_any h₁)))
theorem wpN_Assign_Tuple {elts : List PySem.Expr} {k : Nat} {tpos : Pos} {value : PySem.Expr} {pos : Pos} {Q : Flow → Shared → Prop}
    (h : wpN (model prog w) A (eval value env) (fun v s₁ => wpAny (model prog w) A (assign (.Tuple elts k tpos) env v) (fun _ => Q .next) (fun _ _ => False) s₁) s)
    (hs : swapsWithSole [.Tuple elts k tpos] value pos.line env = pure false := by rfl)
    (hw : swappedStores [.Tuple elts k tpos] value env = pure none := by rfl) : wpN (model prog w) A (exec (.Assign [.Tuple elts k tpos] value pos) env) Q s := by
  rw [exec_Assign]
  refine wpN_bind (wpN_standAt ?_)
  rw [hs]
  refine wpN_bind (wpN_pure ?_)
  rw [if_neg (by decide)]
  refine wpN_bind (wpN_mono h (fun v s₁ h₁ => ?_))
  rw [hw]
  refine wpN_bind (wpN_pure ?_)
  show wpN (model prog w) A (do assignAll v [assign (.Tuple elts k tpos) env]; pure .next) Q s₁
  exact wpN_bind (wpN_any (wpAny_mono h₁ (fun _ _ x => wpN_pure x) fun _ _ x => x))
theorem wpN_Assign_Tuple_swapped {elts : List PySem.Expr} {k : Nat} {tpos : Pos} {value : PySem.Expr} {pos : Pos} {names : List Str} {Q : Flow → Shared → Prop}
    (h : wpN (model prog w) A (eval value env) (fun v s₁ => wpAny (model prog w) A (unpackItems v names.length none) (fun items s₂ =>
      wpAny (model prog w) A (assignInOrder (names.reverse.map fun n => bindName env n) items.reverse) (fun _ => Q .next) (fun _ _ => False) s₂) (fun _ _ => False) s₁) s)
    (hs : swapsWithSole [.Tuple elts k tpos] value pos.line env = pure false := by rfl)
    (hw : swappedStores [.Tuple elts k tpos] value env = pure (some names) := by rfl) : wpN (model prog w) A (exec (.Assign [.Tuple elts k tpos] value pos) env) Q s := by
  rw [exec_Assign]
  refine wpN_bind (wpN_standAt ?_)
  rw [hs]
  refine wpN_bind (wpN_pure ?_)
  rw [if_neg (by decide)]
  refine wpN_bind (wpN_mono h (fun v s₁ h₁ => ?_))
  rw [hw]
  refine wpN_bind (wpN_pure ?_)
  show wpN (model prog w) A (do rule "assign.swapped-stores"; let items ← unpackItems v names.length none; assignInOrder (names.reverse.map fun n => bindName env n) items.reverse; pure .next) Q s₁
  exact wpN_any (wpAny_bind (wpAny_rule (wpAny_bind (wpAny_mono h₁ (fun items s₂ h₂ => wpAny_bind (wpAny_mono h₂ (fun _ _ x => wpAny_pure x) fun _ _ x => x)) fun _ _ x => x))))
theorem wpN_Assign_Name {x : Str} {pos' : Pos} {value : PySem.Expr} {pos : Pos} {Q : Flow → Shared → Prop}
    (h : wpN (model prog w) A (eval value env) (fun v s₁ => wpAny (model prog w) A (storeName env x v) (fun _ => Q .next) (fun _ _ => False) s₁) s)
    (hs : swapsWith value (some (.Name x pos')) pos.line env = pure false := by rfl) : wpN (model prog w) A (exec (.Assign [.Name x pos'] value pos) env) Q s := by
  rw [exec_Assign_Name env x pos' value pos hs]
  refine wpN_bind (wpN_standAt (wpN_bind (wpN_mono h fun v s₁ h₁ => wpN_bind (wpN_standAt (wpN_bind (wpN_any ?_))))))
  exact wpAny_bindName (wpAny_mono h₁ (fun _ _ x => wpN_pure x) fun _ _ x => x)
end

section
variable {prog : Program} {w : World} {A₀ A : Around} {s : Shared} {K : Frag} {base h₀ : Heap} {outer : List Env} {L : Addr} {m mg mb : Str → Option Value} {env : Env} {news : List (Addr × Obj)} {p : Program} {loose : List Str} {mean : ExcName → Option Value}
  {R : Result → Shared → Prop} {name qual : Str} {params : Arguments} {body : List Stmt} {scope : Scope} {cl : List (Str × Addr)} {dV kV doc pm cdv ct oc : Value} {an od : Option Addr} {osl : Array (Option Value)} {fo : Obj} {f : Addr} {args : Args} {binds : List (Str × Value)}

theorem enterMN (B : Below A₀ base outer h₀) (F : Fr h₀ L s.heap m) (X₀ : K.In h₀) (N : News h₀ L s.heap news) (T : Top p loose mean mg mb h₀) (hA : A.frames = some (env :: outer)) (hf : env.frame = some L) (hke : env.scope.kind = .function)
    (ho : s.heap.get? f = some fo) (hd : fo.data = .func (fnX name qual params body scope cl dV kV doc pm an cdv ct)) (hcd : s.heap.CodeRec cdv qual) (hroom : A.depth < recursionLimit)
    (hbind : BindsTo s (fnX name qual params body scope cl dV kV doc pm an cdv ct) args binds) (hloc : ∀ y ∈ binds, scope.names.lookup y.1 = some .local)
    (h : ∀ g L' h₁, Fr h₀ L g m → Fr g L' h₁ (fun y => binds.reverse.lookup y) → News g L' h₁ news → Below A base (env :: outer) g → K.In g → Top p loose mean mg mb g → (∀ p ∈ news, p.1 < L') → Grd s.heap g news →
      wpN (model prog w) (A.deeper (envX qual scope L' f cdv cl)) (execs body (envX qual scope L' f cdv cl))
        (fun fl s' => LeaveK h₀ L m g R (match fl with | .ret v => v | _ => .none) s') { s with heap := h₁, toks := s.toks + binds.length })
    (hco : scope.isCoroutine = false) (hgen : scope.isGenerator = false) (hk : scope.kind = .function)
    (hcell : ∀ x ∈ scope.names, x.2 ≠ .cell) : codeN (model prog w) A (.call (.ref f) args) R s := by
  obtain ⟨FG, BG, st, lv⟩ := groundX (R := R) B F N hA hf hke
  refine codeN_call_function hroom ho hd hco hgen rfl hcd (hbind _ _ _ _ ?_)
  refine wpAny_newFunctionEnv hcell hloc (fun h₁ hns hsb => ⟨(T.nolimit.keeps F.keep).fresh _ hsb, codeN_func ?_⟩) hk
  have hk₁ : ∀ b o, s.heap.get? b = some o → h₁.get? b = some o := fun b o e => hsb.extBut b o (Nat.ne_of_lt (Heap.lt_size e)) (Heap.get?_push_of_some _ e)
  exact wpN_mono (h _ s.heap.objs.size h₁ FG ⟨hns, fun b o e => hk₁ b o (of_hideAll _ e), Nat.le_of_eq (hideAll_size _ _)⟩
    (fun p hp => ⟨hk₁ _ _ (N p hp).1, Nat.ne_of_lt (Heap.lt_size (N p hp).1), hideAll_none _ (List.mem_map_of_mem hp)⟩) BG (X₀.keeps st) (T.keeps st) (fun p hp => Heap.lt_size (N p hp).1) (fun b o e hb => hideAll_get _ e hb)) (fun fl s' hl => lv _ _ hl)

theorem enterCN (B : Below A₀ base outer h₀) (F : Fr h₀ L s.heap m) (X₀ : K.In h₀) (N : News h₀ L s.heap news) (T : Top p loose mean mg mb h₀) (hA : A.frames = some (env :: outer)) (hf : env.frame = some L) (hke : env.scope.kind = .function)
    (ho : s.heap.get? f = some fo) (hd : fo.data = .func (fnX name qual params body scope [] dV kV doc pm an cdv ct)) (hcd : s.heap.CodeRec cdv qual) (hroom : A.depth < recursionLimit)
    (hbind : BindsTo s (fnX name qual params body scope [] dV kV doc pm an cdv ct) args binds)
    (hkind : (binds.all fun y => scope.names.lookup y.1 == some .local || scope.names.lookup y.1 == some .cell) = true)
    (hnd : ((cellsFrom 0 scope.names []).map (·.1)).Nodup)
    (h : ∀ g L' h₁ tk cells, Fr h₀ L g m → Fr g L' h₁ (bindL (envOfC qual scope L' f cdv).kindOf binds fun _ => none) → News g L' h₁ (cells ++ news) →
      CellsAre (bindC (envOfC qual scope L' f cdv).kindOf binds fun _ => none) (cellsFrom (L' + 1) scope.names []) cells → Below A base (env :: outer) g → K.In g → Top p loose mean mg mb g → (∀ p ∈ news, p.1 < L') → Grd s.heap g news →
      wpN (model prog w) (A.deeper (envOfC qual scope L' f cdv)) (execs body (envOfC qual scope L' f cdv))
        (fun fl s' => LeaveK h₀ L m g R (match fl with | .ret v => v | _ => .none) s') { s with heap := h₁, toks := tk })
    (hco : scope.isCoroutine = false) (hgen : scope.isGenerator = false) (hk : scope.kind = .function) : codeN (model prog w) A (.call (.ref f) args) R s := by
  obtain ⟨FG, BG, st, lv⟩ := groundX (R := R) B F N hA hf hke
  refine codeN_call_function hroom ho hd hco hgen rfl hcd (hbind _ _ _ _ ?_)
  refine wpAny_newFunctionEnv_cells hk (kindsX hkind _) fun env' he s' x => ?_
  subst he
  refine ⟨(T.nolimit.keeps F.keep).keeps x.toInCall.keep, codeN_func ?_⟩
  obtain ⟨h₁, tk, rfl, _⟩ := x.done
  have hk₁ := x.toInCall.keep
  obtain ⟨cells, NC, Y⟩ := Cl.news (h₀ := s.heap) (Nat.le_refl _) fun n c hm => ⟨x.cell n c (lookup_of_mem_nodup (cellsFrom_names scope.names 0 (s.heap.objs.size + 1) [] [] rfl ▸ hnd) hm), x.above n c hm⟩
  refine wpN_mono (h _ s.heap.objs.size h₁ tk cells FG ⟨x.toInCall.ns, fun b o e => hk₁ b o (of_hideAll _ e), Nat.le_of_eq (hideAll_size _ _)⟩ (fun p hp => ?_) Y BG (X₀.keeps st) (T.keeps st) (fun p hp => Heap.lt_size (N p hp).1) (fun b o e hb => hideAll_get _ e hb)) (fun fl s' hl => lv _ _ hl)
  rcases List.mem_append.mp hp with hp | hp
  · refine ⟨(NC p hp).1, (NC p hp).2.1, ?_⟩
    cases q : (hideAll s.heap (news.map (·.1))).get? p.1 with
    | none => rfl
    | some o => have := of_hideAll _ q; rw [(NC p hp).2.2] at this; cases this
  · exact ⟨hk₁ _ _ (N p hp).1, Nat.ne_of_lt (Heap.lt_size (N p hp).1), hideAll_none _ (List.mem_map_of_mem hp)⟩
end

noncomputable def SpecN (prog : Program) (w : World) (f : Value) (vs : List Value) (dk uk : Nat) (pre : List (Addr × Obj)) (Post : Value → List (Addr × Obj) → Prop) : Prop :=
  ∀ (p : Program) (loose : List Str) (mean : ExcName → Option Value) (mg mb : Str → Option Value) (dp un : Nat) (gd : Option (List Code)) (cn : Str) (cs : Scope) (a : Addr) (ccd : Value) (cl : List (Str × Addr)) (outer : List Env) (A₀ : Around) (base h₀ : Heap) (L : Addr) (m : Str → Option Value) (s : Shared) (Q : Value → Shared → Prop),
    Below A₀ base outer h₀ → Fr h₀ L s.heap m → (hd.heap_1 w.params).In h₀ → News h₀ L s.heap pre → Top p loose mean mg mb h₀ → cs.kind = .function → dp + dk < recursionLimit → un + uk < cLine →
    Ret h₀ L m s.heap pre Post Q s.gens s.drawn s.os →
    wpN (model prog w) (ktrTop dp un gd cn cs L a ccd cl outer) (call f vs) Q s
section
variable {prog : Program} {w : World} {A₀ A : Around} {s : Shared} {K : Frag} {base h₀ : Heap} {outer : List Env} {L : Addr} {m mg mb : Str → Option Value} {env : Env} {news : List (Addr × Obj)} {p : Program} {loose : List Str} {mean : ExcName → Option Value}
theorem SpecN.use {f : Value} {vs : List Value} {dk uk : Nat} {pre rest : List (Addr × Obj)} {Post : Value → List (Addr × Obj) → Prop} {dp un : Nat} {gd : Option (List Code)} {cn : Str} {cs : Scope} {a : Addr} {ccd : Value} {cl : List (Str × Addr)} {Q : Value → Shared → Prop}
    (S : SpecN prog w f vs dk uk pre Post) (B : Below A₀ base outer h₀) (F : Fr h₀ L s.heap m) (X : (hd.heap_1 w.params).In h₀) (N : News h₀ L s.heap news) (T : Top p loose mean mg mb h₀) (hk : cs.kind = .function) (hd : dp + dk < recursionLimit) (hu : un + uk < cLine)
    (hpre : ∀ q ∈ pre, q ∈ news) (hrest : ∀ q ∈ rest, q ∈ news ∧ q.1 ∉ pre.map (·.1))
    (ret : ∀ r h' tk' new, Fr h₀ L h' m → News h₀ L h' (new ++ rest) → Post r new → Q r { s with heap := h', toks := tk' }) :
    wpN (model prog w) (ktrTop dp un gd cn cs L a ccd cl outer) (call f vs) Q s :=
  S p loose mean mg mb dp un gd cn cs a ccd cl outer A₀ base h₀ L m s Q B F X (fun q hq => N q (hpre q hq)) T hk hd hu fun r h' tk' new F' N' P k => ret r h' tk' new F' (keptNews N N' k hrest) P
end
end Mine
namespace Mine
open Builtin
noncomputable def bcut (l : List UInt8) (lo hi : Option Int) : List UInt8 := (l.drop (lo.elim 0 (clipAt l.length))).take (hi.elim l.length (clipAt l.length) - lo.elim 0 (clipAt l.length))
theorem picked_cut (l : List UInt8) (lo hi : Option Int) : KBy.picked l.toArray lo hi = (bcut l lo hi).toArray := by
  unfold KBy.picked Bytes.sliced bcut
  rw [sliceBounds_plain]
  simp only [sliceRange_one, pick_run, List.size_toArray]
theorem bcut_from (l : List UInt8) (a : Nat) : bcut l (some a) none = l.drop a := by
  unfold bcut
  simp only [Option.elim, clipAt_nat]
  rw [List.take_of_length_le (by simp), kmk_drop_min]
theorem bcut_upto (l : List UInt8) (a : Nat) : bcut l none (some a) = l.take a := by
  unfold bcut
  simp only [Option.elim, clipAt_nat, List.drop_zero, Nat.sub_zero, kmk_take_min]
theorem whole_eq {b : Array UInt8} {lo hi : Option Int} (h : KBy.whole b lo hi = true) : KBy.picked b lo hi = b := by
  obtain ⟨l⟩ := b
  rw [picked_cut]
  unfold KBy.whole at h
  rw [sliceBounds_plain] at h
  simp only [Bool.and_eq_true, beq_iff_eq, List.size_toArray] at h
  have h1 : lo.elim 0 (clipAt l.length) = 0 := by have := h.1.1.1; omega
  have h2 : hi.elim l.length (clipAt l.length) = l.length := by have := h.1.2; omega
  unfold bcut
  rw [h1, h2]
  simp
section
variable {prog : Program} {w : World} {A : Around} {E : Value → Shared → Prop} {s : Shared}
theorem meets_slice_whole (b : Array UInt8) (t : Tok) (a : Addr) {l u : Value} {lo hi : Option Int} (hl : IsPart l lo) (hu : IsPart u hi) (hne : KBy.whole b lo hi = true) :
    Meets («bytes.__getitem__» ⟨[.bytes b t, .ref a], []⟩) (fun _ R s => s.heap.IsSliceOf a l u .none ∧ R (.ok (.ret (.bytes b t))) s) := by
  refine .of_wp fun prog w A R s hS => ?_
  obtain ⟨⟨o, ho, hc, hd⟩, h⟩ := hS
  have hT : s.TypeIs (.ref a) "slice" := ⟨o, ho, hc⟩
  show wpAny _ _ (Bytes.payload (.bytes b t) >>= fun r => _) _ _ s
  refine wpAny_bind (wpAny_of_eq (a := b) rfl ?_)
  show wpAny _ _ (Bytes.subscript? (.ref a) >>= fun r => _) _ _ s
  refine wpAny_bind ?_
  unfold Bytes.subscript?
  refine wpAny_bind (wpAny_specialOf hT slice_no_index (wpAny_pure ?_))
  refine wpAny_bind (wpAny_typeOf hT ?_)
  show wpAny _ _ (Bytes.sliceParts (.ref a) >>= fun r => _) _ _ s
  refine wpAny_bind ?_
  unfold Bytes.sliceParts
  refine wpAny_bind (wpAny_field (x := .none) ho hd rfl ?_)
  kby_none
  refine wpAny_ite (KBy.ite_no (show ¬ ((Value.none == rawInt 0) = true) from Bool.false_ne_true) ?_)
  refine wpAny_bind (wpAny_field (x := l) ho hd rfl ?_)
  have go : wpAny (model prog w) A.in1 (sliceIndices (rawPart lo) (rawPart hi) (rawPart none) b.size) (fun r s' => r = sliceBounds lo hi none b.size ∧ s' = s) (fun _ _ => False) s :=
    wpAny_of_eq (sliceIndices_raw lo hi none b.size (fun e => nomatch e)) ⟨rfl, rfl⟩
  open KBy in
  cases hl <;> cases hu <;> (first
    | (kby_none; (refine wpAny_bind (wpAny_field (x := .none) ho hd rfl ?_)); kby_none)
    | (kby_none; (refine wpAny_bind (wpAny_field (x := .int _ _) ho hd rfl ?_)); kby_int)
    | (kby_int; (refine wpAny_bind (wpAny_field (x := .none) ho hd rfl ?_)); kby_none)
    | (kby_int; (refine wpAny_bind (wpAny_field (x := .int _ _) ho hd rfl ?_)); kby_int)) <;> refine wpAny_pure ?_
  all_goals
    refine wpAny_bind (wpAny_mono go (fun r s' hr => ?_) fun _ _ e => e.elim)
    obtain ⟨hr1, hr2⟩ := hr
    subst hr1 hr2
    refine bm_if_true hne ?_
    refine wpAny_bind (wpAny_of_eq (a := Value.type "bytes") rfl ?_)
    refine bm_if_true (by decide) ?_
    refine wpAny_bind (wpAny_rule ?_)
    exact wpAny_pure ⟨_, rfl, h⟩
variable {value slice : PySem.Expr} {x : List UInt8} {t : Tok} {h₀ : Heap} {L : Addr} {m : Str → Option Value} {news : List (Addr × Obj)} {l u : Value} {lo hi : Option Int} {Q : Value → Shared → Prop}
theorem bslice_N (hF : Fr h₀ L s.heap m) (hN : News h₀ L s.heap news) (hl : IsPart l lo) (hu : IsPart u hi) (hz : x.length ≤ 16777216)
    (h : ∀ h' t' k, Fr h₀ L h' m → News h₀ L h' news → Q (.bytes (bcut x lo hi).toArray t') { s with heap := h', toks := k })
    (hs : subscripted slice false (.bytes x.toArray t) (.ref s.heap.objs.size) = operate [.ref s.heap.objs.size, .bytes x.toArray t] (getItem (.bytes x.toArray t) (.ref s.heap.objs.size)) := by with_unfolding_all rfl)
    (ht : ∀ r, letTemporaryGo value (.bytes x.toArray t) r = pure () := by intro _; with_unfolding_all rfl) :
    wpAny (model prog w) A (subscriptTail value slice (.bytes x.toArray t) (.ref s.heap.objs.size)) Q E { s with heap := s.heap.push { cls := .type "slice", data := .fields #[l, u, .none] } } := by
  have hle : (bcut x lo hi).length ≤ x.length := by
    unfold bcut
    rw [List.length_take, List.length_drop]
    omega
  cases hw : KBy.whole x.toArray lo hi with
  | false =>
    refine KBy.slice_N hF hN hl hu hw ?_ (fun h' t' k F' N' => ?_) hs ht
    · rw [picked_cut, List.size_toArray]; omega
    · rw [picked_cut]; exact h h' t' k F' N'
  | true =>
    have e := whole_eq hw
    rw [picked_cut] at e
    refine tail_of_ItemOn ⟨"bytes", _, FB.slot_bytes_getitem.lookup, typeIs_bytes _ _ _, getItem_meets (typeIs_bytes _ _ _) (by decide) FB.slot_bytes_getitem FB.entry_bytes_getitem (FB.args_bytes_getitem_2 _ _) (meets_slice_whole _ t _ hl hu hw)
      ⟨Heap.IsSliceOf.new _ _ _ _, ?_⟩⟩ hs ht
    rw [← e]
    exact h _ t s.toks (hF.push _) (News.pushKeep hN _)
end
end Mine
namespace Mine
namespace F
theorem by_slot_find : Slot "bytes" "find" "bytes.find" :=
  .of (owner := "bytes") (n := "find") (by rw [typeLookup_type, builtinLookup_eq_fast]; kernel_rfl) (by decide +kernel) (by decide +kernel) (by decide +kernel)
    (by first | exact .inl (by decide +kernel) | exact .inr (by decide +kernel)) (by rw [isSubtype_type]; kernel_rfl)
theorem by_type_find : typeOf (.builtin "bytes.find") = pure (.type "method_descriptor") := by show builtinType _ = _; rw [builtinType_eq_fast]; kernel_rfl
theorem by_entry_find : entryFor table "bytes.find" = some Builtin.«bytes.find» := entryFor_of_tree (by kernel_rfl)
theorem by_args_find_2 (a b : Value) : argsOk "bytes.find" ⟨[a, b], []⟩ := by
  unfold argsOk; rw [signature?_of (id := "bytes.find") (n := ['d', 'n', 'i', 'f']) (o := ['s', 'e', 't', 'y', 'b']) (by kernel_rfl) FB.owner_bytes]; kernel_rfl
theorem by_slot_count : Slot "bytes" "count" "bytes.count" :=
  .of (owner := "bytes") (n := "count") (by rw [typeLookup_type, builtinLookup_eq_fast]; kernel_rfl) (by decide +kernel) (by decide +kernel) (by decide +kernel)
    (by first | exact .inl (by decide +kernel) | exact .inr (by decide +kernel)) (by rw [isSubtype_type]; kernel_rfl)
theorem by_type_count : typeOf (.builtin "bytes.count") = pure (.type "method_descriptor") := by show builtinType _ = _; rw [builtinType_eq_fast]; kernel_rfl
theorem by_entry_count : entryFor table "bytes.count" = some Builtin.«bytes.count» := entryFor_of_tree (by kernel_rfl)
theorem by_args_count_2 (a b : Value) : argsOk "bytes.count" ⟨[a, b], []⟩ := by
  unfold argsOk; rw [signature?_of (id := "bytes.count") (n := ['t', 'n', 'u', 'o', 'c']) (o := ['s', 'e', 't', 'y', 'b']) (by kernel_rfl) FB.owner_bytes]; kernel_rfl
end F
theorem window_none (n : Nat) : Builtin.Bytes.window n none none = ((0 : Int), (n : Int)) := by
  unfold Builtin.Bytes.window
  simp only [Option.getD_none]
  rw [if_neg (by omega), if_neg (by omega)]
  simp
theorem searchArgs_eq {name : String} {b c : Array UInt8} {t u : Tok} : Builtin.Bytes.searchArgs .bytes name ⟨[.bytes b t, .bytes c u], []⟩ = pure (b, c, if (b.size : Int) < c.size then none else some (0, b.size)) := by
  unfold Builtin.Bytes.searchArgs
  show (Builtin.Bytes.buffer? _ (.bytes c u) >>= _) = _
  rw [KBy.buffer_eq]
  show (pure (b, c, if (Builtin.Bytes.window b.size none none).2 - (Builtin.Bytes.window b.size none none).1 < c.size then none else some ((Builtin.Bytes.window b.size none none).1.toNat, (Builtin.Bytes.window b.size none none).2.toNat)) : Sem _) = _
  rw [window_none]
  simp
noncomputable def orMinus : Option Nat → Int
  | some i => i
  | none => -1
theorem gives_find {b c : Array UInt8} {t u : Tok} {r : Option Nat} (h : (if (b.size : Int) < c.size then none else Builtin.Bytes.find? b c 0 b.size) = r) :
    Gives (Builtin.«bytes.find» ⟨[.bytes b t, .bytes c u], []⟩) (.int (orMinus r)) := by
  unfold Builtin.«bytes.find» Builtin.Bytes.searchM
  rw [searchArgs_eq]
  refine .of_wp fun M A E s Q hq => ?_
  refine wpAny_bind (wpAny_pure ?_)
  (try dsimp only)
  have e : ((if (b.size : Int) < c.size then none else some (0, b.size)).bind fun x : Nat × Nat => if false = true then Builtin.Bytes.rfind? b c x.1 x.2 else Builtin.Bytes.find? b c x.1 x.2) = r := by
    rw [← h]; split <;> rfl
  rw [e]
  cases r with
  | some i => exact wpAny_bind (wpAny_mkInt (wpAny_pure ⟨_, rfl, hq⟩))
  | none => exact wpAny_bind (wpAny_rule (wpAny_bind (wpAny_mkInt (wpAny_pure ⟨_, rfl, hq⟩))))
theorem occ_one (l : List UInt8) (x : UInt8) : (Builtin.Bytes.occurrences l.toArray #[x] 0 l.length).length = l.count x := by
  unfold Builtin.Bytes.occurrences
  have hr : List.range (l.length + 1 - (0 + #[x].size)) = List.range l.length := by
    congr 1
  have hm : (List.range l.length).map (· + 0) = List.range l.length := by simp
  rw [hr, hm, List.length_reverse]
  have key : ∀ k, k ≤ l.length → ∀ p, p = (List.range k).foldl (fun (acc : List Nat × Nat) (i : Nat) => if i ≥ acc.2 && l.toArray.extract i (i + #[x].size) == #[x] then (i :: acc.1, i + #[x].size) else acc) ([], 0) →
      p.1.length = (l.take k).count x ∧ p.2 ≤ k := by
    intro k
    induction k with
    | zero => intro _ p hp; subst hp; simp
    | succ k ih =>
      intro hk p hp
      rw [List.range_succ, List.foldl_append, List.foldl_cons, List.foldl_nil] at hp
      generalize hq : (List.range k).foldl (fun (acc : List Nat × Nat) (i : Nat) => if i ≥ acc.2 && l.toArray.extract i (i + #[x].size) == #[x] then (i :: acc.1, i + #[x].size) else acc) ([], 0) = q at hp
      obtain ⟨h1, h2⟩ := ih (by omega) q hq.symm
      have hlt : k < l.length := by omega
      have ex : l.toArray.extract k (k + #[x].size) = #[l[k]] := by
        apply Array.ext'
        show (l.toArray.extract k (k + 1)).toList = [l[k]]
        rw [Array.toList_extract]
        simp [List.extract, List.take_one, hlt]
      rw [ex] at hp
      rw [List.take_succ_eq_append_getElem hlt, List.count_append]
      have ge : decide (k ≥ q.2) = true := decide_eq_true h2
      rw [ge, Bool.true_and] at hp
      by_cases e : l[k] = x
      · rw [if_pos (by rw [e]; exact beq_self_eq_true _)] at hp
        subst hp
        refine ⟨?_, Nat.le_refl _⟩
        rw [e]
        simp [h1]
      · have ne : (#[l[k]] == #[x]) = false := by
          rw [beq_eq_false_iff_ne]
          intro q
          apply e
          simpa using q
        rw [ne] at hp
        subst hp
        refine ⟨?_, Nat.le_succ_of_le h2⟩
        have : List.count x [l[k]] = 0 := by simp [e]
        rw [this]
        simpa using h1
  have := (key l.length (Nat.le_refl _) _ rfl).1
  rw [List.take_length] at this
  exact this
theorem bfIf {α : Type} {M : Model} {A : Around} {s : Shared} {c : Bool} {a b : Sem α} {Q : α → Shared → Prop} {E : Value → Shared → Prop} (hc : c = false) (h : wpAny M A b Q E s) : wpAny M A (if c = true then a else b) Q E s := by subst hc; exact h
theorem gives_count {l : List UInt8} {x : UInt8} {t u : Tok} : Gives (Builtin.«bytes.count» ⟨[.bytes l.toArray t, .bytes #[x] u], []⟩) (.int (l.count x)) := by
  unfold Builtin.«bytes.count» Builtin.Bytes.countM
  rw [searchArgs_eq]
  refine .of_wp fun M A E s Q hq => ?_
  refine wpAny_bind (wpAny_pure ?_)
  (try dsimp only)
  by_cases hl : l.length = 0
  · have : l = [] := List.eq_nil_of_length_eq_zero hl
    subst this
    rw [if_pos (by simp)]
    exact wpAny_bind (wpAny_mkInt (wpAny_pure ⟨_, rfl, hq⟩))
  · rw [if_neg (by simp; omega)]
    (try dsimp only)
    refine bfIf rfl ?_
    have e : (Builtin.Bytes.occurrences l.toArray #[x] 0 l.toArray.size).length = l.count x := occ_one l x
    rw [e]
    exact wpAny_bind (wpAny_mkInt (wpAny_pure ⟨_, rfl, hq⟩))
section
variable {prog : Program} {w : World} {A : Around} {E : Value → Shared → Prop} {s : Shared} {b c : Array UInt8} {t u : Tok}
theorem call_find {r : Option Nat} {Q : Value → Shared → Prop} (h : (if (b.size : Int) < c.size then none else Builtin.Bytes.find? b c 0 b.size) = r) (hQ : ∀ t k, Q (.int (orMinus r) t) { s with toks := k }) :
    wpAny (model prog w) A (call (.builtin "bytes.find") [.bytes b t, .bytes c u]) Q E s :=
  call_gives F.by_slot_find (typeIs_bytes _ _ _) F.by_entry_find (F.by_args_find_2 _ _) (gives_find h) (hQ _ _)
theorem call_count {l : List UInt8} {x : UInt8} {Q : Value → Shared → Prop} (hQ : ∀ t k, Q (.int (l.count x) t) { s with toks := k }) :
    wpAny (model prog w) A (call (.builtin "bytes.count") [.bytes l.toArray t, .bytes #[x] u]) Q E s :=
  call_gives F.by_slot_count (typeIs_bytes _ _ _) F.by_entry_count (F.by_args_count_2 _ _) gives_count (hQ _ _)
theorem meth_find {M : Model} {pl : Sem Bool} {Q : Value × List Value → Shared → Prop} (h : Q (.builtin "bytes.find", [.bytes b t]) s) : wpAny M A (getMethod (.bytes b t) "find" pl) Q E s := by
  with_reducible exact KBd.method_of (.bytes b t) (typeIs_bytes _ _ _) F.by_slot_find F.by_type_find KBd.noRef h
theorem meth_count {M : Model} {pl : Sem Bool} {Q : Value × List Value → Shared → Prop} (h : Q (.builtin "bytes.count", [.bytes b t]) s) : wpAny M A (getMethod (.bytes b t) "count" pl) Q E s := by
  with_reducible exact KBd.method_of (.bytes b t) (typeIs_bytes _ _ _) F.by_slot_count F.by_type_count KBd.noRef h
end
end Mine
namespace Mine
open Sem (wp)
theorem codeN_loop' {M : Model} {A : Around} {s : Shared} {c : Code} {R : Result → Shared → Prop} (hh : holder c = false) (hq : c.quiet = true) (I : Nat → Shared → Prop)
    (turn : ∀ n s, I n s → wpN M (A.under c) (M.den c) (fun fin s' => match fin with | .done f => R (.ok f) s' | .again c' => (c' = c ∧ ∃ m, m < n ∧ I m s') ∨ (c'.quiet = true ∧ codeN M A c' R s')) s)
    (n : Nat) (h : I n s) : codeN M A c R s := by
  induction n using Nat.strongRecOn generalizing s with
  | ind n ih =>
    refine codeN_of_tree hh (wpN_mono (turn n s h) (fun fin s' hf => ?_))
    cases fin with
    | done f => exact hf
    | again c' =>
      rcases hf with ⟨rfl, m, hm, hI⟩ | hf
      · exact ⟨hq, ih m hm hI⟩
      · exact hf
theorem codeN_block {prog : Program} {w : World} {A : Around} {s : Shared} {env : Env} {R : Result → Shared → Prop} {b : List Stmt} (h : wpN (model prog w) A (execs b env) (fun f s' => R (.ok f) s') s) : codeN (model prog w) A (.block b env) R s := by
  refine codeN_of_tree rfl ?_
  show wpN _ _ (do return Fin.done (← (execs b env).onRaise (fun x => do noteFrame x env; theTreesLotGoes x))) _ s
  exact wpN_bind (wpN_onRaise (wpN_mono h fun f s' h' => wpN_pure h'))
section
variable {prog : Program} {w : World} {A : Around} {s : Shared} {env : Env} {R : Result → Shared → Prop}
theorem wpN_For {target iter : PySem.Expr} {body orelse : List Stmt} {pos : Pos} {Q : Flow → Shared → Prop}
    (h : wpN (model prog w) A (eval iter env) (fun x s₁ => wpN (model prog w) A (pyIter x) (fun it s₂ =>
      codeN (model prog w) A (.forLoop target it body orelse env) (fun r s' => match r with | .ok f => Q f s' | .error _ => False) s₂) s₁) s)
    (hs : ∀ x, foldedSetIterable iter env x = pure x := by intro _; rfl) : wpN (model prog w) A (exec (.For target iter body orelse pos) env) Q s := by
  rw [exec_For]
  refine wpN_bind (wpN_standAt (wpN_bind (wpN_mono h fun x s₁ h₁ => wpN_bind (wpN_of_eq (hs x) (wpN_bind (wpN_standAt (wpN_bind (wpN_holding (wpN_mono h₁ fun it s₂ h₂ => ?_)))))))))
  unfold runOwn
  exact wpN_onRaise (wpN_run h₂)

theorem codeN_forLoop {target : PySem.Expr} {it : Value} {body orelse : List Stmt} (I : Nat → Shared → Prop)
    (turn : ∀ n s, I n s → wpN (model prog w) A (pyNext it) (fun r s₁ => match r with
      | none => wpN (model prog w) A (execs orelse env) (fun f s₃ => R (.ok f) s₃) s₁
      | some v => wpN (model prog w) A (assign target env v) (fun _ s₂ => wpN (model prog w) A (execs body env) (fun f s₃ => match f with
          | .next | .cont => Held (∃ m, m < n ∧ I m s₃)
          | .brk => R (.ok .next) s₃
          | .ret v => R (.ok (.ret v)) s₃) s₂) s₁) s)
    (n : Nat) (h : I n s) (ht : ∀ v, letOwnedTupleGo target it v = pure () := by intro _; rfl) : codeN (model prog w) A (.forLoop target it body orelse env) R s := by
  refine codeN_loop' rfl rfl I (fun n s hI => ?_) n h
  show wpN _ A ((forTurn target it body orelse env).onRaise (fun x => do noteFrame x env; theTreesLotGoes x)) _ s
  refine wpN_onRaise ?_
  simp only [forTurn]
  refine wpN_bind (wpN_standAt (wpN_bind (wpN_onRaise (wpN_mono (turn n s hI) (fun r s₁ h₁ => ?_)))))
  cases r with
  | none => exact wpN_pure (.inr ⟨rfl, codeN_block h₁⟩)
  | some v =>
    refine wpN_bind (wpN_of_eq (ht v) ?_)
    refine wpN_bind (wpN_mono h₁ (fun _ s₂ h₂ => wpN_bind (wpN_mono h₂ (fun f s₃ h₃ => ?_))))
    cases f with
    | next => exact wpN_pure (.inl ⟨rfl, h₃⟩)
    | cont => exact wpN_pure (.inl ⟨rfl, h₃⟩)
    | brk => exact wpN_pure h₃
    | ret v => exact wpN_pure h₃

theorem codeN_forI {h₀ : Heap} {L I : Addr} {n : Nat} {P : Nat → Value → Prop} {St : Nat → Heap → Prop} {m : Str → Option Value} {news : List (Addr × Obj)} {target : PySem.Expr} {body : List Stmt}
    (W : Walks prog w A I [I] [I] n P St) (hIe : ∀ i h, St i h → ∃ o, h.get? I = some o) (hIL : I ≠ L) (hI0 : h₀.get? I = none) (hnI : ∀ p ∈ news, p.1 ≠ I) (hst : St 0 s.heap) (F : Fr h₀ L s.heap m) (N : News h₀ L s.heap news)
    (J : Nat → (Str → Option Value) → List (Addr × Obj) → Prop) (h0 : J 0 m news)
    (step : ∀ i m₁ news₁ v oI h₁ tk₁, i < n → J i m₁ news₁ → P i v → Fr h₀ L h₁ m₁ → News h₀ L h₁ ((I, oI) :: news₁) → (∀ p ∈ news₁, p.1 ≠ I) → St (i + 1) h₁ →
      wpN (model prog w) A (assign target env v) (fun _ s₂ => wpN (model prog w) A (execs body env) (fun f s₃ => match f with
          | .next | .cont => Held (∃ m₂ news₂ h₂ tk₂, s₃ = ⟨h₂, s.gens, s.drawn, tk₂, s.os⟩ ∧ Fr h₀ L h₂ m₂ ∧ News h₀ L h₂ ((I, oI) :: news₂) ∧ (∀ p ∈ news₂, p.1 ≠ I) ∧ J (i + 1) m₂ news₂)
          | .brk => R (.ok .next) s₃
          | .ret v => R (.ok (.ret v)) s₃) s₂) ⟨h₁, s.gens, s.drawn, tk₁, s.os⟩)
    (fin : ∀ m₁ news₁ h₁ tk₁, J n m₁ news₁ → Fr h₀ L h₁ m₁ → News h₀ L h₁ news₁ → R (.ok .next) ⟨h₁, s.gens, s.drawn, tk₁, s.os⟩)
    (ht : ∀ v, letOwnedTupleGo target (.ref I) v = pure () := by intro _; rfl) : codeN (model prog w) A (.forLoop target (.ref I) body [] env) R s := by
  refine codeN_forLoop (fun k s' => ∃ h' tk m' news' i, s' = ⟨h', s.gens, s.drawn, tk, s.os⟩ ∧ St i h' ∧ Fr h₀ L h' m' ∧ News h₀ L h' news' ∧ (∀ p ∈ news', p.1 ≠ I) ∧ J i m' news' ∧ i ≤ n ∧ k = n + 1 - i) ?_ (n + 1)
    ⟨s.heap, s.toks, m, news, 0, rfl, hst, F, N, hnI, h0, Nat.zero_le _, rfl⟩ ht
  rintro k s' ⟨h', tk, m', news', i, rfl, hst', F', N', hn', hJ, hi, rfl⟩
  have next : ∀ h₁ : Heap, (∀ b o, b ∉ [I] → h'.get? b = some o → h₁.get? b = some o) → Fr h₀ L h₁ m' ∧ News h₀ L h₁ news' := fun h₁ hk₁ =>
    ⟨⟨F'.ns.at' fun o e => hk₁ _ o (fun q => hIL (List.mem_singleton.mp q).symm) e, fun b o e => hk₁ b o (fun q => by rw [List.mem_singleton.mp q, hI0] at e; cases e) (F'.keep b o e), F'.above⟩,
      fun p hp => ⟨hk₁ _ _ (fun q => hn' p hp (List.mem_singleton.mp q)) (N' p hp).1, (N' p hp).2⟩⟩
  by_cases hlt : i < n
  · refine wpN_any (W.item i _ _ _ hlt hst' fun v h₁ tk₁ hP hst₁ hk₁ => ?_)
    obtain ⟨F₁, N₁⟩ := next h₁ hk₁
    obtain ⟨oI, hoI⟩ := hIe _ _ hst₁
    have N₁' : News h₀ L h₁ ((I, oI) :: news') := fun p hp => (List.mem_cons.mp hp).elim (fun e => by subst e; exact ⟨hoI, hIL, hI0⟩) (N₁ p)
    refine wpN_mono (step i m' news' v oI h₁ tk₁ hlt hJ hP F₁ N₁' hn' hst₁) (fun _ s₂ h₂ => wpN_mono h₂ fun f s₃ h₃ => ?_)
    have back : (∃ m₂ news₂ h₂ tk₂, s₃ = ⟨h₂, s.gens, s.drawn, tk₂, s.os⟩ ∧ Fr h₀ L h₂ m₂ ∧ News h₀ L h₂ ((I, oI) :: news₂) ∧ (∀ p ∈ news₂, p.1 ≠ I) ∧ J (i + 1) m₂ news₂) →
        ∃ k, k < n + 1 - i ∧ ∃ h' tk m' news' i, s₃ = ⟨h', s.gens, s.drawn, tk, s.os⟩ ∧ St i h' ∧ Fr h₀ L h' m' ∧ News h₀ L h' news' ∧ (∀ p ∈ news', p.1 ≠ I) ∧ J i m' news' ∧ i ≤ n ∧ k = n + 1 - i := by
      rintro ⟨m₂, news₂, h₂', tk₂, rfl, F₂, N₂, hn₂, hJ₂⟩
      refine ⟨n + 1 - (i + 1), by omega, h₂', tk₂, m₂, news₂, i + 1, rfl, W.frame _ _ _ hst₁ (fun b hb o e => ?_), F₂, fun p hp => N₂ p (.tail _ hp), hn₂, hJ₂, hlt, rfl⟩
      rw [List.mem_singleton.mp hb] at e ⊢
      rw [hoI] at e; cases e
      exact (N₂ _ (.head _)).1
    cases f with
    | next => exact back h₃
    | cont => exact back h₃
    | brk => exact h₃
    | ret v => exact h₃
  · have hin : i = n := by omega
    subst hin
    refine wpN_any (W.done _ _ _ hst' fun h₁ tk₁ hk₁ => ?_)
    obtain ⟨F₁, N₁⟩ := next h₁ hk₁
    exact wpN_any (wpAny_execs_nil (fin _ _ _ _ hJ F₁ N₁))
end

theorem wpN_attempt {α : Type} {M : Model} {A : Around} {s : Shared} {m : Sem α} {Q : Except Value α → Shared → Prop} (h : wpN M A m (fun a => Q (.ok a)) s) : wpN M A m.attempt Q s := fun Γ p hΓ h1 h2 => by
  rw [Sem.wp_attempt]
  exact Sem.wp_mono M Γ m (fun _ _ _ h' => h') (fun _ _ _ h' => h'.elim) p s (h Γ p hΓ h1 h2)
theorem wpN_standIf {α : Type} {M : Model} {A : Around} {s : Shared} {c : Prop} [Decidable c] {pos : Pos} {k : PUnit → Sem α} {Q : α → Shared → Prop} (h : wpN M A (k ()) Q s) : wpN M A (if c then (standAt pos >>= k) else k ()) Q s := by
  split
  · exact wpN_bind (wpN_standAt h)
  · exact h
noncomputable def compPostN (M : Model) (A : Around) (use : Option (Value → Sem Unit)) (Q : Value → Shared → Prop) (acc : Value) (C : Addr) (r : Result) (s' : Shared) : Prop :=
  match r, use with
  | .ok _, none => ∃ m, s'.heap.Ns C m ∧ ∀ h', Heap.SameBut C s'.heap h' → Q acc { s' with heap := h' }
  | .ok _, some u => wpN M A (u acc) (fun _ s'' => ∃ m, s''.heap.Ns C m ∧ ∀ h', Heap.SameBut C s''.heap h' → Q .none { s'' with heap := h' }) s'
  | .error _, _ => False
theorem wpN_comp {M : Model} {A : Around} {s : Shared} {env : Env} {e : PySem.Expr} {scope : Scope} {pos : Pos} {newAcc first : Sem Value} {g : Comprehension} {gs : List Comprehension} {cl : List (Str × Addr)} {use : Option (Value → Sem Unit)}
    {Q : Value → Shared → Prop} (hcl : clausesOf e = g :: gs) (hs : ∀ x, foldedSetIterable g.iter env x = pure x) (hclos : closureFor scope env = pure cl)
    (hkind : scope.kind = .function) (hnames : ∀ x ∈ scope.names, x.2 = .local → scope.names.lookup x.1 = some .local)
    (h : wpN M A first (fun x s₁ => wpN M A (pyIter x) (fun it s₂ => wpN M A newAcc (fun acc s₃ =>
      wpN M A (newFunctionEnv scope env.globals cl [] env.qual none .none (some env)) (fun cenv s₄ =>
        codeN M A (.compStart e 0 it acc { cenv with scope := relabel scope env }) (compPostN M A use Q acc cenv.locals) s₄) s₃) s₂) s₁) s) :
    wpN M A (comprehension e scope env pos newAcc false first use) Q s := by
  unfold comprehension
  rw [hclos, hcl]
  refine wpN_bind (wpN_mono h (fun x s₁ h₁ => wpN_bind (wpN_standAt (wpN_bind (wpN_of_eq (hs x) (wpN_bind (wpN_holding (wpN_mono h₁ (fun it s₂ h₂ =>
    wpN_standIf (wpN_bind (wpN_mono h₂ (fun acc s₃ h₃ => wpN_bind (wpN_pure (wpN_bind (wpN_mono h₃ (fun cenv s₄ h₄ => ?_))))))))))))))))
  dsimp only
  have hv : ∀ x ∈ (scope.names.filter fun x => (x.2 == .local || x.2 == .cell) && x.1 != (".0" : Str)).reverse, x.2 = .local →
      Env.kindOf { cenv with scope := relabel scope env } x.1 = some .local := fun x hx hl => lookup_relabel_local (hnames x (List.mem_filter.mp (List.mem_reverse.mp hx)).1 hl)
  have hv' : ∀ x ∈ (scope.names.filter fun x => (x.2 == .local || x.2 == .cell) && x.1 != (".0" : Str)).reverse.drop 1 ++ (scope.names.filter fun x => (x.2 == .local || x.2 == .cell) && x.1 != (".0" : Str)).reverse.take 1,
      x.2 = .local → Env.kindOf { cenv with scope := relabel scope env } x.1 = some .local := fun x hx hl => by
    rcases List.mem_append.mp hx with h1 | h1
    · exact hv x (List.mem_of_mem_drop h1) hl
    · exact hv x (List.mem_of_mem_take h1) hl
  refine wpN_holding (wpN_bind (wpN_attempt (wpN_holding (wpN_run (codeN_mono h₄ fun r s' hr => ?_)))))
  cases r with
  | ok f =>
    cases use with
    | none =>
      obtain ⟨m, hn, hr⟩ := hr
      exact wpN_bind (wpN_holding (wpN_any (wpAny_comp_letGo (cenv := { cenv with scope := relabel scope env }) hkind _ s' m hv hn fun h' m' _ hs' => wpN_pure (hr h' hs'))))
    | some u =>
      refine wpN_bind (wpN_any (wpAny_rule (wpN_bind (wpN_holding (wpN_mono hr (fun _ s'' hr' => ?_))))))
      obtain ⟨m, hn, hr'⟩ := hr'
      exact wpN_bind (wpN_any (wpAny_comp_letGo (cenv := { cenv with scope := relabel scope env }) hkind _ s'' m hv' hn fun h' m' _ hs' => wpN_pure (hr' h' hs')))
  | error x => exact hr
section
variable {prog : Program} {w : World} {A : Around} {s : Shared} {env : Env} {R : Result → Shared → Prop}
theorem codeN_compStart {elt target iter : PySem.Expr} {ifs : List PySem.Expr} {rest : List Comprehension} {scope : Scope} {pos : Pos} {it acc : Value}
    (h0 : codeN (model prog w) A (.compLoop (.ListComp elt (⟨target, iter, ifs, 0⟩ :: rest) scope pos) 0 it acc env) R s)
    (h : wpN (model prog w) A (pyIter it) (fun it' s' => codeN (model prog w) A (.compLoop (.ListComp elt (⟨target, iter, ifs, 0⟩ :: rest) scope pos) 0 it' acc env) R s') s) :
    codeN (model prog w) A (.compStart (.ListComp elt (⟨target, iter, ifs, 0⟩ :: rest) scope pos) 0 it acc env) R s := by
  refine codeN_of_tree rfl ?_
  show wpN _ _ ((compStart (.ListComp elt (⟨target, iter, ifs, 0⟩ :: rest) scope pos) 0 it acc env).onRaise (fun x => do noteFrame x env; standAt theWindowsPlace)) _ s
  refine wpN_onRaise ?_
  unfold compStart
  show wpN _ _ (ask >>= _) _ s
  refine wpN_bind (wpN_any (wpAny_askSetting ?_))
  split
  · exact wpN_bind (wpN_pure (wpN_pure (And.intro rfl h0)))
  · refine wpN_bind (wpN_any (wpAny_rule ?_))
    show wpN _ _ (standAt iter.pos >>= _) _ s
    exact wpN_bind (wpN_standAt (wpN_bind (wpN_mono h (fun it' s' h' => wpN_pure (And.intro rfl h')))))
theorem codeN_compLoop {elt target iter : PySem.Expr} {scope : Scope} {pos : Pos} {it acc : Value} (I : Nat → Shared → Prop)
    (turn : ∀ n s, I n s → wpN (model prog w) A (pyNext it) (fun r s₁ => match r with
      | none => R (.ok .next) s₁
      | some v => wpN (model prog w) A (assign target env v) (fun _ s₂ => wpN (model prog w) A (eval elt env) (fun x s₃ =>
          wpN (model prog w) A (call (.builtin "list.append") [acc, x]) (fun _ s₄ => ∃ m, m < n ∧ I m s₄) s₃) s₂) s₁) s)
    (n : Nat) (h : I n s) (ht : ∀ v, letOwnedTupleGo target it v = pure () := by intro _; rfl) :
    codeN (model prog w) A (.compLoop (.ListComp elt [⟨target, iter, [], 0⟩] scope pos) 0 it acc env) R s := by
  refine codeN_loop rfl rfl I (fun n s hI => ?_) n h
  show wpN _ _ ((compTurn (.ListComp elt [⟨target, iter, [], 0⟩] scope pos) 0 it acc env).onRaise (fun x => do noteFrame x env; theTreesLotGoes x)) _ s
  refine wpN_onRaise ?_
  rw [compTurn_list1]
  refine wpN_bind (wpN_standAt (wpN_bind (wpN_mono (turn n s hI) (fun r s₁ h₁ => ?_))))
  cases r with
  | none => exact wpN_pure h₁
  | some v =>
    refine wpN_bind (wpN_of_eq (ht v) ?_)
    exact wpN_bind (wpN_mono h₁ (fun _ s₂ h₂ => wpN_bind (wpN_bind (wpN_mono h₂ (fun x s₃ h₃ => wpN_bind (wpN_mono h₃ (fun _ s₄ h₄ => wpN_pure (wpN_pure ⟨rfl, h₄⟩))))))))

theorem codeN_compI {h₀ : Heap} {L I C D : Addr} {n : Nat} {P : Nat → Value → Prop} {St : Nat → Heap → Prop} {m mC : Str → Option Value} {news : List (Addr × Obj)} {elt iter : PySem.Expr} {x : Str} {px : Pos} {scope : Scope} {pos : Pos} {cenv : Env}
    (W : Walks prog w A I [I] [I] n P St) (hIe : ∀ i h, St i h → ∃ o, h.get? I = some o) (hsz : n ≤ sizeLine)
    (hx : cenv.kindOf x = some .local) (hp : (cenv.scope.kind == .class || (cenv.scope.kind == .module && cenv.locals != cenv.globals)) = false) (hC : cenv.locals = C)
    (hIL : I ≠ L) (hCL : C ≠ L) (hDL : D ≠ L) (hIC : I ≠ C) (hID : I ≠ D) (hCD : C ≠ D) (hI0 : h₀.get? I = none) (hC0 : h₀.get? C = none) (hD0 : h₀.get? D = none)
    (hn : ∀ p ∈ news, p.1 ≠ I ∧ p.1 ≠ C ∧ p.1 ≠ D) (hst : St 0 s.heap) (hns : s.heap.Ns C mC) (hD : s.heap.PlainList D #[]) (F : Fr h₀ L s.heap m) (N : News h₀ L s.heap news)
    (J : Nat → List Value → List (Addr × Obj) → Prop) (h0 : J 0 [] news)
    (step : ∀ i ys news₁ v mC oC oD oI h₁ tk₁, i < n → J i ys news₁ → P i v → Fr h₀ L h₁ m → News h₀ L h₁ ((C, oC) :: (D, oD) :: (I, oI) :: news₁) → (∀ p ∈ news₁, p.1 ≠ I ∧ p.1 ≠ C ∧ p.1 ≠ D) → h₁.Ns C mC → mC x = some v →
      wpN (model prog w) A (eval elt cenv) (fun y s₃ => Held (∃ news₂ h₂ tk₂, s₃ = ⟨h₂, s.gens, s.drawn, tk₂, s.os⟩ ∧ Fr h₀ L h₂ m ∧ News h₀ L h₂ ((C, oC) :: (D, oD) :: (I, oI) :: news₂) ∧ (∀ p ∈ news₂, p.1 ≠ I ∧ p.1 ≠ C ∧ p.1 ≠ D) ∧ J (i + 1) (ys ++ [y]) news₂)) ⟨h₁, s.gens, s.drawn, tk₁, s.os⟩)
    (fin : ∀ ys news₁ mC k h₁ tk₁, J n ys news₁ → Fr h₀ L h₁ m → News h₀ L h₁ ((D, PySem.W.listOf ys.toArray k) :: news₁) → (∀ p ∈ news₁, p.1 ≠ D ∧ p.1 ≠ C) → h₁.Ns C mC → R (.ok .next) ⟨h₁, s.gens, s.drawn, tk₁, s.os⟩) :
    codeN (model prog w) A (.compLoop (.ListComp elt [⟨.Name x px, iter, [], 0⟩] scope pos) 0 (.ref I) (.ref D) cenv) R s := by
  refine codeN_compLoop (fun k s' => ∃ h' tk mC' ys news' i, s' = ⟨h', s.gens, s.drawn, tk, s.os⟩ ∧ St i h' ∧ h'.Ns C mC' ∧ h'.PlainList D ys.toArray ∧ ys.length = i ∧ Fr h₀ L h' m ∧ News h₀ L h' news' ∧ (∀ p ∈ news', p.1 ≠ I ∧ p.1 ≠ C ∧ p.1 ≠ D) ∧ J i ys news' ∧ i ≤ n ∧ k = n + 1 - i) ?_ (n + 1)
    ⟨s.heap, s.toks, mC, [], news, 0, rfl, hst, hns, hD, rfl, F, N, hn, h0, Nat.zero_le _, rfl⟩
  rintro k s' ⟨h', tk, mC', ys, news', i, rfl, hst', hns', hD', hlen, F', N', hn', hJ, hi, rfl⟩
  have next : ∀ h₁ : Heap, (∀ b o, b ∉ [I] → h'.get? b = some o → h₁.get? b = some o) → Fr h₀ L h₁ m ∧ News h₀ L h₁ news' ∧ h₁.Ns C mC' ∧ h₁.PlainList D ys.toArray := fun h₁ hk₁ =>
    ⟨⟨F'.ns.at' fun o e => hk₁ _ o (fun q => hIL (List.mem_singleton.mp q).symm) e, fun b o e => hk₁ b o (fun q => by rw [List.mem_singleton.mp q, hI0] at e; cases e) (F'.keep b o e), F'.above⟩,
      fun p hp => ⟨hk₁ _ _ (fun q => (hn' p hp).1 (List.mem_singleton.mp q)) (N' p hp).1, (N' p hp).2⟩, hns'.at' fun o e => hk₁ _ o (fun q => hIC (List.mem_singleton.mp q).symm) e, hD'.at fun o e => hk₁ _ o (fun q => hID (List.mem_singleton.mp q).symm) e⟩
  by_cases hlt : i < n
  · refine wpN_any (W.item i _ _ _ hlt hst' fun v h₁ tk₁ hP hst₁ hk₁ => ?_)
    obtain ⟨F₁, N₁, hns₁, hD₁⟩ := next h₁ hk₁
    refine wpN_any (wpAny_assign_Name (wpAny_storeName_local hx (hC ▸ hns₁) (fun h₂ hn₂ hs₂ => ?_) hp))
    rw [hC] at hn₂ hs₂
    obtain ⟨oI, hoI⟩ := hIe _ _ hst₁
    have hoI₂ : h₂.get? I = some oI := (hs₂.2 I hIC).trans hoI
    obtain ⟨oC, hoC⟩ : ∃ o, h₂.get? C = some o := by obtain ⟨o, _, _, e, _⟩ := hn₂; exact ⟨o, e⟩
    obtain ⟨nD, hoD⟩ := hD₁
    have hoD₂ := (hs₂.2 D (Ne.symm hCD)).trans hoD
    have F₂ : Fr h₀ L h₂ m := ⟨F₁.ns.sameBut hs₂ (Ne.symm hCL), fun b o e => (hs₂.2 b fun q => by rw [q, hC0] at e; cases e).trans (F₁.keep b o e), F₁.above⟩
    have N₂ : News h₀ L h₂ ((C, oC) :: (D, _) :: (I, oI) :: news') := fun p hp => by
      rcases List.mem_cons.mp hp with rfl | hp
      · exact ⟨hoC, hCL, hC0⟩
      rcases List.mem_cons.mp hp with rfl | hp
      · exact ⟨hoD₂, hDL, hD0⟩
      rcases List.mem_cons.mp hp with rfl | hp
      · exact ⟨hoI₂, hIL, hI0⟩
      · exact ⟨(hs₂.2 _ (hn' p hp).2.1).trans (N₁ p hp).1, (N₁ p hp).2⟩
    refine wpN_mono (step i ys news' v _ oC _ oI h₂ _ hlt hJ hP F₂ N₂ hn' hn₂ (by simp)) (fun y s₃ h₃ => ?_)
    obtain ⟨news₃, h₃', tk₃, rfl, F₃, N₃, hn₃, hJ₃⟩ := h₃
    refine wpN_any (wpAny_list_append_plain (hsz := by rw [List.size_toArray]; omega) ⟨nD, (N₃ _ (.tail _ (.head _))).1⟩ fun h₄ hl₄ hs₄ => ?_)
    refine ⟨n + 1 - (i + 1), by omega, h₄, _, _, ys ++ [y], news₃, i + 1, rfl, ?_, ((hn₂.at' (h' := h₃') fun o e => ?_).sameBut hs₄ hCD), by simpa using hl₄, by rw [List.length_append, List.length_singleton, hlen],
      ⟨F₃.ns.sameBut hs₄ (Ne.symm hDL), fun b o e => (hs₄.2 b fun q => by rw [q, hD0] at e; cases e).trans (F₃.keep b o e), F₃.above⟩,
      fun p hp => ⟨(hs₄.2 _ (hn₃ p hp).2.2).trans (N₃ p (.tail _ (.tail _ (.tail _ hp)))).1, (N₃ p (.tail _ (.tail _ (.tail _ hp)))).2⟩, hn₃, hJ₃, hlt, rfl⟩
    · refine W.frame _ _ _ hst₁ (fun b hb o e => ?_)
      rw [List.mem_singleton.mp hb] at e ⊢
      rw [hoI] at e; cases e
      exact (hs₄.2 _ hID).trans (N₃ _ (.tail _ (.tail _ (.head _)))).1
    · rw [hoC] at e; cases e
      exact (N₃ _ (.head _)).1
  · have hin : i = n := by omega
    subst hin
    refine wpN_any (W.done _ _ _ hst' fun h₁ tk₁ hk₁ => ?_)
    obtain ⟨F₁, N₁, hns₁, nD, hD₁⟩ := next h₁ hk₁
    exact fin ys news' mC' nD h₁ tk₁ hJ F₁ (fun p hp => (List.mem_cons.mp hp).elim (fun e => by subst e; exact ⟨hD₁, hDL, hD0⟩) (N₁ p)) (fun p hp => ⟨(hn' p hp).2.2, (hn' p hp).2.1⟩) hns₁

theorem comp_blockI {h₀ : Heap} {L I : Addr} {n : Nat} {P : Nat → Value → Prop} {St : Nat → Heap → Prop} {m : Str → Option Value} {news : List (Addr × Obj)} {elt iter : PySem.Expr} {x : Str} {px : Pos} {scope : Scope} {pos : Pos} {cl : List (Str × Addr)} {RR : Value → Addr → Result → Shared → Prop}
    (W : Walks prog w A I [I] [I] n P St) (hIe : ∀ i h, St i h → ∃ o, h.get? I = some o) (hsz : n ≤ sizeLine) (hcell : ∀ y ∈ scope.names, y.2 ≠ .cell) (hkind : scope.kind = .function) (hx : scope.names.lookup x = some .local)
    (hIL : I ≠ L) (hI0 : h₀.get? I = none) (hn : ∀ p ∈ news, p.1 ≠ I) (hst : St 0 s.heap) (F : Fr h₀ L s.heap m) (N : News h₀ L s.heap news)
    (J : Nat → List Value → List (Addr × Obj) → Prop) (h0 : J 0 [] news)
    (step : ∀ i ys news₁ v mC C D oC oD oI h₁ tk₁, i < n → J i ys news₁ → P i v → Fr h₀ L h₁ m → News h₀ L h₁ ((C, oC) :: (D, oD) :: (I, oI) :: news₁) → (∀ p ∈ news₁, p.1 ≠ I ∧ p.1 ≠ C ∧ p.1 ≠ D) → C ≠ D → I ≠ C → I ≠ D → (∀ p ∈ news, p.1 < D ∧ p.1 < C) → h₁.Ns C mC → mC x = some v →
      wpN (model prog w) A (eval elt (compEnvC scope cl C env)) (fun y s₃ => Held (∃ news₂ h₂ tk₂, s₃ = ⟨h₂, s.gens, s.drawn, tk₂, s.os⟩ ∧ Fr h₀ L h₂ m ∧ News h₀ L h₂ ((C, oC) :: (D, oD) :: (I, oI) :: news₂) ∧ (∀ p ∈ news₂, p.1 ≠ I ∧ p.1 ≠ C ∧ p.1 ≠ D) ∧ J (i + 1) (ys ++ [y]) news₂)) ⟨h₁, s.gens, s.drawn, tk₁, s.os⟩)
    (fin : ∀ ys news₁ mC C D k h₁ tk₁, J n ys news₁ → Fr h₀ L h₁ m → News h₀ L h₁ ((D, PySem.W.listOf ys.toArray k) :: news₁) → (∀ p ∈ news₁, p.1 ≠ D ∧ p.1 ≠ C) → C ≠ D → C ≠ L → D ≠ L → h₀.get? C = none → (∀ p ∈ news, p.1 < D) → h₁.Ns C mC → RR (.ref D) C (.ok .next) ⟨h₁, s.gens, s.drawn, tk₁, s.os⟩) :
    wpN (model prog w) A (newList []) (fun acc s₃ => wpN (model prog w) A (newFunctionEnv scope env.globals cl [] env.qual none .none (some env)) (fun cenv s₄ =>
      codeN (model prog w) A (.compStart (.ListComp elt [⟨.Name x px, iter, [], 0⟩] scope pos) 0 (.ref I) acc { cenv with scope := relabel scope env }) (RR acc cenv.locals) s₄) s₃) s := by
  refine wpN_any (wpAny_newObj_type (wpN_any (wpAny_newFunctionEnv hcell (by intro y hy; simp at hy) (fun h₁ hns₁ hsb₁ => ?_) hkind)))
  dsimp only at hns₁ hsb₁ ⊢
  generalize hH2 : s.heap.push { cls := .type "list", dict := none, data := .seq ([] : List Value).toArray } = H2 at hns₁ hsb₁ ⊢
  have hC : H2.objs.size = s.heap.objs.size + 1 := by rw [← hH2, Heap.size_push]
  have hDC : s.heap.objs.size ≠ H2.objs.size := by rw [hC]; exact Nat.ne_of_lt (Nat.lt_succ_self _)
  have below : ∀ b, b < s.heap.objs.size → b ≠ H2.objs.size ∧ b ≠ s.heap.objs.size := fun b hb => ⟨by rw [hC]; exact Nat.ne_of_lt (Nat.lt_succ_of_lt hb), Nat.ne_of_lt hb⟩
  have old : ∀ b o, s.heap.get? b = some o → h₁.get? b = some o := fun b o e => hsb₁.extBut b o (below b (Heap.lt_size e)).1 (Heap.get?_push_of_some _ (hH2 ▸ Heap.get?_push_of_some _ e))
  have hacc : h₁.PlainList s.heap.objs.size #[] := ⟨_, hsb₁.extBut _ _ hDC (Heap.get?_push_of_some _ (hH2 ▸ Heap.get?_push_size _ rfl))⟩
  have hst₁ : St 0 h₁ := W.frame _ _ _ hst fun b _ o e => old b o e
  have hIlt : I < s.heap.objs.size := by obtain ⟨o, e⟩ := hIe _ _ hst; exact Heap.lt_size e
  have hL : L < s.heap.objs.size := F.ns.lt
  have fresh : ∀ a, s.heap.objs.size ≤ a → h₀.get? a = none := fun a ha => Heap.get?_none_of_le (Nat.le_trans F.above (Nat.le_trans (Nat.le_of_lt hL) ha))
  have hlt : ∀ p ∈ news, p.1 < s.heap.objs.size := fun p hp => Heap.lt_size (N p hp).1
  have hCge : s.heap.objs.size ≤ H2.objs.size := by rw [hC]; exact Nat.le_succ _
  have loop : ∀ s₃ : Shared, s₃ = { s with heap := h₁, toks := s.toks + ([] : List (Str × Value)).length } →
      codeN (model prog w) A (.compLoop (.ListComp elt [⟨.Name x px, iter, [], 0⟩] scope pos) 0 (.ref I) (.ref s.heap.objs.size) (compEnvC scope cl H2.objs.size env)) (RR (.ref s.heap.objs.size) H2.objs.size) s₃ := by
    rintro s₃ rfl
    refine codeN_compI (s := { s with heap := h₁, toks := s.toks + ([] : List (Str × Value)).length }) (cenv := compEnvC scope cl H2.objs.size env) W hIe hsz (lookup_relabel_local hx) (by simp [compEnvC, relabel, hkind]) rfl hIL (Nat.ne_of_gt (Nat.lt_of_lt_of_le hL hCge)) (Nat.ne_of_gt hL)
      (below I hIlt).1 (below I hIlt).2 (Ne.symm hDC) hI0 (fresh _ hCge) (fresh _ (Nat.le_refl _)) (fun p hp => ⟨hn p hp, (below _ (hlt p hp)).1, (below _ (hlt p hp)).2⟩) hst₁ hns₁ hacc (F.keeps old) (fun p hp => ⟨old _ _ (N p hp).1, (N p hp).2⟩) J h0
      (fun i ys news₁ v mC oC oD oI h₂ tk₂ hi hJ hP F₂ N₂ hn₂ hns₂ hv => step i ys news₁ v mC _ _ oC oD oI h₂ tk₂ hi hJ hP F₂ N₂ hn₂ (Ne.symm hDC) (below I hIlt).1 (below I hIlt).2 (fun p hp => ⟨hlt p hp, Nat.lt_of_lt_of_le (hlt p hp) hCge⟩) hns₂ hv)
      (fun ys news₁ mC k h₂ tk₂ hJ F₂ N₂ hn₂ hns₂ => fin ys news₁ mC _ _ k h₂ tk₂ hJ F₂ N₂ hn₂ (Ne.symm hDC) (Nat.ne_of_gt (Nat.lt_of_lt_of_le hL hCge)) (Nat.ne_of_gt hL) (fresh _ hCge) hlt hns₂)
  exact codeN_compStart (loop _ rfl) (wpN_any (W.self 0 _ _ _ hst₁ (loop _ rfl)))

noncomputable def TurnC (prog : Program) (w : World) (A : Around) (env : Env) (h₀ : Heap) (L : Addr) (m : Str → Option Value) (news : List (Addr × Obj)) (elt : PySem.Expr) (x : Str) (scope : Scope) (cl : List (Str × Addr)) (gs : Array GenState) (dr : Drawn) (os : OsState)
    (n : Nat) (P : Nat → Value → Prop) (J : Nat → List Value → List (Addr × Obj) → Prop) : Prop :=
  ∀ i ys news₁ v mC C D I oC oD oI h₁ tk₁, i < n → J i ys news₁ → P i v → Fr h₀ L h₁ m → News h₀ L h₁ ((C, oC) :: (D, oD) :: (I, oI) :: news₁) → (∀ p ∈ news₁, p.1 ≠ I ∧ p.1 ≠ C ∧ p.1 ≠ D) → C ≠ D → I ≠ C → I ≠ D → (∀ p ∈ news, p.1 < D ∧ p.1 < C ∧ p.1 < I) → h₁.Ns C mC → mC x = some v →
      wpN (model prog w) A (eval elt (compEnvC scope cl C env)) (fun y s₃ => Held (∃ news₂ h₂ tk₂, s₃ = ⟨h₂, gs, dr, tk₂, os⟩ ∧ Fr h₀ L h₂ m ∧ News h₀ L h₂ ((C, oC) :: (D, oD) :: (I, oI) :: news₂) ∧ (∀ p ∈ news₂, p.1 ≠ I ∧ p.1 ≠ C ∧ p.1 ≠ D) ∧ J (i + 1) (ys ++ [y]) news₂)) ⟨h₁, gs, dr, tk₁, os⟩

theorem range_ground {h₀ : Heap} {L : Addr} {m : Str → Option Value} {news : List (Addr × Obj)} {o : Obj} (F : Fr h₀ L s.heap m) (N : News h₀ L s.heap news) :
    Fr h₀ L (s.heap.push o) m ∧ News h₀ L (s.heap.push o) news ∧ s.heap.objs.size ≠ L ∧ h₀.get? s.heap.objs.size = none ∧ ∀ p ∈ news, p.1 < s.heap.objs.size :=
  ⟨F.push _, fun p hp => ⟨Heap.get?_push_of_some _ (N p hp).1, (N p hp).2⟩, Nat.ne_of_gt F.ns.lt, Heap.get?_none_of_le (Nat.le_trans F.above (Nat.le_of_lt F.ns.lt)), fun p hp => Heap.lt_size (N p hp).1⟩

theorem rangeSize_nat (n : Nat) : (Builtin.Range.rangeSize 0 n 1) = n := by
  unfold Builtin.Range.rangeSize
  simp
  try omega

theorem wpN_ListComp_range {h₀ : Heap} {L : Addr} {elt iter : PySem.Expr} {x : Str} {px : Pos} {scope : Scope} {pos : Pos} {cl : List (Str × Addr)} {Q : Value → Shared → Prop} (J : Nat → List Value → List (Addr × Obj) → Prop)
    (h : wpN (model prog w) A (eval iter env) (fun xv s₁ => Held (∃ n r t u v m news, Builtin.Range.small 0 ((n : Nat) : Int) 1 = true ∧ n ≤ sizeLine ∧ xv = .ref r ∧ IsRange s₁.heap r 0 n 1 t u v ∧ Fr h₀ L s₁.heap m ∧ News h₀ L s₁.heap news ∧ J 0 [] news ∧
      TurnC prog w A env h₀ L m news elt x scope cl s₁.gens s₁.drawn s₁.os n (fun i v => ∃ t, v = .int (0 + i * 1) t) J ∧
      (∀ ys news₁ D k h₁ tk₁, J n ys news₁ → Fr h₀ L h₁ m → News h₀ L h₁ ((D, PySem.W.listOf ys.toArray k) :: news₁) → (∀ p ∈ news₁, p.1 ≠ D) → (∀ p ∈ news, p.1 < D) → Q (.ref D) ⟨h₁, s₁.gens, s₁.drawn, tk₁, s₁.os⟩))) s)
    (hh : A.handled = none)
    (hclos : closureFor scope env = pure cl) (hcell : ∀ y ∈ scope.names, y.2 ≠ .cell) (hkind : scope.kind = .function)
    (hnames : ∀ y ∈ scope.names, y.2 = .local → scope.names.lookup y.1 = some .local) (hx : scope.names.lookup x = some .local)
    (hs : ∀ x, foldedSetIterable iter env x = pure x := by intro _; rfl) :
    wpN (model prog w) A (eval (.ListComp elt [⟨.Name x px, iter, [], 0⟩] scope pos) env) Q s := by
  rw [eval_ListComp]
  refine wpN_comp (use := none) rfl hs hclos hkind hnames (wpN_mono h (fun xv s₁ h₁ => ?_))
  obtain ⟨n, r, t, u, v, m, news, hsmall, hsz, rfl, hr, F, N, h0, step, fin⟩ := h₁
  refine wpN_any (wpAny_pyIter_range hr hsmall ?_)
  obtain ⟨F₁, N₁, a1, a2, a3⟩ := range_ground (o := { cls := .type "range_iterator", data := .fields #[rawInt 0, rawInt (Builtin.Range.rangeSize 0 n 1), rawInt 1] }) F N
  refine comp_blockI (RR := fun acc C => compPostN (model prog w) A none Q acc C) (Walks.range hh s₁.heap.objs.size 0 1 n) (fun i h e => ⟨_, e⟩) hsz hcell hkind hx a1 a2 (fun p hp => Nat.ne_of_lt (a3 p hp)) (by rw [rangeSize_nat]; exact Heap.get?_push_size _ rfl) F₁ N₁ J h0
    (fun i ys news₁ v mC C D oC oD oI h₂ tk₂ hi hJ hP F₂ N₂ hn₂ b1 b2 b3 b4 hns₂ hv => step i ys news₁ v mC C D _ oC oD oI h₂ tk₂ hi hJ hP F₂ N₂ hn₂ b1 b2 b3 (fun p hp => ⟨(b4 p hp).1, (b4 p hp).2, a3 p hp⟩) hns₂ hv)
    (fun ys news₁ mC C D k h₂ tk₂ hJ F₂ N₂ hn₂ hCD hCL hDL hC0 hlt hns₂ => ⟨mC, hns₂, fun h₃ hs₃ => ?_⟩)
  refine fin ys news₁ D k h₃ tk₂ hJ ⟨F₂.ns.sameBut hs₃ (Ne.symm hCL), fun b o e => (hs₃.2 b fun q => by rw [q, hC0] at e; cases e).trans (F₂.keep b o e), F₂.above⟩ (fun p hp => ?_) (fun p hp => (hn₂ p hp).1) hlt
  rcases List.mem_cons.mp hp with rfl | hp'
  · exact ⟨(hs₃.2 _ (Ne.symm hCD)).trans (N₂ _ hp).1, (N₂ _ hp).2⟩
  · exact ⟨(hs₃.2 _ (hn₂ p hp').2).trans (N₂ p hp).1, (N₂ p hp).2⟩

theorem wpN_Assign_ListComp_range {h₀ : Heap} {L : Addr} {elt iter : PySem.Expr} {x y : Str} {px py : Pos} {scope : Scope} {pos spos : Pos} {cl : List (Str × Addr)} {Q : Flow → Shared → Prop} (J : Nat → List Value → List (Addr × Obj) → Prop)
    (h : wpN (model prog w) A (eval iter env) (fun xv s₁ => Held (∃ n r t u v m news, Builtin.Range.small 0 ((n : Nat) : Int) 1 = true ∧ n ≤ sizeLine ∧ xv = .ref r ∧ IsRange s₁.heap r 0 n 1 t u v ∧ Fr h₀ L s₁.heap m ∧ News h₀ L s₁.heap news ∧ J 0 [] news ∧
      TurnC prog w A env h₀ L m news elt x scope cl s₁.gens s₁.drawn s₁.os n (fun i v => ∃ t, v = .int (0 + i * 1) t) J ∧
      (∀ ys news₁ D k h₁ tk₁, J n ys news₁ → Fr h₀ L h₁ (fun z => if z = y then some (.ref D) else m z) → News h₀ L h₁ ((D, PySem.W.listOf ys.toArray k) :: news₁) → (∀ p ∈ news₁, p.1 ≠ D) → (∀ p ∈ news, p.1 < D) → Q .next ⟨h₁, s₁.gens, s₁.drawn, tk₁, s₁.os⟩))) s)
    (hL : env.locals = L) (hsw : swapsWith (.ListComp elt [⟨.Name x px, iter, [], 0⟩] scope pos) (some (.Name y py)) spos.line env = pure true)
    (hy : env.kindOf y = some .local) (hp : (env.scope.kind == .class || (env.scope.kind == .module && env.locals != env.globals)) = false)
    (hh : A.handled = none)
    (hclos : closureFor scope env = pure cl) (hcell : ∀ y ∈ scope.names, y.2 ≠ .cell) (hkind : scope.kind = .function)
    (hnames : ∀ y ∈ scope.names, y.2 = .local → scope.names.lookup y.1 = some .local) (hx : scope.names.lookup x = some .local)
    (hs : ∀ x, foldedSetIterable iter env x = pure x := by intro _; rfl) :
    wpN (model prog w) A (exec (.Assign [.Name y py] (.ListComp elt [⟨.Name x px, iter, [], 0⟩] scope pos) spos) env) Q s := by
  rw [exec_Assign_Name_used _ _ _ _ hsw]
  refine wpN_bind (wpN_standAt (wpN_bind ?_))
  show wpN _ A (do let _ ← comprehension (.ListComp elt [⟨.Name x px, iter, [], 0⟩] scope pos) scope env _ (newList []) false (eval iter env) (some (assign (.Name y py) env))) _ s
  refine wpN_bind (wpN_mono (wpN_comp (use := some (assign (.Name y py) env)) (Q := fun _ s' => Q .next s') rfl hs hclos hkind hnames (wpN_mono h (fun xv s₁ h₁ => ?_))) (fun _ s' hq => wpN_pure (wpN_pure hq)))
  obtain ⟨n, r, t, u, v, m, news, hsmall, hsz, rfl, hr, F, N, h0, step, fin⟩ := h₁
  refine wpN_any (wpAny_pyIter_range hr hsmall ?_)
  obtain ⟨F₁, N₁, a1, a2, a3⟩ := range_ground (o := { cls := .type "range_iterator", data := .fields #[rawInt 0, rawInt (Builtin.Range.rangeSize 0 n 1), rawInt 1] }) F N
  refine comp_blockI (RR := fun acc C => compPostN (model prog w) A (some (assign (.Name y py) env)) (fun _ s' => Q .next s') acc C) (Walks.range hh s₁.heap.objs.size 0 1 n) (fun i h e => ⟨_, e⟩) hsz hcell hkind hx a1 a2 (fun p hp => Nat.ne_of_lt (a3 p hp)) (by rw [rangeSize_nat]; exact Heap.get?_push_size _ rfl) F₁ N₁ J h0
    (fun i ys news₁ v mC C D oC oD oI h₂ tk₂ hi hJ hP F₂ N₂ hn₂ b1 b2 b3 b4 hns₂ hv => step i ys news₁ v mC C D _ oC oD oI h₂ tk₂ hi hJ hP F₂ N₂ hn₂ b1 b2 b3 (fun p hp => ⟨(b4 p hp).1, (b4 p hp).2, a3 p hp⟩) hns₂ hv)
    (fun ys news₁ mC C D k h₂ tk₂ hJ F₂ N₂ hn₂ hCD hCL hDL hC0 hlt hns₂ => ?_)
  show wpN _ A (assign (.Name y py) env (.ref D)) _ _
  subst hL
  refine wpN_any (wpAny_assign_Name (wpAny_storeName_local hy F₂.ns (fun h₄ hn₄ hs₄ => ?_) hp))
  have F₄ := F₂.set hn₄ hs₄
  have N₄ : News h₀ env.locals h₄ _ := N₂.set hs₄
  refine ⟨mC, hns₂.sameBut hs₄ hCL, fun h₃ hs₃ => ?_⟩
  refine fin ys news₁ D k h₃ _ hJ ⟨F₄.ns.sameBut hs₃ (Ne.symm hCL), fun b o e => (hs₃.2 b fun q => by rw [q, hC0] at e; cases e).trans (F₄.keep b o e), F₄.above⟩ (fun p hp => ?_) (fun p hp => (hn₂ p hp).1) hlt
  rcases List.mem_cons.mp hp with rfl | hp'
  · exact ⟨(hs₃.2 _ (Ne.symm hCD)).trans (N₄ _ hp).1, (N₄ _ hp).2⟩
  · exact ⟨(hs₃.2 _ (hn₂ p hp').2).trans (N₄ p hp).1, (N₄ p hp).2⟩
end
end Mine
namespace Mine
local macro_rules | `(tactic| walk_at "m use") => `(tactic| ((case B => k_asm); (case F => k_asm); (case X => k_asm); (case N => k_asm); (case T => k_asm); (case hk => first | exact rfl | assumption); (case hd => ktr_room); (case hu => ktr_units)))
local macro_rules | `(tactic| walk_at "c0") => `(tactic| (try dsimp only [List.nil_append, List.cons_append]))
local macro_rules | `(tactic| walk_at "c1") => `(tactic| (intro r9 h9 tk9 F9 N9 P9; subst P9; (try k_sweep); (try dsimp only)))
local macro_rules | `(tactic| walk_at "c3") => `(tactic| (intro r9 h9 tk9 F9 N9 P9; obtain ⟨u9, e9⟩ := P9; (try k_sweep); (try dsimp only)))
local macro_rules | `(tactic| walk_at "e1") => `(tactic| ((case hA => exact rfl); (case hf => exact rfl); (case hke => assumption); (case B => assumption); (case F => assumption); (case X₀ => assumption); (case N => assumption); (case T => assumption)))
local macro_rules | `(tactic| walk_at "e2") => `(tactic| ((case ho => first | exact getK (by assumption) (by assumption) (by k_is) | exact getN (by assumption) (by k_mem)); (case hd => exact rfl); (case hcd => first | exact codeK (by assumption) (by assumption) (by k_is) | exact codeRec_news (by assumption) (by k_mem) (by assumption) (by assumption))))
local macro_rules | `(tactic| walk_at "e3") => `(tactic| ((case hroom => ((try dsimp only [ktrTop]); omega)); (case hbind => exact BindsTo.of_eq rfl)))
local macro_rules | `(tactic| walk_at "e4") => `(tactic| ((case hco => exact rfl); (case hgen => exact rfl); (case hk => exact rfl)))
local macro_rules | `(tactic| walk_at "f8") => `(tactic| ((case hm => omega); (case hm2 => omega); (case hy => omega); (case hxl => omega); (case e01 => assumption); (case el0 => assumption); (case el1 => assumption); (case hints => assumption)))
local macro_rules | `(tactic| walk_at "f4") => `(tactic| ((case h0 => omega); (case h1 => omega); (case hf => omega); (case hc => assumption)))
local macro_rules | `(tactic| walk_at "sl") => `(tactic| (k_here; (with_reducible show wpAny _ _ (subscriptTail _ (Expr.Slice _ _ none _) (Value.bytes _ _) (Value.ref _)) _ _ _); (with_reducible rename Fr _ _ _ _ => F'); (with_reducible rename News _ _ _ _ => N'); (refine bslice_N (s := ⟨_, _, _, _, _⟩) F' N' (by constructor) (by constructor) (by first | omega | decide) ?_); intro _ _ _ _ _))
local macro_rules | `(tactic| walk_at "m enter") => `(tactic| (apply enterM; walk_at "e1"; walk_at "e2"; walk_at "e3"; (case hcell => decide); (case hloc => exact locs rfl); walk_at "e4"))
local macro_rules | `(tactic| k_room) => `(tactic| ktr_room)
local macro_rules | `(tactic| k_units) => `(tactic| ktr_units)
local macro_rules | `(tactic| walk_at "eval Name") => `(tactic| (kc_free; k_dflt (refine' nameX_F ?N ?c ?m ?d ?_ ?a ?b; (case b => rfl); (case a => rfl); (case N => k_asm); (case c => rfl); (case m => k_mem); (case d => k_asm); k_whole)))
local macro_rules | `(tactic| walk_at "LeaveK") => `(tactic| ((with_reducible rename Ret _ _ _ _ _ _ _ _ _ _ => ret9); k_dflt (refine' leaveM_sub ret9 ?F ?N ?G ?_); (case F => k_asm); (case N => k_asm); (case G => assumption)))
/- part A1 -/
theorem fill_A1 : (hd.heap_1 = hd.heap_1 ∧ PySem.Challenge.rw_xm0624_01 = PySem.Challenge.rw_xm0624_01) → True := by
  k_fill
  intro _; trivial
theorem anew_A1 {M : Model} {A : Around} {env : Env} {Q : Flow → Shared → Prop} {E : Value → Shared → Prop} {s : Shared} (h : wpAny M A (execs [] env) Q E s) : wpAny M A (execs [] env) Q E s := by
  w_top off
  try (walk1; fail)
  exact h
noncomputable def IsInt (r : Value) (k : Int) : Prop := ∃ u, r = .int k u
theorem isInt {a k : Int} {u : Tok} (h : a = k) : IsInt (.int a u) k := ⟨u, by rw [h]⟩
theorem IsInt.ex {r : Value} {k : Int} (h : IsInt r k) : ∃ u, r = .int k u := h
theorem IsInt.lit (k : Int) {r : Value} {j : Int} (h : j = k) (P : IsInt r j) : ∃ u, r = .int k u := h ▸ P
noncomputable def IsBytes (r : Value) (l : List UInt8) : Prop := ∃ u, r = .bytes l.toArray u
theorem isBytes {a l : List UInt8} {u : Tok} (h : a = l) : IsBytes (.bytes a.toArray u) l := ⟨u, by rw [h]⟩

noncomputable abbrev mEs (H : Nat → Int) (T : Nat → Tok) (tx pt dep lev st ln : Value) : List DictEntry :=
  [⟨H 0, .str (Str.ofString "text") (T 0), tx⟩, ⟨H 1, .str (Str.ofString "pattern") (T 1), pt⟩, ⟨H 2, .str (Str.ofString "most_depth") (T 2), .int 60 (T 8)⟩, ⟨H 3, .str (Str.ofString "tick") (T 3), .none⟩,
   ⟨H 4, .str (Str.ofString "depth") (T 4), dep⟩, ⟨H 5, .str (Str.ofString "level") (T 5), lev⟩, ⟨H 6, .str (Str.ofString "starts") (T 6), st⟩, ⟨H 7, .str (Str.ofString "lengths") (T 7), ln⟩]

noncomputable def nest (j : Nat) : Option Stmt := match (PySem.Challenge.pw_xm0624_01.main.body : List PySem.Stmt)[33]? with
  | some (PySem.Stmt.FunctionDef _ _ b _ _ _ _ _ _ _) => b[j]?
  | _ => none

theorem spec_at {prog : Program} {w : World} {tx pt dep lev st ln : Value} {x dx : Nat} {H : Nat → Int} {T : Nat → Tok} {i : Int} {t tt : Tok} {pl : List UInt8} (hi : 0 ≤ i) (hl : i ≤ 200) (hf : pl.length ≤ 100) (hp : pt = .bytes pl.toArray tt) :
    Spec prog w (.ref 147) [.ref x, .int i t] 2 12 [(x, instObj 267 dx), (dx, dictOf (mEs H T tx pt dep lev st ln) 8)] (fun r new => IsInt r (pl.getD i.toNat 0).toNat ∧ new = [(x, instObj 267 dx), (dx, dictOf (mEs H T tx pt dep lev st ln) 8)]) := by
  subst hp
  intro p loose mean mg mb dp un gd cn cs a ccd cl outer A₀ base h₀ L m s Q E B F X N Tp hk hd hu ret
  refine wpAny_call ?_
  walk_at "m enter"
  intro g L' h₁ FG F' N' B' X' T' l1 G
  (try dsimp only)
  (try k_fold)
  k_steps
  · exact ⟨_, ⟨isInt rfl, rfl⟩, fun _ h => h⟩
  · refine ⟨_, ⟨isInt ?_, rfl⟩, fun _ h => h⟩
    rename_i hh
    have hh' : pl.length ≤ i.toNat := by simp at hh; omega
    simp [List.getD, List.getElem?_eq_none hh']

theorem spec_count {prog : Program} {w : World} {tx pt dep lev st ln : Value} {x dx : Nat} {H : Nat → Int} {T : Nat → Tok} :
    Spec prog w (.ref 133) [.ref x] 2 12 [(x, instObj 267 dx), (dx, dictOf (mEs H T tx pt dep lev st ln) 8)] (fun r new => r = .none ∧ new = [(x, instObj 267 dx), (dx, dictOf (mEs H T tx pt dep lev st ln) 8)]) := by
  intro p loose mean mg mb dp un gd cn cs a ccd cl outer A₀ base h₀ L m s Q E B F X N Tp hk hd hu ret
  refine wpAny_call ?_
  walk_at "m enter"
  intro g L' h₁ FG F' N' B' X' T' l1 G
  (try dsimp only)
  (try k_fold)
  k_steps
  exact ⟨_, ⟨rfl, rfl⟩, fun _ h => h⟩
/- part B2 -/
theorem anew_B2 {M : Model} {A : Around} {env : Env} {Q : Flow → Shared → Prop} {E : Value → Shared → Prop} {s : Shared} (h : wpAny M A (execs [] env) Q E s) : wpAny M A (execs [] env) Q E s := by
  w_top off
  try (walk1; fail)
  exact h
theorem bool_yes {c k n : Int} (h : k = c) (hk : k < n) : Value.bool true = .bool (decide (c < n)) := by rw [decide_eq_true (by omega)]
theorem bool_no2 {c : Int} (h1 : 97 ≤ c) (h2 : c ≤ 99) (ha : (97 : Int) ≠ c) (hb : (98 : Int) ≠ c) : Value.bool false = .bool (decide (c < 99)) := by rw [decide_eq_false (by omega)]
theorem absurd3 {P : Prop} {c : Int} (h1 : 97 ≤ c) (h2 : c ≤ 99) (ha : (97 : Int) ≠ c) (hb : (98 : Int) ≠ c) (hc : (99 : Int) ≠ c) : P := by exfalso; omega
noncomputable def isIn (nr : Nat) (l : List UInt8) (i : Int) : Bool := decide (i < l.length ∧ (l.getD i.toNat 0).toNat < 97 + nr)
theorem isIn_out {nr : Nat} {l : List UInt8} {i : Int} (h : ((l.toArray.size : Nat) : Int) ≤ i) : Value.bool false = .bool (isIn nr l i) := by
  unfold isIn; rw [decide_eq_false]; rw [List.size_toArray] at h; omega
theorem isIn_is {nr : Nat} {l : List UInt8} {i k : Int} (h : ¬ ((l.toArray.size : Nat) : Int) ≤ i) (hk : k = 97 + nr) : Value.bool (decide (((l.getD i.toNat 0).toNat : Int) < k)) = .bool (isIn nr l i) := by
  unfold isIn; rw [List.size_toArray] at h; congr 2; apply propext
  constructor
  · intro q; exact ⟨by omega, by omega⟩
  · intro q; have := q.2; omega
theorem isIn_is' {nr : Nat} {l : List UInt8} {i : Int} (h : ¬ ((l.toArray.size : Nat) : Int) ≤ i) : Value.bool (decide (((l.getD i.toNat 0).toNat : Int) < 97 + nr)) = .bool (isIn nr l i) := isIn_is h rfl
noncomputable def PatN (nr : Nat) (pl : List UInt8) : Prop := nr = 2 ∧ pl = [91, 97, 98, 93] ∨ nr = 3 ∧ pl = [91, 97, 98, 99, 93]
theorem PatN.size {nr : Nat} {pl : List UInt8} (h : PatN nr pl) : pl.length = nr + 2 ∧ nr ≤ 3 := by rcases h with ⟨rfl, rfl⟩ | ⟨rfl, rfl⟩ <;> decide
theorem PatN.first {nr : Nat} {pl : List UInt8} (h : PatN nr pl) : ((pl.getD (0 : Int).toNat 0).toNat : Int) = 91 := by rcases h with ⟨rfl, rfl⟩ | ⟨rfl, rfl⟩ <;> decide
theorem PatN.ne {nr : Nat} {pl : List UInt8} (h : PatN nr pl) (k : Int) (hk : k ≠ 91) : ((pl.getD (0 : Int).toNat 0).toNat : Int) ≠ k := by rw [h.first]; exact hk.symm
theorem PatN.last {nr : Nat} {pl : List UInt8} (h : PatN nr pl) : ((pl.getD ((pl.length : Nat) : Int).toNat 0).toNat : Int) = 0 := by rcases h with ⟨rfl, rfl⟩ | ⟨rfl, rfl⟩ <;> decide
theorem PatN.neL {nr : Nat} {pl : List UInt8} (h : PatN nr pl) (k : Int) (hk : k ≠ 0) : ((pl.getD ((pl.length : Nat) : Int).toNat 0).toNat : Int) ≠ k := by rw [h.last]; exact hk.symm
theorem PatN.pos {nr : Nat} {pl : List UInt8} (h : PatN nr pl) : (0 : Int) < ((pl.toArray.size : Nat) : Int) := by rcases h with ⟨rfl, rfl⟩ | ⟨rfl, rfl⟩ <;> decide
theorem ite_decN {P a b : Prop} {d : Decidable P} (h : ¬ P) (hb : b) : if @decide P d = true then a else b := by rw [if_neg (fun q => h (of_decide_eq_true q))]; exact hb
theorem ite_decP {P a b : Prop} {d : Decidable P} (h : P) (ha : a) : if @decide P d = true then a else b := by rw [if_pos (decide_eq_true h)]; exact ha
theorem ite_eqN {x y : Int} {a b : Prop} (h : x ≠ y) (hb : b) : if (x == y) = true then a else b := by rw [if_neg (fun q => h (beq_iff_eq.mp q))]; exact hb
theorem ite_eqP {x y : Int} {a b : Prop} (h : x = y) (ha : a) : if (x == y) = true then a else b := by rw [if_pos (beq_iff_eq.mpr h)]; exact ha
theorem PatN.stop {pl : List UInt8} : ¬ ((pl.length : Nat) : Int) < ((pl.toArray.size : Nat) : Int) := by rw [List.size_toArray]; omega
noncomputable def endsVal (nr : Nat) (l : List UInt8) (i : Int) (u : Tok) : Value := if isIn nr l i = true then .int (i + 1) u else .none
theorem endsVal_yes {nr : Nat} {l : List UInt8} {i : Int} {u : Tok} (h : isIn nr l i = true) : ∃ u', Value.int (i + 1) u = endsVal nr l i u' := ⟨u, by unfold endsVal; rw [if_pos h]⟩
theorem endsVal_no {nr : Nat} {l : List UInt8} {i : Int} (h : isIn nr l i = false) : ∃ u', Value.none = endsVal nr l i u' := ⟨0, by unfold endsVal; rw [if_neg (by rw [h]; exact Bool.false_ne_true)]⟩
local macro_rules | `(tactic| walk_at "c2") => `(tactic| (intro r9 h9 tk9 F9 N9 P9; (first | (with_unfolding_all replace P9 : IsInt _ 91 := P9) | (with_unfolding_all replace P9 : IsInt _ 97 := P9) | (with_unfolding_all replace P9 : IsInt _ 98 := P9) | (with_unfolding_all replace P9 : IsInt _ 99 := P9) | (with_unfolding_all replace P9 : IsInt _ 93 := P9) | (with_unfolding_all replace P9 : IsInt _ 0 := P9) | skip); obtain ⟨u9, e9⟩ := IsInt.ex P9; subst e9; (try k_sweep); (try dsimp only)))
local macro_rules | `(tactic| walk_at "call ref") => `(tactic| (walk_at "c0"; (with_reducible show wpAny _ _ (call (Value.ref 147) _) _ _ _); k_dflt (apply Spec.useP (spec_at ?h1 ?h2 ?h3 ?h4); walk_at "m use"; (case hpre => kcj_all); (case h4 => exact rfl); (case h3 => first | decide | omega); (case h1 => omega); (case h2 => omega); k_whole); walk_at "c2"))
local macro_rules | `(tactic| walk_at "call ref") => `(tactic| (walk_at "c0"; (with_reducible show wpAny _ _ (call (Value.ref 133) _) _ _ _); k_dflt (apply Spec.useP spec_count; walk_at "m use"; (case hpre => kcj_all); k_whole); walk_at "c1"))
set_option linter.unusedVariables false in
theorem spec_cend {prog : Program} {w : World} {dep lev st ln : Value} {x dx : Nat} {H : Nat → Int} {T : Nat → Tok} {t tt tp : Tok} {l : List UInt8} {nr : Nat} {pl : List UInt8} (hP : PatN nr pl) :
    Spec prog w (.ref 154) [.ref x, .int 0 t] 4 30 [(x, instObj 267 dx), (dx, dictOf (mEs H T (.bytes l.toArray tt) (.bytes pl.toArray tp) dep lev st ln) 8)]
      (fun r new => IsInt r (pl.length : Int) ∧ new = [(x, instObj 267 dx), (dx, dictOf (mEs H T (.bytes l.toArray tt) (.bytes pl.toArray tp) dep lev st ln) 8)]) := by
  rcases hP with ⟨rfl, rfl⟩ | ⟨rfl, rfl⟩
  · intro p loose mean mg mb dp un gd cn cs a ccd cl outer A₀ base h₀ L m s Q E B F X N Tp hk hd hu ret
    refine wpAny_call ?_
    walk_at "m enter"
    intro g L' h₁ FG F' N' B' X' T' l1 G
    (try dsimp only)
    (try k_fold)
    k_steps
    exact ⟨_, ⟨isInt (by decide), rfl⟩, by kcj_all⟩
  · intro p loose mean mg mb dp un gd cn cs a ccd cl outer A₀ base h₀ L m s Q E B F X N Tp hk hd hu ret
    refine wpAny_call ?_
    walk_at "m enter"
    intro g L' h₁ FG F' N' B' X' T' l1 G
    (try dsimp only)
    (try k_fold)
    k_steps
    exact ⟨_, ⟨isInt (by decide), rfl⟩, by kcj_all⟩
set_option linter.unusedVariables false in
theorem spec_inset {prog : Program} {w : World} {dep lev st ln : Value} {x dx : Nat} {H : Nat → Int} {T : Nat → Tok} {t tt tp : Tok} {l : List UInt8} {nr : Nat} {pl : List UInt8} {c e : Int} {t1 t2 : Tok} (hP : PatN nr pl) (he : e = pl.length - 1) (h1 : 97 ≤ c) (h2 : c ≤ 99) :
    Spec prog w (.ref 161) [.ref x, .int c t, .int 0 t1, .int e t2] 4 30 [(x, instObj 267 dx), (dx, dictOf (mEs H T (.bytes l.toArray tt) (.bytes pl.toArray tp) dep lev st ln) 8)]
      (fun r new => r = .bool (decide (c < 97 + nr)) ∧ new = [(x, instObj 267 dx), (dx, dictOf (mEs H T (.bytes l.toArray tt) (.bytes pl.toArray tp) dep lev st ln) 8)]) := by
  rcases hP with ⟨rfl, rfl⟩ | ⟨rfl, rfl⟩
  · have he : e = 3 := he
    subst he
    intro p loose mean mg mb dp un gd cn cs a ccd cl outer A₀ base h₀ L m s Q E B F X N Tp hk hd hu ret
    refine wpAny_call ?_
    walk_at "m enter"
    intro g L' h₁ FG F' N' B' X' T' l1 G
    (try dsimp only)
    (try k_fold)
    k_steps
    · exact ⟨_, ⟨bool_yes (by assumption) (by decide), rfl⟩, by kcj_all⟩
    · exact ⟨_, ⟨bool_yes (by assumption) (by decide), rfl⟩, by kcj_all⟩
    · exact ⟨_, ⟨bool_no2 (by assumption) (by assumption) (by assumption) (by assumption), rfl⟩, by kcj_all⟩
  · have he : e = 4 := he
    subst he
    intro p loose mean mg mb dp un gd cn cs a ccd cl outer A₀ base h₀ L m s Q E B F X N Tp hk hd hu ret
    refine wpAny_call ?_
    walk_at "m enter"
    intro g L' h₁ FG F' N' B' X' T' l1 G
    (try dsimp only)
    (try k_fold)
    k_steps
    · exact ⟨_, ⟨bool_yes (by assumption) (by decide), rfl⟩, by kcj_all⟩
    · exact ⟨_, ⟨bool_yes (by assumption) (by decide), rfl⟩, by kcj_all⟩
    · exact ⟨_, ⟨bool_yes (by assumption) (by decide), rfl⟩, by kcj_all⟩
    · exact absurd3 (c := c) (by assumption) (by assumption) (by assumption) (by assumption) (by assumption)
local macro_rules | `(tactic| walk_at "call ref") => `(tactic| (walk_at "c0"; (with_reducible show wpAny _ _ (call (Value.ref 161) _) _ _ _); k_dflt (apply Spec.useP (spec_inset ?hp ?he ?h1 ?h2); walk_at "m use"; (case hpre => kcj_all); (case hp => assumption); (case he => first | exact rfl | omega); (case h1 => walk_at "m letter"); (case h2 => walk_at "m letter"); k_whole); walk_at "c1"))
local macro_rules | `(tactic| walk_at "m letter") => `(tactic| (first | omega | (rename ¬ (((List.toArray _).size : Nat) : Int) ≤ _ => q9; rename _ → _ ∧ _ => c9; rw [List.size_toArray] at q9; have r9 := c9 (by omega); omega)))
local macro_rules | `(tactic| walk_at "ite") => `(tactic| (k_here; k_openite; first | refine ite_eqN (by with_reducible assumption) ?_ | (refine ite_eqP (by with_reducible assumption) ?_)))
local macro_rules | `(tactic| walk_at "WhlIf") => `(tactic| (first | (refine WhlIf.yes (decide_eq_true (by with_reducible assumption)) ?_) | (refine WhlIf.no (decide_eq_false (by with_reducible assumption)) ?_)))
set_option linter.unusedVariables false in
theorem spec_single {prog : Program} {w : World} {dep lev st ln : Value} {x dx : Nat} {H : Nat → Int} {T : Nat → Tok} {t tt tp : Tok} {l : List UInt8} {nr : Nat} {pl : List UInt8} {i e : Int} {t1 t2 : Tok} (hP : PatN nr pl) (he : e = pl.length) (h0 : 0 ≤ i) (h1 : i ≤ l.length) (hfit : l.length ≤ 100) (hc : i < l.length → 97 ≤ (l.getD i.toNat 0).toNat ∧ (l.getD i.toNat 0).toNat ≤ 99) :
    Spec prog w (.ref 168) [.ref x, .int i t, .int 0 t1, .int e t2] 7 40 [(x, instObj 267 dx), (dx, dictOf (mEs H T (.bytes l.toArray tt) (.bytes pl.toArray tp) dep lev st ln) 8)]
      (fun r new => r = .bool (isIn nr l i) ∧ new = [(x, instObj 267 dx), (dx, dictOf (mEs H T (.bytes l.toArray tt) (.bytes pl.toArray tp) dep lev st ln) 8)]) := by
  subst he
  have hsz := hP.size
  have h91 := hP.first
  have hpos := hP.pos
  have f46 := hP.ne 46 (by decide)
  have f37 := hP.ne 37 (by decide)
  intro p loose mean mg mb dp un gd cn cs a ccd cl outer A₀ base h₀ L m s Q E B F X N Tp hk hd hu ret
  refine wpAny_call ?_
  walk_at "m enter"
  intro g L' h₁ FG F' N' B' X' T' l1 G
  (try dsimp only)
  (try k_fold)
  k_steps
  · exact ⟨_, ⟨isIn_out (by assumption), rfl⟩, by kcj_all⟩
  · exact ⟨_, ⟨isIn_is (by assumption) rfl, rfl⟩, by kcj_all⟩
local macro_rules | `(tactic| walk_at "call ref") => `(tactic| (walk_at "c0"; (with_reducible show wpAny _ _ (call (Value.ref 154) _) _ _ _); k_dflt (apply Spec.useP (spec_cend ?hp); walk_at "m use"; (case hpre => kcj_all); (case hp => assumption); k_whole); walk_at "c2"))
local macro_rules | `(tactic| walk_at "call ref") => `(tactic| (walk_at "c0"; (with_reducible show wpAny _ _ (call (Value.ref 168) _) _ _ _); k_dflt (apply Spec.useP (spec_single ?hp ?he ?h0 ?h1 ?hf ?hc); walk_at "m use"; (case hpre => kcj_all); (case hp => assumption); (case he => first | exact rfl | omega); walk_at "f4"; k_whole); walk_at "c1"))
set_option linter.unusedVariables false in
theorem spec_mhere {prog : Program} {w : World} {dep lev st ln : Value} {x dx : Nat} {H : Nat → Int} {T : Nat → Tok} {t tt tp : Tok} {l : List UInt8} {nr : Nat} {pl : List UInt8} {i : Int} {t1 : Tok} (hP : PatN nr pl) (h0 : 0 ≤ i) (h1 : i ≤ l.length) (hfit : l.length ≤ 100) (hc : i < l.length → 97 ≤ (l.getD i.toNat 0).toNat ∧ (l.getD i.toNat 0).toNat ≤ 99) :
    Spec prog w (.ref 182) [.ref x, .int i t, .int 0 t1] 10 60 [(x, instObj 267 dx), (dx, dictOf (mEs H T (.bytes l.toArray tt) (.bytes pl.toArray tp) dep lev st ln) 8)]
      (fun r new => (∃ u, r = endsVal nr l i u) ∧ new = [(x, instObj 267 dx), (dx, dictOf (mEs H T (.bytes l.toArray tt) (.bytes pl.toArray tp) dep lev st ln) 8)]) := by
  have hsz := hP.size
  have h91 := hP.first
  have hpos := hP.pos
  have hstop := PatN.stop (pl := pl)
  have f40 := hP.ne 40 (by decide)
  have f41 := hP.ne 41 (by decide)
  have f36 := hP.ne 36 (by decide)
  have f37 := hP.ne 37 (by decide)
  have f42 := hP.neL 42 (by decide)
  have f43 := hP.neL 43 (by decide)
  have f45 := hP.neL 45 (by decide)
  have f63 := hP.neL 63 (by decide)
  intro p loose mean mg mb dp un gd cn cs a ccd cl outer A₀ base h₀ L m s Q E B F X N Tp hk hd hu ret
  refine wpAny_call ?_
  walk_at "m enter"
  intro g L' h₁ FG F' N' B' X' T' l1 G
  (try dsimp only)
  (try k_fold)
  k_steps
  · exact ⟨_, ⟨endsVal_yes (by assumption), rfl⟩, by kcj_all⟩
  · exact ⟨_, ⟨endsVal_no (by assumption), rfl⟩, by kcj_all⟩
local macro_rules | `(tactic| walk_at "call ref") => `(tactic| (walk_at "c0"; (with_reducible show wpAny _ _ (call (Value.ref 182) _) _ _ _); k_dflt (apply Spec.useP (spec_mhere ?hp ?h0 ?h1 ?hf ?hc); walk_at "m use"; (case hpre => kcj_all); (case hp => assumption); walk_at "f4"; k_whole); walk_at "c3"))
set_option linter.unusedVariables false in
theorem spec_ends {prog : Program} {w : World} {f c' mc x dx : Nat} (n1 : x ≠ dx) (n2 : f ≠ dx) (n3 : c' ≠ dx) (n4 : mc ≠ dx) {oc' om : Obj} {H : Nat → Int} {T : Nat → Tok} {dep lev st ln : Value} {qual doc pm ctv} {t tt tp ct : Tok} {i : Int} {l pl : List UInt8} {nr : Nat} {vs : Array Value}
    {name params body ds r tps scope ts bind pos}
    (hE : nest 1 = some (.FunctionDef name params body ds r tps scope ts bind pos)) (hv : oc'.data = .fields vs) (hq : vs[1]? = some (.str qual ct)) (hm : om.data = .cell (some (.ref x)))
    (hP : PatN nr pl) (h0 : 0 ≤ i) (h1 : i ≤ l.length) (hfit : l.length ≤ 100) (hc : i < l.length → 97 ≤ (l.getD i.toNat 0).toNat ∧ (l.getD i.toNat 0).toNat ≤ 99) :
    Spec prog w (.ref f) [.int i t] 14 100 [(f, fnMade name qual params body scope [(Str.ofString "matcher", mc)] doc pm c' ctv), (c', oc'), (mc, om), (x, instObj 267 dx), (dx, dictOf (mEs H T (.bytes l.toArray tt) (.bytes pl.toArray tp) dep lev st ln) 8)]
      (fun r new => (∃ u, r = endsVal nr l i u) ∧ ∃ dep lev st ln, new = [(f, fnMade name qual params body scope [(Str.ofString "matcher", mc)] doc pm c' ctv), (c', oc'), (mc, om), (x, instObj 267 dx), (dx, dictOf (mEs H T (.bytes l.toArray tt) (.bytes pl.toArray tp) dep lev st ln) 8)]) := by
  cases hE
  intro p loose mean mg mb dp un gd cn cs a ccd cl outer A₀ base h₀ L m s Q E B F X N Tp hk hd hu ret
  refine wpAny_call ?_
  walk_at "m enter"
  intro g L' h₁ FG F' N' B' X' T' l1 G
  (try dsimp only)
  (try k_fold)
  k_steps
  exact ⟨_, ⟨⟨_, by assumption⟩, _, _, _, _, rfl⟩, by kcj_all⟩
/- part R1 -/
theorem anew_R1 {M : Model} {A : Around} {env : Env} {Q : Flow → Shared → Prop} {E : Value → Shared → Prop} {s : Shared} (h : wpAny M A (execs [] env) Q E s) : wpAny M A (execs [] env) Q E s := by
  w_top off
  try (walk1; fail)
  exact h
local macro_rules | `(tactic| walk_at "subscriptTail") => `(tactic| walk_at "sl")
noncomputable def grow (R : List (List UInt8)) : List UInt8 → Nat → List UInt8 × Nat
  | [], _ => ([], 0)
  | c :: l, 0 => (c :: l, 0)
  | c :: l, m + 1 => if c.toNat < 97 + R.length then (R.getD (c.toNat - 97) [] ++ (grow R l m).1, (grow R l m).2 + 1) else (c :: (grow R l (m + 1)).1, (grow R l (m + 1)).2)

theorem grow_yes {R : List (List UInt8)} {l : List UInt8} {i k : Nat} (hil : i < l.length) (h : (l.getD i 0).toNat < 97 + R.length) :
    grow R (l.drop i) (k + 1) = (R.getD ((l.getD i 0).toNat - 97) [] ++ (grow R (l.drop (i + 1)) k).1, (grow R (l.drop (i + 1)) k).2 + 1) := by
  have e : l.getD i 0 = l[i] := by simp [List.getD, List.getElem?_eq_getElem hil]
  rw [e] at h ⊢
  rw [List.drop_eq_getElem_cons hil, grow, if_pos h]
theorem grow_no {R : List (List UInt8)} {l : List UInt8} {i k : Nat} (hil : i < l.length) (h : ¬ (l.getD i 0).toNat < 97 + R.length) :
    grow R (l.drop i) (k + 1) = (l.getD i 0 :: (grow R (l.drop (i + 1)) (k + 1)).1, (grow R (l.drop (i + 1)) (k + 1)).2) := by
  have e : l.getD i 0 = l[i] := by simp [List.getD, List.getElem?_eq_getElem hil]
  rw [e] at h ⊢
  rw [List.drop_eq_getElem_cons hil, grow, if_neg h]
theorem grow_zero {R : List (List UInt8)} {l : List UInt8} : grow R l 0 = (l, 0) := by cases l <;> rfl
theorem grow_nil {R : List (List UInt8)} {k : Nat} : grow R [] k = ([], 0) := rfl

noncomputable abbrev baObj (b : List UInt8) : Obj := { cls := .type "bytearray", data := .bytearray b.toArray }
section
variable {g h h' : Heap} {L a : Addr} {m : Str → Option Value} {led : List (Addr × Obj)} {b b' : List UInt8}
theorem ba_news (F : Fr g L h m) (N : News g L h led) (hb : BA h' h.objs.size #[]) (hk : ∀ b o, h.get? b = some o → h'.get? b = some o) :
    Fr g L h' m ∧ News g L h' ((h.objs.size, baObj []) :: led) ∧ ∀ p ∈ led, p.1 < h.objs.size := by
  refine ⟨⟨F.ns.keeps hk, fun b o e => hk _ _ (F.keep b o e), F.above⟩, fun p hp => ?_, fun p hp => Heap.lt_size (N p hp).1⟩
  rcases List.mem_cons.mp hp with rfl | hp
  · refine ⟨hb, Nat.ne_of_gt F.ns.lt, ?_⟩
    cases q : g.get? h.objs.size with
    | none => rfl
    | some o => exact absurd (Heap.lt_size (F.keep _ _ q)) (Nat.lt_irrefl _)
  · exact ⟨hk _ _ (N p hp).1, (N p hp).2⟩
theorem ba_same (F : Fr g L h m) (N : News g L h ((a, baObj b) :: led)) (hn : ∀ p ∈ led, p.1 ≠ a) (hb : BA h' a b'.toArray) (hs : Heap.SameBut a h h') : Fr g L h' m ∧ News g L h' ((a, baObj b') :: led) := by
  have na := N _ (.head _)
  refine ⟨⟨F.ns.sameBut hs (Ne.symm na.2.1), fun b o e => (hs.2 b fun q => ?_).trans (F.keep b o e), F.above⟩, fun p hp => ?_⟩
  · rw [q, na.2.2] at e; cases e
  · rcases List.mem_cons.mp hp with rfl | hp
    · exact ⟨hb, na.2⟩
    · exact ⟨(hs.2 _ (hn p hp)).trans (N p (.tail _ hp)).1, (N p (.tail _ hp)).2⟩
theorem ba_at (N : News g L h ((a, baObj b) :: led)) : BA h a b.toArray := (N _ (.head _)).1
end
theorem Spec.mono {prog : Program} {w : World} {f : Value} {vs : List Value} {dk uk : Nat} {pre : List (Addr × Obj)} {Post Post' : Value → List (Addr × Obj) → Prop} (S : Spec prog w f vs dk uk pre Post) (h : ∀ r new, Post r new → Post' r new) : Spec prog w f vs dk uk pre Post' :=
  fun p loose mean mg mb dp un gd cn cs a ccd cl outer A₀ base h₀ L m s Q E B F X N T hk hd hu ret => S p loose mean mg mb dp un gd cn cs a ccd cl outer A₀ base h₀ L m s Q E B F X N T hk hd hu fun r h' tk' new F' N' P k => ret r h' tk' new F' N' (h r new P) k

local macro_rules | `(tactic| walk_at "n enter") => `(tactic| (apply enterMN; walk_at "e1"; walk_at "e2"; walk_at "e3"; (case hcell => decide); (case hloc => exact locs rfl); walk_at "e4"))

local macro_rules | `(tactic| walk_at "call type:bytes") => `(tactic| ((with_reducible show wpAny _ _ (call (Value.type "bytes") [Value.ref _]) _ _ _); k_dflt (refine' call_bytes_ba ?h ?z ?_; (case h => exact ba_at (by k_asm)); (case z => rw [List.size_toArray, sizeLine_eq]; assumption)); intro t9 k9))
noncomputable abbrev baseFr (text : Value) (most : Value) (fe fg : Nat) : Str → Option Value := fun y => List.lookup y [(Str.ofString "give", .ref fg), (Str.ofString "ends_at", .ref fe), (Str.ofString "is_bound", .bool false), (Str.ofString "most", most), (Str.ofString "text", text)]
noncomputable abbrev canonFr (text : Value) (most : Value) (fe fg fa : Nat) (ve : Option Value) (va vm : Value) : Str → Option Value := fun y => if y = Str.ofString "end" then ve else if y = Str.ofString "at" then some va else if y = Str.ofString "many" then some vm else if y = Str.ofString "found" then some (.ref fa) else baseFr text most fe fg y

theorem canon_of {f : Str → Option Value} {text most : Value} {fe fg fa : Nat} {ve : Option Value} {va vm : Value} (h1 : f (Str.ofString "end") = ve) (h2 : f (Str.ofString "at") = some va) (h3 : f (Str.ofString "many") = some vm) (h4 : f (Str.ofString "found") = some (.ref fa))
    (h5 : ∀ y, y ≠ Str.ofString "end" → y ≠ Str.ofString "at" → y ≠ Str.ofString "many" → y ≠ Str.ofString "found" → f y = baseFr text most fe fg y) : f = canonFr text most fe fg fa ve va vm := by
  funext y
  by_cases a : y = Str.ofString "end"
  · subst a; rw [h1]; rfl
  by_cases b : y = Str.ofString "at"
  · subst b; rw [h2]; rfl
  by_cases c : y = Str.ofString "many"
  · subst c; rw [h3]; rfl
  by_cases d : y = Str.ofString "found"
  · subst d; rw [h4]; rfl
  rw [h5 y a b c d]
  show _ = if y = Str.ofString "end" then ve else if y = Str.ofString "at" then some va else if y = Str.ofString "many" then some vm else if y = Str.ofString "found" then some (.ref fa) else baseFr text most fe fg y
  rw [if_neg a, if_neg b, if_neg c, if_neg d]
theorem fr_canon {g h : Heap} {L : Addr} {f : Str → Option Value} {text most : Value} {fe fg fa : Nat} {ve : Option Value} {va vm : Value} (F : Fr g L h f) (h1 : f (Str.ofString "end") = ve) (h2 : f (Str.ofString "at") = some va) (h3 : f (Str.ofString "many") = some vm) (h4 : f (Str.ofString "found") = some (.ref fa))
    (h5 : ∀ y, y ≠ Str.ofString "end" → y ≠ Str.ofString "at" → y ≠ Str.ofString "many" → y ≠ Str.ofString "found" → f y = baseFr text most fe fg y) : Fr g L h (canonFr text most fe fg fa ve va vm) := canon_of h1 h2 h3 h4 h5 ▸ F
theorem news_sub {g h : Heap} {L : Addr} {n n' : List (Addr × Obj)} (N : News g L h n) (hs : ∀ p ∈ n', p ∈ n) : News g L h n' := fun p hp => N p (hs p hp)

set_option linter.unusedVariables false in
theorem specN_replaced {prog : Program} {w : World} {nr : Nat} {R : List (List UInt8)} {l : List UInt8} {fe fg : Nat} {led₀ : List (Addr × Obj)} {PE : List (Addr × Obj) → Prop} {tt tm : Tok} {most : Nat}
    (hnr : R.length = nr) (hfit : l.length ≤ 100) (hm : most ≤ 99) (hR : ∀ r ∈ R, r.length ≤ 100) (hlet : ∀ c ∈ l, 97 ≤ c.toNat ∧ c.toNat ≤ 99)
    (hp₀ : PE led₀)
    (hE : ∀ led (i : Int) t, PE led → 0 ≤ i → i ≤ l.length → Spec prog w (.ref fe) [.int i t] 14 100 led (fun r new => (∃ u, r = endsVal nr l i u) ∧ PE new ∧ new.map (·.1) = led.map (·.1)))
    (hG : ∀ led (i : Int) t t', PE led → 0 ≤ i → i < l.length → isIn nr l i = true → Spec prog w (.ref fg) [.int i t, .int (i + 1) t'] 14 100 led (fun r new => IsBytes r (R.getD ((l.getD i.toNat 0).toNat - 97) []) ∧ PE new ∧ new.map (·.1) = led.map (·.1)))
    (hFe : ∀ led, PE led → ∃ oc od fd sl, (fe, (⟨oc, od, .func fd, sl⟩ : Obj)) ∈ led) (hFg : ∀ led, PE led → ∃ oc od fd sl, (fg, (⟨oc, od, .func fd, sl⟩ : Obj)) ∈ led) :
    SpecN prog w (.ref 28) [.bytes l.toArray tt, .int most tm, .bool false, .ref fe, .ref fg] 20 160 led₀
      (fun r new => ∃ a t u led, r = .ref a ∧ PE led ∧ led.map (·.1) = led₀.map (·.1) ∧ new = (a, { cls := .type "tuple", data := .seq #[.bytes (grow R l most).1.toArray t, .int (grow R l most).2 u] }) :: led) := by
  intro p loose mean mg mb dp un gd cn cs a ccd cl outer A₀ base h₀ L m s Q B F X N Tp hk hd hu ret
  refine wpN_call ?_
  walk_at "n enter"
  intro g L' h₁ FG F' N' B' X' T' l1 G
  replace F' : Fr g L' h₁ (baseFr (.bytes l.toArray tt) (.int most tm) fe fg) := F'
  refine wpN_execs_cons ?_
  refine wpN_Assign_Tuple_swapped (names := [Str.ofString "found", Str.ofString "at", Str.ofString "many"]) ?_
  refine wpN_Tuple (wpN_spliced_cons ?_)
  refine wpN_Call_Name (wpN_any ?_)
  k_steps
  refine wpN_callWith rfl (wpN_evalArgs_nil (Held.mk ⟨⟨.machine, .inr (.inl rfl), Looks.of_pure rfl⟩, ?_⟩))
  refine call_ba_new fun h' hb' hk' => ?_
  rename Fr g L' _ _ => F'
  rename News g L' _ _ => N'
  obtain ⟨F2, N2, l2⟩ := ba_news F' N' hb' hk'
  clear hb' hk' F' N' l1
  generalize h₁.objs.size = fa at *
  refine wpN_any ?_
  k_steps
  rename Fr g L' _ _ => F3
  rename News g L' _ _ => N3
  replace F3 := fr_canon (text := .bytes l.toArray tt) (most := .int most tm) (fe := fe) (fg := fg) F3 rfl rfl rfl rfl (fun y a b c d => by simp only [canonFr, a, b, c, d, if_false])
  replace N3 : News g L' _ ((fa, baObj []) :: led₀) := news_sub N3 (fun p hp => .tail _ hp)
  have hfa : ∀ p ∈ led₀, p.1 ≠ fa := fun p hp => Nat.ne_of_lt (l2 p hp)
  clear l2
  refine wpN_execs_cons (wpN_mono (Q := fun f s' => Held (f = .next ∧ ∃ (i many : Nat) (acc : List UInt8) (led : List (Addr × Obj)) (ve : Option Value) (ti tn : Tok) (h : Heap) (tk : Nat), s' = ⟨h, s.gens, s.drawn, tk, s.os⟩ ∧
    Fr g L' h (canonFr (.bytes l.toArray tt) (.int most tm) fe fg fa ve (.int i ti) (.int many tn)) ∧ News g L' h ((fa, baObj acc) :: led) ∧ PE led ∧ led.map (·.1) = led₀.map (·.1) ∧ i ≤ l.length ∧ acc.length ≤ 100 * i ∧
    acc ++ l.drop i = (grow R l most).1 ∧ many = (grow R l most).2)) (wpN_While (codeN_whileLoop (I := fun n s' => ∃ (i many : Nat) (acc : List UInt8) (led : List (Addr × Obj)) (ve : Option Value) (ti tn : Tok) (h : Heap) (tk : Nat), s' = ⟨h, s.gens, s.drawn, tk, s.os⟩ ∧
    Fr g L' h (canonFr (.bytes l.toArray tt) (.int most tm) fe fg fa ve (.int i ti) (.int many tn)) ∧ News g L' h ((fa, baObj acc) :: led) ∧ PE led ∧ led.map (·.1) = led₀.map (·.1) ∧ i ≤ l.length ∧ many ≤ i ∧ many ≤ most ∧ acc.length ≤ 100 * i ∧
    acc ++ (grow R (l.drop i) (most - many)).1 = (grow R l most).1 ∧ many + (grow R (l.drop i) (most - many)).2 = (grow R l most).2 ∧ n = l.length - i) ?turn l.length ?start)) ?after)
  case start => exact ⟨0, 0, [], led₀, _, _, _, _, _, rfl, F3, N3, hp₀, rfl, Nat.zero_le _, Nat.zero_le _, Nat.zero_le _, Nat.zero_le _, by simp, by simp, rfl⟩
  case turn =>
    clear F3 N3 hp₀
    rintro n s' ⟨i, many, acc, led, ve, ti, tn, h, tk, rfl, F3, N3, hp, hkeys, hi, hmi, hmm, hacc, e1, e2, rfl⟩
    have hfa' : ∀ p ∈ led, p.1 ≠ fa := fun p hp => by
      have : p.1 ∈ led₀.map (·.1) := hkeys ▸ List.mem_map_of_mem hp
      obtain ⟨q, hq, e⟩ := List.mem_map.mp this
      rw [← e]; exact hfa q hq
    refine wpN_any ?_
    k_steps
    · rename ((many : Nat) : Int) < _ => hlt
      refine wpN_execs_cons (wpN_Assign_Name (wpN_Call_Name (wpN_any ?_)))
      k_steps
      refine wpN_callWith rfl (wpN_evalArgs_some (wpN_any ?_))
      k_steps
      rename Fr g L' _ _ => F4
      rename News g L' _ _ => N4
      refine Held.mk ⟨keeps_F _ (by obtain ⟨oc, od, fd, sl, hm⟩ := hFe led hp; exact ⟨oc, od, fd, sl, (N4 _ (.tail _ hm)).1⟩), wpN_any ?_⟩
      (try dsimp only [List.nil_append])
      refine Spec.use (rest := [(fa, baObj acc)]) (hE led i _ hp (by omega) (by omega)) B' F4 X' N4 T' rfl (by ktr_room) (by ktr_units) (fun q hq => .tail _ hq) (fun q hq => by rw [List.mem_singleton.mp hq]; exact ⟨.head _, fun hm => by obtain ⟨q, hq, e⟩ := List.mem_map.mp hm; exact hfa' q hq e⟩) fun r h' tk' new F5 N5 P => ?_
      obtain ⟨⟨u5, rfl⟩, hp5, hk5⟩ := P
      replace N5 : News g L' h' ((fa, baObj acc) :: new) := news_sub N5 (fun p hp => (List.mem_cons.mp hp).elim (fun e => e ▸ List.mem_append_right _ (.head _)) (List.mem_append_left _))
      have hfa5 : ∀ p ∈ new, p.1 ≠ fa := fun p hp => by
        have : p.1 ∈ led.map (·.1) := hk5 ▸ List.mem_map_of_mem hp
        obtain ⟨q, hq, e⟩ := List.mem_map.mp this
        rw [← e]; exact hfa' q hq
      have hkeys5 := hk5.trans hkeys
      clear F4 N4
      by_cases hin : isIn nr l i = true
      · have hil : i < l.length := by
          have := of_decide_eq_true hin
          omega
        have hlt9 : (l.getD i 0).toNat < 97 + R.length := by
          have := (of_decide_eq_true hin).2
          rw [Int.toNat_natCast] at this
          omega
        rw [show endsVal nr l i u5 = .int (i + 1) u5 from if_pos hin]
        k_steps
        refine wpN_execs_cons (wpN_If (wpN_any ?_))
        k_steps
        refine wpN_execs_cons (wpN_any ?_)
        k_steps
        refine wpN_execs_cons (wpN_Expr (wpN_Call_method Mine.F.ba_plainAttrs Mine.F.ba_slot_extend Mine.F.ba_ty_extend (wpN_any ?_)))
        k_steps
        rename News g L' _ _ => N6
        refine Held.mk ⟨BA.typeIs (ba_at N6), fun a e => by cases e; exact ⟨_, (N6 _ (.head _)).1, rfl⟩, ?_⟩
        refine wpN_callWith rfl (wpN_evalArgs_some (wpN_spliced_cons (wpN_Call_Name (wpN_any ?_))))
        k_steps
        refine wpN_callWith rfl (wpN_evalArgs_some (wpN_any ?_))
        k_steps
        rename Fr g L' _ _ => F7
        rename News g L' _ _ => N7
        refine Held.mk ⟨keeps_F _ (by obtain ⟨oc, od, fd, sl, hm⟩ := hFg new hp5; exact ⟨oc, od, fd, sl, (N7 _ (.tail _ hm)).1⟩), wpN_any ?_⟩
        (try dsimp only [List.nil_append])
        refine Spec.use (rest := [(fa, baObj acc)]) (hG new i _ _ hp5 (by omega) (by omega) hin) B' F7 X' N7 T' rfl (by ktr_room) (by ktr_units) (fun q hq => .tail _ hq) (fun q hq => by rw [List.mem_singleton.mp hq]; exact ⟨.head _, fun hm => by obtain ⟨q, hq, e⟩ := List.mem_map.mp hm; exact hfa5 q hq e⟩) fun r h' tk' new2 F8 N8 P => ?_
        obtain ⟨⟨u8, rfl⟩, hp8, hk8⟩ := P
        replace N8 : News g L' h' ((fa, baObj acc) :: new2) := news_sub N8 (fun p hp => (List.mem_cons.mp hp).elim (fun e => e ▸ List.mem_append_right _ (.head _)) (List.mem_append_left _))
        have hfa8 : ∀ p ∈ new2, p.1 ≠ fa := fun p hp => by
          have : p.1 ∈ new.map (·.1) := hk8 ▸ List.mem_map_of_mem hp
          obtain ⟨q, hq, e⟩ := List.mem_map.mp this
          rw [← e]; exact hfa5 q hq
        rw [Int.toNat_natCast]
        have hRl : (R.getD ((l.getD i 0).toNat - 97) []).length ≤ 100 := by
          rw [List.getD_eq_getElem?_getD]
          cases hg : R[(l.getD i 0).toNat - 97]? with
          | none => exact Nat.zero_le _
          | some r => exact hR r (List.mem_of_getElem? hg)
        refine wpN_spliced_nil (Held.mk ⟨⟨.machine, .inr (.inl rfl), Looks.of_pure rfl⟩, ?_⟩)
        refine call_ba_extend (ba_at N8) (by rw [sizeLine_eq]; omega) fun h2 hb2 hs2 => ?_
        obtain ⟨F9, N9⟩ := ba_same F8 N8 hfa8 hb2 hs2
        clear F8 N8 F7 N7 hb2 hs2
        show wpN _ _ (execs [] _) _ _
        refine wpN_execs_nil ?_
        show wpN _ _ (execs _ _) _ _
        refine wpN_execs_cons (wpN_If (wpN_any ?_))
        k_steps
        refine wpN_any ?_
        k_steps
        refine wpN_any ?_
        k_steps
        rename Fr g L' _ _ => F10
        rename News g L' _ _ => N10
        obtain ⟨k, hk9⟩ : ∃ k, most - many = k + 1 := ⟨most - many - 1, by omega⟩
        have hk10 : most - (many + 1) = k := by omega
        rw [hk9, grow_yes hil hlt9] at e1 e2
        refine Held.mk ⟨l.length - (i + 1), by omega, i + 1, many + 1, acc ++ R.getD ((l.getD i 0).toNat - 97) [], new2, _, _, _, _, _, rfl, fr_canon (text := .bytes l.toArray tt) (most := .int most tm) (fe := fe) (fg := fg) F10 rfl rfl rfl rfl (fun y a b c d => by simp only [canonFr, a, b, c, d, if_false]), N10, hp8, hk8.trans hkeys5, hil, by omega, by omega, by rw [List.length_append]; omega, ?_, ?_, rfl⟩
        · rw [hk10, List.append_assoc]; exact e1
        · rw [hk10]; have := e2; dsimp only at this; omega
      · rw [show endsVal nr l i u5 = .none from if_neg hin]
        k_steps
        have hno : i < l.length → ¬ (l.getD i 0).toNat < 97 + R.length := fun hil h => hin (decide_eq_true ⟨by omega, by rw [Int.toNat_natCast]; omega⟩)
        refine wpN_execs_cons (wpN_any ?_)
        k_steps
        refine wpN_execs_cons (wpN_If (wpN_any ?_))
        k_steps
        refine wpN_execs_cons (wpN_If (wpN_any ?_))
        k_steps
        · rename ((i : Nat) : Int) < _ => hil'
          have hil : i < l.length := by rw [List.size_toArray] at hil'; omega
          refine wpN_execs_cons (wpN_Expr (wpN_Call_method Mine.F.ba_plainAttrs Mine.F.ba_slot_append Mine.F.ba_ty_append (wpN_any ?_)))
          k_steps
          rename News g L' _ _ => N6
          refine Held.mk ⟨BA.typeIs (ba_at N6), fun a e => by cases e; exact ⟨_, (N6 _ (.head _)).1, rfl⟩, ?_⟩
          refine wpN_callWith rfl (wpN_evalArgs_some (wpN_any ?_))
          k_steps
          rename Fr g L' _ _ => F7
          rename News g L' _ _ => N7
          refine Held.mk ⟨⟨.machine, .inr (.inl rfl), Looks.of_pure rfl⟩, ?_⟩
          (try dsimp only [List.nil_append, List.cons_append])
          have hlt256 := UInt8.toNat_lt (l.getD ((i : Int)).toNat 0)
          refine call_ba_append (ba_at N7) (by omega) (by omega) (by rw [sizeLine_eq]; omega) fun h2 hb2 hs2 => ?_
          rw [show ((((l.getD ((i : Int)).toNat 0).toNat : Int)).toNat.toUInt8) = l.getD i 0 by rw [Int.toNat_natCast, Int.toNat_natCast]; simp] at hb2
          obtain ⟨F9, N9⟩ := ba_same F7 N7 hfa5 hb2 hs2
          clear F7 N7 hb2 hs2
          show wpN _ _ (execs _ _) _ _
          refine wpN_any ?_
          k_steps
          refine wpN_any ?_
          k_steps
          refine wpN_any ?_
          k_steps
          rename Fr g L' _ _ => F10
          rename News g L' _ _ => N10
          obtain ⟨k, hk9⟩ : ∃ k, most - many = k + 1 := ⟨most - many - 1, by omega⟩
          rw [hk9, grow_no hil (hno hil)] at e1 e2
          refine Held.mk ⟨l.length - (i + 1), by omega, i + 1, many, acc ++ [l.getD i 0], new, _, _, _, _, _, rfl, fr_canon (text := .bytes l.toArray tt) (most := .int most tm) (fe := fe) (fg := fg) F10 rfl rfl rfl rfl (fun y a b c d => by simp only [canonFr, a, b, c, d, if_false]), N10, hp5, hkeys5, hil, by omega, by omega, by rw [List.length_append, List.length_singleton]; omega, ?_, ?_, rfl⟩
          · rw [hk9, List.append_assoc]; exact e1
          · rw [hk9]; exact e2
        · rename ¬ ((i : Nat) : Int) < _ => hil'
          have hil : i = l.length := by rw [List.size_toArray] at hil'; omega
          refine wpN_any ?_
          k_steps
          rename Fr g L' _ _ => F10
          rename News g L' _ _ => N10
          refine Held.mk ⟨by first | rfl | trivial, i, many, acc, new, _, _, _, _, _, rfl, fr_canon (text := .bytes l.toArray tt) (most := .int most tm) (fe := fe) (fg := fg) F10 rfl rfl rfl rfl (fun y a b c d => by simp only [canonFr, a, b, c, d, if_false]), N10, hp5, hkeys5, hi, hacc, ?_, ?_⟩
          · rw [hil, List.drop_length, grow_nil] at e1; rw [hil, List.drop_length]; exact e1
          · rw [hil, List.drop_length, grow_nil] at e2; exact e2
    · rename ¬ ((many : Nat) : Int) < _ => hge
      have hme : most - many = 0 := by omega
      rw [hme, grow_zero] at e1 e2
      exact wpN_execs_nil (Held.mk ⟨by first | rfl | trivial, i, many, acc, led, ve, ti, tn, h, tk, rfl, F3, N3, hp, hkeys, hi, hacc, e1, e2⟩)
  case after =>
    rintro f s' ⟨rfl, i, many, acc, led, ve, ti, tn, h, tk, rfl, F3, N3, hp, hkeys, hi, hacc, e1, e2⟩
    show wpN _ _ (execs _ _) _ _
    have hfa' : ∀ p ∈ led, p.1 ≠ fa := fun p hp => by
      have : p.1 ∈ led₀.map (·.1) := hkeys ▸ List.mem_map_of_mem hp
      obtain ⟨q, hq, e⟩ := List.mem_map.mp this
      rw [← e]; exact hfa q hq
    refine wpN_execs_cons (wpN_Expr (wpN_Call_method Mine.F.ba_plainAttrs Mine.F.ba_slot_extend Mine.F.ba_ty_extend (wpN_any ?_)))
    k_steps
    rename News g L' _ _ => N6
    refine Held.mk ⟨BA.typeIs (ba_at N6), fun a e => by cases e; exact ⟨_, (N6 _ (.head _)).1, rfl⟩, ?_⟩
    refine wpN_callWith rfl (wpN_evalArgs_some (wpN_any ?_))
    k_steps
    rename Fr g L' _ _ => F7
    rename News g L' _ _ => N7
    rw [bcut_from]
    refine Held.mk ⟨⟨.machine, .inr (.inl rfl), Looks.of_pure rfl⟩, ?_⟩
    (try dsimp only [List.nil_append, List.cons_append])
    have hdl : (l.drop i).length ≤ 100 := by rw [List.length_drop]; omega
    refine call_ba_extend (ba_at N7) (by rw [sizeLine_eq]; omega) fun h2 hb2 hs2 => ?_
    obtain ⟨F9, N9⟩ := ba_same F7 N7 hfa' hb2 hs2
    clear F7 N7 hb2 hs2
    have hsz : (grow R l most).1.length ≤ 16777216 := by rw [← e1, List.length_append]; omega
    rw [e1] at N9
    show wpN _ _ (execs _ _) _ _
    refine wpN_any ?_
    k_steps
    subst e2
    exact Held.mk ⟨_, ⟨_, _, _, led, rfl, hp, hkeys, rfl⟩, List.forall_mem_cons.mpr ⟨List.Mem.head _, fun q hq => List.Mem.tail _ (List.Mem.tail _ hq)⟩⟩
/- part G1 -/
theorem anew_G1 {M : Model} {A : Around} {env : Env} {Q : Flow → Shared → Prop} {E : Value → Shared → Prop} {s : Shared} (h : wpAny M A (execs [] env) Q E s) : wpAny M A (execs [] env) Q E s := by
  w_top off
  try (walk1; fail)
  exact h
section
variable {prog : Program} {w : World} {A : Around} {E : Value → Shared → Prop} {s : Shared} {h₀ : Heap} {L : Addr} {news : List (Addr × Obj)}
theorem item_ls {value slice : PySem.Expr} {rl : Addr} {vs : List Value} {n : Nat} {k : Int} {u : Tok} {v : Value} {Q : Value → Shared → Prop} (N : News h₀ L s.heap news) (hm : (rl, W.listOf vs.toArray n) ∈ news) (h0 : 0 ≤ k) (hhi : k < 2 ^ 63)
    (hx : vs[k.toNat]? = some v) (h : Q v s) (hs : subscripted slice false (.ref rl) (.int k u) = operate [.ref rl, .int k u] (getItem (.ref rl) (.int k u)) := by with_unfolding_all rfl) : wpAny (model prog w) A (subscriptTail value slice (.ref rl) (.int k u)) Q E s :=
  have hl : s.heap.IsList rl vs.toArray := ⟨_, (N _ hm).1, rfl, n, rfl⟩
  tail_any hl.typeIs slot_list_getitem.lookup (wpAny_getItem_list hl h0 hhi (by simpa using hx) h) hs
end
local macro_rules | `(tactic| walk_at "subscriptTail") => `(tactic| (k_here; (with_reducible show wpAny _ _ (subscriptTail _ _ (Value.ref _) (Value.int _ _)) _ _ _); k_dflt (apply item_ls; (case hx => with_reducible assumption); (case N => k_asm); (case hm => k_mem); (case h0 => omega); (case hhi => omega); (case hs => with_unfolding_all rfl); k_whole)))
set_option linter.unusedVariables false in
theorem spec_give {prog : Program} {w : World} {f c' rc tc rl : Nat} {oc' orr ot : Obj} {qual doc pm ctv} {t t' tt ct tr : Tok} {i : Int} {l r : List UInt8} {vs : List Value} {n : Nat} {vc : Array Value}
    {name params body ds rr tps scope ts bind pos}
    (hE : nest 2 = some (.FunctionDef name params body ds rr tps scope ts bind pos)) (hv : oc'.data = .fields vc) (hq : vc[1]? = some (.str qual ct)) (hm : orr.data = .cell (some (.ref rl))) (hm2 : ot.data = .cell (some (.bytes l.toArray tt)))
    (h0 : 0 ≤ i) (h1 : i < l.length) (hfit : l.length ≤ 100) (hc : 97 ≤ (l.getD i.toNat 0).toNat ∧ (l.getD i.toNat 0).toNat ≤ 99)
    (hx : vs[(((l.getD i.toNat 0).toNat : Int) - 97).toNat]? = some (.bytes r.toArray tr)) :
    Spec prog w (.ref f) [.int i t, .int (i + 1) t'] 4 30 [(f, fnMade name qual params body scope [(Str.ofString "text", tc), (Str.ofString "rules", rc)] doc pm c' ctv), (c', oc'), (rc, orr), (tc, ot), (rl, W.listOf vs.toArray n)]
      (fun rv new => IsBytes rv r ∧ new = [(f, fnMade name qual params body scope [(Str.ofString "text", tc), (Str.ofString "rules", rc)] doc pm c' ctv), (c', oc'), (rc, orr), (tc, ot), (rl, W.listOf vs.toArray n)]) := by
  cases hE
  intro p loose mean mg mb dp un gd cn cs a ccd cl outer A₀ base h₀ L m s Q E B F X N Tp hk hd hu ret
  refine wpAny_call ?_
  walk_at "m enter"
  intro g L' h₁ FG F' N' B' X' T' l1 G
  (try dsimp only)
  (try k_fold)
  k_steps
  · exact ⟨_, ⟨isBytes rfl, rfl⟩, by kcj_all⟩
  · exfalso; omega
/- part L1 -/
theorem anew_L1 {M : Model} {A : Around} {env : Env} {Q : Flow → Shared → Prop} {E : Value → Shared → Prop} {s : Shared} (h : wpAny M A (execs [] env) Q E s) : wpAny M A (execs [] env) Q E s := by
  w_top off
  try (walk1; fail)
  exact h
section
variable {prog : Program} {w : World} {A : Around} {E : Value → Shared → Prop} {s : Shared} {h₀ : Heap} {L : Addr} {news : List (Addr × Obj)}
theorem len_ls {rl : Nat} {vs : List Value} {n : Nat} {Q : Value → Shared → Prop} (N : News h₀ L s.heap news) (hm : (rl, W.listOf vs.toArray n) ∈ news) (hfit : vs.length ≤ 1000000)
    (h : ∀ t k, Q (.int vs.length t) { s with toks := k }) : wpAny (model prog w) A (call (.builtin "len") [.ref rl]) Q E s := by
  have hl : s.heap.IsList rl vs.toArray := ⟨_, (N _ hm).1, rfl, n, rfl⟩
  exact call_len_list hl (by rw [List.size_toArray]; omega) (by simpa using h _ _)
end
local macro_rules | `(tactic| walk_at "call builtin:len") => `(tactic| (k_here; (with_reducible show wpAny _ _ (call (Value.builtin "len") [Value.ref _]) _ _ _); k_dflt (apply len_ls; (case N => k_asm); (case hm => k_mem); (case hfit => first | omega | decide); k_whole); intro _ _))
theorem fed_held {dl d0 d1 : Nat} {a b : Obj} {ys : List Value} {many v : Int} {u : Tok} {y : Value} {n' : Nat} (hm : 1 ≤ many) : Held (∃ news'', (∃ v' u' y n', Value.int (v.fmod many) u = .int v' u' ∧ 0 ≤ v' ∧ v' < many ∧ news'' = [(dl, a), (d0, b), (d1, W.listOf (ys ++ [y]).toArray n')]) ∧
    ∀ p ∈ news'', p ∈ [(dl, a), (d0, b), (d1, W.listOf (ys ++ [y]).toArray n')]) :=
  ⟨_, ⟨_, u, y, n', rfl, Int.fmod_nonneg_of_pos _ (by omega), Int.fmod_lt_of_pos _ (by omega), rfl⟩, fun _ h => h⟩
set_option linter.unusedVariables false in
theorem spec_fed {prog : Program} {w : World} {dl d0 d1 : Nat} {xs ys : List Value} {nl n0 n1 : Nat} {many : Int} {t : Tok} (hm : 1 ≤ many) (hm2 : many ≤ 100) (hy : ys.length ≤ 100) (hxl : xs.length ≤ 100) (e01 : d0 ≠ d1) (el0 : dl ≠ d0) (el1 : dl ≠ d1)
    (hints : ∀ i, i < xs.length → ∃ k u, xs[i]? = some (.int k u)) :
    Spec prog w (.ref 278) [.ref dl, .int many t] 4 30 [(dl, W.listOf [.ref d0, .ref d1].toArray nl), (d0, W.listOf xs.toArray n0), (d1, W.listOf ys.toArray n1)]
      (fun r new => ∃ v u y n', r = .int v u ∧ 0 ≤ v ∧ v < many ∧ new = [(dl, W.listOf [.ref d0, .ref d1].toArray nl), (d0, W.listOf xs.toArray n0), (d1, W.listOf (ys ++ [y]).toArray n')]) := by
  intro p loose mean mg mb dp un gd cn cs a ccd cl outer A₀ base h₀ L m s Q E B F X N Tp hk hd hu ret
  have hitem : ∀ i : Nat, i < xs.length → ∃ k u, xs[((i : Nat) : Int).toNat]? = some (.int k u) := fun i hi => by rw [Int.toNat_natCast]; exact hints i hi
  refine wpAny_call ?_
  walk_at "m enter"
  intro g L' h₁ FG F' N' B' X' T' l1 G
  (try dsimp only)
  (try k_fold)
  k_steps
  · obtain ⟨k, u, hx⟩ := hitem ys.length (by omega)
    k_steps
    (try rw [List.push_toArray])
    exact fed_held hm
  · (try rw [List.push_toArray])
    exact fed_held hm
/- part G3 -/
theorem anew_G3 {M : Model} {A : Around} {env : Env} {Q : Flow → Shared → Prop} {E : Value → Shared → Prop} {s : Shared} (h : wpAny M A (execs [] env) Q E s) : wpAny M A (execs [] env) Q E s := by
  w_top off
  try (walk1; fail)
  exact h
theorem Spec.frameL {prog : Program} {w : World} {f : Value} {vs : List Value} {dk uk : Nat} {pre rest : List (Addr × Obj)} {Post : Value → List (Addr × Obj) → Prop} (S : Spec prog w f vs dk uk pre Post) (hr : ∀ q ∈ rest, q.1 ∉ pre.map (·.1)) :
    Spec prog w f vs dk uk (rest ++ pre) (fun r new => ∃ new₀, Post r new₀ ∧ new = rest ++ new₀) :=
  fun p loose mean mg mb dp un gd cn cs a ccd cl outer A₀ base h₀ L m s Q E B F X N T hk hd hu ret => S p loose mean mg mb dp un gd cn cs a ccd cl outer A₀ base h₀ L m s Q E B F X (fun q hq => N q (List.mem_append_right _ hq)) T hk hd hu fun r h' tk' new F' N' P k =>
    ret r h' tk' (rest ++ new) F' (fun q hq => keptNews (rest := rest) N N' k (fun q hq => ⟨List.mem_append_left _ hq, hr q hq⟩) q (by rw [List.mem_append] at hq ⊢; exact hq.symm)) ⟨new, P, rfl⟩ fun b o e hb hl => k b o e (fun q => hb (by rw [List.map_append]; exact List.mem_append_right _ q)) hl
theorem Spec.frame {prog : Program} {w : World} {f : Value} {vs : List Value} {dk uk : Nat} {pre rest : List (Addr × Obj)} {Post : Value → List (Addr × Obj) → Prop} (S : Spec prog w f vs dk uk pre Post) (hr : ∀ q ∈ rest, q.1 ∉ pre.map (·.1)) :
    Spec prog w f vs dk uk (pre ++ rest) (fun r new => ∃ new₀, Post r new₀ ∧ new = new₀ ++ rest) :=
  fun p loose mean mg mb dp un gd cn cs a ccd cl outer A₀ base h₀ L m s Q E B F X N T hk hd hu ret => S p loose mean mg mb dp un gd cn cs a ccd cl outer A₀ base h₀ L m s Q E B F X (fun q hq => N q (List.mem_append_left _ hq)) T hk hd hu fun r h' tk' new F' N' P k =>
    ret r h' tk' (new ++ rest) F' (keptNews (rest := rest) N N' k fun q hq => ⟨List.mem_append_right _ hq, hr q hq⟩) ⟨new, P, rfl⟩ fun b o e hb hl => k b o e (fun q => hb (by rw [List.map_append]; exact List.mem_append_left _ q)) hl
theorem Spec.wider {prog : Program} {w : World} {f : Value} {vs : List Value} {dk uk dk' uk' : Nat} {pre : List (Addr × Obj)} {Post : Value → List (Addr × Obj) → Prop} (S : Spec prog w f vs dk uk pre Post) (h1 : dk ≤ dk') (h2 : uk ≤ uk') : Spec prog w f vs dk' uk' pre Post :=
  fun p loose mean mg mb dp un gd cn cs a ccd cl outer A₀ base h₀ L m s Q E B F X N T hk hd hu ret => S p loose mean mg mb dp un gd cn cs a ccd cl outer A₀ base h₀ L m s Q E B F X N T hk (by omega) (by omega) ret
theorem isIn_lt {nr : Nat} {l : List UInt8} {i : Int} (h : isIn nr l i = true) : (l.getD i.toNat 0).toNat < 97 + nr := by
  unfold isIn at h; have h := of_decide_eq_true h; omega

set_option linter.unusedVariables false in
theorem specN_rep {prog : Program} {w : World} {nr : Nat} {R : List (List UInt8)} {l : List UInt8} {tt tm : Tok} {most n : Nat} {vs : List Value} {pl : List UInt8}
    {f1 c1 mc x dx f2 c2 rc tc rl : Nat} {oc1 oc2 om orr ot : Obj} {H : Nat → Int} {T : Nat → Tok} {dep lev st ln : Value} {qual1 doc1 pm1 ctv1 qual2 doc2 pm2 ctv2} {tx tp ct1 ct2 tx2 : Tok} {vs1 vs2 : Array Value}
    {name1 params1 body1 ds1 r1 tps1 scope1 ts1 bind1 pos1} {name2 params2 body2 ds2 r2 tps2 scope2 ts2 bind2 pos2}
    (hnr : R.length = nr) (hfit : l.length ≤ 100) (hmost : most ≤ 99) (hR : ∀ r ∈ R, r.length ≤ 100) (hlet : ∀ c ∈ l, 97 ≤ c.toNat ∧ c.toNat ≤ 99)
    (hE1 : nest 1 = some (.FunctionDef name1 params1 body1 ds1 r1 tps1 scope1 ts1 bind1 pos1)) (hv1 : oc1.data = .fields vs1) (hq1 : vs1[1]? = some (.str qual1 ct1)) (hm1 : om.data = .cell (some (.ref x)))
    (hE2 : nest 2 = some (.FunctionDef name2 params2 body2 ds2 r2 tps2 scope2 ts2 bind2 pos2)) (hv2 : oc2.data = .fields vs2) (hq2 : vs2[1]? = some (.str qual2 ct2)) (hm2 : orr.data = .cell (some (.ref rl))) (hm3 : ot.data = .cell (some (.bytes l.toArray tx2)))
    (hpb : PatN nr pl) (hvs : ∀ k, k < R.length → ∃ t, vs[k]? = some (.bytes (R.getD k []).toArray t))
    (hnd : [f1, c1, mc, x, dx, f2, c2, rc, tc, rl].Nodup) :
    SpecN prog w (.ref 28) [.bytes l.toArray tt, .int most tm, .bool false, .ref f1, .ref f2] 20 160
      ([(f1, fnMade name1 qual1 params1 body1 scope1 [(Str.ofString "matcher", mc)] doc1 pm1 c1 ctv1), (c1, oc1), (mc, om), (x, instObj 267 dx), (dx, dictOf (mEs H T (.bytes l.toArray tx) (.bytes pl.toArray tp) dep lev st ln) 8),
        (f2, fnMade name2 qual2 params2 body2 scope2 [(Str.ofString "text", tc), (Str.ofString "rules", rc)] doc2 pm2 c2 ctv2), (c2, oc2), (rc, orr), (tc, ot), (rl, W.listOf vs.toArray n)])
      (fun r new => ∃ a t u rest, r = .ref a ∧ (rl, W.listOf vs.toArray n) ∈ rest ∧ (c1, oc1) ∈ rest ∧ (c2, oc2) ∈ rest ∧ new = (a, { cls := .type "tuple", data := .seq #[.bytes (grow R l most).1.toArray t, .int (grow R l most).2 u] }) :: rest) := by
  intro p loose mean mg mb dp un gd cn cs a ccd cl outer A₀ base h₀ L m s Q B F X N Tp hk hd hu ret
  have q1 := List.nodup_cons.mp hnd
  have q2 := List.nodup_cons.mp q1.2
  have q3 := List.nodup_cons.mp q2.2
  have q4 := List.nodup_cons.mp q3.2
  have n1 : x ≠ dx := fun q => q4.1 (by rw [q]; exact .head _)
  have n4 : mc ≠ dx := fun q => q3.1 (by rw [q]; exact .tail _ (.head _))
  have n3 : c1 ≠ dx := fun q => q2.1 (by rw [q]; exact .tail _ (.tail _ (.head _)))
  have n2 : f1 ≠ dx := fun q => q1.1 (by rw [q]; exact .tail _ (.tail _ (.tail _ (.head _))))
  clear q1 q2 q3 q4
  have hap := (List.nodup_append.mp (show ([f1, c1, mc, x, dx] ++ [f2, c2, rc, tc, rl]).Nodup from hnd)).2.2
  clear hnd
  refine specN_replaced (nr := nr) (R := R) (PE := fun led => ∃ dep lev st ln, led = [(f1, fnMade name1 qual1 params1 body1 scope1 [(Str.ofString "matcher", mc)] doc1 pm1 c1 ctv1), (c1, oc1), (mc, om), (x, instObj 267 dx), (dx, dictOf (mEs H T (.bytes l.toArray tx) (.bytes pl.toArray tp) dep lev st ln) 8)] ++
        [(f2, fnMade name2 qual2 params2 body2 scope2 [(Str.ofString "text", tc), (Str.ofString "rules", rc)] doc2 pm2 c2 ctv2), (c2, oc2), (rc, orr), (tc, ot), (rl, W.listOf vs.toArray n)])
    hnr hfit hmost hR hlet ⟨dep, lev, st, ln, rfl⟩ ?hE ?hG ?hFe ?hFg p loose mean mg mb dp un gd cn cs a ccd cl outer A₀ base h₀ L m s Q B F X N Tp hk hd hu fun r h' tk' new F' N' P k => ?_
  case hFe => rintro led ⟨_, _, _, _, rfl⟩; exact ⟨_, _, _, _, .head _⟩
  case hFg => rintro led ⟨_, _, _, _, rfl⟩; exact ⟨_, _, _, _, List.mem_append_right _ (.head _)⟩
  case hE =>
    rintro led i t ⟨dep, lev, st, ln, rfl⟩ h0 h1
    have hc : i < l.length → 97 ≤ (l.getD i.toNat 0).toNat ∧ (l.getD i.toNat 0).toNat ≤ 99 := fun hi => by
      have hi' : i.toNat < l.length := by omega
      have e : l.getD i.toNat 0 = l[i.toNat] := by simp [List.getD, List.getElem?_eq_getElem hi']
      rw [e]; exact hlet _ (List.getElem_mem hi')
    refine Spec.mono (Spec.frame (spec_ends n1 n2 n3 n4 hE1 hv1 hq1 hm1 hpb h0 h1 hfit hc) ?_) ?_
    · exact fun q hq hm => hap _ hm _ (List.mem_map_of_mem (f := Prod.fst) hq) rfl
    · rintro r new ⟨new₀, ⟨hr, dep', lev', st', ln', rfl⟩, rfl⟩
      exact ⟨hr, ⟨_, _, _, _, rfl⟩, rfl⟩
  case hG =>
    rintro led i t t' ⟨dep, lev, st, ln, rfl⟩ h0 h1 hin
    have hlt := isIn_lt hin
    have hi' : i.toNat < l.length := by omega
    have hc : 97 ≤ (l.getD i.toNat 0).toNat ∧ (l.getD i.toNat 0).toNat ≤ 99 := by
      have e : l.getD i.toNat 0 = l[i.toNat] := by simp [List.getD, List.getElem?_eq_getElem hi']
      rw [e]; exact hlet _ (List.getElem_mem hi')
    obtain ⟨tr, hx⟩ := hvs ((l.getD i.toNat 0).toNat - 97) (by omega)
    have ek : (((l.getD i.toNat 0).toNat : Int) - 97).toNat = (l.getD i.toNat 0).toNat - 97 := by omega
    have S := spec_give (prog := prog) (w := w) (f := f2) (c' := c2) (rc := rc) (tc := tc) (rl := rl) (n := n) (t := t) (t' := t') (doc := doc2) (pm := pm2) (ctv := ctv2) (r := R.getD ((l.getD i.toNat 0).toNat - 97) []) hE2 hv2 hq2 hm2 hm3 h0 h1 hfit hc (by rw [ek]; exact hx)
    refine Spec.mono (Spec.frameL (rest := [(f1, fnMade name1 qual1 params1 body1 scope1 [(Str.ofString "matcher", mc)] doc1 pm1 c1 ctv1), (c1, oc1), (mc, om), (x, instObj 267 dx), (dx, dictOf (mEs H T (.bytes l.toArray tx) (.bytes pl.toArray tp) dep lev st ln) 8)]) (S.wider (by decide) (by decide)) ?_) ?_
    · exact fun q hq hm => hap _ (List.mem_map_of_mem (f := Prod.fst) hq) _ hm rfl
    · rintro r new ⟨new₀, ⟨hr, rfl⟩, rfl⟩
      exact ⟨hr, ⟨_, _, _, _, rfl⟩, rfl⟩
  obtain ⟨a', t, u, led, rfl, ⟨dep', lev', st', ln', rfl⟩, hkk, rfl⟩ := P
  exact ret _ h' tk' _ F' N' ⟨a', t, u, _, rfl, List.mem_append_right _ (.tail _ (.tail _ (.tail _ (.tail _ (.head _))))), .tail _ (.head _), List.mem_append_right _ (.tail _ (.head _)), rfl⟩ k
/- part G4 -/
theorem anew_G4 {M : Model} {A : Around} {env : Env} {Q : Flow → Shared → Prop} {E : Value → Shared → Prop} {s : Shared} (h : wpAny M A (execs [] env) Q E s) : wpAny M A (execs [] env) Q E s := by
  w_top off
  try (walk1; fail)
  exact h
theorem mEs_of {h0 h1 h2 h3 h4 h5 h6 h7 : Int} {T0 T1 T2 T3 T4 T5 T6 T7 : Tok} {tx pt dp tk dep lev st ln : Value} :
    dictOf [⟨h0, .str (Str.ofString "text") T0, tx⟩, ⟨h1, .str (Str.ofString "pattern") T1, pt⟩, ⟨h2, .str (Str.ofString "most_depth") T2, .int 60 356⟩, ⟨h3, .str (Str.ofString "tick") T3, .none⟩,
      ⟨h4, .str (Str.ofString "depth") T4, dep⟩, ⟨h5, .str (Str.ofString "level") T5, lev⟩, ⟨h6, .str (Str.ofString "starts") T6, st⟩, ⟨h7, .str (Str.ofString "lengths") T7, ln⟩] 8 =
    dictOf (mEs (fun k => [h0, h1, h2, h3, h4, h5, h6, h7].getD k 0) (fun k => [T0, T1, T2, T3, T4, T5, T6, T7, 356].getD k 0) tx pt dep lev st ln) 8 := rfl
noncomputable def TabF (led : List (Addr × Obj)) : Prop := ∃ c1 c2 oc1 oc2 vs1 vs2 t1 t2, led = [(280, tabObj #[rawInt 334, rawInt 4, .ref c1, rawInt 338, rawInt 4, .ref c2]), (c1, oc1), (c2, oc2)] ∧ oc1.data = .fields vs1 ∧ vs1[1]? = some (.str (Str.ofString "_law_grown.<locals>.ends_at") t1) ∧
  oc2.data = .fields vs2 ∧ vs2[1]? = some (.str (Str.ofString "_law_grown.<locals>.give") t2) ∧ c1 ≠ c2 ∧ c1 ≠ 280 ∧ c2 ≠ 280
noncomputable def TabSt (led : List (Addr × Obj)) : Prop := led = [(280, tabObj #[])] ∨ TabF led
theorem tabSt_of {c1 c2 : Nat} {oc1 oc2 : Obj} {vs1 vs2 : Array Value} {t1 t2 : Tok} {P : Array Value} (hP : P = #[rawInt 334, rawInt 4, .ref c1, rawInt 338, rawInt 4, .ref c2]) (h1 : oc1.data = .fields vs1) (h2 : vs1[1]? = some (.str (Str.ofString "_law_grown.<locals>.ends_at") t1))
    (h3 : oc2.data = .fields vs2) (h4 : vs2[1]? = some (.str (Str.ofString "_law_grown.<locals>.give") t2)) (n1 : c1 ≠ c2) (n2 : c1 ≠ 280) (n3 : c2 ≠ 280) : TabF [(280, tabObj P), (c1, oc1), (c2, oc2)] := by
  subst hP
  exact ⟨_, _, _, _, _, _, _, _, rfl, h1, h2, h3, h4, n1, n2, n3⟩
theorem grown_held {a rl c1 c2 : Nat} {o ol oc1 oc2 : Obj} {P : Array Value} {rest : List (Addr × Obj)} {R : List (List UInt8)} {l : List UInt8} {most : Nat} {t u : Tok} (m1 : (rl, ol) ∈ rest) (m2 : (c1, oc1) ∈ rest) (m3 : (c2, oc2) ∈ rest) (hT : TabF [(280, tabObj P), (c1, oc1), (c2, oc2)]) :
    Held (∃ news'', (∃ a' t u tabs', Value.ref a = .ref a' ∧ TabF tabs' ∧ news'' = (a', ({ cls := .type "tuple", data := .seq #[.bytes (grow R l most).1.toArray t, .int (grow R l most).2 u] } : Obj)) :: (rl, ol) :: tabs') ∧
      ∀ p ∈ news'', p ∈ ((a, ({ cls := .type "tuple", data := .seq #[.bytes (grow R l most).1.toArray t, .int (grow R l most).2 u] } : Obj)) :: rest) ++ [(280, tabObj P)]) := by
  refine ⟨_, ⟨a, t, u, _, rfl, hT, rfl⟩, ?_⟩
  intro p hp
  simp only [List.mem_cons, List.not_mem_nil, or_false] at hp
  rcases hp with rfl | rfl | rfl | rfl | rfl
  · exact .head _
  · exact List.mem_append_left _ (.tail _ m1)
  · exact List.mem_append_right _ (.head _)
  · exact List.mem_append_left _ (.tail _ m2)
  · exact List.mem_append_left _ (.tail _ m3)
theorem grown_heldH {a rl k1 k2 : Nat} {o ol ok1 ok2 : Obj} {P : Array Value} {rest : List (Addr × Obj)} {R : List (List UInt8)} {l : List UInt8} {most : Nat} {t u : Tok} (m1 : (rl, ol) ∈ rest) (m2 : (k1, ok1) ∈ rest) (m3 : (k2, ok2) ∈ rest) (hP : P = #[rawInt 334, rawInt 4, .ref k1, rawInt 338, rawInt 4, .ref k2]) :
    Held (∃ news'', (∃ a' t u, Value.ref a = .ref a' ∧ news'' = (a', ({ cls := .type "tuple", data := .seq #[.bytes (grow R l most).1.toArray t, .int (grow R l most).2 u] } : Obj)) :: (rl, ol) :: [(280, tabObj #[rawInt 334, rawInt 4, .ref k1, rawInt 338, rawInt 4, .ref k2]), (k1, ok1), (k2, ok2)]) ∧
      ∀ p ∈ news'', p ∈ ((a, ({ cls := .type "tuple", data := .seq #[.bytes (grow R l most).1.toArray t, .int (grow R l most).2 u] } : Obj)) :: rest) ++ [(280, tabObj P)]) := by
  subst hP
  refine ⟨_, ⟨a, t, u, rfl, rfl⟩, ?_⟩
  intro p hp
  simp only [List.mem_cons, List.not_mem_nil, or_false] at hp
  rcases hp with rfl | rfl | rfl | rfl | rfl
  · exact .head _
  · exact List.mem_append_left _ (.tail _ m1)
  · exact List.mem_append_right _ (.head _)
  · exact List.mem_append_left _ (.tail _ m2)
  · exact List.mem_append_left _ (.tail _ m3)
theorem SpecN.mono {prog : Program} {w : World} {f : Value} {vs : List Value} {dk uk : Nat} {pre : List (Addr × Obj)} {Post Post' : Value → List (Addr × Obj) → Prop} (S : SpecN prog w f vs dk uk pre Post) (h : ∀ r new, Post r new → Post' r new) : SpecN prog w f vs dk uk pre Post' :=
  fun p loose mean mg mb dp un gd cn cs a ccd cl outer A₀ base h₀ L m s Q B F X N T hk hd hu ret => S p loose mean mg mb dp un gd cn cs a ccd cl outer A₀ base h₀ L m s Q B F X N T hk hd hu fun r h' tk' new F' N' P k => ret r h' tk' new F' N' (h r new P) k
theorem codeHdK {w : World} {h : Heap} (X : (hd.heap_1 w.params).In h) : CodeHd h 284 280 := ⟨_, _, _, _, _, _, _, _, _, X 284 _ (by k_is), rfl, rfl, rfl, rfl, rfl, rfl, rfl, rfl, by decide⟩

theorem call_find_no {prog : Program} {w : World} {A : Around} {E : Value → Shared → Prop} {s : Shared} {b c : Array UInt8} {t u : Tok} {Q : Value → Shared → Prop} (h : (if (b.size : Int) < c.size then none else Builtin.Bytes.find? b c 0 b.size) = none) (hQ : ∀ t k, Q (.int (-1) t) { s with toks := k }) :
    wpAny (model prog w) A (call (.builtin "bytes.find") [.bytes b t, .bytes c u]) Q E s := call_find h hQ
local macro_rules | `(tactic| walk_at "n enterC") => `(tactic| (apply enterCN; walk_at "e1"; (case ho => exact getK (by assumption) (by assumption) (by k_is)); (case hd => exact rfl); (case hcd => exact codeK (by assumption) (by assumption) (by k_is)); walk_at "e3"; (case hkind => exact rfl); (case hnd => decide +kernel); walk_at "e4"))

local macro_rules | `(tactic| walk_at "getMethod bytes") => `(tactic| (k_here; (with_reducible refine meth_find ?_)))
theorem bcut_le3 (k : Option Int) : (bcut [97, 98, 99] none k).length ≤ 3 := by
  unfold bcut
  exact Nat.le_trans (List.length_take_le' _ _) (by simp only [Option.elim, List.drop_zero, List.length_cons, List.length_nil]; decide)
local macro_rules | `(tactic| walk_at "binaryOp Add bytes bytes") => `(tactic| (k_here; (with_reducible show wpAny _ _ (binaryOp Operator.Add (Value.bytes (List.toArray _) _) (Value.bytes (List.toArray _) _)) _ _ _); k_dflt (refine' bytes_add_K ?z ?e ?_; (case z => (simp only [List.size_toArray, List.length_append, List.length_cons, List.length_nil]; omega)); (case e => (simp only [List.cons_append, List.nil_append]; try exact rfl)); k_whole); intro _ _))
noncomputable abbrev Desc (l : List Nat) : Prop := List.Pairwise (fun a b : Nat => b < a) l
theorem Desc.one {a : Nat} : Desc [a] := List.pairwise_singleton _ _
theorem Desc.cons {a b : Nat} {l : List Nat} (h : b < a) (p : Desc (b :: l)) : Desc (a :: b :: l) :=
  List.pairwise_cons.mpr ⟨fun q hq => (List.mem_cons.mp hq).elim (fun e => e ▸ h) fun hq => Nat.lt_trans ((List.pairwise_cons.mp p).1 q hq) h, p⟩
theorem chainN {l : List Nat} (h : Desc l) : l.Nodup := List.Pairwise.imp (fun h => Nat.ne_of_gt h) h
theorem nodup10 {f1 c1 mc x dx f2 c2 rc tc rl : Nat} (h1 : rl < tc) (h2 : tc < rc) (h3 : rc < mc) (h4 : mc < dx) (h5 : dx < x) (h6 : x < c1) (h7 : c1 < f1) (h8 : f1 < c2) (h9 : c2 < f2) : [f1, c1, mc, x, dx, f2, c2, rc, tc, rl].Nodup := by
  have e : [f1, c1, mc, x, dx, f2, c2, rc, tc, rl].Perm [f2, c2, f1, c1, x, dx, mc, rc, tc, rl] :=
    (List.perm_middle (l₁ := [f1, c1, mc, x, dx]) (l₂ := [c2, rc, tc, rl]) (a := f2)).trans (.cons _ ((List.perm_middle (l₁ := [f1, c1, mc, x, dx]) (l₂ := [rc, tc, rl]) (a := c2)).trans (.cons _ (.cons _ (.cons _ (List.perm_middle (l₁ := [x, dx]) (l₂ := [rc, tc, rl]) (a := mc)).symm)))))
  exact e.nodup_iff.mpr (chainN (Desc.cons h9 (.cons h8 (.cons h7 (.cons h6 (.cons h5 (.cons h4 (.cons h3 (.cons h2 (.cons h1 (.one)))))))))))
theorem nodup10h {f1 c1 mc x dx f2 c2 rc tc rl : Nat} (n1 : c1 ≠ c2) (n2 : c1 ≠ rl) (n3 : c2 ≠ rl) (h0 : c1 < tc) (h0' : c2 < tc) (h1 : rl < tc) (h2 : tc < rc) (h3 : rc < mc) (h4 : mc < dx) (h5 : dx < x) (h6 : x < f1) (h8 : f1 < f2) : [f1, c1, mc, x, dx, f2, c2, rc, tc, rl].Nodup := by
  have T : ∀ c, c < tc → List.Nodup [f2, f1, x, dx, mc, rc, tc, c] := fun c hc => chainN (Desc.cons h8 (.cons h6 (.cons h5 (.cons h4 (.cons h3 (.cons h2 (.cons hc (.one))))))))
  have t : ∀ c, c < tc → c ∉ [f2, f1, x, dx, mc, rc, tc] := fun c hc hm => (List.nodup_append.mp (show ([f2, f1, x, dx, mc, rc, tc] ++ [c]).Nodup from T c hc)).2.2 _ hm _ (.head _) rfl
  have e : [f1, c1, mc, x, dx, f2, c2, rc, tc, rl].Perm [c1, c2, f2, f1, x, dx, mc, rc, tc, rl] :=
    (List.Perm.swap _ _ _).trans (.cons _ ((List.perm_middle (l₁ := [f1, mc, x, dx, f2]) (l₂ := [rc, tc, rl]) (a := c2)).trans (.cons _ ((List.perm_middle (l₁ := [f1, mc, x, dx]) (l₂ := [rc, tc, rl]) (a := f2)).trans (.cons _ (.cons _ (List.perm_middle (l₁ := [x, dx]) (l₂ := [rc, tc, rl]) (a := mc)).symm))))))
  have m : ∀ c, c < tc → c ≠ rl → c ∉ [f2, f1, x, dx, mc, rc, tc, rl] := fun c hc hn hm => (List.mem_append.mp (show c ∈ [f2, f1, x, dx, mc, rc, tc] ++ [rl] from hm)).elim (t c hc) fun q => hn (List.mem_singleton.mp q)
  exact e.nodup_iff.mpr (List.nodup_cons.mpr ⟨fun q => (List.mem_cons.mp q).elim n1 (m c1 h0 n2), List.nodup_cons.mpr ⟨m c2 h0' n3, T rl h1⟩⟩)
theorem notin5 {z a b c d e : Nat} {l : List Nat} (h1 : a ≠ z) (h2 : b ≠ z) (h3 : c ≠ z) (h4 : d ≠ z) (h5 : e ≠ z) (h : z ∉ l) : z ∉ a :: b :: c :: d :: e :: l := by
  intro q
  rcases List.mem_cons.mp q with q | q; exact h1 q.symm
  rcases List.mem_cons.mp q with q | q; exact h2 q.symm
  rcases List.mem_cons.mp q with q | q; exact h3 q.symm
  rcases List.mem_cons.mp q with q | q; exact h4 q.symm
  rcases List.mem_cons.mp q with q | q; exact h5 q.symm
  exact h q
theorem notin10 {z f1 c1 mc x dx f2 c2 rc tc rl : Nat} (h1 : f1 ≠ z) (h2 : c1 ≠ z) (h3 : mc ≠ z) (h4 : x ≠ z) (h5 : dx ≠ z) (h6 : f2 ≠ z) (h7 : c2 ≠ z) (h8 : rc ≠ z) (h9 : tc ≠ z) (h10 : rl ≠ z) : z ∉ [f1, c1, mc, x, dx, f2, c2, rc, tc, rl] :=
  notin5 h1 h2 h3 h4 h5 (notin5 h6 h7 h8 h9 h10 (List.not_mem_nil))
noncomputable def Rules (nr : Nat) (R : List (List UInt8)) (vs : List Value) : Prop := R.length = nr ∧ vs.length = nr ∧ (nr = 2 ∨ nr = 3) ∧ ∀ k, k < R.length → ∃ t, vs[k]? = some (.bytes (R.getD k []).toArray t)
theorem Rules.pat {nr : Nat} {R : List (List UInt8)} {vs : List Value} (h : Rules nr R vs) : PatN nr (91 :: (bcut [97, 98, 99] none (some ((vs.length : Nat) : Int)) ++ [93])) := by
  obtain ⟨-, h2, h3, -⟩ := h
  rcases h3 with rfl | rfl
  · exact .inl ⟨rfl, by rw [h2]; decide +kernel⟩
  · exact .inr ⟨rfl, by rw [h2]; decide +kernel⟩
theorem Rules.find {nr : Nat} {R : List (List UInt8)} {vs : List Value} (h : Rules nr R vs) : (if (((91 :: (bcut [97, 98, 99] none (some ((vs.length : Nat) : Int)) ++ [93])).toArray.size : Nat) : Int) < (#[0] : Array UInt8).size then none else Builtin.Bytes.find? (91 :: (bcut [97, 98, 99] none (some ((vs.length : Nat) : Int)) ++ [93])).toArray #[0] 0 (91 :: (bcut [97, 98, 99] none (some ((vs.length : Nat) : Int)) ++ [93])).toArray.size) = none := by
  obtain ⟨-, h2, h3, -⟩ := h
  rcases h3 with rfl | rfl <;> rw [h2] <;> decide +kernel
local macro_rules | `(tactic| walk_at "call builtin:bytes.find") => `(tactic| (k_here; (refine' call_find_no (Rules.find ?hr) ?_; (case hr => assumption)); intro _ _))

set_option linter.unusedVariables false in
theorem specN_grownse {prog : Program} {w : World} {rl : Nat} {l : List UInt8} {R : List (List UInt8)} {vs : List Value} {tt tm : Tok} {n most nr : Nat} (hRv : Rules nr R vs) (hfit : l.length ≤ 100) (hmost : most ≤ 99) (hR : ∀ r ∈ R, r.length ≤ 100) (hlet : ∀ c ∈ l, 97 ≤ c.toNat ∧ c.toNat ≤ 99) :
    SpecN prog w (.ref 285) [.bytes l.toArray tt, .ref rl, .int most tm] 30 260 [(rl, W.listOf vs.toArray n), (280, tabObj #[])]
      (fun r new => ∃ a t u tabs', r = .ref a ∧ TabF tabs' ∧ new = (a, { cls := .type "tuple", data := .seq #[.bytes (grow R l most).1.toArray t, .int (grow R l most).2 u] }) :: (rl, W.listOf vs.toArray n) :: tabs') := by
  intro p loose mean mg mb dp un gd cn cs a ccd cl outer A₀ base h₀ L m s Q B F X N Tp hk hd hu ret
  have hr : rl ≠ 280 := fun q => by have e := (N _ (.head _)).1; rw [q, (N _ (.tail _ (.head _))).1] at e; cases e
  have hbc := bcut_le3 (some ((vs.length : Nat) : Int))
  have hvl : vs.length ≤ 3 := by have q1 := hRv.2.1; have q2 := hRv.2.2.1; omega
  refine wpN_call ?_
  walk_at "n enterC"
  intro g L' h₁ tk cells FG F' N' Y' B' X' T' l1 G
  k_lt l1
  k_cells Y'
  simp only [List.cons_append, List.nil_append] at N'
  have C' := codeHdK X'
  refine wpN_execs_cons (wpN_any ?_)
  k_steps
  refine wpN_execs_cons (wpN_any ?_)
  k_steps
  refine wpN_execs_cons (wpN_any ?_)
  k_steps
  refine wpN_execs_cons (wpN_Return_some (wpN_Call_Name (wpN_any ?_)))
  k_steps
  refine wpN_callWith rfl (wpN_evalArgs_some (wpN_any ?_))
  k_steps
  rename Fr g L' _ _ => F4
  rename News g L' _ _ => N4
  refine Held.mk ⟨keeps_K (by k_is) _ (X'.keeps F4.keep), ?_⟩
  (try dsimp only [List.nil_append, List.cons_append])
  rw [mEs_of] at N4
  refine' SpecN.use (rest := [(280, tabObj _)]) (specN_rep (nr := nr) (R := R) (vs := vs) (n := n) (rl := rl) ?h1 ?h2 ?h3 ?h4 ?h5 ?h6 ?h7 ?h8 ?h9 ?h10 ?h11 ?h12 ?h13 ?h14 ?h15 ?h16 ?h17) B' F4 X' N4 T' ?hk ?hd ?hu ?hpre ?hrest (fun r h' tk' new F5 N5 P => ?fin)
  case hpre => kcj_all
  case hk => exact rfl
  case hd => ktr_room
  case hu => ktr_units
  case h1 => exact hRv.1
  case h2 => exact hfit
  case h3 => exact hmost
  case h4 => exact hR
  case h5 => exact hlet
  case h6 => exact rfl
  case h7 => assumption
  case h8 => assumption
  case h9 => assumption
  case h10 => exact rfl
  case h11 => assumption
  case h12 => assumption
  case h13 => assumption
  case h14 => assumption
  case h15 => exact hRv.pat
  case h16 => exact hRv.2.2.2
  case h17 => exact nodup10 (by (try dsimp only); omega) (by (try dsimp only); omega) (by (try dsimp only); omega) (by (try dsimp only); omega) (by (try dsimp only); omega) (by (try dsimp only); omega) (by (try dsimp only); omega) (by (try dsimp only); omega) (by (try dsimp only); omega)
  case hrest => intro q hq; rw [List.mem_singleton.mp hq]; exact ⟨by k_mem, notin10 (by (try dsimp only); omega) (by (try dsimp only); omega) (by (try dsimp only); omega) (by (try dsimp only); omega) (by (try dsimp only); omega) (by (try dsimp only); omega) (by (try dsimp only); omega) (by (try dsimp only); omega) (by (try dsimp only); omega) hr⟩
  obtain ⟨a', t', u', rest, rfl, m1, m2, m3, rfl⟩ := P
  refine' leaveM_sub (E := fun _ _ => False) ret F5 N5 G (grown_held m1 m2 m3 (tabSt_of ?z0 ?z1 ?z2 ?z3 ?z4 ?z5 ?z6 ?z7))
  case z0 => with_unfolding_all rfl
  case z1 => assumption
  case z2 => assumption
  case z3 => assumption
  case z4 => assumption
  case z5 => omega
  case z6 => omega
  case z7 => omega
  all_goals (first | exact default | skip)

set_option linter.unusedVariables false in
theorem specN_grownsh {prog : Program} {w : World} {rl : Nat} {l : List UInt8} {R : List (List UInt8)} {vs : List Value} {tt tm : Tok} {n most nr : Nat} {k1 k2 : Nat} {ok1 ok2 : Obj} {wk1 wk2 : Array Value} {e1 e2 : Tok} (hRv : Rules nr R vs) (hfit : l.length ≤ 100) (hmost : most ≤ 99) (hR : ∀ r ∈ R, r.length ≤ 100) (hlet : ∀ c ∈ l, 97 ≤ c.toNat ∧ c.toNat ≤ 99)
    (hk1 : ok1.data = .fields wk1) (hk2 : wk1[1]? = some (.str (Str.ofString "_law_grown.<locals>.ends_at") e1)) (hk3 : ok2.data = .fields wk2) (hk4 : wk2[1]? = some (.str (Str.ofString "_law_grown.<locals>.give") e2)) (hk5 : k1 ≠ k2) (hk6 : k1 ≠ 280) (hk7 : k2 ≠ 280) :
    SpecN prog w (.ref 285) [.bytes l.toArray tt, .ref rl, .int most tm] 30 260 [(rl, W.listOf vs.toArray n), (280, tabObj #[rawInt 334, rawInt 4, .ref k1, rawInt 338, rawInt 4, .ref k2]), (k1, ok1), (k2, ok2)]
      (fun r new => ∃ a t u, r = .ref a ∧ new = (a, { cls := .type "tuple", data := .seq #[.bytes (grow R l most).1.toArray t, .int (grow R l most).2 u] }) :: (rl, W.listOf vs.toArray n) :: [(280, tabObj #[rawInt 334, rawInt 4, .ref k1, rawInt 338, rawInt 4, .ref k2]), (k1, ok1), (k2, ok2)]) := by
  intro p loose mean mg mb dp un gd cn cs a ccd cl outer A₀ base h₀ L m s Q B F X N Tp hk hd hu ret
  have hr : rl ≠ 280 := fun q => by have e := (N _ (.head _)).1; rw [q, (N _ (.tail _ (.head _))).1] at e; cases e
  have hbc := bcut_le3 (some ((vs.length : Nat) : Int))
  have hvl : vs.length ≤ 3 := by have q1 := hRv.2.1; have q2 := hRv.2.2.1; omega
  have hr1 : k1 ≠ rl := fun q => by have e := (N _ (.head _)).1; rw [← q, (N _ (.tail _ (.tail _ (.head _)))).1] at e; cases e; cases hk1
  have hr2 : k2 ≠ rl := fun q => by have e := (N _ (.head _)).1; rw [← q, (N _ (.tail _ (.tail _ (.tail _ (.head _))))).1] at e; cases e; cases hk3
  refine wpN_call ?_
  walk_at "n enterC"
  intro g L' h₁ tk cells FG F' N' Y' B' X' T' l1 G
  k_lt l1
  k_cells Y'
  simp only [List.cons_append, List.nil_append] at N'
  have C' := codeHdK X'
  refine wpN_execs_cons (wpN_any ?_)
  k_steps
  refine wpN_execs_cons (wpN_any ?_)
  k_steps
  refine wpN_execs_cons (wpN_any ?_)
  k_steps
  refine wpN_execs_cons (wpN_Return_some (wpN_Call_Name (wpN_any ?_)))
  k_steps
  refine wpN_callWith rfl (wpN_evalArgs_some (wpN_any ?_))
  k_steps
  rename Fr g L' _ _ => F4
  rename News g L' _ _ => N4
  refine Held.mk ⟨keeps_K (by k_is) _ (X'.keeps F4.keep), ?_⟩
  (try dsimp only [List.nil_append, List.cons_append])
  rw [mEs_of] at N4
  refine' SpecN.use (rest := [(280, tabObj _)]) (specN_rep (nr := nr) (R := R) (vs := vs) (n := n) (rl := rl) ?h1 ?h2 ?h3 ?h4 ?h5 ?h6 ?h7 ?h8 ?h9 ?h10 ?h11 ?h12 ?h13 ?h14 ?h15 ?h16 ?h17) B' F4 X' N4 T' ?hk ?hd ?hu ?hpre ?hrest (fun r h' tk' new F5 N5 P => ?fin)
  case hpre => kcj_all
  case hk => exact rfl
  case hd => ktr_room
  case hu => ktr_units
  case h1 => exact hRv.1
  case h2 => exact hfit
  case h3 => exact hmost
  case h4 => exact hR
  case h5 => exact hlet
  case h6 => exact rfl
  case h7 => assumption
  case h8 => assumption
  case h9 => assumption
  case h10 => exact rfl
  case h11 => assumption
  case h12 => assumption
  case h13 => assumption
  case h14 => assumption
  case h15 => exact hRv.pat
  case h16 => exact hRv.2.2.2
  case h17 => exact nodup10h hk5 hr1 hr2 (by (try dsimp only); omega) (by (try dsimp only); omega) (by (try dsimp only); omega) (by (try dsimp only); omega) (by (try dsimp only); omega) (by (try dsimp only); omega) (by (try dsimp only); omega) (by (try dsimp only); omega) (by (try dsimp only); omega)
  case hrest => intro q hq; rw [List.mem_singleton.mp hq]; exact ⟨by k_mem, notin10 (by (try dsimp only); omega) hk6 (by (try dsimp only); omega) (by (try dsimp only); omega) (by (try dsimp only); omega) (by (try dsimp only); omega) hk7 (by (try dsimp only); omega) (by (try dsimp only); omega) hr⟩
  obtain ⟨a', t', u', rest, rfl, m1, m2, m3, rfl⟩ := P
  refine' leaveM_sub (E := fun _ _ => False) ret F5 N5 G (grown_heldH (k1 := k1) (k2 := k2) (ok1 := ok1) (ok2 := ok2) m1 ?y2 ?y3 ?z0)
  case y2 => exact m2
  case y3 => exact m3
  case z0 => with_unfolding_all rfl
  all_goals (first | exact default | skip)

theorem specN_growns {prog : Program} {w : World} {rl : Nat} {l : List UInt8} {R : List (List UInt8)} {vs : List Value} {tt tm : Tok} {n most nr : Nat} {tabs : List (Addr × Obj)} (hT : TabSt tabs) (hRv : Rules nr R vs) (hfit : l.length ≤ 100) (hmost : most ≤ 99) (hR : ∀ r ∈ R, r.length ≤ 100) (hlet : ∀ c ∈ l, 97 ≤ c.toNat ∧ c.toNat ≤ 99) :
    SpecN prog w (.ref 285) [.bytes l.toArray tt, .ref rl, .int most tm] 30 260 ((rl, W.listOf vs.toArray n) :: tabs)
      (fun r new => ∃ a t u tabs', r = .ref a ∧ TabF tabs' ∧ new = (a, { cls := .type "tuple", data := .seq #[.bytes (grow R l most).1.toArray t, .int (grow R l most).2 u] }) :: (rl, W.listOf vs.toArray n) :: tabs') := by
  rcases hT with rfl | ⟨c1, c2, oc1, oc2, vs1, vs2, t1, t2, rfl, h1, h2, h3, h4, h5, h6, h7⟩
  · exact specN_grownse hRv hfit hmost hR hlet
  · exact (specN_grownsh hRv hfit hmost hR hlet h1 h2 h3 h4 h5 h6 h7).mono fun r new ⟨a, t, u, e1, e2⟩ => ⟨a, t, u, _, e1, ⟨c1, c2, oc1, oc2, vs1, vs2, t1, t2, rfl, h1, h2, h3, h4, h5, h6, h7⟩, e2⟩
theorem specN_grownsF {prog : Program} {w : World} {rl : Nat} {l : List UInt8} {R : List (List UInt8)} {vs : List Value} {tt tm : Tok} {n most nr : Nat} {tabs : List (Addr × Obj)} (hT : TabF tabs) (hRv : Rules nr R vs) (hfit : l.length ≤ 100) (hmost : most ≤ 99) (hR : ∀ r ∈ R, r.length ≤ 100) (hlet : ∀ c ∈ l, 97 ≤ c.toNat ∧ c.toNat ≤ 99) :
    SpecN prog w (.ref 285) [.bytes l.toArray tt, .ref rl, .int most tm] 30 260 ((rl, W.listOf vs.toArray n) :: tabs)
      (fun r new => ∃ a t u, r = .ref a ∧ new = (a, { cls := .type "tuple", data := .seq #[.bytes (grow R l most).1.toArray t, .int (grow R l most).2 u] }) :: (rl, W.listOf vs.toArray n) :: tabs) := by
  obtain ⟨c1, c2, oc1, oc2, vs1, vs2, t1, t2, rfl, h1, h2, h3, h4, h5, h6, h7⟩ := hT
  exact specN_grownsh hRv hfit hmost hR hlet h1 h2 h3 h4 h5 h6 h7
/- part L2 -/
theorem anew_L2 {M : Model} {A : Around} {env : Env} {Q : Flow → Shared → Prop} {E : Value → Shared → Prop} {s : Shared} (h : wpAny M A (execs [] env) Q E s) : wpAny M A (execs [] env) Q E s := by
  w_top off
  try (walk1; fail)
  exact h
local macro_rules | `(tactic| walk_at "getMethod bytes") => `(tactic| (k_here; (with_reducible refine meth_count ?_)))
local macro_rules | `(tactic| walk_at "call builtin:bytes.count") => `(tactic| (k_here; (refine call_count ?_); intro _ _))
noncomputable def ruled (R : List (List UInt8)) (k : Nat) : List UInt8 := if k < R.length then R.getD k [] else [(97 + k).toUInt8]
theorem ruled_no {R : List (List UInt8)} {k : Nat} {u : UInt8} {t : Tok} (hk : k ≤ 2) (h : ¬ k < R.length) (hb : ((u.toNat : Nat) : Int) = 97 + k) : IsBytes (.bytes [u].toArray t) (ruled R k) := by
  refine ⟨t, ?_⟩
  unfold ruled
  rw [if_neg h]
  have e : (97 + k).toUInt8 = u := by
    apply UInt8.toNat_inj.mp
    have : (97 + k).toUInt8.toNat = (97 + k) % 256 := by first | exact UInt8.toNat_ofNat | simp
    omega
  rw [e]
set_option linter.unusedVariables false in
theorem spec_counts {prog : Program} {w : World} {l : List UInt8} {t : Tok} (hl : l.length ≤ 16777216) :
    Spec prog w (.ref 299) [.bytes l.toArray t] 3 20 [] (fun r new => ∃ c t0 t1 t2 n, r = .ref c ∧ new = [(c, W.listOf [.int (l.count 97) t0, .int (l.count 98) t1, .int (l.count 99) t2].toArray n)]) := by
  intro p loose mean mg mb dp un gd cn cs a ccd cl outer A₀ base h₀ L m s Q E B F X N Tp hk hd hu ret
  refine wpAny_call ?_
  walk_at "m enter"
  intro g L' h₁ FG F' N' B' X' T' l1 G
  (try dsimp only)
  (try k_fold)
  k_steps
  exact ⟨_, ⟨_, _, _, _, _, rfl, rfl⟩, fun p hp => hp⟩
set_option linter.unusedVariables false in
theorem spec_ruled {prog : Program} {w : World} {R : List (List UInt8)} {vs : List Value} {rl n k : Nat} {t : Tok} (hk2 : k ≤ 2) (hlen : vs.length = R.length) (hR3 : R.length ≤ 3)
    (hvs : ∀ k, k < R.length → ∃ t, vs[k]? = some (.bytes (R.getD k []).toArray t)) :
    Spec prog w (.ref 292) [.int (97 + k) t, .ref rl] 4 30 [(rl, W.listOf vs.toArray n)] (fun r new => IsBytes r (ruled R k) ∧ new = [(rl, W.listOf vs.toArray n)]) := by
  intro p loose mean mg mb dp un gd cn cs a ccd cl outer A₀ base h₀ L m s Q E B F X N Tp hk hd hu ret
  have hitem : k < R.length → ∃ t, vs[((97 : Int) + k - 97).toNat]? = some (.bytes (R.getD k []).toArray t) := fun hi => by rw [show ((97 : Int) + k - 97).toNat = k by omega]; exact hvs k hi
  refine wpAny_call ?_
  walk_at "m enter"
  intro g L' h₁ FG F' N' B' X' T' l1 G
  (try dsimp only)
  (try k_fold)
  k_steps
  · obtain ⟨t9, hx⟩ := hitem (by omega)
    k_steps
    exact ⟨_, ⟨⟨_, by unfold ruled; rw [if_pos (by omega)]⟩, rfl⟩, by kcj_all⟩
  · have hk9 : ¬ k < R.length := by omega
    exact ⟨_, ⟨ruled_no hk2 hk9 (by assumption), rfl⟩, by kcj_all⟩
/- part L3 -/
theorem anew_L3 {M : Model} {A : Around} {env : Env} {Q : Flow → Shared → Prop} {E : Value → Shared → Prop} {s : Shared} (h : wpAny M A (execs [] env) Q E s) : wpAny M A (execs [] env) Q E s := by
  w_top off
  try (walk1; fail)
  exact h
section
variable {prog : Program} {w : World} {A₀ : Around} {s : Shared} {base h₀ : Heap} {outer : List Env} {L : Addr} {m mg mb : Str → Option Value} {news : List (Addr × Obj)} {p : Program} {loose : List Str} {mean : ExcName → Option Value} {g : Obj → List (Addr × Obj)}
theorem fed_use {dl d0 d1 : Nat} {xs ys : List Value} {nl n0 n1 : Nat} {many : Int} {t : Tok} {dp un : Nat} {gd : Option (List Code)} {cn : Str} {cs : Scope} {a : Addr} {ccd : Value} {cl : List (Str × Addr)} {Q E : Value → Shared → Prop}
    (B : Below A₀ base outer h₀) (F : Fr h₀ L s.heap m) (X : (hd.heap_1 w.params).In h₀) (N : News h₀ L s.heap news) (T : Top p loose mean mg mb h₀) (hk : cs.kind = .function) (hd : dp + 4 < recursionLimit) (hu : un + 30 < cLine)
    (U : UpdF d1 (W.listOf ys.toArray n1) news g) (hml : (dl, W.listOf [.ref d0, .ref d1].toArray nl) ∈ news) (hm0 : (d0, W.listOf xs.toArray n0) ∈ news)
    (hm : 1 ≤ many) (hm2 : many ≤ 100) (hy : ys.length ≤ 100) (hxl : xs.length ≤ 100) (e01 : d0 ≠ d1) (el0 : dl ≠ d0) (el1 : dl ≠ d1) (hints : ∀ i, i < xs.length → ∃ k u, xs[i]? = some (.int k u))
    (ret : ∀ v u y n' h' tk', Fr h₀ L h' m → News h₀ L h' (g (W.listOf (ys ++ [y]).toArray n')) → 0 ≤ v → v < many → Q (.int v u) { s with heap := h', toks := tk' }) :
    wpAny (model prog w) (ktrTop dp un gd cn cs L a ccd cl outer) (call (.ref 278) [.ref dl, .int many t]) Q E s := by
  obtain ⟨own, rest, rfl, hgr, h1, h2⟩ := U.split
  refine spec_fed (nl := nl) (n0 := n0) (n1 := n1) hm hm2 hy hxl e01 el0 el1 hints p loose mean mg mb dp un gd cn cs a ccd cl outer A₀ base h₀ L m s Q E B F X (fun q hq => N q ?_) T hk hd hu fun r h' tk' new F' N' P k => ?_
  · simp only [List.mem_cons, List.not_mem_nil, or_false] at hq
    rcases hq with rfl | rfl | rfl
    · exact hml
    · exact hm0
    · exact List.mem_append_right _ (.head _)
  obtain ⟨v, u, y, n', rfl, a1, a2, rfl⟩ := P
  refine ret v u y n' h' tk' F' (fun q hq => ?_) a1 a2
  rw [hgr] at hq
  have keep : ∀ q ∈ own ++ (d1, W.listOf ys.toArray n1) :: rest, q.1 ≠ d1 → h'.get? q.1 = some q.2 := fun q hq hne => by
    by_cases hin : q.1 ∈ [dl, d0, d1]
    · have e := (N q hq).1
      simp only [List.mem_cons, List.not_mem_nil, or_false] at hin
      rcases hin with q1 | q1 | q1
      · rw [q1, (N _ hml).1] at e
        rw [q1, ← Option.some.inj e]
        exact (N' _ (.head _)).1
      · rw [q1, (N _ hm0).1] at e
        rw [q1, ← Option.some.inj e]
        exact (N' _ (.tail _ (.head _))).1
      · exact absurd q1 hne
    · exact k _ _ (N q hq).1 hin (N q hq).2.1
  rcases List.mem_append.mp hq with hq | hq
  · have hq' := List.mem_append_left ((d1, W.listOf ys.toArray n1) :: rest) hq
    exact ⟨keep q hq' (h1 q hq), (N q hq').2⟩
  · rcases List.mem_cons.mp hq with rfl | hq
    · exact N' _ (.tail _ (.tail _ (.head _)))
    · have hq' := List.mem_append_right own (List.mem_cons_of_mem (d1, W.listOf ys.toArray n1) hq)
      exact ⟨keep q hq' (h2 q hq), (N q hq').2⟩
end
local macro_rules | `(tactic| walk_at "call ref") => `(tactic| (walk_at "c0"; (with_reducible show wpAny _ _ (call (Value.ref 278) _) _ _ _); k_dflt (apply fed_use; walk_at "m use"; (case hml => k_mem); (case hm0 => k_mem); (case U => first | assumption | k_updF); walk_at "f8"; k_whole); intro v9 u9 y9 n9 h9 tk9 F9 N9 b9 c9; (try dsimp only at N9); (try k_sweep)))
noncomputable abbrev dishLed (dl d0 d1 : Nat) (xs ys : List Value) (nl n0 n1 : Nat) : List (Addr × Obj) := [(dl, W.listOf [.ref d0, .ref d1].toArray nl), (d0, W.listOf xs.toArray n0), (d1, W.listOf ys.toArray n1)]
noncomputable def RulesAt (vs : List Value) (R : List (List UInt8)) : Prop := vs.length = R.length ∧ ∀ k, k < R.length → ∃ t, vs[k]? = some (.bytes (R.getD k []).toArray t)
noncomputable def Good (R : List (List UInt8)) (most : Nat) : Prop := (R.length = 2 ∨ R.length = 3) ∧ ∀ r ∈ R, r.length ≤ most ∧ ∀ c ∈ r, 97 ≤ c.toNat ∧ c.toNat ≤ 99
noncomputable def LetVals (vs : List Value) : Prop := ∀ v ∈ vs, ∃ (k : Nat) (u : Tok), v = .int (97 + k) u ∧ k < 3
theorem LetVals.snoc {vs : List Value} {k : Nat} {u : Tok} (h : LetVals vs) (hk : k < 3) : LetVals (vs ++ [.int (97 + k) u]) := fun v hv => by
  rcases List.mem_append.mp hv with hv | hv
  · exact h v hv
  · exact ⟨k, u, List.mem_singleton.mp hv, hk⟩
theorem LetVals.ints : ∀ {vs : List Value}, LetVals vs → ∃ ns, IntsAre vs ns ∧ ∀ n ∈ ns, 97 ≤ n ∧ n < 100
  | [], _ => ⟨[], .nil, fun n hn => absurd hn List.not_mem_nil⟩
  | v :: vs, h => by
    obtain ⟨ns, h1, h2⟩ := LetVals.ints (vs := vs) fun v hv => h v (.tail _ hv)
    obtain ⟨k, u, e, hk⟩ := h v (.head _)
    subst e
    refine ⟨(97 + k) :: ns, .cons _ _ h1, fun n hn => ?_⟩
    rcases List.mem_cons.mp hn with e | hn
    · omega
    · exact h2 n hn
noncomputable abbrev turnMap (vt : Option Value) (rl : Nat) (base : Str → Option Value) : Str → Option Value := fun y => if y = Str.ofString "turn" then vt else if y = Str.ofString "rules" then some (.ref rl) else base y
theorem fr_turn {g h : Heap} {L : Addr} {rl : Nat} {base : Str → Option Value} (F : Fr g L h (fun y => if y = Str.ofString "rules" then some (.ref rl) else base y)) (hb : base (Str.ofString "turn") = none) : Fr g L h (turnMap none rl base) := by
  have e : (fun y => if y = Str.ofString "rules" then some (.ref rl) else base y) = turnMap none rl base := by
    funext y
    by_cases a : y = Str.ofString "turn"
    · subst a
      show (if Str.ofString "turn" = Str.ofString "rules" then some (Value.ref rl) else base (Str.ofString "turn")) = (if Str.ofString "turn" = Str.ofString "turn" then none else _)
      rw [if_neg (by decide), if_pos rfl, hb]
    · show _ = (if y = Str.ofString "turn" then none else _)
      rw [if_neg a]
  exact e ▸ F
theorem fed4 {v : Int} (h0 : 0 ≤ v) (h1 : v < 4) : ∃ k : Nat, 2 + v.fdiv 3 = k ∧ (k = 2 ∨ k = 3) := by
  rw [Int.fdiv_eq_ediv_of_nonneg _ (by decide)]
  rcases (by omega : v / 3 = 0 ∨ v / 3 = 1) with e | e
  · exact ⟨2, by rw [e]; rfl, .inl rfl⟩
  · exact ⟨3, by rw [e]; rfl, .inr rfl⟩
theorem turn_again {v vt : Option Value} {rl : Nat} {base : Str → Option Value} : (fun y => if y = Str.ofString "turn" then v else turnMap vt rl base y) = turnMap v rl base := by
  funext y
  by_cases a : y = Str.ofString "turn"
  · simp only [turnMap, a, if_true]
  · simp only [turnMap, a, if_false]
theorem news_subL {g h : Heap} {L : Addr} {n n' : List (Addr × Obj)} (N : News g L h n) (hs : ∀ p ∈ n', p ∈ n) : News g L h n' := fun p hp => N p (hs p hp)
theorem keys_all {l l' : List (Addr × Obj)} {Q : Addr → Prop} (h : ∀ p ∈ l, Q p.1) (e : l'.map (·.1) = l.map (·.1)) : ∀ p ∈ l', Q p.1 := fun p hp => by
  have : p.1 ∈ l.map (·.1) := e ▸ List.mem_map_of_mem hp
  obtain ⟨q, hq, e⟩ := List.mem_map.mp this
  exact e ▸ h q hq
theorem RulesAt.snoc {vs : List Value} {R : List (List UInt8)} {r : List UInt8} {t : Tok} (h : RulesAt vs R) : RulesAt (vs ++ [.bytes r.toArray t]) (R ++ [r]) := by
  refine ⟨by rw [List.length_append, List.length_append, h.1]; rfl, fun k hk => ?_⟩
  by_cases hlt : k < R.length
  · obtain ⟨u, e⟩ := h.2 k hlt
    refine ⟨u, ?_⟩
    rw [List.getElem?_append_left (by rw [h.1]; exact hlt), e]
    simp only [List.getD_eq_getElem?_getD, List.getElem?_append_left hlt]
  · have hk' : k = R.length := by rw [List.length_append, List.length_singleton] at hk; omega
    subst hk'
    refine ⟨t, ?_⟩
    rw [← h.1]
    simp [h.1]
theorem letter_byte {n : Int} (h1 : 97 ≤ n) (h2 : n < 100) : 97 ≤ n.toNat.toUInt8.toNat ∧ n.toNat.toUInt8.toNat ≤ 99 := by
  have e : n.toNat.toUInt8.toNat = n.toNat % 256 := by first | exact UInt8.toNat_ofNat | simp
  omega
set_option linter.unusedVariables false in
theorem specN_drawn {prog : Program} {w : World} {dl d0 d1 : Nat} {xs ys : List Value} {nl n0 n1 most : Nat} {t : Tok} (hm : most ≤ 3) (hy : ys.length ≤ 80) (hxl : xs.length ≤ 100) (e01 : d0 ≠ d1) (el0 : dl ≠ d0) (el1 : dl ≠ d1)
    (hints : ∀ i, i < xs.length → ∃ k u, xs[i]? = some (.int k u)) :
    SpecN prog w (.ref 304) [.ref dl, .int most t] 10 80 (dishLed dl d0 d1 xs ys nl n0 n1)
      (fun r new => ∃ rl vs n R ys' n1', r = .ref rl ∧ RulesAt vs R ∧ Good R most ∧ ys'.length ≤ ys.length + 13 ∧ (rl ≠ dl ∧ rl ≠ d0 ∧ rl ≠ d1) ∧ new = (rl, W.listOf vs.toArray n) :: dishLed dl d0 d1 xs ys' nl n0 n1') := by
  intro p loose mean mg mb dp un gd cn cs a ccd cl outer A₀ base h₀ L m s Q B F X N Tp hk hd hu ret
  refine wpN_call ?_
  walk_at "n enterC"
  intro g L' h₁ tk cells FG F' N' Y' B' X' T' l1 G
  k_lt l1
  k_cells Y'
  simp only [List.cons_append, List.nil_append] at N'
  refine wpN_execs_cons (wpN_any ?_)
  k_steps
  refine wpN_execs_cons (wpN_For (wpN_any ?_))
  k_steps
  rename (_ : Int) < 4 => hlt4
  rename 0 ≤ (_ : Int) => hge0
  obtain ⟨kk, ek, hkk⟩ := fed4 hge0 hlt4
  rename IsRange _ _ _ _ _ _ _ _ => hr9
  rename Fr g L' _ _ => F3
  rename News g L' _ _ => N3
  rw [ek] at hr9
  refine wpN_any (wpAny_pyIter_range hr9 (by rcases hkk with rfl | rfl <;> decide) ?_)
  have hk3 : kk ≤ 3 := by rcases hkk with rfl | rfl <;> decide
  have hkO : Held (kk = 2 ∨ kk = 3) := hkk
  clear hkk
  obtain ⟨F4, N4, a1, a2, a3⟩ := range_ground (s := ⟨_, s.gens, s.drawn, 0, s.os⟩) (o := { cls := .type "range_iterator", data := .fields #[rawInt 0, rawInt (Builtin.Range.rangeSize 0 kk 1), rawInt 1] }) F3 N3
  have F5 := fr_turn F4 rfl
  refine codeN_forI (Walks.range rfl _ 0 1 kk) (fun i h e => ⟨_, e⟩) a1 a2 (fun p hp => Nat.ne_of_lt (a3 p hp)) (by rw [rangeSize_nat]; exact Heap.get?_push_size _ rfl) F5 N4
    (fun i m' news' => ∃ (rl : Nat) (oc : Obj) (vt : Option Value) (vs : List Value) (n : Nat) (R : List (List UInt8)) (ys' : List Value) (n1' : Nat), oc.data = .cell (some (.ref dl)) ∧ L' + 1 < rl ∧ m' = turnMap vt rl (fun y => if y = Str.ofString "most" then some (.int most t) else none) ∧ RulesAt vs R ∧ R.length = i ∧ (∀ r ∈ R, r.length ≤ most ∧ ∀ c ∈ r, 97 ≤ c.toNat ∧ c.toNat ≤ 99) ∧ ys'.length ≤ ys.length + 1 + 4 * i ∧
      news' = [(rl, W.listOf vs.toArray n), (L' + 1, oc), (dl, W.listOf [.ref d0, .ref d1].toArray nl), (d0, W.listOf xs.toArray n0), (d1, W.listOf ys'.toArray n1')]) ?h0 ?step ?fin
  case h0 =>
    refine ⟨_, _, _, [], _, [], _, _, ?_, ?_, rfl, ⟨rfl, fun k hk => absurd hk (Nat.not_lt_zero _)⟩, rfl, fun r hr => absurd hr List.not_mem_nil, ?_, rfl⟩
    · assumption
    · exact (‹L' + 1 < _ ∧ dl < _ ∧ d0 < _ ∧ d1 < _›).1
    · rw [List.length_append, List.length_singleton]; omega
  case step =>
    clear F3 N3 F4 N4 F5 hr9
    intro i m' news' v oI h₂ tk₂ hi hJ hP F₂ N₂ hne _
    obtain ⟨rl, oc, vt, vs, n, R, ys', n1', hoc, hrl, rfl, hvs, hRi, hRl, hys, rfl⟩ := hJ
    obtain ⟨tv, rfl⟩ := hP
    generalize hI : Array.size (Heap.objs _) = I at N₂ hne a1 a2 ⊢
    clear hI a3
    (try dsimp only)
    refine wpN_any ?_
    k_steps
    refine wpN_execs_cons (wpN_Expr (wpN_Call_method PySem.F.plainAttrs_list slot_list_append type_list_append (wpN_any ?_)))
    k_steps
    rename Fr g L' _ _ => F6
    rename News g L' _ _ => N6
    refine Held.mk ⟨⟨_, (N6 _ (.tail _ (.head _))).1, rfl⟩, fun a e => by cases e; exact ⟨_, (N6 _ (.tail _ (.head _))).1, rfl⟩, ?_⟩
    refine wpN_callWith rfl (wpN_evalArgs_some (wpN_spliced_cons (wpN_Call_Name (wpN_any ?_))))
    k_steps
    refine wpN_callWith rfl (wpN_evalArgs_some (wpN_spliced_cons ?_))
    refine' wpN_ListComp_range (h₀ := g) (L := L') (fun i vs9 news9 => ∃ (ys9 : List Value) (n9 : Nat), LetVals vs9 ∧ vs9.length = i ∧ ys9.length = ys'.length + 1 + i ∧
      news9 = [(I, oI), (rl, W.listOf vs.toArray n), (L' + 1, oc), (dl, W.listOf [.ref d0, .ref d1].toArray nl), (d0, W.listOf xs.toArray n0), (d1, W.listOf ys9.toArray n9)]) (wpN_any ?hmain) ?hh ?hclos ?hcell ?hkind ?hnames ?hx
    case hh => exact rfl
    case hclos => exact rfl
    case hcell => decide
    case hkind => exact rfl
    case hnames => decide
    case hx => exact rfl
    case hmain =>
      have hI1 : d1 ≠ I := hne (d1, _) (.tail _ (.tail _ (.tail _ (.tail _ (.head _)))))
      have hrl9 : @LT.lt Nat _ (@HAdd.hAdd Nat Nat Nat _ L' (1 : Nat)) rl := hrl
      have hI2 : d1 ≠ rl := by have := l1.2.2; omega
      have hI3 : d1 ≠ L' + 1 := by have := l1.2.2; omega
      have hb9 : ys'.length ≤ 100 := by omega
      k_steps
      rename Fr g L' _ _ => F7
      rename News g L' _ _ => N7
      rename IsRange _ _ _ _ _ _ _ _ => hr9
      rename (_ : Int) < most + 1 => hltm
      rename 0 ≤ (_ : Int) => hgem
      obtain ⟨kc, rfl⟩ := Int.eq_ofNat_of_zero_le hgem
      have hkc : kc ≤ 3 := by omega
      refine Held.mk ⟨kc, _, _, _, _, _, _, (by match kc, hkc with | 0, _ => decide | 1, _ => decide | 2, _ => decide | 3, _ => decide), (by rw [sizeLine_eq]; omega), rfl, hr9, F7, N7, ?hJ0, ?hturn, ?hfin⟩
      case hJ0 => exact ⟨ys' ++ [_], _, fun v hv => absurd hv List.not_mem_nil, rfl, by rw [List.length_append]; rfl, rfl⟩
      case hturn =>
        intro j vs9 news9 v9 mC C D I9 oC oD oI9 h₃ tk₃ hj hJ hP F₃ N₃ hne9 b1 b2 b3 b4 hns hmc
        obtain ⟨ys9, n9, hlv, hl9, hy9, rfl⟩ := hJ
        clear F7 N7
        have hI1 : d1 ≠ I9 := (hne9 (d1, _) (.tail _ (.tail _ (.tail _ (.tail _ (.tail _ (.head _))))))).1
        have hI4 : d1 ≠ C := (hne9 (d1, _) (.tail _ (.tail _ (.tail _ (.tail _ (.tail _ (.head _))))))).2.1
        have hI5 : d1 ≠ D := (hne9 (d1, _) (.tail _ (.tail _ (.tail _ (.tail _ (.tail _ (.head _))))))).2.2
        have hb9 : ys9.length ≤ 100 := by omega
        refine wpN_any ?_
        k_steps
        rename Fr g L' _ _ => F8
        rename News g L' _ _ => N8
        rename (_ : Int) < 3 => hlt3
        rename 0 ≤ (_ : Int) => hge3
        obtain ⟨kv, rfl⟩ := Int.eq_ofNat_of_zero_le hge3
        refine Held.mk ⟨_, _, _, rfl, F8, N8, ?_, ?_⟩
        · exact keys_all (Q := fun a => a ≠ I9 ∧ a ≠ C ∧ a ≠ D) hne9 rfl
        · exact ⟨ys9 ++ [_], _, hlv.snoc (by omega), by rw [List.length_append, hl9]; rfl, by rw [List.length_append, List.length_singleton, hy9]; omega, rfl⟩
      case hfin =>
        intro vs9 news9 D kD h₃ tk₃ hJ F₃ N₃ hne9 hlt9
        obtain ⟨ys9, n9, hlv, hl9, hy9, rfl⟩ := hJ
        refine wpN_any ?_
        k_steps
        refine Held.mk ⟨⟨.machine, .inr (.inl rfl), Looks.of_pure rfl⟩, wpN_any ?_⟩
        (try dsimp only [List.nil_append])
        obtain ⟨ns, hns, hnsl⟩ := hlv.ints
        refine bytes_K F₃ N₃ ⟨_, (N₃ _ (.head _)).1, rfl, _, rfl⟩ hns (fun n hn => ⟨by have := (hnsl n hn).1; omega, by have := (hnsl n hn).2; omega⟩) (by rw [hl9, sizeLine_eq]; omega) rfl fun h₄ t₄ tk₄ F₄ N₄ _ => ?_
        refine wpN_any ?_
        k_steps
        have hI5 : rl ≠ D := (hne9 (rl, _) (.tail _ (.head _)))
        have hI6 : rl ≠ I := (hne (rl, _) (.head _))
        have hI7 : rl ≠ L' + 1 := fun q => absurd hrl (by rw [q]; exact Nat.lt_irrefl _)
        have hI8 : rl ≠ d0 ∧ rl ≠ dl ∧ rl ≠ d1 := by have := l1; omega
        have hvl : vs.length ≤ 16777216 := by have := hvs.1; omega
        refine Held.mk ⟨⟨.machine, .inr (.inl rfl), Looks.of_pure rfl⟩, wpN_any ?_⟩
        (try dsimp only [List.nil_append, List.cons_append])
        k_steps
        rename Fr g L' _ _ => F10
        rename News g L' _ _ => N10
        rw [List.push_toArray] at N10
        show wpN _ _ (execs [] _) _ _
        have hr : (ns.map fun n => n.toNat.toUInt8).length = kc := by rw [List.length_map, ← hns.length, hl9]
        refine wpN_execs_nil (Held.mk ⟨_, _, _, _, rfl, F10, news_subL N10 (fun p hp => .tail _ hp), keys_all (Q := fun a => a ≠ I) hne rfl, rl, oc, _, _, _, R ++ [ns.map fun n => n.toNat.toUInt8], _, _, hoc, hrl, turn_again, hvs.snoc, ?_, ?_, ?_, rfl⟩)
        · rw [List.length_append, hRi]; rfl
        · intro r hr9
          rcases List.mem_append.mp hr9 with hr9 | hr9
          · exact hRl r hr9
          · rw [List.mem_singleton.mp hr9, hr]
            refine ⟨by omega, fun c hc => ?_⟩
            obtain ⟨n, hn, rfl⟩ := List.mem_map.mp hc
            exact letter_byte (hnsl n hn).1 (hnsl n hn).2
        · rw [hy9]; omega
  case fin =>
    clear F3 N3 F4 N4 F5 hr9
    intro m' news' h₂ tk₂ hJ F₂ N₂
    obtain ⟨rl, oc, vt, vs, n, R, ys', n1', hoc, hrl, rfl, hvs, hRi, hRl, hys, rfl⟩ := hJ
    (try dsimp only)
    refine wpN_any ?_
    k_steps
    have hrl9 : @LT.lt Nat _ (@HAdd.hAdd Nat Nat Nat _ L' (1 : Nat)) rl := hrl
    have hne9 : rl ≠ dl ∧ rl ≠ d0 ∧ rl ≠ d1 := by have := l1; omega
    refine Held.mk ⟨_, ⟨rl, vs, n, R, ys', n1', rfl, hvs, ⟨by rw [hRi]; exact hkO.out, hRl⟩, by omega, hne9, rfl⟩, fun p hp => ?_⟩
    simp only [dishLed, List.mem_cons, List.not_mem_nil, or_false] at hp ⊢
    rcases hp with rfl | rfl | rfl | rfl
    · exact .inl rfl
    · exact .inr (.inr (.inl rfl))
    · exact .inr (.inr (.inr (.inl rfl)))
    · exact .inr (.inr (.inr (.inr rfl)))
/- part E1 -/
theorem anew_E1 {M : Model} {A : Around} {env : Env} {Q : Flow → Shared → Prop} {E : Value → Shared → Prop} {s : Shared} (h : wpAny M A (execs [] env) Q E s) : wpAny M A (execs [] env) Q E s := by
  w_top off
  try (walk1; fail)
  exact h
theorem enterTopN {prog : Program} {w : World} {A : Around} {R : Result → Shared → Prop} {s : Shared} {name : Str} {params : Arguments} {body : List Stmt} {scope : Scope} {pm cd doc : Value} {a : Addr} {o : Obj} {args : List Value} {binds : List (Str × Value)}
    (hroom : A.depth < recursionLimit) (ho : s.heap.get? a = some o) (hdata : o.data = .func (Calls.docDef name params body scope pm cd doc)) (hlim : s.heap.NoLimit) (hcd : s.heap.CodeRec cd name)
    (hbind : bindArgs (Calls.docDef name params body scope pm cd doc) ⟨args, []⟩ = pure binds)
    (hkind : (binds.all fun y => scope.names.lookup y.1 == some .local || scope.names.lookup y.1 == some .cell) = true)
    (hnd : ((cellsFrom 0 scope.names []).map (·.1)).Nodup)
    (h : ∀ h₁ tk cells, Fr s.heap s.heap.objs.size h₁ (bindL (envOfC name scope s.heap.objs.size a cd).kindOf binds fun _ => none) → News s.heap s.heap.objs.size h₁ cells →
      CellsAre (bindC (envOfC name scope s.heap.objs.size a cd).kindOf binds fun _ => none) (cellsFrom (s.heap.objs.size + 1) scope.names []) cells →
      wpN (model prog w) (A.deeper (envOfC name scope s.heap.objs.size a cd)) (execs body (envOfC name scope s.heap.objs.size a cd))
        (fun f s' => R (.ok (.ret (match f with | .ret v => v | _ => .none))) s') { s with heap := h₁, toks := tk })
    (hco : scope.isCoroutine = false) (hgen : scope.isGenerator = false) (hk : scope.kind = .function) : codeN (model prog w) A (.call (.ref a) ⟨args, []⟩) R s := by
  refine codeN_call_function hroom ho hdata hco hgen rfl hcd (wpAny_of_eq hbind ?_)
  refine wpAny_newFunctionEnv_cells hk (kindsX hkind _) fun env' he s' x => ?_
  subst he
  refine ⟨hlim.keeps x.toInCall.keep, codeN_func ?_⟩
  obtain ⟨h₁, tk, rfl, _⟩ := x.done
  obtain ⟨cells, NC, Y⟩ := Cl.news (h₀ := s.heap) (Nat.le_refl _) fun n c hm => ⟨x.cell n c (lookup_of_mem_nodup (cellsFrom_names scope.names 0 (s.heap.objs.size + 1) [] [] rfl ▸ hnd) hm), x.above n c hm⟩
  exact h h₁ tk cells ⟨x.toInCall.ns, x.toInCall.keep, x.toInCall.fresh⟩ NC Y
theorem goodP (w : World) {cw : ClaimW} {cl : Str → Option Addr} {mean : ExcName → Option Value} {args : List WData} {tabs : List (Addr × Addr)} {s₁ s' : Shared} {v : Value} (hT : TabsAt tabs s₁.heap) (hr : ∀ a x, cw.raises a x = false)
    (h : GoodW cw cl mean args { s₁ with heap := ghostOf s₁.heap tabs } (.ok (.ret v)) s' ∧ GrownAll tabs s'.heap) : GoodWG cw cl mean args s₁ (.ok (.ret v)) s' := by
  let M : Model := { den := fun _ => pure (.done (.ret v)), prog := default, w := w }
  have c : codeAny M callerA (.block [] default) (GoodWG cw cl mean args s₁) s' := kn_post hT hr (codeAny_of_tree (wpAny_pure h))
  exact (wpCode_iff_wp ..).mp (c _ default rfl (caller_in.enter (.block [] default) none default (by intro x; cases x)))
theorem enter_callN {M : Model} {A : Around} {s : Shared} {f : Value} {pos : List Value} {Q : Value → Shared → Prop} (h : codeN M A (.call f ⟨pos, []⟩) (fun r s' => match r with | .ok (.ret v) => Q v s' | .ok _ => False | .error _ => False) s) : wpN M A (PySem.call f pos []) Q s := wpN_call h
theorem storeC_F {M : Model} {A : Around} {E : Value → Shared → Prop} {s : Shared} {h₀ : Heap} {L a : Addr} {m : Str → Option Value} {cn : Str} {cs : Scope} {ccd : Value} {x : Str} {v : Value} {news : List (Addr × Obj)} {g : Obj → List (Addr × Obj)} {c : Addr} {o : Obj} {v₀ : Option Value}
    {Q : Unit → Shared → Prop} (F : Fr h₀ L s.heap m) (N : News h₀ L s.heap news) (hc : (cellsFrom (L + 1) cs.names []).lookup x = some c) (U : UpdF c o news g) (hd : o.data = .cell v₀)
    (h : ∀ h' o', Fr h₀ L h' m → News h₀ L h' (g o') → o'.data = .cell (some v) → Q () { s with heap := h' })
    (hk : cs.kind = .function := by rfl) (hx : (envOfC cn cs L a ccd).kindOf x = some .cell := by rfl) : wpAny M A (storeName (envOfC cn cs L a ccd) x v) Q E s := by
  obtain ⟨own, rest, rfl, hg, h1, h2⟩ := U.split
  have hmem := N (c, o) (List.mem_append_right _ (.head _))
  refine wpAny_storeName_cell hk hx hc ⟨o, hmem.1, hd⟩ fun h' hv hs => ?_
  obtain ⟨o', ho', hd'⟩ := hv
  refine h h' o' ⟨F.ns.sameBut hs (Ne.symm hmem.2.1), fun b ob e => (hs.2 b (fun q => ?_)).trans (F.keep b ob e), F.above⟩ (hg o' ▸ N.setAt h1 h2 hs ho') hd'
  rw [q, hmem.2.2] at e; cases e
noncomputable def recOf {q : Program} {loose : List Str} {XP : (Str → Option Value) → Heap → Prop} {YP : World → Heap → Prop} {r : RowW} {d : DefRec} {kwd : List (Str × PySem.Expr)} {run : Value → List Value → Sem Value} {L C : Prop} (_ : L ∧ WalkON q loose XP YP r d kwd run → C) : DefRec := d
noncomputable def lawRec : DefRec := recOf hd
noncomputable abbrev lawEnv (L fa : Addr) (cd : Value) : Env := envOfC lawRec.name lawRec.scope L fa cd
noncomputable abbrev lawA (L fa : Addr) (cd : Value) : Around := callerA.deeper (lawEnv L fa cd)
noncomputable abbrev scriptMap (al : Addr) : Str → Option Value := fun y => if y = Str.ofString "script" then some (.ref al) else none
noncomputable abbrev lawProg : Program := PySem.Challenge.rw_xm0624_01.row.prog
noncomputable def LawBody : Prop := ∀ (w : World) (G h₁ : Heap) (L fa al : Nat) (cd : Value) (p : Program) (loose : List Str) (mean : ExcName → Option Value) (mg mb : Str → Option Value) (s : Shared) (tk : Nat) (xs : List Value) (ns : List Int) (o1 o2 o3 o4 o5 o6 : Obj) (Q : Flow → Shared → Prop),
  Fr G L h₁ (scriptMap al) → News G L h₁ [(L + 1 + 1 + 1 + 1 + 1 + 1, o1), (L + 1 + 1 + 1 + 1 + 1, o2), (L + 1 + 1 + 1 + 1, o3), (L + 1 + 1 + 1, o4), (L + 1 + 1, o5), (L + 1, o6), (280, tabObj #[])] →
  o1.data = .cell none → o2.data = .cell none → o3.data = .cell none → o4.data = .cell none → o5.data = .cell none → o6.data = .cell none →
  Below callerA G [] G → (hd.heap_1 w.params).In G → Top p loose mean mg mb G → G.IsList al xs.toArray → IntsAre xs ns → ns.length ≤ 63 → 280 < L →
  (∀ h tk m led, Fr G L h m → News G L h led → (∃ ps, (280, tabObj ps) ∈ led) → Q (.ret (.bool true)) ⟨h, s.gens, s.drawn, tk, s.os⟩) →
  wpN (model lawProg w) (lawA L fa cd) (execs lawRec.body (lawEnv L fa cd)) Q { s with heap := h₁, toks := tk }
set_option linter.unusedVariables false in
theorem law_holds_of (body : LawBody) : PySem.Challenge.rw_xm0624_01.Holds := by
  refine hd ⟨left9, ?_⟩
  intro w s₀ s₁ mg mb G Y fa o pm cd doc dV kV ho hd hcd hD hmg hg args vals as hpre hlay hrd hwl hlo
  have KX := km_in_of Y
  km_tabs Y
  have X := (Ground.X G).1
  have V := (Ground.X G).2
  refine Ground.open G ?_
  intro T B D TE TW
  try (refine guard_noD D (by decide +kernel) ?_; clear D)
  km_lay T hmg ho hd cd
  clear hmg
  wrow_args hpre hlay hrd hwl hlo
  refine wpN_mono ?_ (fun v s' h => goodP w hT9 (fun _ _ => rfl) h)
  have he := Dflts.none hD rfl
  subst he
  have he := Dflts.noKw hD
  subst he
  refine wpN_call (enterTopN (by decide) ho (fd_plain hd) (Top.nolimit T) hcd rfl rfl (by decide +kernel) (fun h₁ tk₁ cells F N0 X0 => ?_) rfl rfl rfl)
  cells_open X0
  clear hd
  kn_ghosts F T
  rename News _ _ _ _ => N9
  rename Fr _ _ _ _ => F9
  rename Below _ _ _ _ => B9
  rename Frag.In _ _ => X9
  rename Top topProg _ _ _ _ _ => T9
  rename Heap.IsList (ghostOf _ _) _ _ => I9
  rename IntsAre _ _ => J9
  refine body w _ h₁ _ fa _ cd _ _ _ _ _ s₁ tk₁ _ _ _ _ _ _ _ _ _ F9 N9 (by assumption) (by assumption) (by assumption) (by assumption) (by assumption) (by assumption) B9 X9 T9 I9 J9 (by omega) (by assumption) ?_
  intro h tk m led F N hps
  obtain ⟨ps, hps⟩ := hps
  refine ⟨?_, GrownAt.of N hps, trivial⟩
  refine goodW_bool F (by assumption) (raisesW_false ?_) ?_
  · wrow_none_raised
  · wrow_post
/- part JB -/
theorem anew_JB {M : Model} {A : Around} {env : Env} {Q : Flow → Shared → Prop} {E : Value → Shared → Prop} {s : Shared} (h : wpAny M A (execs [] env) Q E s) : wpAny M A (execs [] env) Q E s := by
  w_top off
  try (walk1; fail)
  exact h
namespace F
theorem by_slot_join : Slot "bytes" "join" "bytes.join" :=
  .of (owner := "bytes") (n := "join") (by rw [typeLookup_type, builtinLookup_eq_fast]; kernel_rfl) (by decide +kernel) (by decide +kernel) (by decide +kernel)
    (by first | exact .inl (by decide +kernel) | exact .inr (by decide +kernel)) (by rw [isSubtype_type]; kernel_rfl)
theorem by_type_join : typeOf (.builtin "bytes.join") = pure (.type "method_descriptor") := by show builtinType _ = _; rw [builtinType_eq_fast]; kernel_rfl
theorem by_entry_join : entryFor table "bytes.join" = some Builtin.«bytes.join» := entryFor_of_tree (by kernel_rfl)
theorem by_args_join_2 (a b : Value) : argsOk "bytes.join" ⟨[a, b], []⟩ := by
  unfold argsOk; rw [signature?_of (id := "bytes.join") (n := ['n', 'i', 'o', 'j']) (o := ['s', 'e', 't', 'y', 'b']) (by kernel_rfl) FB.owner_bytes]; kernel_rfl
end F
theorem take_eq {id : String} {b : Array UInt8} {t : Tok} : Builtin.Bytes.takeBufferQuiet? id (.bytes b t) 0 = pure (some (b, none)) := by
  unfold Builtin.Bytes.takeBufferQuiet? Builtin.Bytes.takeBuffer?
  rw [KBy.special_eq KBy.look_buffer, KBy.own_buffer]
  show ((Builtin.Bytes.buffer? id (.bytes b t) false >>= _) : Sem _).attempt >>= _ = _
  rw [KBy.buffer_eq]
  rfl
section
variable {prog : Program} {w : World} {A : Around} {E : Value → Shared → Prop} {s : Shared}
theorem seqItems_list {a : Addr} {vs : List Value} {Q : Option (Array Value) → Shared → Prop} (hl : s.heap.IsList a vs.toArray) (h : Q (some vs.toArray) s) : wpAny (model prog w) A (seqItems? (.ref a)) Q E s := by
  obtain ⟨o, ho, hc, n, hd⟩ := hl
  unfold seqItems?
  refine wpAny_bind (wpAny_load ho ?_)
  rw [hd]
  exact wpAny_pure h
theorem joinLetGo_none {M : Model} {keep : List Value} {Q : Unit → Shared → Prop} (h : Q () s) : ∀ l : List Value, wpAny M A (Builtin.Bytes.joinLetGo (l.map fun x => (x, none)) keep) Q E s
  | [] => wpAny_pure h
  | x :: l => by
    show wpAny M A (letGo [x] _ >>= fun _ => Builtin.Bytes.joinLetGo (l.map fun x => (x, none)) keep) Q E s
    exact wpAny_bind (wpAny_letGo (joinLetGo_none h l))
theorem joined_nil (ls : List (List UInt8)) : Builtin.Bytes.joined #[] (ls.map List.toArray) = ls.flatten.toArray := by
  unfold Builtin.Bytes.joined
  have key : ∀ (ls : List (List UInt8)) (k : Nat) (acc : Array UInt8), ((ls.map List.toArray).zipIdx k).foldl (fun out (x : Array UInt8 × Nat) => (if x.2 > 0 then out ++ #[] else out) ++ x.1) acc = acc ++ ls.flatten.toArray := by
    intro ls
    induction ls with
    | nil => intro k acc; simp
    | cons x r ih =>
      intro k acc
      rw [List.map_cons, List.zipIdx_cons, List.foldl_cons, ih]
      simp
  simpa using key ls 0 #[]
theorem sizes_sum (ls : List (List UInt8)) : ∀ c, List.foldl (fun (x1 : Nat) (x2 : Array UInt8) => x1 + x2.size) c (ls.map List.toArray) = c + ls.flatten.length := by
  induction ls with
  | nil => intro c; simp
  | cons x r ih => intro c; rw [List.map_cons, List.foldl_cons, ih]; simp [Nat.add_assoc]
theorem not_heap {vs : List Value} (h : ∀ v ∈ vs, ∃ b t, v = .bytes b t) : ((vs.map fun x => (x, (none : Option Value))).any fun x => x.1.onHeap) = false := by
  rw [List.any_eq_false]
  intro x hx
  obtain ⟨v, hv, rfl⟩ := List.mem_map.mp hx
  obtain ⟨b, t, rfl⟩ := h v hv
  show ¬ false = true
  decide
theorem join_any {a : Addr} {vs : List Value} {T : List (List UInt8)} {t : Tok} {Q : Value → Shared → Prop} (hl : s.heap.IsList a vs.toArray) (hlen : vs.length = T.length) (hvs : ∀ k, k < T.length → ∃ t, vs[k]? = some (.bytes (T.getD k []).toArray t))
    (hne : T.length ≠ 1) (hn0 : T.length ≠ 0) (hsz : T.flatten.length ≤ 1000) (h : ∀ u k, Q (.bytes T.flatten.toArray u) { s with toks := k }) :
    wpAny (model prog w) A (Builtin.«bytes.join» ⟨[.bytes #[] t, .ref a], []⟩) (fun fin s' => ∃ v, fin = .done (.ret v) ∧ Q v s') E s := by
  have hT : s.TypeIs (.ref a) "list" := hl.typeIs
  have hall : ∀ v ∈ vs, ∃ b t, v = .bytes b t := fun v hv => by
    obtain ⟨k, hk, e⟩ := List.getElem_of_mem hv
    obtain ⟨t, e2⟩ := hvs k (hlen ▸ hk)
    rw [List.getElem?_eq_getElem hk] at e2
    exact ⟨_, t, e.symm.trans (Option.some.inj e2)⟩
  unfold Builtin.«bytes.join» Builtin.Bytes.joinM
  show wpAny _ _ (Builtin.Bytes.joinItems (.ref a) >>= _) _ _ s
  refine wpAny_bind ?_
  unfold Builtin.Bytes.joinItems
  refine wpAny_bind (wpAny_typeOf hT ?_)
  refine bm_if_true rfl ?_
  refine wpAny_pure ?_
  refine wpAny_bind (seqItems_list hl ?_)
  refine bm_if_true rfl ?_
  obtain ⟨x9, y9, r9, hv⟩ : ∃ x y r, vs = x :: y :: r := by
    match vs, hlen with
    | [], h => exact absurd h.symm hn0
    | [x], h => exact absurd h.symm hne
    | x :: y :: r, _ => exact ⟨x, y, r, rfl⟩
  rw [hv]
  refine wpAny_bind ?_
  rw [← hv]
  rw [Std.Legacy.Range.forIn_eq_forIn_range']
  have hsize : ([:vs.toArray.size] : Std.Legacy.Range).size = vs.length := by simp [Std.Legacy.Range.size]
  rw [hsize]
  refine wpAny_forIn_list _ (fun rest (b : Array (Array UInt8) × List (Value × Option Value)) s' => ∃ i, i ≤ vs.length ∧ rest = List.range' i (vs.length - i) ∧ b.1 = ((T.take i).map List.toArray).toArray ∧ b.2 = (vs.take i).map (fun x => (x, none)) ∧ s' = s) _ ?turn ?fin _ _ ⟨0, Nat.zero_le _, rfl, by simp, by simp, rfl⟩
  case turn =>
    rintro x rest ⟨parts, taken⟩ s' ⟨i, hi, hr, hp, ht, rfl⟩
    dsimp only at hp ht
    subst hp ht
    have hlt : i < vs.length := by
      rcases Nat.lt_or_ge i vs.length with h | h
      · exact h
      · rw [Nat.sub_eq_zero_of_le h] at hr; cases hr
    rw [show vs.length - i = (vs.length - (i + 1)) + 1 by omega, List.range'_succ] at hr
    obtain ⟨rfl, rfl⟩ := List.cons.inj hr
    obtain ⟨ti, ei⟩ := hvs x (hlen ▸ hlt)
    have ei' : vs.toArray.getD x .none = .bytes (T.getD x []).toArray ti := by simp [ei]
    refine wpAny_bind (seqItems_list hl ?_)
    dsimp only
    rw [ei']
    refine bm_if_false (by rw [not_heap fun v hv => hall v (List.mem_of_mem_take hv)]; rfl) ?_
    refine wpAny_bind (wpAny_holding ?_)
    rw [take_eq]
    refine wpAny_pure ?_
    dsimp only
    refine wpAny_bind (seqItems_list hl ?_)
    dsimp only
    refine bm_if_false (by simp) ?_
    refine wpAny_pure ⟨x + 1, hlt, rfl, ?_, ?_, rfl⟩
    · have hTx : x < T.length := hlen ▸ hlt
      rw [List.take_succ_eq_append_getElem hTx, List.map_append]
      simp [List.getD, List.getElem?_eq_getElem hTx]
    · rw [List.take_succ_eq_append_getElem hlt]
      rw [List.getElem?_eq_getElem hlt] at ei
      rw [Option.some.inj ei]
      simp
  case fin =>
    rintro ⟨parts, taken⟩ s' ⟨i, hi, hr, hp, ht, rfl⟩
    dsimp only at hp ht
    have hie : i = vs.length := by
      rcases Nat.lt_or_ge i vs.length with h | h
      · rw [show vs.length - i = (vs.length - (i + 1)) + 1 by omega, List.range'_succ] at hr; cases hr
      · omega
    subst hp ht hie
    rw [List.take_of_length_le (Nat.le_refl _), List.take_of_length_le (by omega)]
    dsimp only
    show wpAny _ _ (pure #[] >>= _) _ _ _
    refine wpAny_bind (wpAny_pure ?_)
    refine bm_if_false ?_ ?_
    · show Builtin.Bytes.tooLong _ = false
      refine KBy.tooLong_not ?_
      rw [← Array.foldl_toList, sizes_sum]
      simp
      simp at hsz
      omega
    · show wpAny _ _ (mkBytes (Builtin.Bytes.joined #[] (T.map List.toArray)) >>= _) _ _ _
      rw [joined_nil]
      refine wpAny_bind (wpAny_mkBytes ?_ (by rw [List.size_toArray, sizeLine_eq]; omega))
      refine wpAny_bind (wpAny_holding (wpAny_point ?_))
      refine wpAny_bind (joinLetGo_none ?_ vs)
      exact wpAny_pure ⟨_, rfl, h _ _⟩
theorem join_zero {a : Addr} {t : Tok} {Q : Value → Shared → Prop} (hl : s.heap.IsList a ([] : List Value).toArray) (h : ∀ u k, Q (.bytes #[] u) { s with toks := k }) :
    wpAny (model prog w) A (Builtin.«bytes.join» ⟨[.bytes #[] t, .ref a], []⟩) (fun fin s' => ∃ v, fin = .done (.ret v) ∧ Q v s') E s := by
  have hT : s.TypeIs (.ref a) "list" := hl.typeIs
  unfold Builtin.«bytes.join» Builtin.Bytes.joinM
  show wpAny _ _ (Builtin.Bytes.joinItems (.ref a) >>= _) _ _ s
  refine wpAny_bind ?_
  unfold Builtin.Bytes.joinItems
  refine wpAny_bind (wpAny_typeOf hT ?_)
  refine bm_if_true rfl ?_
  refine wpAny_pure ?_
  refine wpAny_bind (seqItems_list hl ?_)
  refine bm_if_true rfl ?_
  refine wpAny_bind ?_
  rw [Std.Legacy.Range.forIn_eq_forIn_range']
  show wpAny _ _ (pure (#[], [])) _ _ _
  refine wpAny_pure ?_
  dsimp only
  show wpAny _ _ (pure #[] >>= _) _ _ _
  refine wpAny_bind (wpAny_pure ?_)
  refine bm_if_false rfl ?_
  show wpAny _ _ (mkBytes #[] >>= _) _ _ _
  refine wpAny_bind (wpAny_mkBytes ?_ (by decide))
  refine wpAny_bind (wpAny_holding (wpAny_point ?_))
  refine wpAny_bind (joinLetGo_none ?_ [])
  exact wpAny_pure ⟨_, rfl, h _ _⟩
theorem join_one {a : Addr} {b : Array UInt8} {tb t : Tok} {Q : Value → Shared → Prop} (hl : s.heap.IsList a [Value.bytes b tb].toArray) (h : Q (.bytes b tb) s) :
    wpAny (model prog w) A (Builtin.«bytes.join» ⟨[.bytes #[] t, .ref a], []⟩) (fun fin s' => ∃ v, fin = .done (.ret v) ∧ Q v s') E s := by
  have hT : s.TypeIs (.ref a) "list" := hl.typeIs
  unfold Builtin.«bytes.join» Builtin.Bytes.joinM
  show wpAny _ _ (Builtin.Bytes.joinItems (.ref a) >>= _) _ _ s
  refine wpAny_bind ?_
  unfold Builtin.Bytes.joinItems
  refine wpAny_bind (wpAny_typeOf hT ?_)
  refine bm_if_true rfl ?_
  refine wpAny_pure ?_
  refine wpAny_bind (seqItems_list hl ?_)
  refine bm_if_true rfl ?_
  refine wpAny_bind (wpAny_typeOf (typeIs_bytes _ _ _) ?_)
  refine bm_if_true rfl ?_
  show wpAny _ _ (rule _ >>= _) _ _ _
  refine wpAny_bind (wpAny_rule ?_)
  refine wpAny_bind (wpAny_pure ?_)
  exact wpAny_pure ⟨_, rfl, h⟩
theorem call_join {a : Addr} {vs : List Value} {T : List (List UInt8)} {t : Tok} {Q : Value → Shared → Prop} (hl : s.heap.IsList a vs.toArray) (hlen : vs.length = T.length) (hvs : ∀ k, k < T.length → ∃ t, vs[k]? = some (.bytes (T.getD k []).toArray t))
    (hsz : T.flatten.length ≤ 1000) (h : ∀ u k, Q (.bytes T.flatten.toArray u) { s with toks := k }) :
    wpAny (model prog w) A (call (.builtin "bytes.join") [.bytes #[] t, .ref a]) Q E s := by
  refine wpAny_call_entry F.by_slot_join (typeIs_bytes _ _ _) F.by_entry_join ?_ (F.by_args_join_2 _ _)
  by_cases h1 : T.length = 1
  · obtain ⟨b, rfl⟩ := ex_one h1
    obtain ⟨v, rfl⟩ := ex_one hlen
    obtain ⟨tb, e⟩ := hvs 0 (by simp)
    cases e
    refine join_one hl ?_
    have := h tb s.toks
    simpa using this
  · by_cases h0 : T.length = 0
    · obtain rfl : T = [] := List.eq_nil_of_length_eq_zero h0
      obtain rfl : vs = [] := List.eq_nil_of_length_eq_zero hlen
      exact join_zero hl h
    · exact join_any hl hlen hvs h1 h0 hsz h
theorem meth_join {M : Model} {b : Array UInt8} {t : Tok} {pl : Sem Bool} {Q : Value × List Value → Shared → Prop} (h : Q (.builtin "bytes.join", [.bytes b t]) s) : wpAny M A (getMethod (.bytes b t) "join" pl) Q E s := by
  with_reducible exact KBd.method_of (.bytes b t) (typeIs_bytes _ _ _) F.by_slot_join F.by_type_join KBd.noRef h
end
/- part NC -/
theorem anew_NC {M : Model} {A : Around} {env : Env} {Q : Flow → Shared → Prop} {E : Value → Shared → Prop} {s : Shared} (h : wpAny M A (execs [] env) Q E s) : wpAny M A (execs [] env) Q E s := by
  w_top off
  try (walk1; fail)
  exact h
open Sem (wp)
section
variable {prog : Program} {w : World} {A : Around} {s : Shared} {env : Env} {R : Result → Shared → Prop}
theorem wpN_ListComp_bytes {h₀ : Heap} {L : Addr} {elt iter : PySem.Expr} {x : Str} {px : Pos} {scope : Scope} {pos : Pos} {cl : List (Str × Addr)} {Q : Value → Shared → Prop} (J : Nat → List Value → List (Addr × Obj) → Prop)
    (h : wpN (model prog w) A (eval iter env) (fun xv s₁ => Held (∃ (l : List UInt8) (t : Tok) (m : Str → Option Value) (news : List (Addr × Obj)), l.length ≤ sizeLine ∧ xv = .bytes l.toArray t ∧ Fr h₀ L s₁.heap m ∧ News h₀ L s₁.heap news ∧ J 0 [] news ∧
      TurnC prog w A env h₀ L m news elt x scope cl s₁.gens s₁.drawn s₁.os l.length (fun i v => ∃ t, v = .int ((l.getD i 0).toNat) t) J ∧
      (∀ ys news₁ D k h₁ tk₁, J l.length ys news₁ → Fr h₀ L h₁ m → News h₀ L h₁ ((D, PySem.W.listOf ys.toArray k) :: news₁) → (∀ p ∈ news₁, p.1 ≠ D) → (∀ p ∈ news, p.1 < D) → Q (.ref D) ⟨h₁, s₁.gens, s₁.drawn, tk₁, s₁.os⟩))) s)
    (hh : A.handled = none)
    (hclos : closureFor scope env = pure cl) (hcell : ∀ y ∈ scope.names, y.2 ≠ .cell) (hkind : scope.kind = .function)
    (hnames : ∀ y ∈ scope.names, y.2 = .local → scope.names.lookup y.1 = some .local) (hx : scope.names.lookup x = some .local)
    (hs : ∀ x, foldedSetIterable iter env x = pure x := by intro _; rfl) :
    wpN (model prog w) A (eval (.ListComp elt [⟨.Name x px, iter, [], 0⟩] scope pos) env) Q s := by
  rw [eval_ListComp]
  refine wpN_comp (use := none) rfl hs hclos hkind hnames (wpN_mono h (fun xv s₁ h₁ => ?_))
  obtain ⟨l, t, m, news, hsz, rfl, F, N, h0, step, fin⟩ := h₁
  refine wpN_any (KBw.pyIter_bytes ?_)
  obtain ⟨F₁, N₁, a1, a2, a3⟩ := range_ground (o := { cls := .type "bytes_iterator", data := .fields #[.bytes l.toArray t, .int 0 0] }) F N
  have hlen : l.toArray.size = l.length := List.size_toArray
  refine comp_blockI (n := l.toArray.size) (RR := fun acc C => compPostN (model prog w) A none Q acc C) (KBw.walks hh s₁.heap.objs.size l.toArray t) (fun i h e => by obtain ⟨o, e, _⟩ := e; exact ⟨o, e⟩) (by rw [hlen]; exact hsz) hcell hkind hx a1 a2 (fun p hp => Nat.ne_of_lt (a3 p hp)) ⟨_, Heap.get?_push_size _ rfl, rfl, rfl⟩ F₁ N₁ J h0
    (fun i ys news₁ v mC C D oC oD oI h₂ tk₂ hi hJ hP F₂ N₂ hn₂ b1 b2 b3 b4 hns₂ hv => step i ys news₁ v mC C D _ oC oD oI h₂ tk₂ (hlen ▸ hi) hJ ?_ F₂ N₂ hn₂ b1 b2 b3 (fun p hp => ⟨(b4 p hp).1, (b4 p hp).2, a3 p hp⟩) hns₂ hv)
    (fun ys news₁ mC C D k h₂ tk₂ hJ F₂ N₂ hn₂ hCD hCL hDL hC0 hlt hns₂ => ⟨mC, hns₂, fun h₃ hs₃ => ?_⟩)
  · obtain ⟨c, u, hc, rfl⟩ := hP
    refine ⟨u, ?_⟩
    have hc' : l[i]? = some c := by simpa using hc
    rw [List.getD, hc']; rfl
  · refine fin ys news₁ D k h₃ tk₂ (hlen ▸ hJ) ⟨F₂.ns.sameBut hs₃ (Ne.symm hCL), fun b o e => (hs₃.2 b fun q => by rw [q, hC0] at e; cases e).trans (F₂.keep b o e), F₂.above⟩ (fun p hp => ?_) (fun p hp => (hn₂ p hp).1) hlt
    rcases List.mem_cons.mp hp with rfl | hp'
    · exact ⟨(hs₃.2 _ (Ne.symm hCD)).trans (N₂ _ hp).1, (N₂ _ hp).2⟩
    · exact ⟨(hs₃.2 _ (hn₂ p hp').2).trans (N₂ p hp).1, (N₂ p hp).2⟩

theorem codeN_compIV {h₀ : Heap} {L I C D V : Addr} {n : Nat} {P : Nat → Value → Prop} {St : Nat → Heap → Prop} {m mC : Str → Option Value} {vv : Option Value} {news : List (Addr × Obj)} {elt iter : PySem.Expr} {x : Str} {px : Pos} {scope : Scope} {pos : Pos} {cenv : Env}
    (W : Walks prog w A I [I] [I] n P St) (hIe : ∀ i h, St i h → ∃ o, h.get? I = some o) (hsz : n ≤ sizeLine)
    (hx : cenv.kindOf x = some .cell) (hkf : cenv.scope.kind = .function) (hcx : cenv.cells.lookup x = some V)
    (hIL : I ≠ L) (hCL : C ≠ L) (hDL : D ≠ L) (hVL : V ≠ L) (hIC : I ≠ C) (hID : I ≠ D) (hCD : C ≠ D) (hIV : I ≠ V) (hCV : C ≠ V) (hDV : D ≠ V) (hI0 : h₀.get? I = none) (hC0 : h₀.get? C = none) (hD0 : h₀.get? D = none) (hV0 : h₀.get? V = none)
    (hn : ∀ p ∈ news, p.1 ≠ I ∧ p.1 ≠ C ∧ p.1 ≠ D ∧ p.1 ≠ V) (hst : St 0 s.heap) (hns : s.heap.Ns C mC) (hV : s.heap.IsCell V vv) (hD : s.heap.PlainList D #[]) (F : Fr h₀ L s.heap m) (N : News h₀ L s.heap news)
    (J : Nat → List Value → List (Addr × Obj) → Prop) (h0 : J 0 [] news)
    (step : ∀ i ys news₁ v oC oV oD oI h₁ tk₁, i < n → J i ys news₁ → P i v → Fr h₀ L h₁ m → News h₀ L h₁ ((C, oC) :: (V, oV) :: (D, oD) :: (I, oI) :: news₁) → (∀ p ∈ news₁, p.1 ≠ I ∧ p.1 ≠ C ∧ p.1 ≠ D ∧ p.1 ≠ V) → oV.data = .cell (some v) →
      wpN (model prog w) A (eval elt cenv) (fun y s₃ => Held (∃ news₂ h₂ tk₂, s₃ = ⟨h₂, s.gens, s.drawn, tk₂, s.os⟩ ∧ Fr h₀ L h₂ m ∧ News h₀ L h₂ ((C, oC) :: (V, oV) :: (D, oD) :: (I, oI) :: news₂) ∧ (∀ p ∈ news₂, p.1 ≠ I ∧ p.1 ≠ C ∧ p.1 ≠ D ∧ p.1 ≠ V) ∧ J (i + 1) (ys ++ [y]) news₂)) ⟨h₁, s.gens, s.drawn, tk₁, s.os⟩)
    (fin : ∀ ys news₁ mC k h₁ tk₁, J n ys news₁ → Fr h₀ L h₁ m → News h₀ L h₁ ((D, PySem.W.listOf ys.toArray k) :: news₁) → (∀ p ∈ news₁, p.1 ≠ D ∧ p.1 ≠ C) → h₁.Ns C mC → R (.ok .next) ⟨h₁, s.gens, s.drawn, tk₁, s.os⟩) :
    codeN (model prog w) A (.compLoop (.ListComp elt [⟨.Name x px, iter, [], 0⟩] scope pos) 0 (.ref I) (.ref D) cenv) R s := by
  refine codeN_compLoop (fun k s' => ∃ h' tk mC' vv' ys news' i, s' = ⟨h', s.gens, s.drawn, tk, s.os⟩ ∧ St i h' ∧ h'.Ns C mC' ∧ h'.IsCell V vv' ∧ h'.PlainList D ys.toArray ∧ ys.length = i ∧ Fr h₀ L h' m ∧ News h₀ L h' news' ∧ (∀ p ∈ news', p.1 ≠ I ∧ p.1 ≠ C ∧ p.1 ≠ D ∧ p.1 ≠ V) ∧ J i ys news' ∧ i ≤ n ∧ k = n + 1 - i) ?_ (n + 1)
    ⟨s.heap, s.toks, mC, vv, [], news, 0, rfl, hst, hns, hV, hD, rfl, F, N, hn, h0, Nat.zero_le _, rfl⟩
  rintro k s' ⟨h', tk, mC', vv', ys, news', i, rfl, hst', hns', hV', hD', hlen, F', N', hn', hJ, hi, rfl⟩
  have next : ∀ h₁ : Heap, (∀ b o, b ∉ [I] → h'.get? b = some o → h₁.get? b = some o) → Fr h₀ L h₁ m ∧ News h₀ L h₁ news' ∧ h₁.Ns C mC' ∧ h₁.IsCell V vv' ∧ h₁.PlainList D ys.toArray := fun h₁ hk₁ =>
    ⟨⟨F'.ns.at' fun o e => hk₁ _ o (fun q => hIL (List.mem_singleton.mp q).symm) e, fun b o e => hk₁ b o (fun q => by rw [List.mem_singleton.mp q, hI0] at e; cases e) (F'.keep b o e), F'.above⟩,
      fun p hp => ⟨hk₁ _ _ (fun q => (hn' p hp).1 (List.mem_singleton.mp q)) (N' p hp).1, (N' p hp).2⟩, hns'.at' fun o e => hk₁ _ o (fun q => hIC (List.mem_singleton.mp q).symm) e,
      (by obtain ⟨o, e, d⟩ := hV'; exact ⟨o, hk₁ _ o (fun q => hIV (List.mem_singleton.mp q).symm) e, d⟩), hD'.at fun o e => hk₁ _ o (fun q => hID (List.mem_singleton.mp q).symm) e⟩
  by_cases hlt : i < n
  · refine wpN_any (W.item i _ _ _ hlt hst' fun v h₁ tk₁ hP hst₁ hk₁ => ?_)
    obtain ⟨F₁, N₁, hns₁, hV₁, hD₁⟩ := next h₁ hk₁
    refine wpN_any (wpAny_assign_Name (wpAny_storeName_cell hkf hx hcx hV₁ (fun h₂ hc₂ hs₂ => ?_)))
    obtain ⟨oV, hoV, hdV⟩ := hc₂
    obtain ⟨oI, hoI⟩ := hIe _ _ hst₁
    have hoI₂ : h₂.get? I = some oI := (hs₂.2 I hIV).trans hoI
    have hn₂ : h₂.Ns C mC' := hns₁.sameBut hs₂ hCV
    obtain ⟨oC, hoC⟩ : ∃ o, h₂.get? C = some o := by obtain ⟨o, _, _, e, _⟩ := hn₂; exact ⟨o, e⟩
    obtain ⟨nD, hoD⟩ := hD₁
    have hoD₂ := (hs₂.2 D hDV).trans hoD
    have F₂ : Fr h₀ L h₂ m := ⟨F₁.ns.sameBut hs₂ (Ne.symm hVL), fun b o e => (hs₂.2 b fun q => by rw [q, hV0] at e; cases e).trans (F₁.keep b o e), F₁.above⟩
    have N₂ : News h₀ L h₂ ((C, oC) :: (V, oV) :: (D, _) :: (I, oI) :: news') := fun p hp => by
      rcases List.mem_cons.mp hp with rfl | hp
      · exact ⟨hoC, hCL, hC0⟩
      rcases List.mem_cons.mp hp with rfl | hp
      · exact ⟨hoV, hVL, hV0⟩
      rcases List.mem_cons.mp hp with rfl | hp
      · exact ⟨hoD₂, hDL, hD0⟩
      rcases List.mem_cons.mp hp with rfl | hp
      · exact ⟨hoI₂, hIL, hI0⟩
      · exact ⟨(hs₂.2 _ (hn' p hp).2.2.2).trans (N₁ p hp).1, (N₁ p hp).2⟩
    refine wpN_mono (step i ys news' v oC oV _ oI h₂ _ hlt hJ hP F₂ N₂ hn' hdV) (fun y s₃ h₃ => ?_)
    obtain ⟨news₃, h₃', tk₃, rfl, F₃, N₃, hn₃, hJ₃⟩ := h₃
    refine wpN_any (wpAny_list_append_plain (hsz := by rw [List.size_toArray]; omega) ⟨nD, (N₃ _ (.tail _ (.tail _ (.head _)))).1⟩ fun h₄ hl₄ hs₄ => ?_)
    refine ⟨n + 1 - (i + 1), by omega, h₄, _, _, some v, ys ++ [y], news₃, i + 1, rfl, ?_, ((hn₂.at' (h' := h₃') fun o e => ?_).sameBut hs₄ hCD), ⟨oV, (hs₄.2 _ (Ne.symm hDV)).trans (N₃ _ (.tail _ (.head _))).1, hdV⟩, by simpa using hl₄, by rw [List.length_append, List.length_singleton, hlen],
      ⟨F₃.ns.sameBut hs₄ (Ne.symm hDL), fun b o e => (hs₄.2 b fun q => by rw [q, hD0] at e; cases e).trans (F₃.keep b o e), F₃.above⟩,
      fun p hp => ⟨(hs₄.2 _ (hn₃ p hp).2.2.1).trans (N₃ p (.tail _ (.tail _ (.tail _ (.tail _ hp))))).1, (N₃ p (.tail _ (.tail _ (.tail _ (.tail _ hp))))).2⟩, hn₃, hJ₃, hlt, rfl⟩
    · refine W.frame _ _ _ hst₁ (fun b hb o e => ?_)
      rw [List.mem_singleton.mp hb] at e ⊢
      rw [hoI] at e; cases e
      exact (hs₄.2 _ hID).trans (N₃ _ (.tail _ (.tail _ (.tail _ (.head _))))).1
    · rw [hoC] at e; cases e
      exact (N₃ _ (.head _)).1
  · have hin : i = n := by omega
    subst hin
    refine wpN_any (W.done _ _ _ hst' fun h₁ tk₁ hk₁ => ?_)
    obtain ⟨F₁, N₁, hns₁, hV₁, nD, hD₁⟩ := next h₁ hk₁
    exact fin ys news' mC' nD h₁ tk₁ hJ F₁ (fun p hp => (List.mem_cons.mp hp).elim (fun e => by subst e; exact ⟨hD₁, hDL, hD0⟩) (N₁ p)) (fun p hp => ⟨(hn' p hp).2.2.1, (hn' p hp).2.1⟩) hns₁

noncomputable def TurnV (prog : Program) (w : World) (A : Around) (env : Env) (h₀ : Heap) (L : Addr) (m : Str → Option Value) (news : List (Addr × Obj)) (elt : PySem.Expr) (x : Str) (scope : Scope) (cl : List (Str × Addr)) (gs : Array GenState) (dr : Drawn) (os : OsState)
    (n : Nat) (P : Nat → Value → Prop) (J : Nat → List Value → List (Addr × Obj) → Prop) : Prop :=
  ∀ i ys news₁ v C D I V oC oV oD oI h₁ tk₁, i < n → J i ys news₁ → P i v → Fr h₀ L h₁ m → News h₀ L h₁ ((C, oC) :: (V, oV) :: (D, oD) :: (I, oI) :: news₁) → (∀ p ∈ news₁, p.1 ≠ I ∧ p.1 ≠ C ∧ p.1 ≠ D ∧ p.1 ≠ V) → I < D ∧ D < C ∧ C < V → (∀ p ∈ news, p.1 < I) → oV.data = .cell (some v) →
      wpN (model prog w) A (eval elt (compEnvC scope ((x, V) :: cl) C env)) (fun y s₃ => Held (∃ news₂ h₂ tk₂, s₃ = ⟨h₂, gs, dr, tk₂, os⟩ ∧ Fr h₀ L h₂ m ∧ News h₀ L h₂ ((C, oC) :: (V, oV) :: (D, oD) :: (I, oI) :: news₂) ∧ (∀ p ∈ news₂, p.1 ≠ I ∧ p.1 ≠ C ∧ p.1 ≠ D ∧ p.1 ≠ V) ∧ J (i + 1) (ys ++ [y]) news₂)) ⟨h₁, gs, dr, tk₁, os⟩

theorem wpN_ListComp_rangeV {h₀ : Heap} {L : Addr} {elt iter : PySem.Expr} {x : Str} {px : Pos} {scope : Scope} {pos : Pos} {cl : List (Str × Addr)} {Q : Value → Shared → Prop} (J : Nat → List Value → List (Addr × Obj) → Prop)
    (h : wpN (model prog w) A (eval iter env) (fun xv s₁ => Held (∃ n r t u v m news, Builtin.Range.small 0 ((n : Nat) : Int) 1 = true ∧ n ≤ sizeLine ∧ xv = .ref r ∧ IsRange s₁.heap r 0 n 1 t u v ∧ Fr h₀ L s₁.heap m ∧ News h₀ L s₁.heap news ∧ J 0 [] news ∧
      TurnV prog w A env h₀ L m news elt x scope cl s₁.gens s₁.drawn s₁.os n (fun i v => ∃ t, v = .int (0 + i * 1) t) J ∧
      (∀ ys news₁ D k h₁ tk₁, J n ys news₁ → Fr h₀ L h₁ m → News h₀ L h₁ ((D, PySem.W.listOf ys.toArray k) :: news₁) → (∀ p ∈ news₁, p.1 ≠ D) → (∀ p ∈ news, p.1 < D) → Q (.ref D) ⟨h₁, s₁.gens, s₁.drawn, tk₁, s₁.os⟩))) s)
    (hh : A.handled = none)
    (hclos : closureFor scope env = pure cl) (hcell : ∀ (n : Nat) (cl : List (Str × Addr)), cellsFrom n scope.names cl = (x, n) :: cl) (hpush : ∀ h : Heap, pushCells h scope.names = h.push { cls := .type "cell", data := .cell none }) (hkind : scope.kind = .function)
    (hnames : ∀ y ∈ scope.names, y.2 = .local → scope.names.lookup y.1 = some .local) (hx : (relabel scope env).names.lookup x = some .cell)
    (hs : ∀ x, foldedSetIterable iter env x = pure x := by intro _; rfl) :
    wpN (model prog w) A (eval (.ListComp elt [⟨.Name x px, iter, [], 0⟩] scope pos) env) Q s := by
  rw [eval_ListComp]
  refine wpN_comp (use := none) rfl hs hclos hkind hnames (wpN_mono h (fun xv s₁ h₁ => ?_))
  obtain ⟨n, r, t, u, v, m, news, hsmall, hsz, rfl, hr, F, N, h0, step, fin⟩ := h₁
  refine wpN_any (wpAny_pyIter_range hr hsmall ?_)
  obtain ⟨F₁, N₁, a1, a2, a3⟩ := range_ground (o := { cls := .type "range_iterator", data := .fields #[rawInt 0, rawInt (Builtin.Range.rangeSize 0 n 1), rawInt 1] }) F N
  have W := Walks.range (prog := prog) (w := w) hh s₁.heap.objs.size 0 1 n
  have hst : IsRangeIter (s₁.heap.push { cls := .type "range_iterator", data := .fields #[rawInt 0, rawInt (Builtin.Range.rangeSize 0 n 1), rawInt 1] }) s₁.heap.objs.size (0 + (0 : Nat) * 1) ((n : Int) - (0 : Nat)) 1 := by rw [rangeSize_nat]; exact Heap.get?_push_size _ rfl
  have hI1 : (s₁.heap.push { cls := .type "range_iterator", data := .fields #[rawInt 0, rawInt (Builtin.Range.rangeSize 0 n 1), rawInt 1] }).objs.size = s₁.heap.objs.size + 1 := Heap.size_push _ _
  generalize hI : s₁.heap.objs.size = I at *
  generalize hH1 : s₁.heap.push { cls := .type "range_iterator", data := .fields #[rawInt 0, rawInt (Builtin.Range.rangeSize 0 n 1), rawInt 1] } = H1 at *
  refine wpN_any (wpAny_newObj_type ?_)
  unfold newFunctionEnv
  refine wpN_bind (wpN_any (wpAny_alloc ?_))
  refine wpN_bind (wpN_any (wpAny_layCells _ (fun name kind cells => by cases hkc : kind == NameKind.cell <;> simp [hkc]) _ _ _ _ ?_))
  dsimp only
  rw [hcell, hpush]
  generalize hH2 : H1.push { cls := .type "list", dict := none, data := .seq ([] : List Value).toArray } = H2
  have hD : H2.objs.size = I + 2 := by rw [← hH2, Heap.size_push, hI1]
  have hC0 : (H2.push { cls := Value.type (if (some env).isSome = true then "dict" else "frame"), data := Data.dict #[] }).Ns H2.objs.size (fun _ => none) := Heap.Ns.new H2 (.type "dict")
  generalize hH3 : (H2.push { cls := Value.type (if (some env).isSome = true then "dict" else "frame"), data := Data.dict #[] }) = H3 at *
  have hV : H3.objs.size = I + 3 := by rw [← hH3, Heap.size_push, hD]
  refine wpN_bind (wpN_pure (wpN_pure ?_))
  rw [hI1, hD, hV]
  show codeN (model prog w) A (.compStart (.ListComp elt [⟨.Name x px, iter, [], 0⟩] scope pos) 0 (.ref I) (.ref (I + 1)) (compEnvC scope ((x, I + 3) :: cl) (I + 2) env)) (compPostN (model prog w) A none Q (.ref (I + 1)) (I + 2)) _
  generalize hH4 : H3.push { cls := Value.type "cell", data := Data.cell none } = H4
  have old : ∀ b o, H1.get? b = some o → H4.get? b = some o := fun b o e => by
    rw [← hH4]; refine Heap.get?_push_of_some _ ?_
    rw [← hH3]; refine Heap.get?_push_of_some _ ?_
    rw [← hH2]; exact Heap.get?_push_of_some _ e
  have hL : L < I := by
    have := F.ns.lt
    rw [hI] at this; exact this
  have hfresh : ∀ a, I ≤ a → h₀.get? a = none := fun a ha => Heap.get?_none_of_le (Nat.le_trans F.above (Nat.le_trans (Nat.le_of_lt hL) ha))
  have gD : H4.PlainList (I + 1) #[] := by
    refine ⟨0, ?_⟩
    rw [← hH4]; refine Heap.get?_push_of_some _ ?_
    rw [← hH3]; refine Heap.get?_push_of_some _ ?_
    rw [← hH2, ← hI1]; exact Heap.get?_push_size _ rfl
  have gC : H4.Ns (I + 2) (fun _ => none) := by
    rw [← hD, ← hH4]; exact hC0.keeps fun b o e => Heap.get?_push_of_some _ e
  have gV : H4.IsCell (I + 3) none := by
    rw [← hV, ← hH4]; exact ⟨_, Heap.get?_push_size _ rfl, rfl⟩
  have loop : codeN (model prog w) A (.compLoop (.ListComp elt [⟨.Name x px, iter, [], 0⟩] scope pos) 0 (.ref I) (.ref (I + 1)) (compEnvC scope ((x, I + 3) :: cl) (I + 2) env)) (compPostN (model prog w) A none Q (.ref (I + 1)) (I + 2)) { s₁ with heap := H4 } := by
    refine codeN_compIV (s := { s₁ with heap := H4 }) (V := I + 3) (C := I + 2) (L := L) (h₀ := h₀) (m := m) W (fun i h e => ⟨_, e⟩) hsz hx (by simp [compEnvC, relabel, hkind]) (by simp [compEnvC]) a1 ?_ ?_ ?_ ?_ ?_ ?_ ?_ ?_ ?_ a2 (hfresh _ (Nat.le_add_right I 2)) (hfresh _ (Nat.le_add_right I 1)) (hfresh _ (Nat.le_add_right I 3))
      (fun p hp => ?_) (W.frame _ _ _ hst fun b _ o e => old b o e) gC gV gD (F₁.keeps old) (fun p hp => ⟨old _ _ (N₁ p hp).1, (N₁ p hp).2⟩) J h0 ?_ ?_
    · exact Nat.ne_of_gt (Nat.lt_of_lt_of_le hL (Nat.le_add_right _ _))
    · exact Nat.ne_of_gt (Nat.lt_of_lt_of_le hL (Nat.le_add_right _ _))
    · exact Nat.ne_of_gt (Nat.lt_of_lt_of_le hL (Nat.le_add_right _ _))
    · exact Nat.ne_of_lt (by omega)
    · exact Nat.ne_of_lt (by omega)
    · exact Nat.ne_of_gt (by omega)
    · exact Nat.ne_of_lt (by omega)
    · exact Nat.ne_of_lt (by omega)
    · exact Nat.ne_of_lt (by omega)
    · have := a3 p hp
      exact ⟨Nat.ne_of_lt this, Nat.ne_of_lt (Nat.lt_of_lt_of_le this (Nat.le_add_right _ _)), Nat.ne_of_lt (Nat.lt_of_lt_of_le this (Nat.le_add_right _ _)), Nat.ne_of_lt (Nat.lt_of_lt_of_le this (Nat.le_add_right _ _))⟩
    · intro i ys news₁ v oC oV oD oI h₂ tk₂ hi hJ hP F₂ N₂ hn₂ hv
      exact step i ys news₁ v (I + 2) (I + 1) I (I + 3) oC oV oD oI h₂ tk₂ hi hJ hP F₂ N₂ hn₂ ⟨Nat.lt_succ_self _, Nat.lt_succ_self _, Nat.lt_succ_self _⟩ a3 hv
    · intro ys news₁ mC k h₂ tk₂ hJ F₂ N₂ hn₂ hns₂
      refine ⟨mC, hns₂, fun h₃ hs₃ => ?_⟩
      have hCL : I + 2 ≠ L := Nat.ne_of_gt (Nat.lt_of_lt_of_le hL (Nat.le_add_right _ _))
      refine fin ys news₁ (I + 1) k h₃ tk₂ hJ ⟨F₂.ns.sameBut hs₃ (Ne.symm hCL), fun b o e => (hs₃.2 b fun q => by rw [q, hfresh _ (Nat.le_add_right I 2)] at e; cases e).trans (F₂.keep b o e), F₂.above⟩ (fun p hp => ?_) (fun p hp => (hn₂ p hp).1) (fun p hp => Nat.lt_succ_of_lt (a3 p hp))
      rcases List.mem_cons.mp hp with rfl | hp'
      · exact ⟨(hs₃.2 _ (Nat.ne_of_lt (Nat.lt_succ_self _))).trans (N₂ _ hp).1, (N₂ _ hp).2⟩
      · exact ⟨(hs₃.2 _ (hn₂ p hp').2).trans (N₂ p hp).1, (N₂ p hp).2⟩
  exact codeN_compStart loop (wpN_any (W.self 0 _ _ _ (W.frame _ _ _ hst fun b _ o e => old b o e) loop))
end
/- part LC -/
theorem anew_LC {M : Model} {A : Around} {env : Env} {Q : Flow → Shared → Prop} {E : Value → Shared → Prop} {s : Shared} (h : wpAny M A (execs [] env) Q E s) : wpAny M A (execs [] env) Q E s := by
  w_top off
  try (walk1; fail)
  exact h
set_option linter.unusedVariables false in
theorem spec_counts3 {prog : Program} {w : World} {l : List UInt8} {t : Tok} {p1 p2 p3 : Nat} {q1 q2 q3 : Obj} (hl : l.length ≤ 16777216) :
    Spec prog w (.ref 299) [.bytes l.toArray t] 3 20 [(p1, q1), (p2, q2), (p3, q3)] (fun r new => ∃ (c : Nat) (t0 t1 t2 : Tok) (n : Nat), r = .ref c ∧ new = [(c, W.listOf [.int (l.count 97) t0, .int (l.count 98) t1, .int (l.count 99) t2].toArray n), (p1, q1), (p2, q2), (p3, q3)] ∧ c ≠ p1 ∧ c ≠ p2 ∧ c ≠ p3) := by
  intro p loose mean mg mb dp un gd cn cs a ccd cl outer A₀ base h₀ L m s Q E B F X N Tp hk hd hu ret
  refine wpAny_call ?_
  walk_at "m enter"
  intro g L' h₁ FG F' N' B' X' T' l1 G
  (try dsimp only)
  (try k_fold)
  k_lt l1
  k_steps
  exact ⟨_, ⟨_, _, _, _, _, rfl, rfl, by omega, by omega, by omega⟩, fun p hp => hp⟩
/- part Q0 -/
theorem anew_Q0 {M : Model} {A : Around} {env : Env} {Q : Flow → Shared → Prop} {E : Value → Shared → Prop} {s : Shared} (h : wpAny M A (execs [] env) Q E s) : wpAny M A (execs [] env) Q E s := by
  w_top off
  try (walk1; fail)
  exact h
noncomputable abbrev pairObj (b : List UInt8) (t : Tok) (n : Int) (u : Tok) : Obj := { cls := .type "tuple", data := .seq #[.bytes b.toArray t, .int n u] }
theorem specN_grownR {prog : Program} {w : World} {rl : Nat} {R : List (List UInt8)} {vs : List Value} {l : List UInt8} {tt tm : Tok} {n most : Nat} {tabs : List (Addr × Obj)} (hT : TabSt tabs) (hvs : RulesAt vs R) (hR2 : R.length = 2 ∨ R.length = 3) (hR : ∀ r ∈ R, r.length ≤ 100)
    (hfit : l.length ≤ 100) (hmost : most ≤ 99) (hlet : ∀ c ∈ l, 97 ≤ c.toNat ∧ c.toNat ≤ 99) :
    SpecN prog w (.ref 285) [.bytes l.toArray tt, .ref rl, .int most tm] 30 260 ((rl, W.listOf vs.toArray n) :: tabs)
      (fun r new => ∃ a t u tabs', r = .ref a ∧ TabF tabs' ∧ new = (a, pairObj (grow R l most).1 t (grow R l most).2 u) :: (rl, W.listOf vs.toArray n) :: tabs') := specN_growns hT ⟨rfl, hvs.1, hR2, hvs.2⟩ hfit hmost hR hlet
noncomputable def tagOf (o : Obj) : Nat := match o.data with
  | .seq _ _ => 0
  | .cell _ => 1
  | .fields vs => (match vs[1]? with | some (Value.str _ _) => 2 | _ => 3)
  | _ => 4
theorem tag_cell {o : Obj} {v : Option Value} (h : o.data = .cell v) : tagOf o = 1 := by unfold tagOf; rw [h]
theorem neTag {g h : Heap} {L a b : Addr} {news : List (Addr × Obj)} {oa ob : Obj} {i j : Nat} (N : News g L h news) (ha : (a, oa) ∈ news) (hb : (b, ob) ∈ news) (ta : tagOf oa = i) (tb : tagOf ob = j) (hij : i ≠ j) : a ≠ b := fun q => by
  have e := (N _ ha).1
  rw [q, (N _ hb).1] at e
  cases e
  exact hij (ta.symm.trans tb)
theorem tabF_tag {g h : Heap} {L : Addr} {tabs news : List (Addr × Obj)} (hT : TabSt tabs) (N : News g L h news) (ht : ∀ q ∈ tabs, q ∈ news) {q : Addr × Obj} (hq : q ∈ news) (h1 : q.1 ≠ 280) (h2 : tagOf q.2 ≠ 2) : q.1 ∉ tabs.map (·.1) := by
  rcases hT with rfl | ⟨c1, c2, oc1, oc2, vs1, vs2, t1, t2, rfl, e1, e2, e3, e4, e5, e6, e7⟩
  · intro hm; rw [List.map_cons, List.map_nil, List.mem_singleton] at hm; exact h1 hm
  · have k1 : tagOf oc1 = 2 := by unfold tagOf; rw [e1]; show (match vs1[1]? with | some (Value.str _ _) => 2 | _ => 3) = 2; rw [e2]
    have k2 : tagOf oc2 = 2 := by unfold tagOf; rw [e3]; show (match vs2[1]? with | some (Value.str _ _) => 2 | _ => 3) = 2; rw [e4]
    intro hm
    simp only [List.map_cons, List.map_nil, List.mem_cons, List.not_mem_nil, or_false] at hm
    rcases hm with hm | hm | hm
    · exact h1 hm
    · exact neTag N hq (ht (c1, oc1) (.tail _ (.head _))) rfl k1 h2 hm
    · exact neTag N hq (ht (c2, oc2) (.tail _ (.tail _ (.head _)))) rfl k2 h2 hm
section
variable {prog : Program} {w : World} {A₀ A : Around} {s : Shared} {base h₀ : Heap} {outer : List Env} {L : Addr} {m mg mb : Str → Option Value} {env : Env} {news rest tabs : List (Addr × Obj)} {p : Program} {loose : List Str} {mean : ExcName → Option Value}
theorem use_grown {rl : Nat} {R : List (List UInt8)} {vs : List Value} {l : List UInt8} {tt tm : Tok} {n most : Nat} {dp un : Nat} {gd : Option (List Code)} {cn : Str} {cs : Scope} {a : Addr} {ccd : Value} {cl : List (Str × Addr)} {Q : Value → Shared → Prop}
    (hT : TabSt tabs) (hvs : RulesAt vs R) (hR2 : R.length = 2 ∨ R.length = 3) (hR : ∀ r ∈ R, r.length ≤ 100) (hfit : l.length ≤ 100) (hmost : most ≤ 99) (hlet : ∀ c ∈ l, 97 ≤ c.toNat ∧ c.toNat ≤ 99)
    (B : Below A₀ base outer h₀) (F : Fr h₀ L s.heap m) (X : (hd.heap_1 w.params).In h₀) (N : News h₀ L s.heap news) (T : Top p loose mean mg mb h₀) (hk : cs.kind = .function) (hd : dp + 30 < recursionLimit) (hu : un + 260 < cLine)
    (hm : (rl, W.listOf vs.toArray n) ∈ news) (ht : ∀ q ∈ tabs, q ∈ news) (hrest : ∀ q ∈ rest, q ∈ news ∧ q.1 ≠ rl ∧ q.1 ≠ 280 ∧ tagOf q.2 ≠ 2)
    (ret : ∀ a t u tabs' h' tk', TabF tabs' → Fr h₀ L h' m → News h₀ L h' ((a, pairObj (grow R l most).1 t (grow R l most).2 u) :: (rl, W.listOf vs.toArray n) :: (rest ++ tabs')) → Q (.ref a) { s with heap := h', toks := tk' }) :
    wpN (model prog w) (ktrTop dp un gd cn cs L a ccd cl outer) (call (.ref 285) [.bytes l.toArray tt, .ref rl, .int most tm]) Q s := by
  refine SpecN.use (rest := rest) (specN_grownR (n := n) hT hvs hR2 hR hfit hmost hlet) B F X N T hk hd hu (fun q hq => ?_) (fun q hq => ?_) fun r h' tk' new F' N' P => ?_
  · rcases List.mem_cons.mp hq with rfl | hq
    · exact hm
    · exact ht q hq
  · obtain ⟨h1, h2, h3, h4⟩ := hrest q hq
    refine ⟨h1, fun hq' => ?_⟩
    rw [List.map_cons] at hq'
    rcases List.mem_cons.mp hq' with e | e
    · exact h2 e
    · exact tabF_tag hT N ht h1 h3 h4 e
  · obtain ⟨a', t, u, tabs', rfl, hF, rfl⟩ := P
    refine ret a' t u tabs' h' tk' hF F' (news_subL N' fun q hq => ?_)
    simp only [List.mem_cons, List.mem_append] at hq ⊢
    rcases hq with hq | hq | hq | hq
    · exact .inl (.inl hq)
    · exact .inl (.inr (.inl hq))
    · exact .inr hq
    · exact .inl (.inr (.inr hq))
end
section
variable {prog : Program} {w : World} {A₀ : Around} {s : Shared} {base h₀ : Heap} {outer : List Env} {L : Addr} {m mg mb : Str → Option Value} {news : List (Addr × Obj)} {p : Program} {loose : List Str} {mean : ExcName → Option Value}
  {dp un : Nat} {gd : Option (List Code)} {cn : Str} {cs : Scope} {a : Addr} {ccd : Value} {cl : List (Str × Addr)} {Q E : Value → Shared → Prop}
theorem ruled_use {R : List (List UInt8)} {vs : List Value} {rl n k : Nat} {t : Tok}
    (B : Below A₀ base outer h₀) (F : Fr h₀ L s.heap m) (X : (hd.heap_1 w.params).In h₀) (N : News h₀ L s.heap news) (T : Top p loose mean mg mb h₀) (hk : cs.kind = .function) (hd : dp + 4 < recursionLimit) (hu : un + 30 < cLine)
    (hm : (rl, W.listOf vs.toArray n) ∈ news) (hR : RulesAt vs R) (hR2 : R.length = 2 ∨ R.length = 3) (hk2 : k ≤ 2)
    (ret : ∀ t h' tk', Fr h₀ L h' m → News h₀ L h' news → Q (.bytes (ruled R k).toArray t) { s with heap := h', toks := tk' }) :
    wpAny (model prog w) (ktrTop dp un gd cn cs L a ccd cl outer) (call (.ref 292) [.int (97 + (k : Int)) t, .ref rl]) Q E s := by
  refine spec_ruled (n := n) hk2 hR.1 (by rcases hR2 with h | h <;> rw [h] <;> decide) hR.2 p loose mean mg mb dp un gd cn cs a ccd cl outer A₀ base h₀ L m s Q E B F X (fun q hq => N q ?_) T hk hd hu fun r h' tk' new F' N' P kp => ?_
  · rw [List.mem_singleton.mp hq]; exact hm
  obtain ⟨⟨t', rfl⟩, rfl⟩ := P
  refine ret t' h' tk' F' (fun q hq => ⟨?_, (N q hq).2⟩)
  by_cases hin : q.1 ∈ [rl]
  · have e := (N q hq).1
    rw [List.mem_singleton.mp hin, (N _ hm).1] at e
    rw [List.mem_singleton.mp hin, ← Option.some.inj e]
    exact (N' _ (.head _)).1
  · exact kp _ _ (N q hq).1 hin (N q hq).2.1
theorem counts_use {l : List UInt8} {t : Tok}
    (B : Below A₀ base outer h₀) (F : Fr h₀ L s.heap m) (X : (hd.heap_1 w.params).In h₀) (N : News h₀ L s.heap news) (T : Top p loose mean mg mb h₀) (hk : cs.kind = .function) (hd : dp + 3 < recursionLimit) (hu : un + 20 < cLine) (hl : l.length ≤ 16777216)
    (ret : ∀ c t0 t1 t2 n h' tk', Fr h₀ L h' m → News h₀ L h' ((c, W.listOf [.int (l.count 97) t0, .int (l.count 98) t1, .int (l.count 99) t2].toArray n) :: news) → Q (.ref c) { s with heap := h', toks := tk' }) :
    wpAny (model prog w) (ktrTop dp un gd cn cs L a ccd cl outer) (call (.ref 299) [.bytes l.toArray t]) Q E s := by
  refine spec_counts hl p loose mean mg mb dp un gd cn cs a ccd cl outer A₀ base h₀ L m s Q E B F X (fun q hq => absurd hq List.not_mem_nil) T hk hd hu fun r h' tk' new F' N' P kp => ?_
  obtain ⟨c, t0, t1, t2, n, rfl, rfl⟩ := P
  refine ret c t0 t1 t2 n h' tk' F' (fun q hq => ?_)
  rcases List.mem_cons.mp hq with rfl | hq
  · exact N' _ (.head _)
  · exact ⟨kp _ _ (N q hq).1 List.not_mem_nil (N q hq).2.1, (N q hq).2⟩
theorem counts_use3 {l : List UInt8} {t : Tok} {p1 p2 p3 : Nat} {q1 q2 q3 : Obj}
    (B : Below A₀ base outer h₀) (F : Fr h₀ L s.heap m) (X : (hd.heap_1 w.params).In h₀) (N : News h₀ L s.heap news) (T : Top p loose mean mg mb h₀) (hk : cs.kind = .function) (hd : dp + 3 < recursionLimit) (hu : un + 20 < cLine) (hl : l.length ≤ 16777216)
    (m1 : (p1, q1) ∈ news) (m2 : (p2, q2) ∈ news) (m3 : (p3, q3) ∈ news)
    (ret : ∀ (c : Nat) t0 t1 t2 n h' tk', Fr h₀ L h' m → News h₀ L h' ((c, W.listOf [.int (l.count 97) t0, .int (l.count 98) t1, .int (l.count 99) t2].toArray n) :: news) → c ≠ p1 → c ≠ p2 → c ≠ p3 → Q (.ref c) { s with heap := h', toks := tk' }) :
    wpAny (model prog w) (ktrTop dp un gd cn cs L a ccd cl outer) (call (.ref 299) [.bytes l.toArray t]) Q E s := by
  refine spec_counts3 (p1 := p1) (p2 := p2) (p3 := p3) (q1 := q1) (q2 := q2) (q3 := q3) hl p loose mean mg mb dp un gd cn cs a ccd cl outer A₀ base h₀ L m s Q E B F X (fun q hq => N q ?_) T hk hd hu fun r h' tk' new F' N' P kp => ?_
  · simp only [List.mem_cons, List.not_mem_nil, or_false] at hq
    rcases hq with rfl | rfl | rfl
    · exact m1
    · exact m2
    · exact m3
  obtain ⟨c, t0, t1, t2, n, rfl, rfl, h1, h2, h3⟩ := P
  refine ret c t0 t1 t2 n h' tk' F' (fun q hq => ?_) h1 h2 h3
  rcases List.mem_cons.mp hq with rfl | hq
  · exact N' _ (.head _)
  · refine ⟨?_, (N q hq).2⟩
    by_cases hin : q.1 ∈ [p1, p2, p3]
    · have e := (N q hq).1
      simp only [List.mem_cons, List.not_mem_nil, or_false] at hin
      rcases hin with k | k | k
      · rw [k, (N _ m1).1] at e
        rw [k, ← Option.some.inj e]
        exact (N' _ (.tail _ (.head _))).1
      · rw [k, (N _ m2).1] at e
        rw [k, ← Option.some.inj e]
        exact (N' _ (.tail _ (.tail _ (.head _)))).1
      · rw [k, (N _ m3).1] at e
        rw [k, ← Option.some.inj e]
        exact (N' _ (.tail _ (.tail _ (.tail _ (.head _))))).1
    · exact kp _ _ (N q hq).1 hin (N q hq).2.1
end
theorem IntsAre.at {vs : List Value} {ns : List Int} (h : IntsAre vs ns) : ∀ i, i < vs.length → ∃ k u, vs[i]? = some (.int k u) := by
  induction h with
  | nil => intro i hi; exact absurd hi (Nat.not_lt_zero _)
  | cons n t _ ih =>
    intro i hi
    cases i with
    | zero => exact ⟨n, t, rfl⟩
    | succ i => exact ih i (Nat.lt_of_succ_lt_succ hi)
noncomputable def forBody : Stmt → List Stmt
  | .For _ _ b _ _ => b
  | _ => []
noncomputable def outerBody : List Stmt := forBody (lawRec.body.getD 3 (.Pass default))
noncomputable def innerBody : List Stmt := forBody (outerBody.getD 2 (.Pass default))
noncomputable def restBody : List Stmt := lawRec.body.drop 4
noncomputable abbrev lawMap (al : Nat) (vx vt va vtx vm : Option Value) : Str → Option Value := fun y => if y = Str.ofString "texts" then vx else if y = Str.ofString "turn" then vt else if y = Str.ofString "at" then va else if y = Str.ofString "text" then vtx else if y = Str.ofString "many" then vm else scriptMap al y
example : innerBody.length = 8 := by decide +kernel
/- part S1 -/
theorem anew_S1 {M : Model} {A : Around} {env : Env} {Q : Flow → Shared → Prop} {E : Value → Shared → Prop} {s : Shared} (h : wpAny M A (execs [] env) Q E s) : wpAny M A (execs [] env) Q E s := by
  w_top off
  try (walk1; fail)
  exact h
open Sem (wp)
noncomputable def Same (G : Heap) (L : Addr) (m : Str → Option Value) (news : List (Addr × Obj)) (gs : Array GenState) (dr : Drawn) (os : OsState) (s' : Shared) : Prop := ∃ h' tk', s' = ⟨h', gs, dr, tk', os⟩ ∧ Fr G L h' m ∧ News G L h' news
noncomputable abbrev turnMapL (al tl : Nat) (vt : Option Value) (j : Nat) (u : Tok) (X : List UInt8) (tx : Tok) (M : Nat) (tm : Tok) : Str → Option Value := lawMap al (some (.ref tl)) vt (some (.int j u)) (some (.bytes X.toArray tx)) (some (.int M tm))
theorem ne_self (l : List UInt8) : (l != l) = false := by simp
local macro_rules | `(tactic| walk_at "call ref") => `(tactic| (walk_at "c0"; (with_reducible show wpAny _ _ (call (Value.ref 292) _) _ _ _); k_dflt (apply ruled_use; walk_at "m use"; (case hm => k_mem); (case hR => assumption); (case hR2 => assumption); (case hk2 => omega); k_whole); intro t9 h9 tk9 F9 N9))
set_option linter.unusedVariables false in
theorem st_join {w : World} {G h : Heap} {L fa al tl rl ah : Nat} {cd : Value} {p : Program} {loose : List Str} {mean : ExcName → Option Value} {mg mb : Str → Option Value} {gs : Array GenState} {dr : Drawn} {os : OsState} {tk : Nat} {o4 o5 : Obj} {vt : Option Value} {rv av : List Value} {rn an : Nat} {rest : List (Addr × Obj)}
    {u tx tm : Tok} {j M : Nat} {R T : List (List UInt8)} {X : List UInt8}
    (F : Fr G L h (turnMapL al tl vt j u X tx M tm)) (N : News G L h ((L + 1 + 1 + 1, o4) :: (L + 1 + 1, o5) :: (ah, W.listOf av.toArray an) :: (rl, W.listOf rv.toArray rn) :: rest))
    (c4 : o4.data = .cell (some (.ref ah))) (c5 : o5.data = .cell (some (.ref rl)))
    (B' : Below callerA G [] G) (X' : (hd.heap_1 w.params).In G) (T' : Top p loose mean mg mb G)
    (hj : j < 3) (hR : RulesAt rv R) (hR2 : R.length = 2 ∨ R.length = 3) (hav : RulesAt av T) (hT3 : T.length = 3) (hlet : ∀ c ∈ ruled R j, 97 ≤ c.toNat ∧ c.toNat ≤ 99) (hrl : (ruled R j).length ≤ 100)
    (hX : X = ((ruled R j).map fun c => T.getD (c.toNat - 97) []).flatten) (hXl : X.length ≤ 1000) :
    wpN (model lawProg w) (lawA L fa cd) (exec (innerBody.getD 1 (.Pass default)) (lawEnv L fa cd)) (fun f s' => f = .next ∧ Same G L (turnMapL al tl vt j u X tx M tm) ((L + 1 + 1 + 1, o4) :: (L + 1 + 1, o5) :: (ah, W.listOf av.toArray an) :: (rl, W.listOf rv.toArray rn) :: rest) gs dr os s') ⟨h, gs, dr, tk, os⟩ := by
  delta lawA lawEnv innerBody outerBody lawRec recOf
  dsimp only [forBody, List.getD, List.getElem?_cons_succ, List.getElem?_cons_zero, Option.getD]
  have C' := codeHdK X'
  have hal : av.length = 3 := by rw [hav.1, hT3]
  refine wpN_If (wpN_isTrue_Compare1 (wpN_any ?_))
  k_steps
  refine wpN_Call_method FB.plainAttrs_bytes Mine.F.by_slot_join Mine.F.by_type_join (wpN_any ?_)
  k_steps
  refine Held.mk ⟨typeIs_bytes _ _ _, fun a e => (by cases e), ?_⟩
  refine wpN_callWith rfl (wpN_evalArgs_some (wpN_spliced_cons ?_))
  refine' wpN_ListComp_bytes (h₀ := G) (L := L) (fun i ys news₁ => RulesAt ys (((ruled R j).take i).map fun c => T.getD (c.toNat - 97) []) ∧ news₁ = ((L + 1 + 1 + 1, o4) :: (L + 1 + 1, o5) :: (ah, W.listOf av.toArray an) :: (rl, W.listOf rv.toArray rn) :: rest)) (wpN_any ?hmain) ?hh ?hclos ?hcell ?hkind ?hnames ?hx
  case hh => exact rfl
  case hclos => exact rfl
  case hcell => decide
  case hkind => exact rfl
  case hnames => decide
  case hx => exact rfl
  case hmain =>
    k_steps
    rename Fr _ _ _ _ => F2
    rename News _ _ _ _ => N2
    refine Held.mk ⟨ruled R j, _, _, _, by rw [sizeLine_eq]; omega, rfl, F2, N2, ⟨⟨rfl, fun k hk => absurd hk (Nat.not_lt_zero _)⟩, rfl⟩, ?hturn, ?hfin⟩
    case hturn =>
      clear F2 N2
      rintro i ys news₁ v mC C D I oC oD oI h₁ tk₁ hi ⟨hys, rfl⟩ ⟨tv, rfl⟩ F₁ N₁ hne hCD hIC hID hlt hns hmc
      have hmem : (ruled R j).getD i 0 ∈ ruled R j := by rw [List.getD, List.getElem?_eq_getElem hi]; exact List.getElem_mem hi
      obtain ⟨g1, g2⟩ := hlet _ hmem
      have hxe : ∃ t, av[((((ruled R j).getD i 0).toNat : Int) - 97).toNat]? = some (.bytes (T.getD (((ruled R j).getD i 0).toNat - 97) []).toArray t) := by
        rw [show ((((ruled R j).getD i 0).toNat : Int) - 97).toNat = ((ruled R j).getD i 0).toNat - 97 by omega]
        exact hav.2 _ (by omega)
      obtain ⟨te, hxe⟩ := hxe
      refine wpN_any ?_
      k_steps
      rename Fr _ _ _ _ => F3
      rename News _ _ _ _ => N3
      refine Held.mk ⟨_, _, _, rfl, F3, N3, hne, ?_, rfl⟩
      have e : (((ruled R j).take (i + 1)).map fun c => T.getD (c.toNat - 97) []) = (((ruled R j).take i).map fun c => T.getD (c.toNat - 97) []) ++ [T.getD (((ruled R j).getD i 0).toNat - 97) []] := by
        rw [List.take_succ_eq_append_getElem hi, List.map_append]
        simp [List.getD, List.getElem?_eq_getElem hi]
      rw [e]
      exact hys.snoc
    case hfin =>
      clear F2 N2
      rintro ys news₁ D k h₁ tk₁ ⟨hys, rfl⟩ F₁ N₁ hne hlt
      rw [List.take_length] at hys
      refine wpN_any ?_
      k_steps
      refine Held.mk ⟨⟨.machine, .inr (.inl rfl), Looks.of_pure rfl⟩, wpN_any ?_⟩
      (try dsimp only [List.nil_append, List.cons_append])
      refine call_join ⟨_, (N₁ _ (.head _)).1, rfl, _, rfl⟩ hys.1 hys.2 (hX ▸ hXl) fun u9 k9 => ?_
      rw [← hX]
      clear hX
      k_steps
      refine wpN_any ?_
      k_steps
      rw [ne_self]
      refine wpN_any ?_
      k_steps
      exact wpN_execs_nil ⟨rfl, _, _, rfl, F₁, fun q hq => N₁ q (.tail _ hq)⟩
/- part S2 -/
theorem anew_S2 {M : Model} {A : Around} {env : Env} {Q : Flow → Shared → Prop} {E : Value → Shared → Prop} {s : Shared} (h : wpAny M A (execs [] env) Q E s) : wpAny M A (execs [] env) Q E s := by
  w_top off
  try (walk1; fail)
  exact h
open Sem (wp)
local macro_rules | `(tactic| walk_at "call ref") => `(tactic| (walk_at "c0"; (with_reducible show wpAny _ _ (call (Value.ref 299) _) _ _ _); k_dflt (apply counts_use; walk_at "m use"; (case hl => omega); k_whole); intro c9 t9a t9b t9c n9 h9 tk9 F9 N9))
set_option linter.unusedVariables false in
theorem st_counts {w : World} {G h : Heap} {L fa al tl rl ah : Nat} {cd : Value} {p : Program} {loose : List Str} {mean : ExcName → Option Value} {mg mb : Str → Option Value} {gs : Array GenState} {dr : Drawn} {os : OsState} {tk : Nat} {o3 o4 : Obj} {vt v3 : Option Value} {av : List Value} {an : Nat} {rest : List (Addr × Obj)}
    {u tx tm : Tok} {j M : Nat} {T : List (List UInt8)} {X : List UInt8}
    (F : Fr G L h (turnMapL al tl vt j u X tx M tm)) (N : News G L h ((L + 1 + 1 + 1 + 1, o3) :: (L + 1 + 1 + 1, o4) :: (ah, W.listOf av.toArray an) :: rest))
    (c3 : o3.data = .cell v3) (c4 : o4.data = .cell (some (.ref ah))) (hrest : ∀ p ∈ ((L + 1 + 1 + 1, o4) :: (ah, W.listOf av.toArray an) :: rest : List (Addr × Obj)), p.1 ≠ L + 1 + 1 + 1 + 1)
    (B' : Below callerA G [] G) (X' : (hd.heap_1 w.params).In G) (T' : Top p loose mean mg mb G)
    (hj : j < 3) (hav : RulesAt av T) (hT3 : T.length = 3) (hl : (T.getD j []).length ≤ 1000) :
    wpN (model lawProg w) (lawA L fa cd) (exec (innerBody.getD 2 (.Pass default)) (lawEnv L fa cd)) (fun f s' => f = .next ∧ ∃ cc t0 t1 t2 n o3', o3'.data = .cell (some (.ref cc)) ∧ Same G L (turnMapL al tl vt j u X tx M tm) ((cc, W.listOf [.int ((T.getD j []).count 97) t0, .int ((T.getD j []).count 98) t1, .int ((T.getD j []).count 99) t2].toArray n) :: (L + 1 + 1 + 1 + 1, o3') :: (L + 1 + 1 + 1, o4) :: (ah, W.listOf av.toArray an) :: rest) gs dr os s') ⟨h, gs, dr, tk, os⟩ := by
  delta lawA lawEnv innerBody outerBody lawRec recOf
  dsimp only [forBody, List.getD, List.getElem?_cons_succ, List.getElem?_cons_zero, Option.getD]
  have hal : av.length = 3 := by rw [hav.1, hT3]
  obtain ⟨ta, hx⟩ : ∃ t, av[((j : Nat) : Int).toNat]? = some (.bytes (T.getD j []).toArray t) := by rw [Int.toNat_natCast]; exact hav.2 j (by omega)
  refine wpN_Assign_Name (wpN_any ?_)
  k_steps
  rename Fr _ _ _ _ => F2
  rename News _ _ _ _ => N2
  have hcc := neTag (i := 0) (j := 1) N2 (.head _) (.tail _ (.head _)) rfl (tag_cell c3) (by decide)
  refine storeC_F F2 N2 rfl (UpdF.tail hcc (UpdF.head hrest)) c3 fun h' o' F3 N3 d3 => ?_
  exact ⟨by first | rfl | trivial, _, _, _, _, _, _, d3, _, _, rfl, F3, N3⟩
theorem st_many {w : World} {G h : Heap} {L fa al tl rl cc : Nat} {cd : Value} {p : Program} {loose : List Str} {mean : ExcName → Option Value} {mg mb : Str → Option Value} {gs : Array GenState} {dr : Drawn} {os : OsState} {tk : Nat} {o3 o5 : Obj} {vt v3 : Option Value} {rv : List Value} {rn cn : Nat} {rest : List (Addr × Obj)}
    {u tx tm t0 t1 t2 : Tok} {j M x0 x1 x2 : Nat} {R : List (List UInt8)} {X : List UInt8}
    (F : Fr G L h (turnMapL al tl vt j u X tx M tm)) (N : News G L h ((cc, W.listOf [.int x0 t0, .int x1 t1, .int x2 t2].toArray cn) :: (L + 1 + 1 + 1 + 1, o3) :: (L + 1 + 1, o5) :: (rl, W.listOf rv.toArray rn) :: rest))
    (c3 : o3.data = .cell (some (.ref cc))) (c5 : o5.data = .cell (some (.ref rl)))
    (B' : Below callerA G [] G) (X' : (hd.heap_1 w.params).In G) (T' : Top p loose mean mg mb G)
    (hR : RulesAt rv R) (hR2 : R.length = 2 ∨ R.length = 3) (hM : M = ([x0, x1, x2].take R.length).sum) :
    wpN (model lawProg w) (lawA L fa cd) (exec (innerBody.getD 3 (.Pass default)) (lawEnv L fa cd)) (fun f s' => f = .next ∧ Same G L (turnMapL al tl vt j u X tx M tm) ((cc, W.listOf [.int x0 t0, .int x1 t1, .int x2 t2].toArray cn) :: (L + 1 + 1 + 1 + 1, o3) :: (L + 1 + 1, o5) :: (rl, W.listOf rv.toArray rn) :: rest) gs dr os s') ⟨h, gs, dr, tk, os⟩ := by
  delta lawA lawEnv innerBody outerBody lawRec recOf
  dsimp only [forBody, List.getD, List.getElem?_cons_succ, List.getElem?_cons_zero, Option.getD]
  have C' := codeHdK X'
  rcases hR2 with hR2 | hR2
  · obtain ⟨v0, v1, rfl⟩ := ex_two (hR.1.trans hR2)
    have hM' : (M : Int) = x0 + (x1 + 0) := by rw [hM, hR2]; simp
    refine wpN_If (wpN_any ?_)
    k_steps
    · exact absurd hM' ‹_›
    · rename Fr _ _ _ _ => F2
      rename News _ _ _ _ => N2
      exact wpN_execs_nil ⟨rfl, _, _, rfl, F2, fun q hq => N2 q (.tail _ hq)⟩
  · obtain ⟨v0, v1, v2, rfl⟩ := ex_three (hR.1.trans hR2)
    have hM' : (M : Int) = x0 + (x1 + (x2 + 0)) := by rw [hM, hR2]; simp
    refine wpN_If (wpN_any ?_)
    k_steps
    · exact absurd hM' ‹_›
    · rename Fr _ _ _ _ => F2
      rename News _ _ _ _ => N2
      exact wpN_execs_nil ⟨rfl, _, _, rfl, F2, fun q hq => N2 q (.tail _ hq)⟩
/- part S4 -/
theorem anew_S4 {M : Model} {A : Around} {env : Env} {Q : Flow → Shared → Prop} {E : Value → Shared → Prop} {s : Shared} (h : wpAny M A (execs [] env) Q E s) : wpAny M A (execs [] env) Q E s := by
  w_top off
  try (walk1; fail)
  exact h
open Sem (wp)
noncomputable def Cnt (b : Obj) (l : List UInt8) : Prop := ∃ (t0 t1 t2 : Tok) (n : Nat), b = W.listOf [.int (l.count 97) t0, .int (l.count 98) t1, .int (l.count 99) t2].toArray n
noncomputable def Three (p1 p2 p3 : Nat) (q1 q2 q3 : Obj) (news : List (Addr × Obj)) : Prop := (p1, q1) ∈ news ∧ (p2, q2) ∈ news ∧ (p3, q3) ∈ news
noncomputable def Apart3 (c p1 p2 p3 : Nat) : Prop := c ≠ p1 ∧ c ≠ p2 ∧ c ≠ p3
theorem three_of {α : Type} : ∀ {l : List α}, l.length = 3 → ∃ a b c, l = [a, b, c]
  | [a, b, c], _ => ⟨a, b, c, rfl⟩
section
variable {prog : Program} {w : World} {A₀ : Around} {s : Shared} {base h₀ : Heap} {outer : List Env} {L : Addr} {m mg mb : Str → Option Value} {news : List (Addr × Obj)} {p : Program} {loose : List Str} {mean : ExcName → Option Value}
  {dp un : Nat} {gd : Option (List Code)} {cn : Str} {cs : Scope} {a : Addr} {ccd : Value} {cl : List (Str × Addr)} {Q E : Value → Shared → Prop}
theorem counts_useT {l : List UInt8} {t : Tok} {p1 p2 p3 : Nat} {q1 q2 q3 : Obj}
    (B : Below A₀ base outer h₀) (F : Fr h₀ L s.heap m) (X : (hd.heap_1 w.params).In h₀) (N : News h₀ L s.heap news) (T : Top p loose mean mg mb h₀) (hk : cs.kind = .function) (hd : dp + 3 < recursionLimit) (hu : un + 20 < cLine) (hl : l.length ≤ 16777216)
    (m3 : Three p1 p2 p3 q1 q2 q3 news)
    (ret : ∀ (c : Nat) t0 t1 t2 n h' tk', Fr h₀ L h' m → News h₀ L h' ((c, W.listOf [.int (l.count 97) t0, .int (l.count 98) t1, .int (l.count 99) t2].toArray n) :: news) → Apart3 c p1 p2 p3 → Q (.ref c) { s with heap := h', toks := tk' }) :
    wpAny (model prog w) (ktrTop dp un gd cn cs L a ccd cl outer) (call (.ref 299) [.bytes l.toArray t]) Q E s :=
  counts_use3 B F X N T hk hd hu hl m3.1 m3.2.1 m3.2.2 fun c t0 t1 t2 n h' tk' F' N' x y z => ret c t0 t1 t2 n h' tk' F' N' ⟨x, y, z⟩
end
local macro_rules | `(tactic| walk_at "call ref") => `(tactic| (walk_at "c0"; (with_reducible show wpAny _ _ (call (Value.ref 299) _) _ _ _); k_dflt (apply counts_useT; walk_at "m use"; (case m3 => assumption); (case hl => omega); k_whole); intro c9 t9a t9b t9c n9 h9 tk9 F9 N9 a9))
set_option linter.unusedVariables false in
theorem st_told {w : World} {G h : Heap} {L fa al tl rl : Nat} {cd : Value} {p : Program} {loose : List Str} {mean : ExcName → Option Value} {mg mb : Str → Option Value} {gs : Array GenState} {dr : Drawn} {os : OsState} {tk : Nat} {o2 o5 : Obj} {vt v2 : Option Value} {rv : List Value} {rn : Nat} {rest : List (Addr × Obj)}
    {u tx tm : Tok} {j M : Nat} {R : List (List UInt8)} {X : List UInt8}
    (F : Fr G L h (turnMapL al tl vt j u X tx M tm)) (N : News G L h ((L + 1 + 1 + 1 + 1 + 1, o2) :: (L + 1 + 1, o5) :: (rl, W.listOf rv.toArray rn) :: rest))
    (c2 : o2.data = .cell v2) (c5 : o5.data = .cell (some (.ref rl))) (hrest : ∀ p ∈ ((L + 1 + 1, o5) :: (rl, W.listOf rv.toArray rn) :: rest : List (Addr × Obj)), p.1 ≠ L + 1 + 1 + 1 + 1 + 1)
    (B' : Below callerA G [] G) (X' : (hd.heap_1 w.params).In G) (T' : Top p loose mean mg mb G)
    (hR : RulesAt rv R) (hR2 : R.length = 2 ∨ R.length = 3) (hrl : ∀ k, (ruled R k).length ≤ 100) :
    wpN (model lawProg w) (lawA L fa cd) (exec (innerBody.getD 4 (.Pass default)) (lawEnv L fa cd)) (fun f s' => f = .next ∧ ∃ td n a0 a1 a2 b0 b1 b2 o2', o2'.data = .cell (some (.ref td)) ∧ Cnt b0 (ruled R 0) ∧ Cnt b1 (ruled R 1) ∧ Cnt b2 (ruled R 2) ∧
      Same G L (turnMapL al tl vt j u X tx M tm) ((td, W.listOf [.ref a0, .ref a1, .ref a2].toArray n) :: (a0, b0) :: (a1, b1) :: (a2, b2) :: (L + 1 + 1 + 1 + 1 + 1, o2') :: (L + 1 + 1, o5) :: (rl, W.listOf rv.toArray rn) :: rest) gs dr os s') ⟨h, gs, dr, tk, os⟩ := by
  delta lawA lawEnv innerBody outerBody lawRec recOf
  dsimp only [forBody, List.getD, List.getElem?_cons_succ, List.getElem?_cons_zero, Option.getD]
  refine wpN_Assign_Name ?_
  refine' wpN_ListComp_range (h₀ := G) (L := L) (fun i ys news₁ => ∃ as : List (Addr × Obj), as.length = i ∧ ys = as.map (fun p => Value.ref p.1) ∧ (∀ k, k < i → ∃ p, as[k]? = some p ∧ Cnt p.2 (ruled R k)) ∧ news₁ = as ++ ((L + 1 + 1 + 1 + 1 + 1, o2) :: (L + 1 + 1, o5) :: (rl, W.listOf rv.toArray rn) :: rest)) (wpN_any ?hmain) ?hh ?hclos ?hcell ?hkind ?hnames ?hx
  case hh => exact rfl
  case hclos => exact rfl
  case hcell => decide
  case hkind => exact rfl
  case hnames => decide
  case hx => exact rfl
  case hmain =>
    k_steps
    rename Fr _ _ _ _ => F2
    rename News _ _ _ _ => N2
    rename IsRange _ _ _ _ _ _ _ _ => hr2
    refine Held.mk ⟨3, _, _, _, _, _, _, by decide, by decide, rfl, hr2, F2, N2, ⟨[], rfl, rfl, fun k hk => absurd hk (Nat.not_lt_zero _), rfl⟩, ?hturn, ?hfin⟩
    case hturn =>
      clear F2 N2 hr2
      rintro i ys news₁ v mC C D I oC oD oI h₁ tk₁ hi ⟨as, hal, hys, has, rfl⟩ ⟨tv, rfl⟩ F₁ N₁ hne hCD hIC hID hlt hns hmc
      have N₂ : News G L h₁ ((L + 1 + 1, o5) :: (rl, W.listOf rv.toArray rn) :: (C, oC) :: (D, oD) :: (I, oI) :: (as ++ ((L + 1 + 1 + 1 + 1 + 1, o2) :: (L + 1 + 1, o5) :: (rl, W.listOf rv.toArray rn) :: rest))) := news_subL N₁ fun q hq => by
        rcases List.mem_cons.mp hq with rfl | hq
        · exact .tail _ (.tail _ (.tail _ (List.mem_append_right _ (.tail _ (.head _)))))
        rcases List.mem_cons.mp hq with rfl | hq
        · exact .tail _ (.tail _ (.tail _ (List.mem_append_right _ (.tail _ (.tail _ (.head _))))))
        · exact hq
      have h3 : Three C D I oC oD oI ((L + 1 + 1, o5) :: (rl, W.listOf rv.toArray rn) :: (C, oC) :: (D, oD) :: (I, oI) :: (as ++ ((L + 1 + 1 + 1 + 1 + 1, o2) :: (L + 1 + 1, o5) :: (rl, W.listOf rv.toArray rn) :: rest))) := ⟨.tail _ (.tail _ (.head _)), .tail _ (.tail _ (.tail _ (.head _))), .tail _ (.tail _ (.tail _ (.tail _ (.head _))))⟩
      clear N₁
      rw [show (0 : Int) + (i : Int) * 1 = i by omega] at hmc
      have hl9 := hrl i
      have key : ∀ (c : Nat) (ob : Obj) (h' : Heap) (tk' : Nat), Cnt ob (ruled R i) → Fr G L h' (turnMapL al tl vt j u X tx M tm) → News G L h' ((c, ob) :: (L + 1 + 1, o5) :: (rl, W.listOf rv.toArray rn) :: (C, oC) :: (D, oD) :: (I, oI) :: (as ++ ((L + 1 + 1 + 1 + 1 + 1, o2) :: (L + 1 + 1, o5) :: (rl, W.listOf rv.toArray rn) :: rest))) → Apart3 c C D I →
          Held (∃ news₂ h₂ tk₂, (⟨h', gs, dr, tk', os⟩ : Shared) = ⟨h₂, gs, dr, tk₂, os⟩ ∧ Fr G L h₂ (turnMapL al tl vt j u X tx M tm) ∧ News G L h₂ ((C, oC) :: (D, oD) :: (I, oI) :: news₂) ∧ (∀ p ∈ news₂, p.1 ≠ I ∧ p.1 ≠ C ∧ p.1 ≠ D) ∧
            ∃ as : List (Addr × Obj), as.length = i + 1 ∧ ys ++ [Value.ref c] = as.map (fun p => Value.ref p.1) ∧ (∀ k, k < i + 1 → ∃ p, as[k]? = some p ∧ Cnt p.2 (ruled R k)) ∧ news₂ = as ++ ((L + 1 + 1 + 1 + 1 + 1, o2) :: (L + 1 + 1, o5) :: (rl, W.listOf rv.toArray rn) :: rest)) := by
        intro c ob h' tk' hc F3 N3 ha
        refine ⟨(as ++ [(c, ob)]) ++ ((L + 1 + 1 + 1 + 1 + 1, o2) :: (L + 1 + 1, o5) :: (rl, W.listOf rv.toArray rn) :: rest), _, _, rfl, F3, news_subL N3 fun q hq => ?_, fun q hq => ?_, as ++ [(c, ob)], by rw [List.length_append, hal]; rfl, by rw [List.map_append, hys]; rfl, fun k hk => ?_, rfl⟩
        · rcases List.mem_cons.mp hq with rfl | hq
          · exact .tail _ (.tail _ (.tail _ (.head _)))
          rcases List.mem_cons.mp hq with rfl | hq
          · exact .tail _ (.tail _ (.tail _ (.tail _ (.head _))))
          rcases List.mem_cons.mp hq with rfl | hq
          · exact .tail _ (.tail _ (.tail _ (.tail _ (.tail _ (.head _)))))
          rcases List.mem_append.mp hq with hq | hq
          · rcases List.mem_append.mp hq with hq | hq
            · exact .tail _ (.tail _ (.tail _ (.tail _ (.tail _ (.tail _ (List.mem_append_left _ hq))))))
            · rw [List.mem_singleton.mp hq]; exact .head _
          · exact .tail _ (.tail _ (.tail _ (.tail _ (.tail _ (.tail _ (List.mem_append_right _ hq))))))
        · rcases List.mem_append.mp hq with hq | hq
          · rcases List.mem_append.mp hq with hq | hq
            · exact hne q (List.mem_append_left _ hq)
            · rw [List.mem_singleton.mp hq]; exact ⟨ha.2.2, ha.1, ha.2.1⟩
          · exact hne q (List.mem_append_right _ hq)
        · by_cases hki : k < i
          · obtain ⟨p, e, c⟩ := has k hki
            exact ⟨p, by rw [List.getElem?_append_left (by omega), e], c⟩
          · obtain rfl : k = i := by omega
            exact ⟨(c, ob), by rw [← hal]; simp, hc⟩
      refine wpN_any ?_
      k_steps
      rename Fr _ _ _ _ => F3
      rename News _ _ _ _ => N3
      rename Apart3 _ _ _ _ => a3
      exact key _ _ _ _ ⟨_, _, _, _, rfl⟩ F3 N3 a3
    case hfin =>
      clear F2 N2 hr2
      rintro ys news₁ D k h₁ tk₁ ⟨as, hal, hys, has, rfl⟩ F₁ N₁ hne hlt
      obtain ⟨⟨a0, b0⟩, ⟨a1, b1⟩, ⟨a2, b2⟩, he⟩ := three_of hal
      subst he
      obtain ⟨_, q0, k0⟩ := has 0 (by decide)
      obtain ⟨_, q1, k1⟩ := has 1 (by decide)
      obtain ⟨_, q2, k2⟩ := has 2 (by decide)
      cases q0; cases q1; cases q2
      subst hys
      have tg : ∀ {b l}, Cnt b l → tagOf b = 0 := fun h => by obtain ⟨_, _, _, _, rfl⟩ := h; rfl
      simp only [List.map_cons, List.map_nil, List.cons_append, List.nil_append] at N₁
      have mo : (L + 1 + 1 + 1 + 1 + 1, o2) ∈ (D, W.listOf [Value.ref a0, Value.ref a1, Value.ref a2].toArray k) :: (a0, b0) :: (a1, b1) :: (a2, b2) :: (L + 1 + 1 + 1 + 1 + 1, o2) :: (L + 1 + 1, o5) :: (rl, W.listOf rv.toArray rn) :: rest := .tail _ (.tail _ (.tail _ (.tail _ (.head _))))
      have n0 := neTag (i := 0) (j := 1) N₁ (.head _) mo rfl (tag_cell c2) (by decide)
      have n1 := neTag (i := 0) (j := 1) N₁ (.tail _ (.head _)) mo (tg k0) (tag_cell c2) (by decide)
      have n2 := neTag (i := 0) (j := 1) N₁ (.tail _ (.tail _ (.head _))) mo (tg k1) (tag_cell c2) (by decide)
      have n3 := neTag (i := 0) (j := 1) N₁ (.tail _ (.tail _ (.tail _ (.head _)))) mo (tg k2) (tag_cell c2) (by decide)
      have U := UpdF.tail (p := (D, W.listOf [Value.ref a0, Value.ref a1, Value.ref a2].toArray k)) (o := o2) n0 (UpdF.tail (p := (a0, b0)) n1 (UpdF.tail (p := (a1, b1)) n2 (UpdF.tail (p := (a2, b2)) n3 (UpdF.head hrest))))
      refine storeC_F F₁ N₁ rfl U c2 fun h' o' F3 N3 d3 => ?_
      exact ⟨by first | rfl | trivial, _, _, _, _, _, _, _, _, _, d3, k0, k1, k2, _, _, rfl, F3, N3⟩
/- part S5 -/
theorem anew_S5 {M : Model} {A : Around} {env : Env} {Q : Flow → Shared → Prop} {E : Value → Shared → Prop} {s : Shared} (h : wpAny M A (execs [] env) Q E s) : wpAny M A (execs [] env) Q E s := by
  w_top off
  try (walk1; fail)
  exact h
open Sem (wp)
noncomputable def IntsVal (vs : List Value) (ns : List Int) : Prop := vs.length = ns.length ∧ ∀ k, k < ns.length → ∃ t, vs[k]? = some (.int (ns.getD k 0) t)
theorem IntsVal.snoc {vs : List Value} {ns : List Int} {n : Int} {t : Tok} (h : IntsVal vs ns) : IntsVal (vs ++ [.int n t]) (ns ++ [n]) := by
  refine ⟨by rw [List.length_append, List.length_append, h.1]; rfl, fun k hk => ?_⟩
  by_cases hlt : k < ns.length
  · obtain ⟨u, e⟩ := h.2 k hlt
    refine ⟨u, ?_⟩
    rw [List.getElem?_append_left (by rw [h.1]; exact hlt), e]
    simp only [List.getD_eq_getElem?_getD, List.getElem?_append_left hlt]
  · have hk' : k = ns.length := by rw [List.length_append, List.length_singleton] at hk; omega
    subst hk'
    refine ⟨t, ?_⟩
    rw [← h.1]
    simp [h.1]
theorem IntsVal.three {vs : List Value} {a b c : Int} (h : IntsVal vs [a, b, c]) : ∃ t0 t1 t2, vs = [.int a t0, .int b t1, .int c t2] := by
  obtain ⟨x, y, z, rfl⟩ := three_of h.1
  obtain ⟨t0, e0⟩ := h.2 0 (by simp)
  obtain ⟨t1, e1⟩ := h.2 1 (by simp)
  obtain ⟨t2, e2⟩ := h.2 2 (by simp)
  cases e0; cases e1; cases e2
  exact ⟨_, _, _, rfl⟩
theorem IntsVal.at {vs : List Value} {ns : List Int} {k : Nat} (h : IntsVal vs ns) (hk : k < ns.length) : ∃ t, vs[((k : Nat) : Int).toNat]? = some (.int (ns.getD k 0) t) := by rw [Int.toNat_natCast]; exact h.2 k hk
local macro_rules | `(tactic| walk_at "subscriptTail") => `(tactic| (k_here; (with_reducible show wpAny _ _ (subscriptTail _ _ (Value.ref _) (Value.int _ _)) _ _ _); k_dflt (apply item_ls; (case N => k_asm); (case hm => k_mem); (case hx => with_reducible assumption); (case h0 => omega); (case hhi => omega); (case hs => with_unfolding_all rfl); k_whole)))
set_option linter.unusedVariables false in
theorem st_sum {w : World} {G h : Heap} {L fa al tl cc td : Nat} {cd : Value} {p : Program} {loose : List Str} {mean : ExcName → Option Value} {mg mb : Str → Option Value} {gs : Array GenState} {dr : Drawn} {os : OsState} {tk : Nat} {o2 o3 : Obj} {vt : Option Value} {cv tv : List Value} {cn tn : Nat} {rest : List (Addr × Obj)}
    {u tx tm : Tok} {j M : Nat} {xs : List Int} {A : Nat → List Int} {X : List UInt8}
    (F : Fr G L h (turnMapL al tl vt j u X tx M tm)) (N : News G L h ((L + 1 + 1 + 1 + 1, o3) :: (L + 1 + 1 + 1 + 1 + 1, o2) :: (cc, W.listOf cv.toArray cn) :: (td, W.listOf tv.toArray tn) :: rest))
    (c3 : o3.data = .cell (some (.ref cc))) (c2 : o2.data = .cell (some (.ref td)))
    (B' : Below callerA G [] G) (X' : (hd.heap_1 w.params).In G) (T' : Top p loose mean mg mb G) (hXl : X.length ≤ 1000)
    (hcv : IntsVal cv xs) (hxs : xs.length = 3) (htl : tv.length = 3) (hA : ∀ k, (A k).length = 3) (htold : ∀ k, k < 3 → ∃ (a : Nat) (row : List Value) (n : Nat), tv[k]? = some (.ref a) ∧ (a, W.listOf row.toArray n) ∈ rest ∧ IntsVal row (A k))
    (hmul : ∀ k i, k < 3 → i < 3 → IntMulOk (xs.getD k 0) ((A k).getD i 0))
    (hsum : ∀ k, k < 3 → (X.count (97 + k).toUInt8 : Int) = xs.getD 0 0 * (A 0).getD k 0 + (xs.getD 1 0 * (A 1).getD k 0 + (xs.getD 2 0 * (A 2).getD k 0 + 0))) :
    wpN (model lawProg w) (lawA L fa cd) (exec (innerBody.getD 5 (.Pass default)) (lawEnv L fa cd)) (fun f s' => f = .next ∧ Same G L (turnMapL al tl vt j u X tx M tm) ((L + 1 + 1 + 1 + 1, o3) :: (L + 1 + 1 + 1 + 1 + 1, o2) :: (cc, W.listOf cv.toArray cn) :: (td, W.listOf tv.toArray tn) :: rest) gs dr os s') ⟨h, gs, dr, tk, os⟩ := by
  delta lawA lawEnv innerBody outerBody lawRec recOf
  dsimp only [forBody, List.getD, List.getElem?_cons_succ, List.getElem?_cons_zero, Option.getD]
  have C' := codeHdK X'
  have hcl : cv.length = 3 := by rw [hcv.1, hxs]
  refine wpN_If (wpN_isTrue_Compare1 (wpN_any ?_))
  k_steps
  rename_i c9 ta tb tc n9 h9 tk9 F9 N9
  refine' wpN_ListComp_rangeV (h₀ := G) (L := L) (fun i ys news₁ => IntsVal ys ((List.range i).map fun o => xs.getD 0 0 * (A 0).getD o 0 + (xs.getD 1 0 * (A 1).getD o 0 + (xs.getD 2 0 * (A 2).getD o 0 + 0))) ∧ news₁ = (c9, W.listOf [.int (X.count 97) ta, .int (X.count 98) tb, .int (X.count 99) tc].toArray n9) :: (L + 1 + 1 + 1 + 1, o3) :: (L + 1 + 1 + 1 + 1 + 1, o2) :: (cc, W.listOf cv.toArray cn) :: (td, W.listOf tv.toArray tn) :: rest) (wpN_any ?hmain) ?hh ?hclos ?hcell ?hpush ?hkind ?hnames ?hx
  case hh => exact rfl
  case hclos => exact rfl
  case hcell => exact fun _ _ => rfl
  case hpush => exact fun _ => rfl
  case hkind => exact rfl
  case hnames => decide
  case hx => exact rfl
  case hmain =>
    k_steps
    rename Fr _ _ _ _ => F2
    rename News _ _ _ _ => N2
    rename IsRange _ _ _ _ _ _ _ _ => hr2
    refine Held.mk ⟨3, _, _, _, _, _, _, by decide, by decide, rfl, hr2, F2, N2, ⟨⟨rfl, fun k hk => absurd hk (Nat.not_lt_zero _)⟩, rfl⟩, ?hturn, ?hfin⟩
    case hturn =>
      clear F2 N2 hr2
      rintro i ys news₁ v C D I V oC oV oD oI h₁ tk₁ hi ⟨hys, rfl⟩ ⟨tv0, rfl⟩ F₁ N₁ hne hord hlt hov
      rw [show (0 : Int) + (i : Int) * 1 = i by omega] at hov
      refine wpN_Call_Name (wpN_any ?_)
      k_steps
      refine wpN_callWith rfl (wpN_evalArgs_some (wpN_spliced_cons ?_))
      refine' wpN_ListComp_range (h₀ := G) (L := L) (fun k zs news₂ => IntsVal zs ((List.range k).map fun o => xs.getD o 0 * (A o).getD i 0) ∧ news₂ = (C, oC) :: (V, oV) :: (D, oD) :: (I, oI) :: (c9, W.listOf [.int (X.count 97) ta, .int (X.count 98) tb, .int (X.count 99) tc].toArray n9) :: (L + 1 + 1 + 1 + 1, o3) :: (L + 1 + 1 + 1 + 1 + 1, o2) :: (cc, W.listOf cv.toArray cn) :: (td, W.listOf tv.toArray tn) :: rest) (wpN_any ?hmain) ?hh ?hclos ?hcell ?hkind ?hnames ?hx
      case hh => exact rfl
      case hclos => exact rfl
      case hcell => decide
      case hkind => exact rfl
      case hnames => decide
      case hx => exact rfl
      case hmain =>
        k_steps
        rename Fr _ _ _ _ => F2
        rename News _ _ _ _ => N2
        rename IsRange _ _ _ _ _ _ _ _ => hr2
        refine Held.mk ⟨3, _, _, _, _, _, _, by decide, by decide, rfl, hr2, F2, N2, ⟨⟨rfl, fun k hk => absurd hk (Nat.not_lt_zero _)⟩, rfl⟩, ?hturn2, ?hfin2⟩
        case hturn2 =>
          clear F2 N2 hr2
          rintro k zs news₂ v2 mC C2 D2 I2 oC2 oD2 oI2 h₂ tk₂ hk ⟨hzs, rfl⟩ ⟨tv2, rfl⟩ F₂ N₂ hne2 hCD2 hIC2 hID2 hlt2 hns2 hmc
          rw [show (0 : Int) + (k : Int) * 1 = k by omega] at hmc
          obtain ⟨tq, hq⟩ := hcv.at (k := k) (by omega)
          obtain ⟨aa, row, nr, ea, hm, hrow⟩ := htold k hk
          obtain ⟨tr, hr⟩ := hrow.at (k := i) (by rw [hA]; exact hi)
          have hrl : row.length = 3 := by rw [hrow.1, hA]
          have ea' : tv[((k : Nat) : Int).toNat]? = some (.ref aa) := by rw [Int.toNat_natCast]; exact ea
          have N₃ : News G L h₂ ((aa, W.listOf row.toArray nr) :: (C2, oC2) :: (D2, oD2) :: (I2, oI2) :: (C, oC) :: (V, oV) :: (D, oD) :: (I, oI) :: (c9, W.listOf [.int (X.count 97) ta, .int (X.count 98) tb, .int (X.count 99) tc].toArray n9) :: (L + 1 + 1 + 1 + 1, o3) :: (L + 1 + 1 + 1 + 1 + 1, o2) :: (cc, W.listOf cv.toArray cn) :: (td, W.listOf tv.toArray tn) :: rest) := fun p hp => (List.mem_cons.mp hp).elim (fun e => e ▸ N₂ _ (.tail _ (.tail _ (.tail _ (.tail _ (.tail _ (.tail _ (.tail _ (.tail _ (.tail _ (.tail _ (.tail _ (.tail _ hm))))))))))))) (N₂ p)
          clear N₂
          have hmk := hmul k i hk hi
          refine wpN_any ?_
          k_steps
          rename Fr _ _ _ _ => F3
          rename News _ _ _ _ => N3
          refine Held.mk ⟨_, _, _, rfl, F3, fun p hp => N3 p (.tail _ hp), hne2, ?_, rfl⟩
          rw [List.range_succ, List.map_append]
          exact hzs.snoc
        case hfin2 =>
          clear F2 N2 hr2
          rintro zs news₂ D2 k2 h₂ tk₂ ⟨hzs, rfl⟩ F₂ N₂ hne2 hlt2
          obtain ⟨z0, z1, z2, rfl⟩ := IntsVal.three hzs
          refine wpN_any ?_
          k_steps
          refine Held.mk ⟨⟨.machine, .inr (.inl rfl), Looks.of_pure rfl⟩, wpN_any ?_⟩
          (try dsimp only [List.nil_append, List.cons_append])
          k_steps
          rename Fr _ _ _ _ => F3
          rename News _ _ _ _ => N3
          refine Held.mk ⟨_, _, _, rfl, F3, fun p hp => N3 p (.tail _ hp), hne, ?_, rfl⟩
          rw [List.range_succ, List.map_append]
          exact hys.snoc
    case hfin =>
      clear F2 N2 hr2
      rintro ys news₁ D k h₁ tk₁ ⟨hys, rfl⟩ F₁ N₁ hne hlt
      obtain ⟨z0, z1, z2, rfl⟩ := IntsVal.three hys
      refine wpN_any ?_
      k_steps
      have e : ([((X.count 97 : Nat) : Int), ((X.count 98 : Nat) : Int), ((X.count 99 : Nat) : Int)] : List Int) = [xs.getD 0 0 * (A 0).getD 0 0 + (xs.getD 1 0 * (A 1).getD 0 0 + (xs.getD 2 0 * (A 2).getD 0 0 + 0)), xs.getD 0 0 * (A 0).getD 1 0 + (xs.getD 1 0 * (A 1).getD 1 0 + (xs.getD 2 0 * (A 2).getD 1 0 + 0)),
          xs.getD 0 0 * (A 0).getD 2 0 + (xs.getD 1 0 * (A 1).getD 2 0 + (xs.getD 2 0 * (A 2).getD 2 0 + 0))] := by
        rw [← hsum 0 (by decide), ← hsum 1 (by decide), ← hsum 2 (by decide)]; rfl
      rw [decide_eq_true e]
      show wpN _ _ (truthy (.bool false)) _ _
      refine wpN_any ?_
      k_steps
      exact wpN_execs_nil ⟨rfl, _, _, rfl, F₁, fun q hq => N₁ q (.tail _ (.tail _ hq))⟩
/- part S6 -/
theorem anew_S6 {M : Model} {A : Around} {env : Env} {Q : Flow → Shared → Prop} {E : Value → Shared → Prop} {s : Shared} (h : wpAny M A (execs [] env) Q E s) : wpAny M A (execs [] env) Q E s := by
  w_top off
  try (walk1; fail)
  exact h
open Sem (wp)
theorem head_absurd {l X Tj : List UInt8} {j : Nat} {b : UInt8} {sz : Int} (hh : l.take 1 = [(97 + j).toUInt8] → X.take Tj.length = Tj) (hb : b = (97 + j).toUInt8) (hs : sz = (Tj.length : Nat))
    (q1 : ((bcut l none (some 1)).toArray.toList == #[b].toList) = true) (q2 : ((bcut X none (some sz)).toArray.toList != Tj.toArray.toList) = true) : False := by
  subst hb hs
  have e1 : bcut l none (some 1) = l.take 1 := bcut_upto l 1
  have e2 : bcut X none (some ((Tj.length : Nat) : Int)) = X.take Tj.length := bcut_upto X _
  rw [e1] at q1
  rw [e2] at q2
  have q1' : l.take 1 = [(97 + j).toUInt8] := by simpa using q1
  rw [hh q1'] at q2
  simp at q2
set_option linter.unusedVariables false in
theorem st_head {w : World} {G h : Heap} {L fa al tl rl ah : Nat} {cd : Value} {p : Program} {loose : List Str} {mean : ExcName → Option Value} {mg mb : Str → Option Value} {gs : Array GenState} {dr : Drawn} {os : OsState} {tk : Nat} {o4 o5 : Obj} {vt : Option Value} {rv av : List Value} {rn an : Nat} {rest : List (Addr × Obj)}
    {u tx tm : Tok} {j M : Nat} {R T : List (List UInt8)} {X : List UInt8}
    (F : Fr G L h (turnMapL al tl vt j u X tx M tm)) (N : News G L h ((L + 1 + 1 + 1, o4) :: (L + 1 + 1, o5) :: (ah, W.listOf av.toArray an) :: (rl, W.listOf rv.toArray rn) :: rest))
    (c4 : o4.data = .cell (some (.ref ah))) (c5 : o5.data = .cell (some (.ref rl)))
    (B' : Below callerA G [] G) (X' : (hd.heap_1 w.params).In G) (T' : Top p loose mean mg mb G)
    (hj : j < 3) (hR : RulesAt rv R) (hR2 : R.length = 2 ∨ R.length = 3) (hav : RulesAt av T) (hT3 : T.length = 3) (hrl : (ruled R j).length ≤ 100) (hXl : X.length ≤ 1000) (hTl : (T.getD j []).length ≤ 1000)
    (hh : (ruled R j).take 1 = [(97 + j).toUInt8] → X.take (T.getD j []).length = T.getD j []) :
    wpN (model lawProg w) (lawA L fa cd) (exec (innerBody.getD 6 (.Pass default)) (lawEnv L fa cd)) (fun f s' => f = .next ∧ Same G L (turnMapL al tl vt j u X tx M tm) ((L + 1 + 1 + 1, o4) :: (L + 1 + 1, o5) :: (ah, W.listOf av.toArray an) :: (rl, W.listOf rv.toArray rn) :: rest) gs dr os s') ⟨h, gs, dr, tk, os⟩ := by
  delta lawA lawEnv innerBody outerBody lawRec recOf
  dsimp only [forBody, List.getD, List.getElem?_cons_succ, List.getElem?_cons_zero, Option.getD]
  have C' := codeHdK X'
  have hal : av.length = 3 := by rw [hav.1, hT3]
  obtain ⟨ta, hx⟩ : ∃ t, av[((j : Nat) : Int).toNat]? = some (.bytes (T.getD j []).toArray t) := by rw [Int.toNat_natCast]; exact hav.2 j (by omega)
  refine wpN_If (wpN_any ?_)
  k_steps
  · exfalso
    rename ((_ : List UInt8) == _) = true => q1
    rename ((_ : List UInt8) != _) = true => q2
    exact head_absurd hh (by congr 1) (by simp) q1 q2
  · rename Fr _ _ _ _ => F2
    rename News _ _ _ _ => N2
    exact wpN_execs_nil ⟨rfl, _, _, rfl, F2, fun q hq => N2 q (.tail _ hq)⟩
  · rename Fr _ _ _ _ => F2
    rename News _ _ _ _ => N2
    exact wpN_execs_nil ⟨rfl, _, _, rfl, F2, fun q hq => N2 q (.tail _ hq)⟩
/- part S7 -/
theorem anew_S7 {M : Model} {A : Around} {env : Env} {Q : Flow → Shared → Prop} {E : Value → Shared → Prop} {s : Shared} (h : wpAny M A (execs [] env) Q E s) : wpAny M A (execs [] env) Q E s := by
  w_top off
  try (walk1; fail)
  exact h
open Sem (wp)
set_option linter.unusedVariables false in
theorem st_append {w : World} {G h : Heap} {L fa al tl : Nat} {cd : Value} {p : Program} {loose : List Str} {mean : ExcName → Option Value} {mg mb : Str → Option Value} {gs : Array GenState} {dr : Drawn} {os : OsState} {tk : Nat} {vt : Option Value} {tv : List Value} {tn : Nat} {rest : List (Addr × Obj)}
    {u tx tm : Tok} {j M : Nat} {X : List UInt8}
    (F : Fr G L h (turnMapL al tl vt j u X tx M tm)) (N : News G L h ((tl, W.listOf tv.toArray tn) :: rest)) (hrest : ∀ p ∈ rest, p.1 ≠ tl)
    (B' : Below callerA G [] G) (X' : (hd.heap_1 w.params).In G) (T' : Top p loose mean mg mb G) (htv : tv.length ≤ 100) :
    wpN (model lawProg w) (lawA L fa cd) (exec (innerBody.getD 7 (.Pass default)) (lawEnv L fa cd)) (fun f s' => f = .next ∧ ∃ n, Same G L (turnMapL al tl vt j u X tx M tm) ((tl, W.listOf (tv ++ [Value.bytes X.toArray tx]).toArray n) :: rest) gs dr os s') ⟨h, gs, dr, tk, os⟩ := by
  delta lawA lawEnv innerBody outerBody lawRec recOf
  dsimp only [forBody, List.getD, List.getElem?_cons_succ, List.getElem?_cons_zero, Option.getD]
  refine wpN_Expr (wpN_Call_method PySem.F.plainAttrs_list slot_list_append type_list_append (wpN_any ?_))
  k_steps
  refine Held.mk ⟨⟨_, (N _ (.head _)).1, rfl⟩, fun a e => (by cases e; exact ⟨_, (N _ (.head _)).1, rfl⟩), ?_⟩
  refine wpN_callWith rfl (wpN_evalArgs_some (wpN_any ?_))
  k_steps
  refine Held.mk ⟨⟨.machine, .inr (.inl rfl), Looks.of_pure rfl⟩, wpN_any ?_⟩
  (try dsimp only [List.nil_append, List.cons_append])
  refine append_K F N (Upd.head hrest) (fun h' F2 N2 => ?_) (by rw [List.size_toArray, sizeLine_eq]; omega)
  rw [List.push_toArray] at N2
  exact ⟨trivial, _, _, _, rfl, F2, N2⟩
/- part Q2 -/
theorem anew_Q2 {M : Model} {A : Around} {env : Env} {Q : Flow → Shared → Prop} {E : Value → Shared → Prop} {s : Shared} (h : wpAny M A (execs [] env) Q E s) : wpAny M A (execs [] env) Q E s := by
  w_top off
  try (walk1; fail)
  exact h
open Sem (wp)
theorem News.add {g h : Heap} {L : Addr} {news : List (Addr × Obj)} {q : Addr × Obj} (N : News g L h news) (hq : q ∈ news) : News g L h (q :: news) := fun p hp => (List.mem_cons.mp hp).elim (fun e => e ▸ N q hq) (N p)
theorem map_text_many {al : Nat} {a b c d e vX vM : Option Value} : (fun y => if y = Str.ofString "many" then vM else if y = Str.ofString "text" then vX else lawMap al a b c d e y) = lawMap al a b c vX vM := by
  funext y
  by_cases h1 : y = Str.ofString "texts"
  · subst h1; rfl
  by_cases h2 : y = Str.ofString "turn"
  · subst h2; rfl
  by_cases h3 : y = Str.ofString "at"
  · subst h3; rfl
  by_cases h4 : y = Str.ofString "text"
  · subst h4; rfl
  by_cases h5 : y = Str.ofString "many"
  · subst h5; rfl
  simp only [lawMap, h1, h2, h3, h4, h5, if_false]
theorem News.put {g h : Heap} {L : Addr} {news l : List (Addr × Obj)} {q : Addr × Obj} (N : News g L h news) (hq : q ∈ news) (R : News g L h l) : News g L h (q :: l) := fun p hp => (List.mem_cons.mp hp).elim (fun e => e ▸ N q hq) (R p)
theorem tabF_tags {tabs : List (Addr × Obj)} (h : TabF tabs) : ∀ q ∈ tabs, tagOf q.2 = 2 ∨ tagOf q.2 = 3 := by
  obtain ⟨c1, c2, oc1, oc2, vs1, vs2, t1, t2, rfl, e1, e2, e3, e4, e5, e6, e7⟩ := h
  have k1 : tagOf oc1 = 2 := by unfold tagOf; rw [e1]; show (match vs1[1]? with | some (Value.str _ _) => 2 | _ => 3) = 2; rw [e2]
  have k2 : tagOf oc2 = 2 := by unfold tagOf; rw [e3]; show (match vs2[1]? with | some (Value.str _ _) => 2 | _ => 3) = 2; rw [e4]
  intro q hq
  simp only [List.mem_cons, List.not_mem_nil, or_false] at hq
  rcases hq with rfl | rfl | rfl
  · exact .inr rfl
  · exact .inl k1
  · exact .inl k2
structure TurnLaw (R T : List (List UInt8)) (j : Nat) : Prop where
  fit : (T.getD j []).length ≤ 100
  lets : ∀ c ∈ T.getD j [], 97 ≤ c.toNat ∧ c.toNat ≤ 99
  rlen : ∀ r ∈ R, r.length ≤ 100
  xlen : (grow R (T.getD j []) 99).1.length ≤ 1000
  rl : ∀ k, (ruled R k).length ≤ 100
  rlets : ∀ c ∈ ruled R j, 97 ≤ c.toNat ∧ c.toNat ≤ 99
  join : (grow R (T.getD j []) 99).1 = ((ruled R j).map fun c => T.getD (c.toNat - 97) []).flatten
  many : (grow R (T.getD j []) 99).2 = ([(T.getD j []).count 97, (T.getD j []).count 98, (T.getD j []).count 99].take R.length).sum
  sums : ∀ k, k < 3 → ((grow R (T.getD j []) 99).1.count (97 + k).toUInt8) = (T.getD j []).count 97 * (ruled R 0).count (97 + k).toUInt8 + ((T.getD j []).count 98 * (ruled R 1).count (97 + k).toUInt8 + ((T.getD j []).count 99 * (ruled R 2).count (97 + k).toUInt8 + 0))
  head : (ruled R j).take 1 = [(97 + j).toUInt8] → (grow R (T.getD j []) 99).1.take (T.getD j []).length = T.getD j []
noncomputable def cntI (l : List UInt8) : List Int := [(l.count 97 : Nat), (l.count 98 : Nat), (l.count 99 : Nat)]
theorem cntI_at {l : List UInt8} {t0 t1 t2 : Tok} : IntsVal [.int (l.count 97 : Nat) t0, .int (l.count 98 : Nat) t1, .int (l.count 99 : Nat) t2] (cntI l) := ⟨rfl, fun k hk => by
  match k, hk with
  | 0, _ => exact ⟨_, rfl⟩
  | 1, _ => exact ⟨_, rfl⟩
  | 2, _ => exact ⟨_, rfl⟩⟩
theorem cnt_mul {n k : Nat} {l : List UInt8} (h1 : n ≤ 1000) : IntMulOk (n : Int) ((cntI l).getD k 0) := IntMulOk.of_left (intBits_le_64 (by omega) (by omega))
set_option linter.unusedVariables false in
theorem law_turn {w : World} {G h : Heap} {L fa al tl rl ah dl d0 d1 I1 I2 : Nat} {cd : Value} {p : Program} {loose : List Str} {mean : ExcName → Option Value} {mg mb : Str → Option Value} {gs : Array GenState} {dr : Drawn} {os : OsState} {tk : Nat} {o1 o2 o3 o4 o5 o6 oI1 oI2 e0 e1 e2 : Obj} {v2 v3 vt vtx vm : Option Value} {tv rv av : List Value} {tn rn an : Nat} {tabs : List (Addr × Obj)}
    {u : Tok} {j : Nat} {R T : List (List UInt8)} {Q : Flow → Shared → Prop}
    (F : Fr G L h (lawMap al (some (.ref tl)) vt (some (.int j u)) vtx vm))
    (N : News G L h ((I2, oI2) :: (tl, W.listOf tv.toArray tn) :: (L + 1 + 1 + 1 + 1 + 1 + 1, o1) :: (L + 1 + 1 + 1 + 1 + 1, o2) :: (L + 1 + 1 + 1 + 1, o3) :: (L + 1 + 1 + 1, o4) :: (L + 1 + 1, o5) :: (L + 1, o6) :: (rl, W.listOf rv.toArray rn) :: (ah, W.listOf av.toArray an) :: (I1, oI1) :: (dl, e0) :: (d0, e1) :: (d1, e2) :: tabs))
    (k1 : o1.data = .cell none) (k2 : o2.data = .cell v2) (k3 : o3.data = .cell v3) (k4 : o4.data = .cell (some (.ref ah))) (k5 : o5.data = .cell (some (.ref rl))) (k6 : o6.data = .cell (some (.ref dl)))
    (g0 : tagOf e0 = 0) (g1 : tagOf e1 = 0) (g2 : tagOf e2 = 0) (i1 : tagOf oI1 = 3) (i2 : tagOf oI2 = 3)
    (B' : Below callerA G [] G) (X' : (hd.heap_1 w.params).In G) (T' : Top p loose mean mg mb G) (hL : 280 < L)
    (hn1 : I1 ≠ 280) (hn2 : I2 ≠ 280) (hr1 : rl ≠ ah) (hr2 : rl ≠ dl) (hr3 : rl ≠ d0) (hr4 : rl ≠ d1) (hr5 : rl ≠ tl) (ht1 : ah ≠ tl) (ht2 : dl ≠ tl) (ht3 : d0 ≠ tl) (ht4 : d1 ≠ tl)
    (hj : j < 3) (hT : TabSt tabs) (hR : RulesAt rv R) (hR2 : R.length = 2 ∨ R.length = 3) (hav : RulesAt av T) (hT3 : T.length = 3) (htv : tv.length ≤ 100) (H : TurnLaw R T j)
    (ret : ∀ h' tk' tx M tm n o2' o3' w2 w3 tabs', Fr G L h' (turnMapL al tl vt j u (grow R (T.getD j []) 99).1 tx M tm) → TabF tabs' → o2'.data = .cell w2 → o3'.data = .cell w3 →
      News G L h' ((I2, oI2) :: (tl, W.listOf (tv ++ [Value.bytes (grow R (T.getD j []) 99).1.toArray tx]).toArray n) :: (L + 1 + 1 + 1 + 1 + 1 + 1, o1) :: (L + 1 + 1 + 1 + 1 + 1, o2') :: (L + 1 + 1 + 1 + 1, o3') :: (L + 1 + 1 + 1, o4) :: (L + 1 + 1, o5) :: (L + 1, o6) :: (rl, W.listOf rv.toArray rn) :: (ah, W.listOf av.toArray an) :: (I1, oI1) :: (dl, e0) :: (d0, e1) :: (d1, e2) :: tabs') →
      Q .next ⟨h', gs, dr, tk', os⟩) :
    wpN (model lawProg w) (lawA L fa cd) (execs innerBody (lawEnv L fa cd)) Q ⟨h, gs, dr, tk, os⟩ := by
  have C' := codeHdK X'
  have hal : av.length = 3 := by rw [hav.1, hT3]
  obtain ⟨ta, hx⟩ : ∃ t, av[((j : Nat) : Int).toNat]? = some (.bytes (T.getD j []).toArray t) := by rw [Int.toNat_natCast]; exact hav.2 j (by omega)
  show wpN _ _ (execs (innerBody.getD 0 (.Pass default) :: innerBody.drop 1) _) _ _
  refine wpN_execs_cons ?_
  refine wpN_mono (Q := fun f s' => Held (f = .next ∧ ∃ h' tk' a t1 u1 tabs', s' = ⟨h', gs, dr, tk', os⟩ ∧ TabF tabs' ∧ Fr G L h' (turnMapL al tl vt j u (grow R (T.getD j []) 99).1 t1 (grow R (T.getD j []) 99).2 u1) ∧
    News G L h' ((a, pairObj (grow R (T.getD j []) 99).1 t1 (grow R (T.getD j []) 99).2 u1) :: (rl, W.listOf rv.toArray rn) :: ([(I2, oI2), (tl, W.listOf tv.toArray tn), (L + 1 + 1 + 1 + 1 + 1 + 1, o1), (L + 1 + 1 + 1 + 1 + 1, o2), (L + 1 + 1 + 1 + 1, o3), (L + 1 + 1 + 1, o4), (L + 1 + 1, o5), (L + 1, o6), (ah, W.listOf av.toArray an), (I1, oI1), (dl, e0), (d0, e1), (d1, e2)] ++ tabs')))) ?call ?rest
  case call =>
    clear ret
    obtain ⟨X, hX⟩ : ∃ X, (grow R (T.getD j []) 99).1 = X := ⟨_, rfl⟩
    obtain ⟨M, hM⟩ : ∃ M, (grow R (T.getD j []) 99).2 = M := ⟨_, rfl⟩
    rw [hX, hM]
    delta lawA lawEnv innerBody outerBody lawRec recOf
    dsimp only [forBody, List.getD, List.getElem?_cons_succ, List.getElem?_cons_zero, Option.getD]
    refine wpN_Assign_Tuple (wpN_Call_Name (wpN_any ?_))
    k_steps
    refine wpN_callWith rfl (wpN_evalArgs_some (wpN_any ?_))
    k_steps
    refine Held.mk ⟨keeps_K (by k_is) _ (X'.keeps F.keep), ?_⟩
    (try dsimp only [List.nil_append, List.cons_append])
    refine' use_grown (rest := [(I2, oI2), (tl, W.listOf tv.toArray tn), (L + 1 + 1 + 1 + 1 + 1 + 1, o1), (L + 1 + 1 + 1 + 1 + 1, o2), (L + 1 + 1 + 1 + 1, o3), (L + 1 + 1 + 1, o4), (L + 1 + 1, o5), (L + 1, o6), (ah, W.listOf av.toArray an), (I1, oI1), (dl, e0), (d0, e1), (d1, e2)]) hT hR hR2 H.rlen H.fit ?hmost H.lets B' F X' N T' ?hk ?hd ?hu ?hm ?ht ?hrest ?ret
    case hk => exact rfl
    case hd => ktr_room
    case hu => ktr_units
    case hm => k_mem
    case ht => exact fun q hq => .tail _ (.tail _ (.tail _ (.tail _ (.tail _ (.tail _ (.tail _ (.tail _ (.tail _ (.tail _ (.tail _ (.tail _ (.tail _ (.tail _ hq)))))))))))))
    case hmost => decide
    case hrest =>
      have tc1 := tag_cell k1
      have tc2 := tag_cell k2
      have tc3 := tag_cell k3
      have tc4 := tag_cell k4
      have tc5 := tag_cell k5
      have tc6 := tag_cell k6
      have mrl : (rl, W.listOf rv.toArray rn) ∈ ((I2, oI2) :: (tl, W.listOf tv.toArray tn) :: (L + 1 + 1 + 1 + 1 + 1 + 1, o1) :: (L + 1 + 1 + 1 + 1 + 1, o2) :: (L + 1 + 1 + 1 + 1, o3) :: (L + 1 + 1 + 1, o4) :: (L + 1 + 1, o5) :: (L + 1, o6) :: (rl, W.listOf rv.toArray rn) :: (ah, W.listOf av.toArray an) :: (I1, oI1) :: (dl, e0) :: (d0, e1) :: (d1, e2) :: tabs) := (by repeat (first | exact List.Mem.head _ | apply List.Mem.tail))
      have key : ∀ q : Addr × Obj, q ∈ ((I2, oI2) :: (tl, W.listOf tv.toArray tn) :: (L + 1 + 1 + 1 + 1 + 1 + 1, o1) :: (L + 1 + 1 + 1 + 1 + 1, o2) :: (L + 1 + 1 + 1 + 1, o3) :: (L + 1 + 1 + 1, o4) :: (L + 1 + 1, o5) :: (L + 1, o6) :: (rl, W.listOf rv.toArray rn) :: (ah, W.listOf av.toArray an) :: (I1, oI1) :: (dl, e0) :: (d0, e1) :: (d1, e2) :: tabs) → q.1 ≠ 280 → (q.1 ≠ rl ∧ tagOf q.2 ≠ 2) → (q ∈ ((I2, oI2) :: (tl, W.listOf tv.toArray tn) :: (L + 1 + 1 + 1 + 1 + 1 + 1, o1) :: (L + 1 + 1 + 1 + 1 + 1, o2) :: (L + 1 + 1 + 1 + 1, o3) :: (L + 1 + 1 + 1, o4) :: (L + 1 + 1, o5) :: (L + 1, o6) :: (rl, W.listOf rv.toArray rn) :: (ah, W.listOf av.toArray an) :: (I1, oI1) :: (dl, e0) :: (d0, e1) :: (d1, e2) :: tabs) ∧ q.1 ≠ rl ∧ q.1 ≠ 280 ∧ tagOf q.2 ≠ 2) := fun q a b c => ⟨a, c.1, b, c.2⟩
      have tl280 : ∀ {x : Nat} {ox : Obj}, (x, ox) ∈ ((I2, oI2) :: (tl, W.listOf tv.toArray tn) :: (L + 1 + 1 + 1 + 1 + 1 + 1, o1) :: (L + 1 + 1 + 1 + 1 + 1, o2) :: (L + 1 + 1 + 1 + 1, o3) :: (L + 1 + 1 + 1, o4) :: (L + 1 + 1, o5) :: (L + 1, o6) :: (rl, W.listOf rv.toArray rn) :: (ah, W.listOf av.toArray an) :: (I1, oI1) :: (dl, e0) :: (d0, e1) :: (d1, e2) :: tabs) → tagOf ox = 0 → x ≠ 280 := fun hm ht => by
        rcases hT with e | ⟨_, _, _, _, _, _, _, _, e, _⟩ <;> (subst e; exact neTag (i := 0) (j := 3) N hm (by repeat (first | exact List.Mem.head _ | apply List.Mem.tail)) ht rfl (by decide))
      intro q hq
      simp only [List.mem_cons, List.not_mem_nil, or_false] at hq
      rcases hq with rfl | rfl | rfl | rfl | rfl | rfl | rfl | rfl | rfl | rfl | rfl | rfl | rfl
      · exact key _ (by repeat (first | exact List.Mem.head _ | apply List.Mem.tail)) hn2 ⟨neTag (i := 3) (j := 0) N (by repeat (first | exact List.Mem.head _ | apply List.Mem.tail)) mrl i2 rfl (by decide), by rw [i2]; decide⟩
      · exact key _ (by repeat (first | exact List.Mem.head _ | apply List.Mem.tail)) (tl280 (by repeat (first | exact List.Mem.head _ | apply List.Mem.tail)) rfl) ⟨Ne.symm hr5, by show (0 : Nat) ≠ 2; decide⟩
      · exact key _ (by repeat (first | exact List.Mem.head _ | apply List.Mem.tail)) (by show (_ : Nat) ≠ _; omega) ⟨neTag (i := 1) (j := 0) N (by repeat (first | exact List.Mem.head _ | apply List.Mem.tail)) mrl tc1 rfl (by decide), by rw [tc1]; decide⟩
      · exact key _ (by repeat (first | exact List.Mem.head _ | apply List.Mem.tail)) (by show (_ : Nat) ≠ _; omega) ⟨neTag (i := 1) (j := 0) N (by repeat (first | exact List.Mem.head _ | apply List.Mem.tail)) mrl tc2 rfl (by decide), by rw [tc2]; decide⟩
      · exact key _ (by repeat (first | exact List.Mem.head _ | apply List.Mem.tail)) (by show (_ : Nat) ≠ _; omega) ⟨neTag (i := 1) (j := 0) N (by repeat (first | exact List.Mem.head _ | apply List.Mem.tail)) mrl tc3 rfl (by decide), by rw [tc3]; decide⟩
      · exact key _ (by repeat (first | exact List.Mem.head _ | apply List.Mem.tail)) (by show (_ : Nat) ≠ _; omega) ⟨neTag (i := 1) (j := 0) N (by repeat (first | exact List.Mem.head _ | apply List.Mem.tail)) mrl tc4 rfl (by decide), by rw [tc4]; decide⟩
      · exact key _ (by repeat (first | exact List.Mem.head _ | apply List.Mem.tail)) (by show (_ : Nat) ≠ _; omega) ⟨neTag (i := 1) (j := 0) N (by repeat (first | exact List.Mem.head _ | apply List.Mem.tail)) mrl tc5 rfl (by decide), by rw [tc5]; decide⟩
      · exact key _ (by repeat (first | exact List.Mem.head _ | apply List.Mem.tail)) (by show (_ : Nat) ≠ _; omega) ⟨neTag (i := 1) (j := 0) N (by repeat (first | exact List.Mem.head _ | apply List.Mem.tail)) mrl tc6 rfl (by decide), by rw [tc6]; decide⟩
      · exact key _ (by repeat (first | exact List.Mem.head _ | apply List.Mem.tail)) (tl280 (by repeat (first | exact List.Mem.head _ | apply List.Mem.tail)) rfl) ⟨Ne.symm hr1, by show (0 : Nat) ≠ 2; decide⟩
      · exact key _ (by repeat (first | exact List.Mem.head _ | apply List.Mem.tail)) hn1 ⟨neTag (i := 3) (j := 0) N (by repeat (first | exact List.Mem.head _ | apply List.Mem.tail)) mrl i1 rfl (by decide), by rw [i1]; decide⟩
      · exact key _ (by repeat (first | exact List.Mem.head _ | apply List.Mem.tail)) (tl280 (by repeat (first | exact List.Mem.head _ | apply List.Mem.tail)) g0) ⟨Ne.symm hr2, by rw [g0]; decide⟩
      · exact key _ (by repeat (first | exact List.Mem.head _ | apply List.Mem.tail)) (tl280 (by repeat (first | exact List.Mem.head _ | apply List.Mem.tail)) g1) ⟨Ne.symm hr3, by rw [g1]; decide⟩
      · exact key _ (by repeat (first | exact List.Mem.head _ | apply List.Mem.tail)) (tl280 (by repeat (first | exact List.Mem.head _ | apply List.Mem.tail)) g2) ⟨Ne.symm hr4, by rw [g2]; decide⟩
    case ret =>
      intro a t1 u1 tabs' h' tk' hF F1 N1
      rw [hX, hM] at N1
      clear F N
      dsimp only [List.cons_append, List.nil_append] at N1
      k_steps
      rename Fr _ _ _ _ => F2
      rename News _ _ _ _ => N2
      rw [map_text_many] at F2
      exact Held.mk ⟨by first | rfl | trivial, _, _, a, t1, u1, tabs', rfl, hF, F2, N2⟩
  case rest =>
    rintro f s' ⟨rfl, h', tk', a, t1, u1, tabs', rfl, hF, F1, N1⟩
    obtain ⟨X, hX⟩ : ∃ X, (grow R (T.getD j []) 99).1 = X := ⟨_, rfl⟩
    obtain ⟨M, hM⟩ : ∃ M, (grow R (T.getD j []) 99).2 = M := ⟨_, rfl⟩
    have hXl : X.length ≤ 1000 := hX ▸ H.xlen
    have hjoin := H.join
    have hmany := H.many
    have hsums := H.sums
    have hhead := H.head
    rw [hX] at hjoin hsums hhead
    rw [hM] at hmany
    rw [hX, hM] at F1 N1
    rw [hX] at ret
    clear F N hx
    have htg := tabF_tags hF
    have hfit := H.fit
    have NB : News G L h' ((I2, oI2) :: (L + 1 + 1 + 1 + 1 + 1 + 1, o1) :: (L + 1 + 1 + 1, o4) :: (L + 1 + 1, o5) :: (L + 1, o6) :: (rl, W.listOf rv.toArray rn) :: (ah, W.listOf av.toArray an) :: (I1, oI1) :: (dl, e0) :: (d0, e1) :: (d1, e2) :: tabs') := (News.put N1 (by repeat (first | exact List.Mem.head _ | apply List.Mem.tail)) (News.put N1 (by repeat (first | exact List.Mem.head _ | apply List.Mem.tail)) (News.put N1 (by repeat (first | exact List.Mem.head _ | apply List.Mem.tail)) (News.put N1 (by repeat (first | exact List.Mem.head _ | apply List.Mem.tail)) (News.put N1 (by repeat (first | exact List.Mem.head _ | apply List.Mem.tail)) (News.put N1 (by repeat (first | exact List.Mem.head _ | apply List.Mem.tail)) (News.put N1 (by repeat (first | exact List.Mem.head _ | apply List.Mem.tail)) (News.put N1 (by repeat (first | exact List.Mem.head _ | apply List.Mem.tail)) (News.put N1 (by repeat (first | exact List.Mem.head _ | apply List.Mem.tail)) (News.put N1 (by repeat (first | exact List.Mem.head _ | apply List.Mem.tail)) (News.put N1 (by repeat (first | exact List.Mem.head _ | apply List.Mem.tail)) (fun q hq => N1 q (.tail _ (.tail _ (List.mem_append_right _ hq)))))))))))))))
    have cellB : ∀ {hh : Heap} {d : Nat} {od : Obj} {v : Option Value} {NN : List (Addr × Obj)}, News G L hh NN → (d, od) ∈ NN → od.data = .cell v → (∀ q ∈ ((I2, oI2) :: (L + 1 + 1 + 1 + 1 + 1 + 1, o1) :: (L + 1 + 1 + 1, o4) :: (L + 1 + 1, o5) :: (L + 1, o6) :: (rl, W.listOf rv.toArray rn) :: (ah, W.listOf av.toArray an) :: (I1, oI1) :: (dl, e0) :: (d0, e1) :: (d1, e2) :: tabs'), q ∈ NN) → d ≠ L + 1 + 1 + 1 + 1 + 1 + 1 → d ≠ L + 1 + 1 + 1 → d ≠ L + 1 + 1 → d ≠ L + 1 → ∀ q ∈ ((I2, oI2) :: (L + 1 + 1 + 1 + 1 + 1 + 1, o1) :: (L + 1 + 1 + 1, o4) :: (L + 1 + 1, o5) :: (L + 1, o6) :: (rl, W.listOf rv.toArray rn) :: (ah, W.listOf av.toArray an) :: (I1, oI1) :: (dl, e0) :: (d0, e1) :: (d1, e2) :: tabs'), q.1 ≠ d := by
      intro hh d od v NN NN' hd kd hsub z1 z2 z3 z4 q hq
      have key : tagOf q.2 ≠ 1 → q.1 ≠ d := fun ht => neTag (j := 1) NN' (hsub q hq) hd rfl (tag_cell kd) ht
      simp only [List.mem_cons] at hq
      rcases hq with rfl | rfl | rfl | rfl | rfl | rfl | rfl | rfl | rfl | rfl | rfl | hq
      · exact key (by rw [i2]; decide)
      · exact Ne.symm z1
      · exact Ne.symm z2
      · exact Ne.symm z3
      · exact Ne.symm z4
      · exact key (by show (0 : Nat) ≠ 1; decide)
      · exact key (by show (0 : Nat) ≠ 1; decide)
      · exact key (by rw [i1]; decide)
      · exact key (by rw [g0]; decide)
      · exact key (by rw [g1]; decide)
      · exact key (by rw [g2]; decide)
      · exact key (by rcases htg q hq with e | e <;> rw [e] <;> decide)
    have N0 : News G L h' ((L + 1 + 1 + 1 + 1 + 1, o2) :: (L + 1 + 1 + 1 + 1, o3) :: (tl, W.listOf tv.toArray tn) :: ((I2, oI2) :: (L + 1 + 1 + 1 + 1 + 1 + 1, o1) :: (L + 1 + 1 + 1, o4) :: (L + 1 + 1, o5) :: (L + 1, o6) :: (rl, W.listOf rv.toArray rn) :: (ah, W.listOf av.toArray an) :: (I1, oI1) :: (dl, e0) :: (d0, e1) :: (d1, e2) :: tabs')) := (News.put N1 (by repeat (first | exact List.Mem.head _ | apply List.Mem.tail)) (News.put N1 (by repeat (first | exact List.Mem.head _ | apply List.Mem.tail)) (News.put N1 (by repeat (first | exact List.Mem.head _ | apply List.Mem.tail)) NB)))
    clear N1 NB
    show wpN _ _ (execs (innerBody.getD 1 (.Pass default) :: innerBody.drop 2) _) _ _
    refine wpN_execs_cons (wpN_mono (st_join F1 (News.put N0 (by repeat (first | exact List.Mem.head _ | apply List.Mem.tail)) (News.put N0 (by repeat (first | exact List.Mem.head _ | apply List.Mem.tail)) (News.put N0 (by repeat (first | exact List.Mem.head _ | apply List.Mem.tail)) (News.put N0 (by repeat (first | exact List.Mem.head _ | apply List.Mem.tail)) N0)))) k4 k5 B' X' T' hj hR hR2 hav hT3 H.rlets (H.rl j) hjoin hXl) ?_)
    rintro f s' ⟨rfl, h2, tk2, rfl, F2, N2⟩
    replace N2 : News G L h2 ((L + 1 + 1 + 1 + 1 + 1, o2) :: (L + 1 + 1 + 1 + 1, o3) :: (tl, W.listOf tv.toArray tn) :: ((I2, oI2) :: (L + 1 + 1 + 1 + 1 + 1 + 1, o1) :: (L + 1 + 1 + 1, o4) :: (L + 1 + 1, o5) :: (L + 1, o6) :: (rl, W.listOf rv.toArray rn) :: (ah, W.listOf av.toArray an) :: (I1, oI1) :: (dl, e0) :: (d0, e1) :: (d1, e2) :: tabs')) := fun q hq => N2 q (.tail _ (.tail _ (.tail _ (.tail _ hq))))
    clear F1 N0
    show wpN _ _ (execs (innerBody.getD 2 (.Pass default) :: innerBody.drop 3) _) _ _
    have NB : News G L h2 ((I2, oI2) :: (L + 1 + 1 + 1 + 1 + 1 + 1, o1) :: (L + 1 + 1 + 1, o4) :: (L + 1 + 1, o5) :: (L + 1, o6) :: (rl, W.listOf rv.toArray rn) :: (ah, W.listOf av.toArray an) :: (I1, oI1) :: (dl, e0) :: (d0, e1) :: (d1, e2) :: tabs') := fun q hq => N2 q (.tail _ (.tail _ (.tail _ hq)))
    have hb := cellB (d := L + 1 + 1 + 1 + 1) N2 (by repeat (first | exact List.Mem.head _ | apply List.Mem.tail)) k3 (fun q hq => (.tail _ (.tail _ (.tail _ hq)))) (by omega) (by omega) (by omega) (by omega)
    refine wpN_execs_cons (wpN_mono (st_counts (rl := rl) (rest := (L + 1 + 1 + 1 + 1 + 1, o2) :: (tl, W.listOf tv.toArray tn) :: ((I2, oI2) :: (L + 1 + 1 + 1 + 1 + 1 + 1, o1) :: (L + 1 + 1 + 1, o4) :: (L + 1 + 1, o5) :: (L + 1, o6) :: (rl, W.listOf rv.toArray rn) :: (ah, W.listOf av.toArray an) :: (I1, oI1) :: (dl, e0) :: (d0, e1) :: (d1, e2) :: tabs')) F2 (News.put N2 (by repeat (first | exact List.Mem.head _ | apply List.Mem.tail)) (News.put N2 (by repeat (first | exact List.Mem.head _ | apply List.Mem.tail)) (News.put N2 (by repeat (first | exact List.Mem.head _ | apply List.Mem.tail)) (News.put N2 (by repeat (first | exact List.Mem.head _ | apply List.Mem.tail)) (News.put N2 (by repeat (first | exact List.Mem.head _ | apply List.Mem.tail)) NB))))) k3 k4 (List.forall_mem_cons.mpr ⟨by show (_ : Nat) ≠ _; omega, (List.forall_mem_cons.mpr ⟨neTag (i := 0) (j := 1) N2 (by repeat (first | exact List.Mem.head _ | apply List.Mem.tail)) (by repeat (first | exact List.Mem.head _ | apply List.Mem.tail)) rfl (tag_cell k3) (by decide), (List.forall_mem_cons.mpr ⟨by show (_ : Nat) ≠ _; omega, (List.forall_mem_cons.mpr ⟨neTag (i := 0) (j := 1) N2 (by repeat (first | exact List.Mem.head _ | apply List.Mem.tail)) (by repeat (first | exact List.Mem.head _ | apply List.Mem.tail)) rfl (tag_cell k3) (by decide), hb⟩)⟩)⟩)⟩) B' X' T' hj hav hT3 (by omega)) ?_)
    rintro f s' ⟨rfl, cc, ta0, ta1, ta2, cn, o3', k3', h3, tk3, rfl, F3, N3⟩
    clear F2 N2 NB hb
    have NB : News G L h3 ((I2, oI2) :: (L + 1 + 1 + 1 + 1 + 1 + 1, o1) :: (L + 1 + 1 + 1, o4) :: (L + 1 + 1, o5) :: (L + 1, o6) :: (rl, W.listOf rv.toArray rn) :: (ah, W.listOf av.toArray an) :: (I1, oI1) :: (dl, e0) :: (d0, e1) :: (d1, e2) :: tabs') := fun q hq => N3 q (.tail _ (.tail _ (.tail _ (.tail _ (.tail _ (.tail _ hq))))))
    show wpN _ _ (execs (innerBody.getD 3 (.Pass default) :: innerBody.drop 4) _) _ _
    refine wpN_execs_cons (wpN_mono (st_many (v3 := none) (rest := (L + 1 + 1 + 1 + 1 + 1, o2) :: (tl, W.listOf tv.toArray tn) :: ((I2, oI2) :: (L + 1 + 1 + 1 + 1 + 1 + 1, o1) :: (L + 1 + 1 + 1, o4) :: (L + 1 + 1, o5) :: (L + 1, o6) :: (rl, W.listOf rv.toArray rn) :: (ah, W.listOf av.toArray an) :: (I1, oI1) :: (dl, e0) :: (d0, e1) :: (d1, e2) :: tabs')) F3 (News.put N3 (by repeat (first | exact List.Mem.head _ | apply List.Mem.tail)) (News.put N3 (by repeat (first | exact List.Mem.head _ | apply List.Mem.tail)) (News.put N3 (by repeat (first | exact List.Mem.head _ | apply List.Mem.tail)) (News.put N3 (by repeat (first | exact List.Mem.head _ | apply List.Mem.tail)) (News.put N3 (by repeat (first | exact List.Mem.head _ | apply List.Mem.tail)) (News.put N3 (by repeat (first | exact List.Mem.head _ | apply List.Mem.tail)) NB)))))) k3' k5 B' X' T' hR hR2 hmany) ?_)
    rintro f s' ⟨rfl, h4, tk4, rfl, F4, N4⟩
    clear F3 N3 NB
    have NB : News G L h4 ((I2, oI2) :: (L + 1 + 1 + 1 + 1 + 1 + 1, o1) :: (L + 1 + 1 + 1, o4) :: (L + 1 + 1, o5) :: (L + 1, o6) :: (rl, W.listOf rv.toArray rn) :: (ah, W.listOf av.toArray an) :: (I1, oI1) :: (dl, e0) :: (d0, e1) :: (d1, e2) :: tabs') := fun q hq => N4 q (.tail _ (.tail _ (.tail _ (.tail _ (.tail _ (.tail _ hq))))))
    show wpN _ _ (execs (innerBody.getD 4 (.Pass default) :: innerBody.drop 5) _) _ _
    have hb := cellB (d := L + 1 + 1 + 1 + 1 + 1) N4 (by repeat (first | exact List.Mem.head _ | apply List.Mem.tail)) k2 (fun q hq => (.tail _ (.tail _ (.tail _ (.tail _ (.tail _ (.tail _ hq))))))) (by omega) (by omega) (by omega) (by omega)
    have m2 : (L + 1 + 1 + 1 + 1 + 1, o2) ∈ ((cc, W.listOf [.int ((T.getD j []).count 97 : Nat) ta0, .int ((T.getD j []).count 98 : Nat) ta1, .int ((T.getD j []).count 99 : Nat) ta2].toArray cn) :: (L + 1 + 1 + 1 + 1, o3') :: (L + 1 + 1, o5) :: (rl, W.listOf rv.toArray rn) :: (L + 1 + 1 + 1 + 1 + 1, o2) :: (tl, W.listOf tv.toArray tn) :: ((I2, oI2) :: (L + 1 + 1 + 1 + 1 + 1 + 1, o1) :: (L + 1 + 1 + 1, o4) :: (L + 1 + 1, o5) :: (L + 1, o6) :: (rl, W.listOf rv.toArray rn) :: (ah, W.listOf av.toArray an) :: (I1, oI1) :: (dl, e0) :: (d0, e1) :: (d1, e2) :: tabs')) := (by repeat (first | exact List.Mem.head _ | apply List.Mem.tail))
    refine wpN_execs_cons (wpN_mono (st_told (rest := (cc, W.listOf [.int ((T.getD j []).count 97 : Nat) ta0, .int ((T.getD j []).count 98 : Nat) ta1, .int ((T.getD j []).count 99 : Nat) ta2].toArray cn) :: (L + 1 + 1 + 1 + 1, o3') :: (tl, W.listOf tv.toArray tn) :: ((I2, oI2) :: (L + 1 + 1 + 1 + 1 + 1 + 1, o1) :: (L + 1 + 1 + 1, o4) :: (L + 1 + 1, o5) :: (L + 1, o6) :: (rl, W.listOf rv.toArray rn) :: (ah, W.listOf av.toArray an) :: (I1, oI1) :: (dl, e0) :: (d0, e1) :: (d1, e2) :: tabs')) F4 (News.put N4 (by repeat (first | exact List.Mem.head _ | apply List.Mem.tail)) (News.put N4 (by repeat (first | exact List.Mem.head _ | apply List.Mem.tail)) (News.put N4 (by repeat (first | exact List.Mem.head _ | apply List.Mem.tail)) (News.put N4 (by repeat (first | exact List.Mem.head _ | apply List.Mem.tail)) (News.put N4 (by repeat (first | exact List.Mem.head _ | apply List.Mem.tail)) (News.put N4 (by repeat (first | exact List.Mem.head _ | apply List.Mem.tail)) NB)))))) k2 k5 (List.forall_mem_cons.mpr ⟨by show (_ : Nat) ≠ _; omega, (List.forall_mem_cons.mpr ⟨neTag (i := 0) (j := 1) N4 (by repeat (first | exact List.Mem.head _ | apply List.Mem.tail)) m2 rfl (tag_cell k2) (by decide), (List.forall_mem_cons.mpr ⟨neTag (i := 0) (j := 1) N4 (by repeat (first | exact List.Mem.head _ | apply List.Mem.tail)) m2 rfl (tag_cell k2) (by decide), (List.forall_mem_cons.mpr ⟨by show (_ : Nat) ≠ _; omega, (List.forall_mem_cons.mpr ⟨neTag (i := 0) (j := 1) N4 (by repeat (first | exact List.Mem.head _ | apply List.Mem.tail)) m2 rfl (tag_cell k2) (by decide), hb⟩)⟩)⟩)⟩)⟩) B' X' T' hR hR2 H.rl) ?_)
    rintro f s' ⟨rfl, td, tdn, a0, a1, a2, b0, b1, b2, o2', k2', cb0, cb1, cb2, h5, tk5, rfl, F5, N5⟩
    clear F4 N4 NB hb m2
    have NB : News G L h5 ((I2, oI2) :: (L + 1 + 1 + 1 + 1 + 1 + 1, o1) :: (L + 1 + 1 + 1, o4) :: (L + 1 + 1, o5) :: (L + 1, o6) :: (rl, W.listOf rv.toArray rn) :: (ah, W.listOf av.toArray an) :: (I1, oI1) :: (dl, e0) :: (d0, e1) :: (d1, e2) :: tabs') := fun q hq => N5 q (.tail _ (.tail _ (.tail _ (.tail _ (.tail _ (.tail _ (.tail _ (.tail _ (.tail _ (.tail _ hq))))))))))
    show wpN _ _ (execs (innerBody.getD 5 (.Pass default) :: innerBody.drop 6) _) _ _
    refine wpN_execs_cons (wpN_mono (st_sum (xs := cntI (T.getD j [])) (A := fun k => cntI (ruled R k)) (cv := [.int ((T.getD j []).count 97 : Nat) ta0, .int ((T.getD j []).count 98 : Nat) ta1, .int ((T.getD j []).count 99 : Nat) ta2]) (tv := [.ref a0, .ref a1, .ref a2]) (rest := (a0, b0) :: (a1, b1) :: (a2, b2) :: (tl, W.listOf tv.toArray tn) :: ((I2, oI2) :: (L + 1 + 1 + 1 + 1 + 1 + 1, o1) :: (L + 1 + 1 + 1, o4) :: (L + 1 + 1, o5) :: (L + 1, o6) :: (rl, W.listOf rv.toArray rn) :: (ah, W.listOf av.toArray an) :: (I1, oI1) :: (dl, e0) :: (d0, e1) :: (d1, e2) :: tabs')) F5 (News.put N5 (by repeat (first | exact List.Mem.head _ | apply List.Mem.tail)) (News.put N5 (by repeat (first | exact List.Mem.head _ | apply List.Mem.tail)) (News.put N5 (by repeat (first | exact List.Mem.head _ | apply List.Mem.tail)) (News.put N5 (by repeat (first | exact List.Mem.head _ | apply List.Mem.tail)) (News.put N5 (by repeat (first | exact List.Mem.head _ | apply List.Mem.tail)) (News.put N5 (by repeat (first | exact List.Mem.head _ | apply List.Mem.tail)) (News.put N5 (by repeat (first | exact List.Mem.head _ | apply List.Mem.tail)) (News.put N5 (by repeat (first | exact List.Mem.head _ | apply List.Mem.tail)) NB)))))))) k3' k2' B' X' T' hXl cntI_at rfl rfl (fun k => rfl) ?htold ?hmul ?hsum) ?_)
    case htold =>
      intro k hk
      obtain ⟨s0, s1, s2, sn, rfl⟩ := cb0
      obtain ⟨r0, r1, r2, rn', rfl⟩ := cb1
      obtain ⟨q0, q1, q2, qn, rfl⟩ := cb2
      match k, hk with
      | 0, _ => exact ⟨a0, _, _, rfl, (by repeat (first | exact List.Mem.head _ | apply List.Mem.tail)), cntI_at⟩
      | 1, _ => exact ⟨a1, _, _, rfl, (by repeat (first | exact List.Mem.head _ | apply List.Mem.tail)), cntI_at⟩
      | 2, _ => exact ⟨a2, _, _, rfl, (by repeat (first | exact List.Mem.head _ | apply List.Mem.tail)), cntI_at⟩
    case hmul =>
      intro k i hk hi
      have hc : ∀ c : UInt8, (T.getD j []).count c ≤ 1000 := fun c => Nat.le_trans (List.count_le_length) (by omega)
      match k, hk with
      | 0, _ => exact cnt_mul (hc 97)
      | 1, _ => exact cnt_mul (hc 98)
      | 2, _ => exact cnt_mul (hc 99)
    case hsum =>
      intro k hk
      have e := hsums k hk
      match k, hk with
      | 0, _ => rw [e]; push_cast; rfl
      | 1, _ => rw [e]; push_cast; rfl
      | 2, _ => rw [e]; push_cast; rfl
    rintro f s' ⟨rfl, h6, tk6, rfl, F6, N6⟩
    clear F5 N5 NB
    have NB : News G L h6 ((I2, oI2) :: (L + 1 + 1 + 1 + 1 + 1 + 1, o1) :: (L + 1 + 1 + 1, o4) :: (L + 1 + 1, o5) :: (L + 1, o6) :: (rl, W.listOf rv.toArray rn) :: (ah, W.listOf av.toArray an) :: (I1, oI1) :: (dl, e0) :: (d0, e1) :: (d1, e2) :: tabs') := fun q hq => N6 q (.tail _ (.tail _ (.tail _ (.tail _ (.tail _ (.tail _ (.tail _ (.tail _ hq))))))))
    show wpN _ _ (execs (innerBody.getD 6 (.Pass default) :: innerBody.drop 7) _) _ _
    refine wpN_execs_cons (wpN_mono (st_head (rest := (L + 1 + 1 + 1 + 1, o3') :: (L + 1 + 1 + 1 + 1 + 1, o2') :: (tl, W.listOf tv.toArray tn) :: ((I2, oI2) :: (L + 1 + 1 + 1 + 1 + 1 + 1, o1) :: (L + 1 + 1 + 1, o4) :: (L + 1 + 1, o5) :: (L + 1, o6) :: (rl, W.listOf rv.toArray rn) :: (ah, W.listOf av.toArray an) :: (I1, oI1) :: (dl, e0) :: (d0, e1) :: (d1, e2) :: tabs')) F6 (News.put N6 (by repeat (first | exact List.Mem.head _ | apply List.Mem.tail)) (News.put N6 (by repeat (first | exact List.Mem.head _ | apply List.Mem.tail)) (News.put N6 (by repeat (first | exact List.Mem.head _ | apply List.Mem.tail)) (News.put N6 (by repeat (first | exact List.Mem.head _ | apply List.Mem.tail)) (News.put N6 (by repeat (first | exact List.Mem.head _ | apply List.Mem.tail)) (News.put N6 (by repeat (first | exact List.Mem.head _ | apply List.Mem.tail)) (News.put N6 (by repeat (first | exact List.Mem.head _ | apply List.Mem.tail)) NB))))))) k4 k5 B' X' T' hj hR hR2 hav hT3 (H.rl j) hXl (by omega) hhead) ?_)
    rintro f s' ⟨rfl, h7, tk7, rfl, F7, N7⟩
    clear F6 N6 NB
    have NB : News G L h7 ((I2, oI2) :: (L + 1 + 1 + 1 + 1 + 1 + 1, o1) :: (L + 1 + 1 + 1, o4) :: (L + 1 + 1, o5) :: (L + 1, o6) :: (rl, W.listOf rv.toArray rn) :: (ah, W.listOf av.toArray an) :: (I1, oI1) :: (dl, e0) :: (d0, e1) :: (d1, e2) :: tabs') := fun q hq => N7 q (.tail _ (.tail _ (.tail _ (.tail _ (.tail _ (.tail _ (.tail _ hq)))))))
    show wpN _ _ (execs (innerBody.getD 7 (.Pass default) :: innerBody.drop 8) _) _ _
    refine wpN_execs_cons (wpN_mono (st_append (rest := (L + 1 + 1 + 1 + 1, o3') :: (L + 1 + 1 + 1 + 1 + 1, o2') :: ((I2, oI2) :: (L + 1 + 1 + 1 + 1 + 1 + 1, o1) :: (L + 1 + 1 + 1, o4) :: (L + 1 + 1, o5) :: (L + 1, o6) :: (rl, W.listOf rv.toArray rn) :: (ah, W.listOf av.toArray an) :: (I1, oI1) :: (dl, e0) :: (d0, e1) :: (d1, e2) :: tabs')) F7 (News.put N7 (by repeat (first | exact List.Mem.head _ | apply List.Mem.tail)) (News.put N7 (by repeat (first | exact List.Mem.head _ | apply List.Mem.tail)) (News.put N7 (by repeat (first | exact List.Mem.head _ | apply List.Mem.tail)) NB))) ?htl B' X' T' htv) ?_)
    case htl =>
      have mtl : (tl, W.listOf tv.toArray tn) ∈ ((L + 1 + 1 + 1, o4) :: (L + 1 + 1, o5) :: (ah, W.listOf av.toArray an) :: (rl, W.listOf rv.toArray rn) :: (L + 1 + 1 + 1 + 1, o3') :: (L + 1 + 1 + 1 + 1 + 1, o2') :: (tl, W.listOf tv.toArray tn) :: ((I2, oI2) :: (L + 1 + 1 + 1 + 1 + 1 + 1, o1) :: (L + 1 + 1 + 1, o4) :: (L + 1 + 1, o5) :: (L + 1, o6) :: (rl, W.listOf rv.toArray rn) :: (ah, W.listOf av.toArray an) :: (I1, oI1) :: (dl, e0) :: (d0, e1) :: (d1, e2) :: tabs')) := (by repeat (first | exact List.Mem.head _ | apply List.Mem.tail))
      intro q hq
      have hq' : q ∈ ((L + 1 + 1 + 1, o4) :: (L + 1 + 1, o5) :: (ah, W.listOf av.toArray an) :: (rl, W.listOf rv.toArray rn) :: (L + 1 + 1 + 1 + 1, o3') :: (L + 1 + 1 + 1 + 1 + 1, o2') :: (tl, W.listOf tv.toArray tn) :: ((I2, oI2) :: (L + 1 + 1 + 1 + 1 + 1 + 1, o1) :: (L + 1 + 1 + 1, o4) :: (L + 1 + 1, o5) :: (L + 1, o6) :: (rl, W.listOf rv.toArray rn) :: (ah, W.listOf av.toArray an) :: (I1, oI1) :: (dl, e0) :: (d0, e1) :: (d1, e2) :: tabs')) := by
        rcases List.mem_cons.mp hq with rfl | hq
        · exact (by repeat (first | exact List.Mem.head _ | apply List.Mem.tail))
        rcases List.mem_cons.mp hq with rfl | hq
        · exact (by repeat (first | exact List.Mem.head _ | apply List.Mem.tail))
        exact (.tail _ (.tail _ (.tail _ (.tail _ (.tail _ (.tail _ (.tail _ hq)))))))
      have key : tagOf q.2 ≠ 0 → q.1 ≠ tl := fun ht => neTag (j := 0) N7 hq' mtl rfl rfl ht
      simp only [List.mem_cons] at hq
      rcases hq with rfl | rfl | rfl | rfl | rfl | rfl | rfl | rfl | rfl | rfl | rfl | rfl | rfl | hq
      · exact key (by rw [tag_cell k3']; decide)
      · exact key (by rw [tag_cell k2']; decide)
      · exact key (by rw [i2]; decide)
      · exact key (by rw [tag_cell k1]; decide)
      · exact key (by rw [tag_cell k4]; decide)
      · exact key (by rw [tag_cell k5]; decide)
      · exact key (by rw [tag_cell k6]; decide)
      · exact hr5
      · exact ht1
      · exact key (by rw [i1]; decide)
      · exact ht2
      · exact ht3
      · exact ht4
      · exact key (by rcases htg q hq with e | e <;> rw [e] <;> decide)
    rintro f s' ⟨rfl, n8, h8, tk8, rfl, F8, N8⟩
    show wpN _ _ (execs [] _) _ _
    exact wpN_execs_nil (ret _ _ _ _ _ _ _ _ _ _ _ F8 hF k2' k3' (News.put N8 (by repeat (first | exact List.Mem.head _ | apply List.Mem.tail)) (News.put N8 (by repeat (first | exact List.Mem.head _ | apply List.Mem.tail)) (News.put N8 (by repeat (first | exact List.Mem.head _ | apply List.Mem.tail)) (News.put N8 (by repeat (first | exact List.Mem.head _ | apply List.Mem.tail)) (News.put N8 (by repeat (first | exact List.Mem.head _ | apply List.Mem.tail)) (News.put N8 (by repeat (first | exact List.Mem.head _ | apply List.Mem.tail)) (News.put N8 (by repeat (first | exact List.Mem.head _ | apply List.Mem.tail)) (News.put N8 (by repeat (first | exact List.Mem.head _ | apply List.Mem.tail)) (News.put N8 (by repeat (first | exact List.Mem.head _ | apply List.Mem.tail)) (News.put N8 (by repeat (first | exact List.Mem.head _ | apply List.Mem.tail)) (News.put N8 (by repeat (first | exact List.Mem.head _ | apply List.Mem.tail)) (News.put N8 (by repeat (first | exact List.Mem.head _ | apply List.Mem.tail)) (News.put N8 (by repeat (first | exact List.Mem.head _ | apply List.Mem.tail)) (News.put N8 (by repeat (first | exact List.Mem.head _ | apply List.Mem.tail)) (fun q hq => N8 q (.tail _ (.tail _ (.tail _ (.tail _ (.tail _ (.tail _ (.tail _ (.tail _ (.tail _ (.tail _ (.tail _ (.tail _ (.tail _ (.tail _ hq))))))))))))))))))))))))))))))
/- part Q3 -/
theorem anew_Q3 {M : Model} {A : Around} {env : Env} {Q : Flow → Shared → Prop} {E : Value → Shared → Prop} {s : Shared} (h : wpAny M A (execs [] env) Q E s) : wpAny M A (execs [] env) Q E s := by
  w_top off
  try (walk1; fail)
  exact h
open Sem (wp)
theorem map_at {al : Nat} {a b c d e v : Option Value} : (fun y => if y = Str.ofString "at" then v else lawMap al a b c d e y) = lawMap al a b v d e := by
  funext y
  by_cases h1 : y = Str.ofString "texts"
  · subst h1; rfl
  by_cases h2 : y = Str.ofString "turn"
  · subst h2; rfl
  by_cases h3 : y = Str.ofString "at"
  · subst h3; rfl
  simp only [lawMap, h1, h2, h3, if_false]
theorem map_turn {al : Nat} {a b c d e v : Option Value} : (fun y => if y = Str.ofString "turn" then v else lawMap al a b c d e y) = lawMap al a v c d e := by
  funext y
  by_cases h1 : y = Str.ofString "texts"
  · subst h1; rfl
  by_cases h2 : y = Str.ofString "turn"
  · subst h2; rfl
  simp only [lawMap, h1, h2, if_false]
theorem map_texts {al : Nat} {a b c d e v : Option Value} : (fun y => if y = Str.ofString "texts" then v else lawMap al a b c d e y) = lawMap al v b c d e := by
  funext y
  by_cases h1 : y = Str.ofString "texts"
  · subst h1; rfl
  simp only [lawMap, h1, if_false]
theorem map_texts0 {al : Nat} {v : Option Value} : (fun y => if y = Str.ofString "texts" then v else scriptMap al y) = lawMap al v none none none none := by
  funext y
  by_cases h1 : y = Str.ofString "texts"
  · subst h1; rfl
  by_cases h2 : y = Str.ofString "turn"
  · subst h2; rfl
  by_cases h3 : y = Str.ofString "at"
  · subst h3; rfl
  by_cases h4 : y = Str.ofString "text"
  · subst h4; rfl
  by_cases h5 : y = Str.ofString "many"
  · subst h5; rfl
  simp only [lawMap, h1, h2, h3, h4, h5, if_false]
theorem iter_tag {g h : Heap} {L I : Addr} {oI : Obj} {l : List (Addr × Obj)} {x left step : Int} (N : News g L h ((I, oI) :: l)) (st : IsRangeIter h I x left step) : tagOf oI = 3 := by
  have e := (N _ (.head _)).1
  rw [show h.get? I = _ from st] at e
  cases e
  rfl
noncomputable def grownAll (R T : List (List UInt8)) (j : Nat) : List (List UInt8) := (List.range j).map fun k => (grow R (T.getD k []) 99).1
theorem grownAll_succ {R T : List (List UInt8)} {j : Nat} : grownAll R T (j + 1) = grownAll R T j ++ [(grow R (T.getD j []) 99).1] := by
  unfold grownAll
  rw [List.range_succ, List.map_append]; rfl
theorem tabF_keys {tabs : List (Addr × Obj)} (h : TabF tabs) : ∀ q ∈ tabs, q.1 = 280 ∨ tagOf q.2 = 2 := by
  obtain ⟨c1, c2, oc1, oc2, vs1, vs2, t1, t2, rfl, e1, e2, e3, e4, e5, e6, e7⟩ := h
  have k1 : tagOf oc1 = 2 := by unfold tagOf; rw [e1]; show (match vs1[1]? with | some (Value.str _ _) => 2 | _ => 3) = 2; rw [e2]
  have k2 : tagOf oc2 = 2 := by unfold tagOf; rw [e3]; show (match vs2[1]? with | some (Value.str _ _) => 2 | _ => 3) = 2; rw [e4]
  intro q hq
  simp only [List.mem_cons, List.not_mem_nil, or_false] at hq
  rcases hq with rfl | rfl | rfl
  · exact .inl rfl
  · exact .inr k1
  · exact .inr k2
theorem tabSt_mem {tabs : List (Addr × Obj)} (h : TabSt tabs) : ∃ o, (280, o) ∈ tabs := by
  rcases h with e | ⟨_, _, _, _, _, _, _, _, e, _⟩ <;> (subst e; exact ⟨_, .head _⟩)
set_option linter.unusedVariables false in
theorem law_inner {w : World} {G h : Heap} {L fa al tl rl ah dl d0 d1 I1 : Nat} {cd : Value} {p : Program} {loose : List Str} {mean : ExcName → Option Value} {mg mb : Str → Option Value} {gs : Array GenState} {dr : Drawn} {os : OsState} {tk : Nat} {o1 o2 o3 o4 o5 o6 oI1 e0 e1 e2 : Obj} {v2 v3 vt va vtx vm : Option Value} {rv av : List Value} {tn rn an : Nat} {tabs : List (Addr × Obj)}
    {R T : List (List UInt8)} {Q : Flow → Shared → Prop}
    (F : Fr G L h (lawMap al (some (.ref tl)) vt va vtx vm))
    (N : News G L h ((tl, W.listOf ([] : List Value).toArray tn) :: (L + 1 + 1 + 1 + 1 + 1 + 1, o1) :: (L + 1 + 1 + 1 + 1 + 1, o2) :: (L + 1 + 1 + 1 + 1, o3) :: (L + 1 + 1 + 1, o4) :: (L + 1 + 1, o5) :: (L + 1, o6) :: (rl, W.listOf rv.toArray rn) :: (ah, W.listOf av.toArray an) :: (I1, oI1) :: (dl, e0) :: (d0, e1) :: (d1, e2) :: tabs))
    (k1 : o1.data = .cell none) (k2 : o2.data = .cell v2) (k3 : o3.data = .cell v3) (k4 : o4.data = .cell (some (.ref ah))) (k5 : o5.data = .cell (some (.ref rl))) (k6 : o6.data = .cell (some (.ref dl)))
    (g0 : tagOf e0 = 0) (g1 : tagOf e1 = 0) (g2 : tagOf e2 = 0) (i1 : tagOf oI1 = 3)
    (B' : Below callerA G [] G) (X' : (hd.heap_1 w.params).In G) (T' : Top p loose mean mg mb G) (hL : 280 < L)
    (hn1 : I1 ≠ 280) (hr1 : rl ≠ ah) (hr2 : rl ≠ dl) (hr3 : rl ≠ d0) (hr4 : rl ≠ d1) (hr5 : rl ≠ tl) (ht1 : ah ≠ tl) (ht2 : dl ≠ tl) (ht3 : d0 ≠ tl) (ht4 : d1 ≠ tl)
    (hT : TabSt tabs) (hR : RulesAt rv R) (hR2 : R.length = 2 ∨ R.length = 3) (hav : RulesAt av T) (hT3 : T.length = 3) (H : ∀ j, j < 3 → TurnLaw R T j)
    (ret : ∀ h' tk' va vtx vm tv n o2' o3' w2 w3 tabs', Fr G L h' (lawMap al (some (.ref tl)) vt va vtx vm) → TabF tabs' → o2'.data = .cell w2 → o3'.data = .cell w3 → RulesAt tv (grownAll R T 3) →
      News G L h' ((tl, W.listOf tv.toArray n) :: (L + 1 + 1 + 1 + 1 + 1 + 1, o1) :: (L + 1 + 1 + 1 + 1 + 1, o2') :: (L + 1 + 1 + 1 + 1, o3') :: (L + 1 + 1 + 1, o4) :: (L + 1 + 1, o5) :: (L + 1, o6) :: (rl, W.listOf rv.toArray rn) :: (ah, W.listOf av.toArray an) :: (I1, oI1) :: (dl, e0) :: (d0, e1) :: (d1, e2) :: tabs') →
      Q .next ⟨h', gs, dr, tk', os⟩) :
    wpN (model lawProg w) (lawA L fa cd) (exec (outerBody.getD 2 (.Pass default)) (lawEnv L fa cd)) Q ⟨h, gs, dr, tk, os⟩ := by
  have C' := codeHdK X'
  have body : innerBody = forBody (outerBody.getD 2 (.Pass default)) := rfl
  delta lawA lawEnv outerBody lawRec recOf
  dsimp only [forBody, List.getD, List.getElem?_cons_succ, List.getElem?_cons_zero, Option.getD]
  refine wpN_For (wpN_any ?_)
  k_steps
  rename IsRange _ _ _ _ _ _ _ _ => hr9
  rename Fr _ _ _ _ => F3
  rename News _ _ _ _ => N3
  refine wpN_any (wpAny_pyIter_range hr9 (by decide) ?_)
  obtain ⟨F4, N4, a1, a2, a3⟩ := range_ground (s := ⟨_, gs, dr, 0, os⟩) (o := { cls := .type "range_iterator", data := .fields #[rawInt 0, rawInt (Builtin.Range.rangeSize 0 3 1), rawInt 1] }) F3 N3
  refine codeN_forI (Walks.range rfl _ 0 1 3) (fun i h e => ⟨_, e⟩) a1 a2 (fun p hp => Nat.ne_of_lt (a3 p hp)) (Heap.get?_push_size _ rfl) F4 N4
    (fun j m' news' => ∃ (va vtx vm : Option Value) (tv : List Value) (n : Nat) (o2' o3' : Obj) (w2 w3 : Option Value) (tabs' : List (Addr × Obj)), m' = lawMap al (some (.ref tl)) vt va vtx vm ∧ TabSt tabs' ∧ (0 < j → TabF tabs') ∧ o2'.data = .cell w2 ∧ o3'.data = .cell w3 ∧ RulesAt tv (grownAll R T j) ∧
      news' = (tl, W.listOf tv.toArray n) :: (L + 1 + 1 + 1 + 1 + 1 + 1, o1) :: (L + 1 + 1 + 1 + 1 + 1, o2') :: (L + 1 + 1 + 1 + 1, o3') :: (L + 1 + 1 + 1, o4) :: (L + 1 + 1, o5) :: (L + 1, o6) :: (rl, W.listOf rv.toArray rn) :: (ah, W.listOf av.toArray an) :: (I1, oI1) :: (dl, e0) :: (d0, e1) :: (d1, e2) :: tabs') ?h0 ?step ?fin
  case h0 => exact ⟨_, _, _, _, _, _, _, _, _, _, rfl, hT, fun h => absurd h (Nat.lt_irrefl _), k2, k3, ⟨rfl, fun k hk => absurd hk (Nat.not_lt_zero _)⟩, rfl⟩
  case step =>
    obtain ⟨o28, m28⟩ := tabSt_mem hT
    have h280 := a3 (280, o28) (.tail _ (.tail _ (.tail _ (.tail _ (.tail _ (.tail _ (.tail _ (.tail _ (.tail _ (.tail _ (.tail _ (.tail _ (.tail _ m28)))))))))))))
    clear F3 N3 F4 N4 hr9 hT
    intro j m' news' v oI h₂ tk₂ hj hJ hP F₂ N₂ hne hst
    obtain ⟨va, vtx, vm, tv, n, o2', o3', w2, w3, tabs', rfl, hT', hTF, q2, q3, htv, rfl⟩ := hJ
    obtain ⟨tvv, rfl⟩ := hP
    have hi2 : tagOf oI = 3 := iter_tag N₂ hst
    generalize hI : Array.size (Heap.objs _) = I2 at N₂ hne a1 a2 h280 ⊢
    clear hI a3 hst
    refine wpN_any ?_
    k_steps
    rename Fr _ _ _ _ => F5
    rename News _ _ _ _ => N5
    rw [map_at, show (0 : Int) + (j : Int) * 1 = j by omega] at F5
    refine law_turn (vt := vt) F5 N5 k1 q2 q3 k4 k5 k6 g0 g1 g2 i1 hi2 B' X' T' hL hn1 (Nat.ne_of_gt h280) hr1 hr2 hr3 hr4 hr5 ht1 ht2 ht3 ht4 hj hT' hR hR2 hav hT3 (by rw [htv.1]; unfold grownAll; rw [List.length_map, List.length_range]; omega) (H j hj) ?_
    intro h' tk' tx M tm n' o2n o3n w2n w3n tabsn F6 hFn z2 z3 N6
    refine Held.mk ⟨_, _, _, _, rfl, F6, N6, fun q hq => ?_, _, _, _, _, _, _, _, _, _, _, rfl, .inr hFn, fun _ => hFn, z2, z3, grownAll_succ ▸ htv.snoc, rfl⟩
    have hq' := List.mem_cons_of_mem (I2, oI) hq
    simp only [List.mem_cons] at hq
    rcases hq with rfl | rfl | rfl | rfl | rfl | rfl | rfl | rfl | rfl | rfl | rfl | rfl | rfl | hq
    all_goals first
      | exact hne (tl, W.listOf tv.toArray n) (by repeat (first | exact List.Mem.head _ | apply List.Mem.tail))
      | exact hne (L + 1 + 1 + 1 + 1 + 1 + 1, _) (by repeat (first | exact List.Mem.head _ | apply List.Mem.tail))
      | exact hne (L + 1 + 1 + 1 + 1 + 1, o2') (by repeat (first | exact List.Mem.head _ | apply List.Mem.tail))
      | exact hne (L + 1 + 1 + 1 + 1, o3') (by repeat (first | exact List.Mem.head _ | apply List.Mem.tail))
      | exact hne (L + 1 + 1 + 1, _) (by repeat (first | exact List.Mem.head _ | apply List.Mem.tail))
      | exact hne (L + 1 + 1, _) (by repeat (first | exact List.Mem.head _ | apply List.Mem.tail))
      | exact hne (L + 1, _) (by repeat (first | exact List.Mem.head _ | apply List.Mem.tail))
      | exact hne (rl, _) (by repeat (first | exact List.Mem.head _ | apply List.Mem.tail))
      | exact hne (ah, _) (by repeat (first | exact List.Mem.head _ | apply List.Mem.tail))
      | exact hne (I1, _) (by repeat (first | exact List.Mem.head _ | apply List.Mem.tail))
      | exact hne (dl, _) (by repeat (first | exact List.Mem.head _ | apply List.Mem.tail))
      | exact hne (d0, _) (by repeat (first | exact List.Mem.head _ | apply List.Mem.tail))
      | exact hne (d1, _) (by repeat (first | exact List.Mem.head _ | apply List.Mem.tail))
      | skip
    rcases tabF_keys hFn q hq with e | e
    · rw [e]; exact Nat.ne_of_lt h280
    · exact neTag (i := 2) (j := 3) N6 hq' (.head _) e hi2 (by decide)
  case fin =>
    clear F3 N3 F4 N4 hr9
    intro m' news' h₂ tk₂ hJ F₂ N₂
    obtain ⟨va, vtx, vm, tv, n, o2', o3', w2, w3, tabs', rfl, hT', hTF, q2, q3, htv, rfl⟩ := hJ
    exact ret _ _ _ _ _ _ _ _ _ _ _ _ F₂ (hTF (by decide)) q2 q3 htv N₂
/- part Q4 -/
theorem anew_Q4 {M : Model} {A : Around} {env : Env} {Q : Flow → Shared → Prop} {E : Value → Shared → Prop} {s : Shared} (h : wpAny M A (execs [] env) Q E s) : wpAny M A (execs [] env) Q E s := by
  w_top off
  try (walk1; fail)
  exact h
open Sem (wp)
theorem tabSt_tags {tabs : List (Addr × Obj)} (h : TabSt tabs) : ∀ q ∈ tabs, tagOf q.2 = 2 ∨ tagOf q.2 = 3 := by
  rcases h with rfl | h
  · intro q hq; rw [List.mem_singleton.mp hq]; exact .inr rfl
  · exact tabF_tags h
noncomputable def textsOf (R : List (List UInt8)) : Nat → List (List UInt8)
  | 0 => [[97], [98], [99]]
  | i + 1 => grownAll R (textsOf R i) 3
theorem textsOf_len {R : List (List UInt8)} : ∀ i, (textsOf R i).length = 3
  | 0 => rfl
  | i + 1 => by show (grownAll R (textsOf R i) 3).length = 3; unfold grownAll; rw [List.length_map, List.length_range]
set_option linter.unusedVariables false in
theorem law_outer {w : World} {G h : Heap} {L fa al tl0 rl dl d0 d1 : Nat} {cd : Value} {p : Program} {loose : List Str} {mean : ExcName → Option Value} {mg mb : Str → Option Value} {gs : Array GenState} {dr : Drawn} {os : OsState} {tk : Nat} {o1 o2 o3 o4 o5 o6 e0 e1 e2 : Obj} {v2 v3 v4 vt va vtx vm : Option Value} {rv tv0 : List Value} {tn rn : Nat} {tabs : List (Addr × Obj)}
    {R : List (List UInt8)} {Q : Flow → Shared → Prop}
    (F : Fr G L h (lawMap al (some (.ref tl0)) vt va vtx vm))
    (N : News G L h ((tl0, W.listOf tv0.toArray tn) :: (L + 1 + 1 + 1 + 1 + 1 + 1, o1) :: (L + 1 + 1 + 1 + 1 + 1, o2) :: (L + 1 + 1 + 1 + 1, o3) :: (L + 1 + 1 + 1, o4) :: (L + 1 + 1, o5) :: (L + 1, o6) :: (rl, W.listOf rv.toArray rn) :: (dl, e0) :: (d0, e1) :: (d1, e2) :: tabs))
    (k1 : o1.data = .cell none) (k2 : o2.data = .cell v2) (k3 : o3.data = .cell v3) (k4 : o4.data = .cell v4) (k5 : o5.data = .cell (some (.ref rl))) (k6 : o6.data = .cell (some (.ref dl)))
    (g0 : tagOf e0 = 0) (g1 : tagOf e1 = 0) (g2 : tagOf e2 = 0)
    (B' : Below callerA G [] G) (X' : (hd.heap_1 w.params).In G) (T' : Top p loose mean mg mb G) (hL : 280 < L)
    (hr2 : rl ≠ dl) (hr3 : rl ≠ d0) (hr4 : rl ≠ d1) (hr5 : rl ≠ tl0)
    (hT : TabSt tabs) (hR : RulesAt rv R) (hR2 : R.length = 2 ∨ R.length = 3) (htv0 : RulesAt tv0 (textsOf R 0)) (H : ∀ i, i < 3 → ∀ j, j < 3 → TurnLaw R (textsOf R i) j)
    (ret : ∀ h' tk' (tl : Nat) vt va vtx vm (tv : List Value) n o2' o3' o4' w2 w3 w4 tabs', Fr G L h' (lawMap al (some (.ref tl)) vt va vtx vm) → TabF tabs' → o2'.data = .cell w2 → o3'.data = .cell w3 → o4'.data = .cell w4 → rl ≠ tl →
      News G L h' ((tl, W.listOf tv.toArray n) :: (L + 1 + 1 + 1 + 1 + 1 + 1, o1) :: (L + 1 + 1 + 1 + 1 + 1, o2') :: (L + 1 + 1 + 1 + 1, o3') :: (L + 1 + 1 + 1, o4') :: (L + 1 + 1, o5) :: (L + 1, o6) :: (rl, W.listOf rv.toArray rn) :: (dl, e0) :: (d0, e1) :: (d1, e2) :: tabs') → Q .next ⟨h', gs, dr, tk', os⟩) :
    wpN (model lawProg w) (lawA L fa cd) (exec (lawRec.body.getD 3 (.Pass default)) (lawEnv L fa cd)) Q ⟨h, gs, dr, tk, os⟩ := by
  have C' := codeHdK X'
  delta lawA lawEnv lawRec recOf
  dsimp only [forBody, List.getD, List.getElem?_cons_succ, List.getElem?_cons_zero, Option.getD]
  refine wpN_For (wpN_any ?_)
  k_steps
  rename IsRange _ _ _ _ _ _ _ _ => hr9
  rename Fr _ _ _ _ => F3
  rename News _ _ _ _ => N3
  refine wpN_any (wpAny_pyIter_range hr9 (by decide) ?_)
  obtain ⟨F4, N4, a1, a2, a3⟩ := range_ground (s := ⟨_, gs, dr, 0, os⟩) (o := { cls := .type "range_iterator", data := .fields #[rawInt 0, rawInt (Builtin.Range.rangeSize 0 3 1), rawInt 1] }) F3 N3
  refine codeN_forI (Walks.range rfl _ 0 1 3) (fun i h e => ⟨_, e⟩) a1 a2 (fun p hp => Nat.ne_of_lt (a3 p hp)) (Heap.get?_push_size _ rfl) F4 N4
    (fun i m' news' => ∃ (tl : Nat) (vt va vtx vm : Option Value) (tv : List Value) (n : Nat) (o2' o3' o4' : Obj) (w2 w3 w4 : Option Value) (tabs' : List (Addr × Obj)), m' = lawMap al (some (.ref tl)) vt va vtx vm ∧ TabSt tabs' ∧ (0 < i → TabF tabs') ∧ o2'.data = .cell w2 ∧ o3'.data = .cell w3 ∧ o4'.data = .cell w4 ∧ rl ≠ tl ∧ RulesAt tv (textsOf R i) ∧
      news' = ((tl, W.listOf tv.toArray n) :: (L + 1 + 1 + 1 + 1 + 1 + 1, o1) :: (L + 1 + 1 + 1 + 1 + 1, o2') :: (L + 1 + 1 + 1 + 1, o3') :: (L + 1 + 1 + 1, o4') :: (L + 1 + 1, o5) :: (L + 1, o6) :: (rl, W.listOf rv.toArray rn) :: (dl, e0) :: (d0, e1) :: (d1, e2) :: tabs')) ?h0 ?step ?fin
  case h0 => exact ⟨_, _, _, _, _, _, _, _, _, _, _, _, _, _, rfl, hT, fun h => absurd h (Nat.lt_irrefl _), k2, k3, k4, hr5, htv0, rfl⟩
  case step =>
    obtain ⟨o28, m28⟩ := tabSt_mem hT
    have h280 := a3 (280, o28) (.tail _ (.tail _ (.tail _ (.tail _ (.tail _ (.tail _ (.tail _ (.tail _ (.tail _ (.tail _ (.tail _ m28)))))))))))
    clear F3 N3 F4 N4 hr9 hT
    intro i m' news' v oI h₂ tk₂ hi hJ hP F₂ N₂ hne hst
    obtain ⟨tl, vt, va, vtx, vm, tv, n, o2', o3', o4', w2, w3, w4, tabs', rfl, hT', hTF, q2, q3, q4, hrt, htv, rfl⟩ := hJ
    obtain ⟨tvv, rfl⟩ := hP
    have hi1 : tagOf oI = 3 := iter_tag N₂ hst
    generalize hI : Array.size (Heap.objs _) = I1 at N₂ hne a1 a2 h280 ⊢
    clear hI a3 hst
    refine wpN_any ?_
    k_steps
    rename Fr _ _ _ _ => F5
    rename News _ _ _ _ => N5
    rw [map_turn] at F5
    refine wpN_execs_cons (wpN_Assign_Name (wpN_any ?_))
    k_steps
    have htg := tabSt_tags hT'
    have hr : ∀ q ∈ ((I1, oI) :: (tl, W.listOf tv.toArray n) :: (L + 1 + 1 + 1 + 1 + 1 + 1, o1) :: (L + 1 + 1 + 1 + 1 + 1, o2') :: (L + 1 + 1 + 1 + 1, o3') :: (L + 1 + 1, o5) :: (L + 1, o6) :: (rl, W.listOf rv.toArray rn) :: (dl, e0) :: (d0, e1) :: (d1, e2) :: tabs'), q.1 ≠ L + 1 + 1 + 1 := by
      intro q hq
      have hq' : q ∈ (I1, oI) :: ((tl, W.listOf tv.toArray n) :: (L + 1 + 1 + 1 + 1 + 1 + 1, o1) :: (L + 1 + 1 + 1 + 1 + 1, o2') :: (L + 1 + 1 + 1 + 1, o3') :: (L + 1 + 1 + 1, o4') :: (L + 1 + 1, o5) :: (L + 1, o6) :: (rl, W.listOf rv.toArray rn) :: (dl, e0) :: (d0, e1) :: (d1, e2) :: tabs') := by
        rcases List.mem_cons.mp hq with rfl | hq
        · exact (by repeat (first | exact List.Mem.head _ | apply List.Mem.tail))
        rcases List.mem_cons.mp hq with rfl | hq
        · exact (by repeat (first | exact List.Mem.head _ | apply List.Mem.tail))
        rcases List.mem_cons.mp hq with rfl | hq
        · exact (by repeat (first | exact List.Mem.head _ | apply List.Mem.tail))
        rcases List.mem_cons.mp hq with rfl | hq
        · exact (by repeat (first | exact List.Mem.head _ | apply List.Mem.tail))
        rcases List.mem_cons.mp hq with rfl | hq
        · exact (by repeat (first | exact List.Mem.head _ | apply List.Mem.tail))
        exact (.tail _ (.tail _ (.tail _ (.tail _ (.tail _ (.tail _ hq))))))
      have key : tagOf q.2 ≠ 1 → q.1 ≠ L + 1 + 1 + 1 := fun ht => neTag (j := 1) (a := q.1) (oa := q.2) (ob := o4') N5 hq' (by repeat (first | exact List.Mem.head _ | apply List.Mem.tail)) rfl (tag_cell q4) ht
      simp only [List.mem_cons] at hq
      rcases hq with rfl | rfl | rfl | rfl | rfl | rfl | rfl | rfl | rfl | rfl | rfl | hq
      · exact key (by rw [hi1]; decide)
      · exact key (by show (0 : Nat) ≠ 1; decide)
      · show (_ : Nat) ≠ _; omega
      · show (_ : Nat) ≠ _; omega
      · show (_ : Nat) ≠ _; omega
      · show (_ : Nat) ≠ _; omega
      · show (_ : Nat) ≠ _; omega
      · exact key (by show (0 : Nat) ≠ 1; decide)
      · exact key (by rw [g0]; decide)
      · exact key (by rw [g1]; decide)
      · exact key (by rw [g2]; decide)
      · exact key (by rcases htg q hq with e | e <;> rw [e] <;> decide)
    have N6 : News G L _ ((L + 1 + 1 + 1, o4') :: ((I1, oI) :: (tl, W.listOf tv.toArray n) :: (L + 1 + 1 + 1 + 1 + 1 + 1, o1) :: (L + 1 + 1 + 1 + 1 + 1, o2') :: (L + 1 + 1 + 1 + 1, o3') :: (L + 1 + 1, o5) :: (L + 1, o6) :: (rl, W.listOf rv.toArray rn) :: (dl, e0) :: (d0, e1) :: (d1, e2) :: tabs')) := (News.put N5 (by repeat (first | exact List.Mem.head _ | apply List.Mem.tail)) (News.put N5 (by repeat (first | exact List.Mem.head _ | apply List.Mem.tail)) (News.put N5 (by repeat (first | exact List.Mem.head _ | apply List.Mem.tail)) (News.put N5 (by repeat (first | exact List.Mem.head _ | apply List.Mem.tail)) (News.put N5 (by repeat (first | exact List.Mem.head _ | apply List.Mem.tail)) (News.put N5 (by repeat (first | exact List.Mem.head _ | apply List.Mem.tail)) (fun q hq => N5 q (.tail _ (.tail _ (.tail _ (.tail _ (.tail _ (.tail _ hq)))))))))))))
    refine storeC_F F5 N6 rfl (UpdF.head hr) q4 fun h' o4n F7 N7 d7 => ?_
    clear F5 N5 N6
    try dsimp only at N7
    refine wpN_execs_cons (wpN_any ?_)
    k_steps
    rename Fr _ _ _ _ => F8
    rename News _ _ _ _ => N8
    rename @LT.lt Nat _ _ _ ∧ _ => l1
    rw [map_texts] at F8
    refine wpN_execs_cons (law_inner (p := p) (loose := loose) (mean := mean) (mg := mg) (mb := mb) (va := va) (vtx := vtx) (vm := vm) F8 (News.put N8 (by repeat (first | exact List.Mem.head _ | apply List.Mem.tail)) (News.put N8 (by repeat (first | exact List.Mem.head _ | apply List.Mem.tail)) (News.put N8 (by repeat (first | exact List.Mem.head _ | apply List.Mem.tail)) (News.put N8 (by repeat (first | exact List.Mem.head _ | apply List.Mem.tail)) (News.put N8 (by repeat (first | exact List.Mem.head _ | apply List.Mem.tail)) (News.put N8 (by repeat (first | exact List.Mem.head _ | apply List.Mem.tail)) (News.put N8 (by repeat (first | exact List.Mem.head _ | apply List.Mem.tail)) (News.put N8 (by repeat (first | exact List.Mem.head _ | apply List.Mem.tail)) (News.put N8 (by repeat (first | exact List.Mem.head _ | apply List.Mem.tail)) (News.put N8 (by repeat (first | exact List.Mem.head _ | apply List.Mem.tail)) (News.put N8 (by repeat (first | exact List.Mem.head _ | apply List.Mem.tail)) (News.put N8 (by repeat (first | exact List.Mem.head _ | apply List.Mem.tail)) (News.put N8 (by repeat (first | exact List.Mem.head _ | apply List.Mem.tail)) (fun q hq => N8 q (.tail _ (.tail _ (.tail _ (.tail _ (.tail _ (.tail _ (.tail _ (.tail _ (.tail _ (.tail _ (.tail _ (.tail _ (.tail _ hq))))))))))))))))))))))))))) k1 q2 q3 d7 k5 k6 g0 g1 g2 hi1 B' X' T' hL (Nat.ne_of_gt h280) hrt hr2 hr3 hr4 (by omega) (by omega) (by omega) (by omega) (by omega) hT' hR hR2 htv (textsOf_len i) (H i hi) ?_)
    intro h' tk' va vtx vm tv' n' o2n o3n w2n w3n tabsn F9 hFn z2 z3 htv' N9
    show wpN _ _ (execs [] _) _ _
    refine wpN_execs_nil (Held.mk ⟨_, _, _, _, rfl, F9, (News.put N9 (by repeat (first | exact List.Mem.head _ | apply List.Mem.tail)) (News.put N9 (by repeat (first | exact List.Mem.head _ | apply List.Mem.tail)) (News.put N9 (by repeat (first | exact List.Mem.head _ | apply List.Mem.tail)) (News.put N9 (by repeat (first | exact List.Mem.head _ | apply List.Mem.tail)) (News.put N9 (by repeat (first | exact List.Mem.head _ | apply List.Mem.tail)) (News.put N9 (by repeat (first | exact List.Mem.head _ | apply List.Mem.tail)) (News.put N9 (by repeat (first | exact List.Mem.head _ | apply List.Mem.tail)) (News.put N9 (by repeat (first | exact List.Mem.head _ | apply List.Mem.tail)) (News.put N9 (by repeat (first | exact List.Mem.head _ | apply List.Mem.tail)) (News.put N9 (by repeat (first | exact List.Mem.head _ | apply List.Mem.tail)) (News.put N9 (by repeat (first | exact List.Mem.head _ | apply List.Mem.tail)) (News.put N9 (by repeat (first | exact List.Mem.head _ | apply List.Mem.tail)) (fun q hq => N9 q (.tail _ (.tail _ (.tail _ (.tail _ (.tail _ (.tail _ (.tail _ (.tail _ (.tail _ (.tail _ (.tail _ (.tail _ (.tail _ hq)))))))))))))))))))))))))), fun q hq => ?_, _, _, _, _, _, _, _, _, _, _, _, _, _, _, rfl, .inr hFn, fun _ => hFn, z2, z3, d7, by omega, htv', rfl⟩)
    simp only [List.mem_cons] at hq
    rcases hq with rfl | rfl | rfl | rfl | rfl | rfl | rfl | rfl | rfl | rfl | rfl | hq
    · show (_ : Nat) ≠ _; omega
    · exact hne (L + 1 + 1 + 1 + 1 + 1 + 1, o1) (by repeat (first | exact List.Mem.head _ | apply List.Mem.tail))
    · exact hne (L + 1 + 1 + 1 + 1 + 1, o2') (by repeat (first | exact List.Mem.head _ | apply List.Mem.tail))
    · exact hne (L + 1 + 1 + 1 + 1, o3') (by repeat (first | exact List.Mem.head _ | apply List.Mem.tail))
    · exact hne (L + 1 + 1 + 1, o4') (by repeat (first | exact List.Mem.head _ | apply List.Mem.tail))
    · exact hne (L + 1 + 1, o5) (by repeat (first | exact List.Mem.head _ | apply List.Mem.tail))
    · exact hne (L + 1, o6) (by repeat (first | exact List.Mem.head _ | apply List.Mem.tail))
    · exact hne (rl, W.listOf rv.toArray rn) (by repeat (first | exact List.Mem.head _ | apply List.Mem.tail))
    · exact hne (dl, e0) (by repeat (first | exact List.Mem.head _ | apply List.Mem.tail))
    · exact hne (d0, e1) (by repeat (first | exact List.Mem.head _ | apply List.Mem.tail))
    · exact hne (d1, e2) (by repeat (first | exact List.Mem.head _ | apply List.Mem.tail))
    · rcases tabF_keys hFn q hq with e | e
      · rw [e]; exact Nat.ne_of_lt h280
      · exact neTag (i := 2) (j := 3) N9 (.tail _ (.tail _ (.tail _ (.tail _ (.tail _ (.tail _ (.tail _ (.tail _ (.tail _ (.tail _ (.tail _ (.tail _ (.tail _ hq))))))))))))) (by repeat (first | exact List.Mem.head _ | apply List.Mem.tail)) e hi1 (by decide)
  case fin =>
    clear F3 N3 F4 N4 hr9
    intro m' news' h₂ tk₂ hJ F₂ N₂
    obtain ⟨tl, vt, va, vtx, vm, tv, n, o2', o3', o4', w2, w3, w4, tabs', rfl, hT', hTF, q2, q3, q4, hrt, htv, rfl⟩ := hJ
    exact ret _ _ _ _ _ _ _ _ _ _ _ _ _ _ _ _ F₂ (hTF (by decide)) q2 q3 q4 hrt N₂
/- part Q5 -/
theorem anew_Q5 {M : Model} {A : Around} {env : Env} {Q : Flow → Shared → Prop} {E : Value → Shared → Prop} {s : Shared} (h : wpAny M A (execs [] env) Q E s) : wpAny M A (execs [] env) Q E s := by
  w_top off
  try (walk1; fail)
  exact h
open Sem (wp)
local macro_rules | `(tactic| walk_at "storeName") => `(tactic| (k_here; kn_here; k_dflt (refine' storeC_F ?F ?N ?c ?U ?d ?_ ?a ?b; (case a => rfl); (case b => rfl); (case F => k_asm); (case N => k_asm); (case c => rfl); (case U => k_updF); (case d => k_asm); k_whole); intro h' o' F' N' d'; (try dsimp only at N'); (try k_sweep)))
theorem rulesAt3 {a b c : List UInt8} {t0 t1 t2 : Tok} : RulesAt [.bytes a.toArray t0, .bytes b.toArray t1, .bytes c.toArray t2] [a, b, c] := ⟨rfl, fun k hk => by
  match k, hk with
  | 0, _ => exact ⟨_, rfl⟩
  | 1, _ => exact ⟨_, rfl⟩
  | 2, _ => exact ⟨_, rfl⟩⟩
set_option linter.unusedVariables false in
theorem law_first {w : World} {G h₁ : Heap} {L fa al : Nat} {cd : Value} {p : Program} {loose : List Str} {mean : ExcName → Option Value} {mg mb : Str → Option Value} {s : Shared} {tk : Nat} {xs : List Value} {ns : List Int} {o1 o2 o3 o4 o5 o6 : Obj} {Q : Flow → Shared → Prop}
    (F : Fr G L h₁ (scriptMap al)) (N : News G L h₁ [(L + 1 + 1 + 1 + 1 + 1 + 1, o1), (L + 1 + 1 + 1 + 1 + 1, o2), (L + 1 + 1 + 1 + 1, o3), (L + 1 + 1 + 1, o4), (L + 1 + 1, o5), (L + 1, o6), (280, tabObj #[])])
    (d1 : o1.data = .cell none) (d2 : o2.data = .cell none) (d3 : o3.data = .cell none) (d4 : o4.data = .cell none) (d5 : o5.data = .cell none) (d6 : o6.data = .cell none)
    (B' : Below callerA G [] G) (X' : (hd.heap_1 w.params).In G) (T' : Top p loose mean mg mb G) (I' : G.IsList al xs.toArray) (hI : IntsAre xs ns) (hns : ns.length ≤ 63) (hL : 280 < L)
    (ret : ∀ (h' : Heap) (tk' rl tl dl d0 d1 : Nat) (rv tv xs ys : List Value) (R : List (List UInt8)) (n tn nl n0 n1 : Nat) (o5' o6' : Obj), Fr G L h' (lawMap al (some (.ref tl)) none none none none) →
      o5'.data = .cell (some (.ref rl)) → o6'.data = .cell (some (.ref dl)) → RulesAt rv R → Good R 3 → RulesAt tv [[97], [98], [99]] → ys.length ≤ 13 → xs.length ≤ 100 → (∀ i, i < xs.length → ∃ k u, xs[i]? = some (.int k u)) →
      rl ≠ dl → rl ≠ d0 → rl ≠ d1 → rl ≠ tl → tl ≠ dl → tl ≠ d0 → tl ≠ d1 → d0 ≠ d1 → dl ≠ d0 → dl ≠ d1 → L + 1 + 1 + 1 + 1 + 1 + 1 < d0 → L + 1 + 1 + 1 + 1 + 1 + 1 < d1 → L + 1 + 1 + 1 + 1 + 1 + 1 < dl →
      News G L h' ((tl, W.listOf tv.toArray tn) :: (L + 1 + 1 + 1 + 1 + 1 + 1, o1) :: (L + 1 + 1 + 1 + 1 + 1, o2) :: (L + 1 + 1 + 1 + 1, o3) :: (L + 1 + 1 + 1, o4) :: (L + 1 + 1, o5') :: (L + 1, o6') :: (rl, W.listOf rv.toArray n) :: (dl, W.listOf [Value.ref d0, Value.ref d1].toArray nl) :: (d0, W.listOf xs.toArray n0) :: (d1, W.listOf ys.toArray n1) :: [(280, tabObj #[])]) →
      wpN (model lawProg w) (lawA L fa cd) (execs (lawRec.body.drop 3) (lawEnv L fa cd)) Q ⟨h', s.gens, s.drawn, tk', s.os⟩) :
    wpN (model lawProg w) (lawA L fa cd) (execs lawRec.body (lawEnv L fa cd)) Q { s with heap := h₁, toks := tk } := by
  delta lawRec lawA lawEnv recOf
  delta lawRec lawA lawEnv recOf at ret
  dsimp only
  have C' := codeHdK X'
  refine wpN_execs_cons (wpN_any ?_)
  k_steps
  refine wpN_execs_cons (wpN_Assign_Name (wpN_Call_Name (wpN_any ?_)))
  k_steps
  refine wpN_callWith rfl (wpN_evalArgs_some (wpN_any ?_))
  k_steps
  rename Fr G L _ _ => F4
  rename News G L _ _ => N4
  rename IntsAre _ (List.take 24 ns) => hI4
  have hl4 := hI4.length
  have hl5 : (List.take 24 ns).length ≤ 24 := by rw [List.length_take]; omega
  refine Held.mk ⟨keeps_K (by k_is) _ (X'.keeps F4.keep), ?_⟩
  (try dsimp only [List.nil_append, List.cons_append])
  rename Obj => o6'
  rename_i Dg ws hA hC hB lA d0 c0 hD lB d1' hE lC dl hF lD hG d9
  refine' SpecN.use (rest := [(L + 1 + 1 + 1 + 1 + 1 + 1, o1), (L + 1 + 1 + 1 + 1 + 1, o2), (L + 1 + 1 + 1 + 1, o3), (L + 1 + 1 + 1, o4), (L + 1 + 1, o5), (L + 1, o6'), (280, tabObj #[])]) (specN_drawn (most := 3) (ys := []) ?s1 ?s2 ?s3 ?s4 ?s5 ?s6 ?s7) B' F4 X' N4 T' ?hk ?hd ?hu ?hpre ?hrest (fun r h' tk' new F5 N5 P => ?fin)
  case hpre => (dsimp only [dishLed]; kcj_all)
  case hk => exact rfl
  case hd => ktr_room
  case hu => ktr_units
  case s1 => decide
  case s2 => decide
  case s3 => omega
  case s4 => omega
  case s5 => omega
  case s6 => omega
  case s7 => exact Mine.IntsAre.at hI4
  case hrest =>
    intro q hq
    simp only [List.mem_cons, List.not_mem_nil, or_false] at hq
    rcases hq with rfl | rfl | rfl | rfl | rfl | rfl | rfl <;> refine ⟨by repeat (first | exact List.Mem.head _ | apply List.Mem.tail), fun hm => ?_⟩ <;> have hm' := (show (_ : Nat) ∈ ([_, _, _] : List Nat) from hm) <;> simp only [List.mem_cons, List.not_mem_nil, or_false] at hm' <;> omega
  case fin =>
    obtain ⟨rl, rv, n, R, ys', n1', rfl, hR, hG, hys, hne, rfl⟩ := P
    dsimp only [dishLed, List.cons_append, List.nil_append] at N5
    have nrl : (rl : Nat) ≠ L + 1 + 1 := neTag (i := 0) (j := 1) N5 (.head _) (ob := o5) (by repeat (first | exact List.Mem.head _ | apply List.Mem.tail)) rfl (tag_cell d5) (by decide)
    have hr : ∀ q ∈ ((rl, W.listOf rv.toArray n) :: (dl, W.listOf [Value.ref d0, Value.ref d1'].toArray 0) :: (d0, W.listOf ws.toArray c0) :: (d1', W.listOf ys'.toArray n1') :: (L + 1 + 1 + 1 + 1 + 1 + 1, o1) :: (L + 1 + 1 + 1 + 1 + 1, o2) :: (L + 1 + 1 + 1 + 1, o3) :: (L + 1 + 1 + 1, o4) :: (L + 1, o6') :: [(280, tabObj #[])]), q.1 ≠ L + 1 + 1 := (List.forall_mem_cons.mpr ⟨nrl, (List.forall_mem_cons.mpr ⟨by show (_ : Nat) ≠ _; omega, (List.forall_mem_cons.mpr ⟨by show (_ : Nat) ≠ _; omega, (List.forall_mem_cons.mpr ⟨by show (_ : Nat) ≠ _; omega, (List.forall_mem_cons.mpr ⟨by show (_ : Nat) ≠ _; omega, (List.forall_mem_cons.mpr ⟨by show (_ : Nat) ≠ _; omega, (List.forall_mem_cons.mpr ⟨by show (_ : Nat) ≠ _; omega, (List.forall_mem_cons.mpr ⟨by show (_ : Nat) ≠ _; omega, (List.forall_mem_cons.mpr ⟨by show (_ : Nat) ≠ _; omega, (List.forall_mem_cons.mpr ⟨by show (_ : Nat) ≠ _; omega, (fun q hq => absurd hq List.not_mem_nil)⟩)⟩)⟩)⟩)⟩)⟩)⟩)⟩)⟩)⟩)
    have N6 : News G L h' ((L + 1 + 1, o5) :: ((rl, W.listOf rv.toArray n) :: (dl, W.listOf [Value.ref d0, Value.ref d1'].toArray 0) :: (d0, W.listOf ws.toArray c0) :: (d1', W.listOf ys'.toArray n1') :: (L + 1 + 1 + 1 + 1 + 1 + 1, o1) :: (L + 1 + 1 + 1 + 1 + 1, o2) :: (L + 1 + 1 + 1 + 1, o3) :: (L + 1 + 1 + 1, o4) :: (L + 1, o6') :: [(280, tabObj #[])])) := (News.put N5 (by repeat (first | exact List.Mem.head _ | apply List.Mem.tail)) (News.put N5 (by repeat (first | exact List.Mem.head _ | apply List.Mem.tail)) (News.put N5 (by repeat (first | exact List.Mem.head _ | apply List.Mem.tail)) (News.put N5 (by repeat (first | exact List.Mem.head _ | apply List.Mem.tail)) (News.put N5 (by repeat (first | exact List.Mem.head _ | apply List.Mem.tail)) (News.put N5 (by repeat (first | exact List.Mem.head _ | apply List.Mem.tail)) (News.put N5 (by repeat (first | exact List.Mem.head _ | apply List.Mem.tail)) (News.put N5 (by repeat (first | exact List.Mem.head _ | apply List.Mem.tail)) (News.put N5 (by repeat (first | exact List.Mem.head _ | apply List.Mem.tail)) (News.put N5 (by repeat (first | exact List.Mem.head _ | apply List.Mem.tail)) (News.put N5 (by repeat (first | exact List.Mem.head _ | apply List.Mem.tail)) (fun q hq => absurd hq List.not_mem_nil))))))))))))
    refine storeC_F F5 N6 rfl (UpdF.head hr) d5 fun h8 o5n F7 N7 d7 => ?_
    clear F5 N5 N6 F4 N4
    try dsimp only at N7
    refine wpN_execs_cons (wpN_any ?_)
    k_steps
    rename Fr _ _ _ _ => F8
    rename News _ _ _ _ => N8
    rename @LT.lt Nat _ _ _ ∧ _ => l1
    rw [map_texts0] at F8
    have hw := hI4.length
    exact ret _ _ rl _ dl d0 d1' rv _ ws ys' R _ _ _ _ _ o5n o6' F8 d7 d9 hR hG rulesAt3 (by simpa using hys) (by omega) (Mine.IntsAre.at hI4) hne.1 hne.2.1 hne.2.2 (by omega) (by omega) (by omega) (by omega) (by omega) (by omega) (by omega) (by omega) (by omega) (by omega) (News.put N8 (by repeat (first | exact List.Mem.head _ | apply List.Mem.tail)) (News.put N8 (by repeat (first | exact List.Mem.head _ | apply List.Mem.tail)) (News.put N8 (by repeat (first | exact List.Mem.head _ | apply List.Mem.tail)) (News.put N8 (by repeat (first | exact List.Mem.head _ | apply List.Mem.tail)) (News.put N8 (by repeat (first | exact List.Mem.head _ | apply List.Mem.tail)) (News.put N8 (by repeat (first | exact List.Mem.head _ | apply List.Mem.tail)) (News.put N8 (by repeat (first | exact List.Mem.head _ | apply List.Mem.tail)) (News.put N8 (by repeat (first | exact List.Mem.head _ | apply List.Mem.tail)) (News.put N8 (by repeat (first | exact List.Mem.head _ | apply List.Mem.tail)) (News.put N8 (by repeat (first | exact List.Mem.head _ | apply List.Mem.tail)) (News.put N8 (by repeat (first | exact List.Mem.head _ | apply List.Mem.tail)) (News.put N8 (by repeat (first | exact List.Mem.head _ | apply List.Mem.tail)) (fun q hq => absurd hq List.not_mem_nil)))))))))))))
/- part Q6 -/
theorem anew_Q6 {M : Model} {A : Around} {env : Env} {Q : Flow → Shared → Prop} {E : Value → Shared → Prop} {s : Shared} (h : wpAny M A (execs [] env) Q E s) : wpAny M A (execs [] env) Q E s := by
  w_top off
  try (walk1; fail)
  exact h
open Sem (wp)
theorem specN_grownRF {prog : Program} {w : World} {rl : Nat} {R : List (List UInt8)} {vs : List Value} {l : List UInt8} {tt tm : Tok} {n most : Nat} {tabs : List (Addr × Obj)} (hT : TabF tabs) (hvs : RulesAt vs R) (hR2 : R.length = 2 ∨ R.length = 3) (hR : ∀ r ∈ R, r.length ≤ 100)
    (hfit : l.length ≤ 100) (hmost : most ≤ 99) (hlet : ∀ c ∈ l, 97 ≤ c.toNat ∧ c.toNat ≤ 99) :
    SpecN prog w (.ref 285) [.bytes l.toArray tt, .ref rl, .int most tm] 30 260 ((rl, W.listOf vs.toArray n) :: tabs)
      (fun r new => ∃ a t u, r = .ref a ∧ new = (a, pairObj (grow R l most).1 t (grow R l most).2 u) :: (rl, W.listOf vs.toArray n) :: tabs) := specN_grownsF hT ⟨rfl, hvs.1, hR2, hvs.2⟩ hfit hmost hR hlet
section
variable {prog : Program} {w : World} {A₀ A : Around} {s : Shared} {base h₀ : Heap} {outer : List Env} {L : Addr} {m mg mb : Str → Option Value} {env : Env} {news tabs : List (Addr × Obj)} {p : Program} {loose : List Str} {mean : ExcName → Option Value}
theorem use_grownF {rl : Nat} {R : List (List UInt8)} {vs : List Value} {l : List UInt8} {tt tm : Tok} {n most : Nat} {dp un : Nat} {gd : Option (List Code)} {cn : Str} {cs : Scope} {a : Addr} {ccd : Value} {cl : List (Str × Addr)} {Q : Value → Shared → Prop}
    (hT : TabF tabs) (hvs : RulesAt vs R) (hR2 : R.length = 2 ∨ R.length = 3) (hR : ∀ r ∈ R, r.length ≤ 100) (hfit : l.length ≤ 100) (hmost : most ≤ 99) (hlet : ∀ c ∈ l, 97 ≤ c.toNat ∧ c.toNat ≤ 99)
    (B : Below A₀ base outer h₀) (F : Fr h₀ L s.heap m) (X : (hd.heap_1 w.params).In h₀) (N : News h₀ L s.heap news) (T : Top p loose mean mg mb h₀) (hk : cs.kind = .function) (hd : dp + 30 < recursionLimit) (hu : un + 260 < cLine)
    (hm : (rl, W.listOf vs.toArray n) ∈ news) (ht : ∀ q ∈ tabs, q ∈ news)
    (ret : ∀ a t u h' tk', Fr h₀ L h' m → News h₀ L h' ((a, pairObj (grow R l most).1 t (grow R l most).2 u) :: news) → Q (.ref a) { s with heap := h', toks := tk' }) :
    wpN (model prog w) (ktrTop dp un gd cn cs L a ccd cl outer) (call (.ref 285) [.bytes l.toArray tt, .ref rl, .int most tm]) Q s := by
  have hpre : ∀ q ∈ ((rl, W.listOf vs.toArray n) :: tabs : List (Addr × Obj)), q ∈ news := fun q hq => (List.mem_cons.mp hq).elim (fun e => e ▸ hm) (ht q)
  refine specN_grownRF (n := n) hT hvs hR2 hR hfit hmost hlet p loose mean mg mb dp un gd cn cs a ccd cl outer A₀ base h₀ L m s Q B F X (fun q hq => N q (hpre q hq)) T hk hd hu fun r h' tk' new F' N' P kp => ?_
  obtain ⟨a', t, u, rfl, rfl⟩ := P
  refine ret a' t u h' tk' F' (fun q hq => ?_)
  rcases List.mem_cons.mp hq with rfl | hq
  · exact N' _ (.head _)
  · refine ⟨?_, (N q hq).2⟩
    by_cases hin : q.1 ∈ ((rl, W.listOf vs.toArray n) :: tabs : List (Addr × Obj)).map (·.1)
    · obtain ⟨z, hz, e⟩ := List.mem_map.mp hin
      have e1 := (N q hq).1
      rw [← e, (N z (hpre z hz)).1] at e1
      rw [← e, ← Option.some.inj e1]
      exact (N' z (.tail _ hz)).1
    · exact kp _ _ (N q hq).1 hin (N q hq).2.1
end
/- part PL -/
theorem anew_PL {M : Model} {A : Around} {env : Env} {Q : Flow → Shared → Prop} {E : Value → Shared → Prop} {s : Shared} (h : wpAny M A (execs [] env) Q E s) : wpAny M A (execs [] env) Q E s := by
  w_top off
  try (walk1; fail)
  exact h
noncomputable def full (R : List (List UInt8)) (l : List UInt8) : List UInt8 := (l.map fun c => ruled R (c.toNat - 97)).flatten
noncomputable def nrul (R : List (List UInt8)) (l : List UInt8) : Nat := l.countP fun c => decide (c.toNat < 97 + R.length)
theorem full_cons {R : List (List UInt8)} {c : UInt8} {l : List UInt8} : full R (c :: l) = ruled R (c.toNat - 97) ++ full R l := rfl
theorem full_append {R : List (List UInt8)} {a b : List UInt8} : full R (a ++ b) = full R a ++ full R b := by unfold full; rw [List.map_append, List.flatten_append]
theorem full_flatten {R : List (List UInt8)} : ∀ ls : List (List UInt8), full R ls.flatten = (ls.map (full R)).flatten
  | [] => rfl
  | l :: ls => by rw [List.flatten_cons, full_append, full_flatten ls]; rfl
theorem ruled_yes {R : List (List UInt8)} {c : UInt8} (h1 : 97 ≤ c.toNat) (h : c.toNat < 97 + R.length) : ruled R (c.toNat - 97) = R.getD (c.toNat - 97) [] := if_pos (by omega)
theorem byte_back {c : UInt8} (h1 : 97 ≤ c.toNat) : (97 + (c.toNat - 97)).toUInt8 = c := by
  rw [show 97 + (c.toNat - 97) = c.toNat by omega]
  simp
theorem ruled_keep {R : List (List UInt8)} {c : UInt8} (h1 : 97 ≤ c.toNat) (h : ¬ c.toNat < 97 + R.length) : ruled R (c.toNat - 97) = [c] := by
  unfold ruled
  rw [if_neg (by omega), byte_back h1]
theorem full_none {R : List (List UInt8)} : ∀ {l : List UInt8}, (∀ c ∈ l, 97 ≤ c.toNat) → nrul R l = 0 → full R l = l
  | [], _, _ => rfl
  | c :: l, hl, h => by
    unfold nrul at h
    rw [List.countP_eq_zero] at h
    have hc := h c (.head _)
    rw [full_cons, ruled_keep (hl c (.head _)) (by simpa using hc), full_none (fun x hx => hl x (.tail _ hx)) (by unfold nrul; rw [List.countP_eq_zero]; exact fun x hx => h x (.tail _ hx))]
    rfl
theorem nrul_yes {R : List (List UInt8)} {c : UInt8} {l : List UInt8} (h : c.toNat < 97 + R.length) : nrul R (c :: l) = nrul R l + 1 := by unfold nrul; rw [List.countP_cons_of_pos (by simpa using h)]
theorem nrul_no {R : List (List UInt8)} {c : UInt8} {l : List UInt8} (h : ¬ c.toNat < 97 + R.length) : nrul R (c :: l) = nrul R l := by unfold nrul; rw [List.countP_cons_of_neg (by simpa using h)]
theorem grow_cut {R : List (List UInt8)} {rest : List UInt8} : ∀ {pre : List UInt8} {m : Nat}, (∀ c ∈ pre, 97 ≤ c.toNat) → (nrul R pre = m ∨ (rest = [] ∧ nrul R pre ≤ m)) → grow R (pre ++ rest) m = (full R pre ++ rest, nrul R pre)
  | [], m, _, h => by
    rcases h with h | ⟨rfl, _⟩
    · have : m = 0 := h.symm
      subst this
      exact grow_zero
    · exact grow_nil
  | c :: pre, 0, hl, h => by
    have h0 : nrul R (c :: pre) = 0 := by rcases h with h | ⟨_, h⟩ <;> omega
    rw [grow_zero, full_none hl h0, h0]
  | c :: pre, m + 1, hl, h => by
    by_cases hc : c.toNat < 97 + R.length
    · rw [List.cons_append, grow, if_pos hc, grow_cut (fun x hx => hl x (.tail _ hx)) (by rw [nrul_yes hc] at h; rcases h with h | ⟨a, h⟩; exact .inl (by omega); exact .inr ⟨a, by omega⟩), full_cons, ruled_yes (hl c (.head _)) hc, nrul_yes hc, List.append_assoc]
    · rw [List.cons_append, grow, if_neg hc, grow_cut (fun x hx => hl x (.tail _ hx)) (by rw [nrul_no hc] at h; exact h), full_cons, ruled_keep (hl c (.head _)) hc, nrul_no hc]
      rfl
theorem nrul_le {R : List (List UInt8)} {l : List UInt8} : nrul R l ≤ l.length := List.countP_le_length
theorem grow_full {R : List (List UInt8)} {l : List UInt8} {m : Nat} (hl : ∀ c ∈ l, 97 ≤ c.toNat) (h : nrul R l ≤ m) : grow R l m = (full R l, nrul R l) := by
  have := grow_cut (R := R) (rest := []) hl (.inr ⟨rfl, h⟩)
  simpa using this
theorem grow_99 {R : List (List UInt8)} {l : List UInt8} (hl : ∀ c ∈ l, 97 ≤ c.toNat) (h : l.length ≤ 99) : grow R l 99 = (full R l, nrul R l) := grow_full hl (Nat.le_trans nrul_le h)
noncomputable def Letters (l : List UInt8) : Prop := ∀ c ∈ l, 97 ≤ c.toNat ∧ c.toNat ≤ 99
theorem Letters.low {l : List UInt8} (h : Letters l) : ∀ c ∈ l, 97 ≤ c.toNat := fun c hc => (h c hc).1
noncomputable def Nice (R : List (List UInt8)) : Prop := (R.length = 2 ∨ R.length = 3) ∧ ∀ r ∈ R, r.length ≤ 3 ∧ Letters r
theorem Good.nice {R : List (List UInt8)} {m : Nat} (h : Good R m) (hm : m ≤ 3) : Nice R := ⟨h.1, fun r hr => ⟨Nat.le_trans (h.2 r hr).1 hm, (h.2 r hr).2⟩⟩
theorem getD_mem {R : List (List UInt8)} {k : Nat} (h : k < R.length) : R.getD k [] ∈ R := by rw [List.getD, List.getElem?_eq_getElem h]; exact List.getElem_mem h
theorem ruled_len {R : List (List UInt8)} (hR : Nice R) (k : Nat) : (ruled R k).length ≤ 3 := by
  unfold ruled
  split
  · rename_i h; exact (hR.2 _ (getD_mem h)).1
  · simp
theorem ruled_letters {R : List (List UInt8)} (hR : Nice R) {k : Nat} (hk : k < 3) : Letters (ruled R k) := by
  unfold ruled
  split
  · rename_i h; exact (hR.2 _ (getD_mem h)).2
  · intro c hc
    rw [List.mem_singleton.mp hc]
    have : (97 + k).toUInt8.toNat = (97 + k) % 256 := by first | exact UInt8.toNat_ofNat | simp
    omega
theorem full_letters {R : List (List UInt8)} (hR : Nice R) {l : List UInt8} (hl : Letters l) : Letters (full R l) := by
  intro c hc
  unfold full at hc
  obtain ⟨x, hx, hcx⟩ := List.mem_flatten.mp hc
  obtain ⟨y, hy, rfl⟩ := List.mem_map.mp hx
  have := hl y hy
  exact ruled_letters hR (by omega) c hcx
theorem full_len {R : List (List UInt8)} (hR : Nice R) : ∀ l : List UInt8, (full R l).length ≤ 3 * l.length
  | [] => Nat.le_refl _
  | c :: l => by
    rw [full_cons, List.length_append, List.length_cons]
    have h1 := ruled_len hR (c.toNat - 97)
    have h2 := full_len hR l
    omega
noncomputable def pow3 : Nat → Nat
  | 0 => 1
  | i + 1 => 3 * pow3 i
theorem texts_at {R : List (List UInt8)} {i k : Nat} (hk : k < 3) : (textsOf R (i + 1)).getD k [] = (grow R ((textsOf R i).getD k []) 99).1 := by
  show (grownAll R (textsOf R i) 3).getD k [] = _
  unfold grownAll
  match k, hk with
  | 0, _ => rfl
  | 1, _ => rfl
  | 2, _ => rfl
theorem texts_ok {R : List (List UInt8)} (hR : Nice R) : ∀ i, i ≤ 3 → ∀ k, k < 3 → Letters ((textsOf R i).getD k []) ∧ ((textsOf R i).getD k []).length ≤ pow3 i
  | 0, _, k, hk => by
    match k, hk with
    | 0, _ => exact ⟨by intro c hc; rw [List.mem_singleton.mp hc]; decide, by show (1 : Nat) ≤ 1; exact Nat.le_refl _⟩
    | 1, _ => exact ⟨by intro c hc; rw [List.mem_singleton.mp hc]; decide, by show (1 : Nat) ≤ 1; exact Nat.le_refl _⟩
    | 2, _ => exact ⟨by intro c hc; rw [List.mem_singleton.mp hc]; decide, by show (1 : Nat) ≤ 1; exact Nat.le_refl _⟩
  | i + 1, hi, k, hk => by
    obtain ⟨h1, h2⟩ := texts_ok hR i (by omega) k hk
    have h3 : pow3 i ≤ 9 := by
      match i, hi with
      | 0, _ => decide
      | 1, _ => decide
      | 2, _ => decide
    rw [texts_at hk, grow_99 h1.low (by omega)]
    refine ⟨full_letters hR h1, Nat.le_trans (full_len hR _) ?_⟩
    show 3 * _ ≤ 3 * pow3 i
    omega
theorem texts_succ {R : List (List UInt8)} (hR : Nice R) {i k : Nat} (hi : i < 3) (hk : k < 3) : (textsOf R (i + 1)).getD k [] = full R ((textsOf R i).getD k []) := by
  obtain ⟨h1, h2⟩ := texts_ok hR i (by omega) k hk
  have h3 : pow3 i ≤ 9 := by
    match i, hi with
    | 0, _ => decide
    | 1, _ => decide
    | 2, _ => decide
  rw [texts_at hk, grow_99 h1.low (by omega)]
noncomputable def phi (R : List (List UInt8)) (i : Nat) (l : List UInt8) : List UInt8 := (l.map fun c => (textsOf R i).getD (c.toNat - 97) []).flatten
theorem phi_succ {R : List (List UInt8)} (hR : Nice R) {i : Nat} (hi : i < 3) {l : List UInt8} (hl : Letters l) : full R (phi R i l) = phi R (i + 1) l := by
  unfold phi
  rw [full_flatten, List.map_map]
  congr 1
  refine List.map_congr_left fun c hc => ?_
  have := hl c hc
  exact (texts_succ hR hi (by omega)).symm
theorem phi_zero {R : List (List UInt8)} : ∀ {l : List UInt8}, Letters l → phi R 0 l = l
  | [], _ => rfl
  | c :: l, hl => by
    show (textsOf R 0).getD (c.toNat - 97) [] ++ phi R 0 l = c :: l
    rw [phi_zero fun x hx => hl x (.tail _ hx)]
    obtain ⟨h1, h2⟩ := hl c (.head _)
    have key : ∀ n, 97 ≤ n → n ≤ 99 → ([[97], [98], [99]] : List (List UInt8)).getD (n - 97) [] = [n.toUInt8] := fun n a b => by
      rcases (by omega : n = 97 ∨ n = 98 ∨ n = 99) with rfl | rfl | rfl <;> rfl
    have e := key c.toNat h1 h2
    rw [show (textsOf R 0).getD (c.toNat - 97) [] = [c.toNat.toUInt8] from e]
    simp
theorem texts_phi {R : List (List UInt8)} (hR : Nice R) {k : Nat} (hk : k < 3) : ∀ i, i < 3 → (textsOf R (i + 1)).getD k [] = phi R i (ruled R k)
  | 0, _ => by
    rw [texts_succ hR (by decide) hk, phi_zero (ruled_letters hR hk)]
    have e : (textsOf R 0).getD k [] = [(97 + k).toUInt8] := by
      match k, hk with
      | 0, _ => rfl
      | 1, _ => rfl
      | 2, _ => rfl
    have e2 : (97 + k).toUInt8.toNat = 97 + k := by
      have : (97 + k).toUInt8.toNat = (97 + k) % 256 := by first | exact UInt8.toNat_ofNat | simp
      omega
    rw [e]
    show ruled R ((97 + k).toUInt8.toNat - 97) ++ [] = ruled R k
    rw [e2, List.append_nil]
    congr 1
    omega
  | i + 1, hi => by rw [texts_succ hR hi hk, texts_phi hR hk i (by omega), phi_succ hR (by omega) (ruled_letters hR hk)]
theorem nrul_counts {R : List (List UInt8)} (hR : R.length = 2 ∨ R.length = 3) : ∀ {l : List UInt8}, Letters l → nrul R l = ([l.count 97, l.count 98, l.count 99].take R.length).sum
  | [], _ => by rcases hR with h | h <;> rw [h] <;> rfl
  | c :: l, hl => by
    have ih := nrul_counts hR (l := l) fun x hx => hl x (.tail _ hx)
    obtain ⟨h1, h2⟩ := hl c (.head _)
    have hc : c = 97 ∨ c = 98 ∨ c = 99 := by
      rcases (by omega : c.toNat = 97 ∨ c.toNat = 98 ∨ c.toNat = 99) with h | h | h
      · exact .inl (UInt8.toNat_inj.mp h)
      · exact .inr (.inl (UInt8.toNat_inj.mp h))
      · exact .inr (.inr (UInt8.toNat_inj.mp h))
    rcases hR with h | h
    · rw [h] at ih ⊢
      rcases hc with rfl | rfl | rfl
      · rw [nrul_yes (by rw [h]; decide), ih]; simp; omega
      · rw [nrul_yes (by rw [h]; decide), ih]; simp; omega
      · rw [nrul_no (by rw [h]; decide), ih]; simp
    · rw [h] at ih ⊢
      rcases hc with rfl | rfl | rfl
      · rw [nrul_yes (by rw [h]; decide), ih]; simp; omega
      · rw [nrul_yes (by rw [h]; decide), ih]; simp; omega
      · rw [nrul_yes (by rw [h]; decide), ih]; simp; omega
theorem full_counts {R : List (List UInt8)} {x : UInt8} : ∀ {l : List UInt8}, Letters l → (full R l).count x = l.count 97 * (ruled R 0).count x + (l.count 98 * (ruled R 1).count x + (l.count 99 * (ruled R 2).count x + 0))
  | [], _ => by simp [full]
  | c :: l, hl => by
    have ih := full_counts (R := R) (x := x) (l := l) fun x hx => hl x (.tail _ hx)
    obtain ⟨h1, h2⟩ := hl c (.head _)
    have hc : c = 97 ∨ c = 98 ∨ c = 99 := by
      rcases (by omega : c.toNat = 97 ∨ c.toNat = 98 ∨ c.toNat = 99) with h | h | h
      · exact .inl (UInt8.toNat_inj.mp h)
      · exact .inr (.inl (UInt8.toNat_inj.mp h))
      · exact .inr (.inr (UInt8.toNat_inj.mp h))
    rw [full_cons, List.count_append, ih]
    rcases hc with rfl | rfl | rfl
    · rw [show ((97 : UInt8).toNat - 97) = 0 from rfl]; simp [Nat.add_mul]; omega
    · rw [show ((98 : UInt8).toNat - 97) = 1 from rfl]; simp [Nat.add_mul]; omega
    · rw [show ((99 : UInt8).toNat - 97) = 2 from rfl]; simp [Nat.add_mul]; omega
theorem turnLaw_of {R : List (List UInt8)} (hR : Nice R) {i j : Nat} (hi : i < 3) (hj : j < 3) : TurnLaw R (textsOf R i) j := by
  obtain ⟨h1, h2⟩ := texts_ok hR i (by omega) j hj
  have h3 : pow3 i ≤ 9 := by
    match i, hi with
    | 0, _ => decide
    | 1, _ => decide
    | 2, _ => decide
  have hg := grow_99 (R := R) h1.low (by omega)
  have e := texts_phi hR hj i hi
  rw [texts_succ hR hi hj] at e
  refine { fit := by omega, lets := h1, rlen := fun r hr => Nat.le_trans (hR.2 r hr).1 (by decide), xlen := ?_, rl := fun k => Nat.le_trans (ruled_len hR k) (by decide), rlets := ruled_letters hR hj, join := ?_, many := ?_, sums := ?_, head := ?_ }
  · rw [hg]; have := full_len hR ((textsOf R i).getD j []); show (full R _).length ≤ _; omega
  · rw [hg]; exact e
  · rw [hg]; exact nrul_counts hR.1 h1
  · intro k _; rw [hg]; exact full_counts h1
  · intro hh
    rw [hg]
    show (full R _).take _ = _
    rw [e]
    obtain ⟨r, hr⟩ : ∃ r, ruled R j = (97 + j).toUInt8 :: r := by
      cases hq : ruled R j with
      | nil => rw [hq] at hh; cases hh
      | cons x r => rw [hq] at hh; have hh' : [x] = [(97 + j).toUInt8] := hh; exact ⟨r, by rw [(List.cons.inj hh').1]⟩
    have e2 : (97 + j).toUInt8.toNat = 97 + j := by
      have : (97 + j).toUInt8.toNat = (97 + j) % 256 := by first | exact UInt8.toNat_ofNat | simp
      omega
    rw [hr]
    show ((textsOf R i).getD ((97 + j).toUInt8.toNat - 97) [] ++ _).take _ = _
    rw [e2, show 97 + j - 97 = j by omega, List.take_left]
/- part Q7 -/
theorem anew_Q7 {M : Model} {A : Around} {env : Env} {Q : Flow → Shared → Prop} {E : Value → Shared → Prop} {s : Shared} (h : wpAny M A (execs [] env) Q E s) : wpAny M A (execs [] env) Q E s := by
  w_top off
  try (walk1; fail)
  exact h
open Sem (wp)
section
variable {prog : Program} {w : World} {A₀ A : Around} {s : Shared} {base h₀ : Heap} {outer : List Env} {L : Addr} {m mg mb : Str → Option Value} {env : Env} {rest : List (Addr × Obj)} {p : Program} {loose : List Str} {mean : ExcName → Option Value}
theorem use_drawn {dl d0 d1 : Nat} {xs ys : List Value} {nl n0 n1 most : Nat} {t : Tok} {dp un : Nat} {gd : Option (List Code)} {cn : Str} {cs : Scope} {a : Addr} {ccd : Value} {cl : List (Str × Addr)} {Q : Value → Shared → Prop}
    (hm : most ≤ 3) (hy : ys.length ≤ 80) (hxl : xs.length ≤ 100) (e01 : d0 ≠ d1) (el0 : dl ≠ d0) (el1 : dl ≠ d1) (hints : ∀ i, i < xs.length → ∃ k u, xs[i]? = some (.int k u))
    (B : Below A₀ base outer h₀) (F : Fr h₀ L s.heap m) (X : (hd.heap_1 w.params).In h₀) (N : News h₀ L s.heap ((d1, W.listOf ys.toArray n1) :: rest)) (hd1 : ∀ q ∈ rest, q.1 ≠ d1) (T : Top p loose mean mg mb h₀) (hk : cs.kind = .function) (hd : dp + 10 < recursionLimit) (hu : un + 80 < cLine)
    (ml : (dl, W.listOf [.ref d0, .ref d1].toArray nl) ∈ rest) (m0 : (d0, W.listOf xs.toArray n0) ∈ rest)
    (ret : ∀ (rl : Nat) (vs : List Value) (R : List (List UInt8)) (n : Nat) (ys' : List Value) (n1' : Nat) (h' : Heap) (tk' : Nat), RulesAt vs R → Good R most → ys'.length ≤ ys.length + 13 → rl ≠ d1 → Fr h₀ L h' m → News h₀ L h' ((rl, W.listOf vs.toArray n) :: (d1, W.listOf ys'.toArray n1') :: rest) → Q (.ref rl) { s with heap := h', toks := tk' }) :
    wpN (model prog w) (ktrTop dp un gd cn cs L a ccd cl outer) (call (.ref 304) [.ref dl, .int most t]) Q s := by
  refine specN_drawn (nl := nl) (n0 := n0) (n1 := n1) hm hy hxl e01 el0 el1 hints p loose mean mg mb dp un gd cn cs a ccd cl outer A₀ base h₀ L m s Q B F X (fun q hq => N q ?_) T hk hd hu fun r h' tk' new F' N' P kp => ?_
  · simp only [dishLed, List.mem_cons, List.not_mem_nil, or_false] at hq
    rcases hq with rfl | rfl | rfl
    · exact .tail _ ml
    · exact .tail _ m0
    · exact .head _
  obtain ⟨rl, vs, n, R, ys', n1', rfl, hR, hG, hy', hne, rfl⟩ := P
  refine ret rl vs R n ys' n1' h' tk' hR hG hy' hne.2.2 F' (fun q hq => ?_)
  rcases List.mem_cons.mp hq with rfl | hq
  · exact N' _ (.head _)
  rcases List.mem_cons.mp hq with rfl | hq
  · exact N' _ (.tail _ (.tail _ (.tail _ (.head _))))
  · have hq' := List.mem_cons_of_mem (d1, W.listOf ys.toArray n1) hq
    refine ⟨?_, (N q hq').2⟩
    by_cases hin : q.1 ∈ (dishLed dl d0 d1 xs ys nl n0 n1).map (·.1)
    · have e := (N q hq').1
      have hin' : q.1 ∈ [dl, d0, d1] := hin
      simp only [List.mem_cons, List.not_mem_nil, or_false] at hin'
      rcases hin' with k | k | k
      · rw [k, (N _ (.tail _ ml)).1] at e
        rw [k, ← Option.some.inj e]
        exact (N' _ (.tail _ (.head _))).1
      · rw [k, (N _ (.tail _ m0)).1] at e
        rw [k, ← Option.some.inj e]
        exact (N' _ (.tail _ (.tail _ (.head _)))).1
      · exact absurd k (hd1 q hq)
    · exact kp _ _ (N q hq').1 hin (N q hq').2.1
end
noncomputable abbrev base3 (L rl dl d0 : Nat) (o5 o6 : Obj) (rv xs : List Value) (rn nl n0 d1 : Nat) (tabs : List (Addr × Obj)) : List (Addr × Obj) := (L + 1 + 1, o5) :: (L + 1, o6) :: (rl, W.listOf rv.toArray rn) :: (dl, W.listOf [Value.ref d0, Value.ref d1].toArray nl) :: (d0, W.listOf xs.toArray n0) :: tabs
set_option linter.unusedVariables false in
theorem law_b0 {w : World} {G h : Heap} {L fa al rl dl d0 d1 : Nat} {cd : Value} {p : Program} {loose : List Str} {mean : ExcName → Option Value} {mg mb : Str → Option Value} {gs : Array GenState} {dr : Drawn} {os : OsState} {tk : Nat} {o1 o5 o6 : Obj} {vx vt va vtx vm : Option Value} {rv xs ys : List Value} {rn nl n0 n1 : Nat} {tabs : List (Addr × Obj)} {Q : Flow → Shared → Prop}
    (F : Fr G L h (lawMap al vx vt va vtx vm)) (N : News G L h ((d1, W.listOf ys.toArray n1) :: (L + 1 + 1 + 1 + 1 + 1 + 1, o1) :: base3 L rl dl d0 o5 o6 rv xs rn nl n0 d1 tabs))
    (k1 : o1.data = .cell none) (k5 : o5.data = .cell (some (.ref rl))) (k6 : o6.data = .cell (some (.ref dl))) (hT : TabF tabs)
    (B' : Below callerA G [] G) (X' : (hd.heap_1 w.params).In G) (T' : Top p loose mean mg mb G) (hL : 280 < L)
    (hy : ys.length ≤ 30) (hxl : xs.length ≤ 100) (e01 : d0 ≠ d1) (el0 : dl ≠ d0) (el1 : dl ≠ d1) (er1 : rl ≠ d1) (hints : ∀ i, i < xs.length → ∃ k u, xs[i]? = some (.int k u))
    (ret : ∀ (h' : Heap) (tk' sl : Nat) (sv : List Value) (S : List (List UInt8)) (sn : Nat) (ys' : List Value) (n1' : Nat) (o1' : Obj), RulesAt sv S → Good S 2 → ys'.length ≤ ys.length + 13 → o1'.data = .cell (some (.ref sl)) → sl ≠ d1 → Fr G L h' (lawMap al vx vt va vtx vm) →
      News G L h' ((d1, W.listOf ys'.toArray n1') :: (sl, W.listOf sv.toArray sn) :: (L + 1 + 1 + 1 + 1 + 1 + 1, o1') :: base3 L rl dl d0 o5 o6 rv xs rn nl n0 d1 tabs) → Q .next ⟨h', gs, dr, tk', os⟩) :
    wpN (model lawProg w) (lawA L fa cd) (exec (restBody.getD 0 (.Pass default)) (lawEnv L fa cd)) Q ⟨h, gs, dr, tk, os⟩ := by
  have htg := tabF_tags hT
  have hd1 : ∀ q ∈ (L + 1 + 1 + 1 + 1 + 1 + 1, o1) :: base3 L rl dl d0 o5 o6 rv xs rn nl n0 d1 tabs, q.1 ≠ d1 := by
    intro q hq
    have key : tagOf q.2 ≠ 0 → q.1 ≠ d1 := fun ht => neTag (j := 0) N (.tail _ hq) (.head _) rfl rfl ht
    simp only [base3, List.mem_cons] at hq
    rcases hq with rfl | rfl | rfl | rfl | rfl | rfl | hq
    · exact key (by rw [tag_cell k1]; decide)
    · exact key (by rw [tag_cell k5]; decide)
    · exact key (by rw [tag_cell k6]; decide)
    · exact er1
    · exact el1
    · exact e01
    · exact key (by rcases htg q hq with e | e <;> rw [e] <;> decide)
  have C' := codeHdK X'
  delta lawA lawEnv restBody lawRec recOf
  dsimp only [List.drop, List.getD, List.getElem?_cons_succ, List.getElem?_cons_zero, Option.getD]
  refine wpN_Assign_Name (wpN_Call_Name (wpN_any ?_))
  k_steps
  refine wpN_callWith rfl (wpN_evalArgs_some (wpN_any ?_))
  k_steps
  refine Held.mk ⟨keeps_K (by k_is) _ (X'.keeps F.keep), ?_⟩
  (try dsimp only [List.nil_append, List.cons_append])
  refine' use_drawn (most := 2) ?s1 ?s2 hxl e01 el0 el1 hints B' F X' N hd1 T' ?hk ?hd ?hu ?ml ?m0 ?fin
  case s1 => decide
  case s2 => omega
  case hk => exact rfl
  case hd => ktr_room
  case hu => ktr_units
  case ml => exact .tail _ (.tail _ (.tail _ (.tail _ (.head _))))
  case m0 => exact .tail _ (.tail _ (.tail _ (.tail _ (.tail _ (.head _)))))
  case fin =>
    intro sl sv S sn ys' n1' h' tk' hS hG hy' hsd F2 N2
    have hr : ∀ q ∈ (d1, W.listOf ys'.toArray n1') :: (sl, W.listOf sv.toArray sn) :: base3 L rl dl d0 o5 o6 rv xs rn nl n0 d1 tabs, q.1 ≠ L + 1 + 1 + 1 + 1 + 1 + 1 := by
      intro q hq
      have hq' : q ∈ (sl, W.listOf sv.toArray sn) :: (d1, W.listOf ys'.toArray n1') :: (L + 1 + 1 + 1 + 1 + 1 + 1, o1) :: base3 L rl dl d0 o5 o6 rv xs rn nl n0 d1 tabs := by
        rcases List.mem_cons.mp hq with rfl | hq
        · exact .tail _ (.head _)
        rcases List.mem_cons.mp hq with rfl | hq
        · exact .head _
        exact .tail _ (.tail _ (.tail _ hq))
      have key : tagOf q.2 ≠ 1 → q.1 ≠ L + 1 + 1 + 1 + 1 + 1 + 1 := fun ht => neTag (j := 1) (a := q.1) (oa := q.2) (ob := o1) N2 hq' (.tail _ (.tail _ (.head _))) rfl (tag_cell k1) ht
      simp only [base3, List.mem_cons] at hq
      rcases hq with rfl | rfl | rfl | rfl | rfl | rfl | rfl | hq
      · exact key (by show (0 : Nat) ≠ 1; decide)
      · exact key (by show (0 : Nat) ≠ 1; decide)
      · show (_ : Nat) ≠ _; omega
      · show (_ : Nat) ≠ _; omega
      · exact key (by show (0 : Nat) ≠ 1; decide)
      · exact key (by show (0 : Nat) ≠ 1; decide)
      · exact key (by show (0 : Nat) ≠ 1; decide)
      · exact key (by rcases htg q hq with e | e <;> rw [e] <;> decide)
    have N3 : News G L h' ((L + 1 + 1 + 1 + 1 + 1 + 1, o1) :: (d1, W.listOf ys'.toArray n1') :: (sl, W.listOf sv.toArray sn) :: base3 L rl dl d0 o5 o6 rv xs rn nl n0 d1 tabs) := News.put N2 (.tail _ (.tail _ (.head _))) (News.put N2 (.tail _ (.head _)) (News.put N2 (.head _) (fun q hq => N2 q (.tail _ (.tail _ (.tail _ hq))))))
    refine storeC_F F2 N3 rfl (UpdF.head hr) k1 fun h8 o1n F7 N7 d7 => ?_
    exact ret _ _ sl sv S sn ys' n1' o1n hS hG hy' d7 hsd F7 (News.put N7 (.tail _ (.head _)) (News.put N7 (.tail _ (.tail _ (.head _))) (News.put N7 (.head _) (fun q hq => N7 q (.tail _ (.tail _ (.tail _ hq)))))))
/- part Q8 -/
theorem anew_Q8 {M : Model} {A : Around} {env : Env} {Q : Flow → Shared → Prop} {E : Value → Shared → Prop} {s : Shared} (h : wpAny M A (execs [] env) Q E s) : wpAny M A (execs [] env) Q E s := by
  w_top off
  try (walk1; fail)
  exact h
open Sem (wp)
noncomputable def bothOf (R S : List (List UInt8)) (i : Nat) : List (List UInt8) := (List.range i).map fun k => (grow S (ruled R k) 99).1
theorem bothOf_succ {R S : List (List UInt8)} {i : Nat} : bothOf R S (i + 1) = bothOf R S i ++ [(grow S (ruled R i) 99).1] := by
  unfold bothOf
  rw [List.range_succ, List.map_append]; rfl
set_option linter.unusedVariables false in
theorem law_b1 {w : World} {G h : Heap} {L fa rl sl : Nat} {cd : Value} {p : Program} {loose : List Str} {mean : ExcName → Option Value} {mg mb m : Str → Option Value} {gs : Array GenState} {dr : Drawn} {os : OsState} {tk : Nat} {o1 o5 : Obj} {rv sv : List Value} {rn sn : Nat} {tabs news : List (Addr × Obj)} {R S : List (List UInt8)} {Q : Flow → Shared → Prop}
    (F : Fr G L h m) (N : News G L h news) (m1 : (L + 1 + 1 + 1 + 1 + 1 + 1, o1) ∈ news) (m5 : (L + 1 + 1, o5) ∈ news) (mr : (rl, W.listOf rv.toArray rn) ∈ news) (ms : (sl, W.listOf sv.toArray sn) ∈ news) (mt : ∀ q ∈ tabs, q ∈ news)
    (k1 : o1.data = .cell (some (.ref sl))) (k5 : o5.data = .cell (some (.ref rl))) (hT : TabF tabs)
    (B' : Below callerA G [] G) (X' : (hd.heap_1 w.params).In G) (T' : Top p loose mean mg mb G)
    (hR : RulesAt rv R) (hR2 : R.length = 2 ∨ R.length = 3) (hS : RulesAt sv S) (hS2 : S.length = 2 ∨ S.length = 3) (hSl : ∀ r ∈ S, r.length ≤ 100) (hrl : ∀ k, (ruled R k).length ≤ 100) (hrt : ∀ k, k < 3 → ∀ c ∈ ruled R k, 97 ≤ c.toNat ∧ c.toNat ≤ 99)
    (ret : ∀ (h' : Heap) (tk' bl : Nat) (bv : List Value) (bn : Nat), RulesAt bv (bothOf R S 3) → Fr G L h' (fun z => if z = Str.ofString "both" then some (.ref bl) else m z) → News G L h' ((bl, W.listOf bv.toArray bn) :: news) → (∀ q ∈ news, q.1 < bl) → Q .next ⟨h', gs, dr, tk', os⟩) :
    wpN (model lawProg w) (lawA L fa cd) (exec (restBody.getD 1 (.Pass default)) (lawEnv L fa cd)) Q ⟨h, gs, dr, tk, os⟩ := by
  have C' := codeHdK X'
  delta lawA lawEnv restBody lawRec recOf
  dsimp only [List.drop, List.getD, List.getElem?_cons_succ, List.getElem?_cons_zero, Option.getD]
  refine' wpN_Assign_ListComp_range (h₀ := G) (L := L) (fun i ys news₁ => RulesAt ys (bothOf R S i) ∧ news₁ = news) (wpN_any ?hmain) ?hL ?hsw ?hy ?hp ?hh ?hclos ?hcell ?hkind ?hnames ?hx
  case hL => exact rfl
  case hsw => exact rfl
  case hy => exact rfl
  case hp => exact rfl
  case hh => exact rfl
  case hclos => exact rfl
  case hcell => decide
  case hkind => exact rfl
  case hnames => decide
  case hx => exact rfl
  case hmain =>
    k_steps
    rename Fr _ _ _ _ => F2
    rename News _ _ _ _ => N2
    rename IsRange _ _ _ _ _ _ _ _ => hr2
    refine Held.mk ⟨3, _, _, _, _, _, _, by decide, by decide, rfl, hr2, F2, N2, ⟨⟨rfl, fun k hk => absurd hk (Nat.not_lt_zero _)⟩, rfl⟩, ?hturn, ?hfin⟩
    case hturn =>
      clear F2 N2 hr2
      rintro i ys news₁ v mC C D I oC oD oI h₁ tk₁ hi ⟨hys, rfl⟩ ⟨tv, rfl⟩ F₁ N₁ hne hCD hIC hID hlt hns hmc
      rw [show (0 : Int) + (i : Int) * 1 = i by omega] at hmc
      have N₂ : News G L h₁ ((L + 1 + 1 + 1 + 1 + 1 + 1, o1) :: (L + 1 + 1, o5) :: (rl, W.listOf rv.toArray rn) :: (sl, W.listOf sv.toArray sn) :: (C, oC) :: (D, oD) :: (I, oI) :: news₁) :=
        News.put N₁ (.tail _ (.tail _ (.tail _ m1))) (News.put N₁ (.tail _ (.tail _ (.tail _ m5))) (News.put N₁ (.tail _ (.tail _ (.tail _ mr))) (News.put N₁ (.tail _ (.tail _ (.tail _ ms))) N₁)))
      clear N₁
      refine wpN_Subscript (wpN_Call_Name (wpN_any ?_))
      k_steps
      refine wpN_callWith rfl (wpN_evalArgs_some (wpN_any ?_))
      k_steps
      rename Fr _ _ _ _ => F3
      rename News _ _ _ _ => N3
      refine Held.mk ⟨keeps_K (by k_is) _ (X'.keeps F3.keep), ?_⟩
      (try dsimp only [List.nil_append, List.cons_append])
      refine' use_grownF (tabs := tabs) hT hS hS2 hSl (hrl i) ?hmost (hrt i hi) B' F3 X' N3 T' ?hk ?hd ?hu ?hm ?ht ?ret
      case hmost => decide
      case hk => exact rfl
      case hd => ktr_room
      case hu => ktr_units
      case hm => exact .tail _ (.tail _ (.tail _ (.head _)))
      case ht => exact fun q hq => .tail _ (.tail _ (.tail _ (.tail _ (.tail _ (.tail _ (.tail _ (mt q hq)))))))
      case ret =>
        intro a t1 u1 h' tk' F4 N4
        refine wpN_any ?_
        k_steps
        rename Fr _ _ _ _ => F5
        rename News _ _ _ _ => N5
        refine Held.mk ⟨_, _, _, rfl, F5, fun q hq => N5 q (.tail _ (.tail _ (.tail _ (.tail _ (.tail _ hq))))), hne, ?_, rfl⟩
        rw [bothOf_succ]
        exact hys.snoc
    case hfin =>
      clear F2 N2 hr2
      rintro ys news₁ D k h₁ tk₁ ⟨hys, rfl⟩ F₁ N₁ hne hlt
      exact ret _ _ D ys k hys F₁ N₁ hlt
/- part Q9 -/
theorem anew_Q9 {M : Model} {A : Around} {env : Env} {Q : Flow → Shared → Prop} {E : Value → Shared → Prop} {s : Shared} (h : wpAny M A (execs [] env) Q E s) : wpAny M A (execs [] env) Q E s := by
  w_top off
  try (walk1; fail)
  exact h
open Sem (wp)
theorem let_bytes {ns : List Int} (h : ∀ n ∈ ns, 97 ≤ n ∧ n < 100) : Letters (ns.map fun n => n.toNat.toUInt8) := by
  intro c hc
  obtain ⟨n, hn, rfl⟩ := List.mem_map.mp hc
  exact letter_byte (h n hn).1 (h n hn).2
set_option linter.unusedVariables false in
theorem law_b2 {w : World} {G h : Heap} {L fa dl d0 d1 : Nat} {cd : Value} {p : Program} {loose : List Str} {mean : ExcName → Option Value} {mg mb m : Str → Option Value} {gs : Array GenState} {dr : Drawn} {os : OsState} {tk : Nat} {o6 : Obj} {xs ys : List Value} {nl n0 n1 : Nat} {news : List (Addr × Obj)} {Q : Flow → Shared → Prop}
    (F : Fr G L h m) (N : News G L h ((d1, W.listOf ys.toArray n1) :: news)) (hd1 : ∀ q ∈ news, q.1 ≠ d1) (m6 : (L + 1, o6) ∈ news) (ml : (dl, W.listOf [.ref d0, .ref d1].toArray nl) ∈ news) (m0 : (d0, W.listOf xs.toArray n0) ∈ news)
    (k6 : o6.data = .cell (some (.ref dl)))
    (B' : Below callerA G [] G) (X' : (hd.heap_1 w.params).In G) (T' : Top p loose mean mg mb G)
    (hy : ys.length ≤ 50) (hxl : xs.length ≤ 100) (e01 : d0 ≠ d1) (el0 : dl ≠ d0) (el1 : dl ≠ d1) (hints : ∀ i, i < xs.length → ∃ k u, xs[i]? = some (.int k u))
    (ret : ∀ (h' : Heap) (tk' : Nat) (t : Tok) (so : List UInt8) (ys' : List Value) (n1' : Nat), Letters so → so.length = 4 → ys'.length = ys.length + 4 → Fr G L h' (fun z => if z = Str.ofString "some" then some (.bytes so.toArray t) else m z) → News G L h' ((d1, W.listOf ys'.toArray n1') :: news) → Q .next ⟨h', gs, dr, tk', os⟩) :
    wpN (model lawProg w) (lawA L fa cd) (exec (restBody.getD 2 (.Pass default)) (lawEnv L fa cd)) Q ⟨h, gs, dr, tk, os⟩ := by
  have C' := codeHdK X'
  delta lawA lawEnv restBody lawRec recOf
  dsimp only [List.drop, List.getD, List.getElem?_cons_succ, List.getElem?_cons_zero, Option.getD]
  refine wpN_Assign_Name (wpN_Call_Name (wpN_any ?_))
  k_steps
  refine wpN_callWith rfl (wpN_evalArgs_some (wpN_spliced_cons ?_))
  refine' wpN_ListComp_range (h₀ := G) (L := L) (fun i vs9 news₁ => ∃ (ys9 : List Value) (n9 : Nat), LetVals vs9 ∧ vs9.length = i ∧ ys9.length = ys.length + i ∧ news₁ = (d1, W.listOf ys9.toArray n9) :: news) (wpN_any ?hmain) ?hh ?hclos ?hcell ?hkind ?hnames ?hx
  case hh => exact rfl
  case hclos => exact rfl
  case hcell => decide
  case hkind => exact rfl
  case hnames => decide
  case hx => exact rfl
  case hmain =>
    k_steps
    rename Fr _ _ _ _ => F2
    rename News _ _ _ _ => N2
    rename IsRange _ _ _ _ _ _ _ _ => hr2
    refine Held.mk ⟨4, _, _, _, _, _, _, by decide, by decide, rfl, hr2, F2, N2, ⟨ys, n1, fun v hv => absurd hv List.not_mem_nil, rfl, rfl, rfl⟩, ?hturn, ?hfin⟩
    case hturn =>
      clear F2 N2 hr2
      rintro i vs9 news₁ v mC C D I oC oD oI h₁ tk₁ hi ⟨ys9, n9, hlv, hl9, hy9, rfl⟩ ⟨tv, rfl⟩ F₁ N₁ hne hCD hIC hID hlt hns hmc
      have z := hne _ (.head _)
      have U9 : UpdF d1 (W.listOf ys9.toArray n9) ((L + 1, o6) :: (dl, W.listOf [.ref d0, .ref d1].toArray nl) :: (d0, W.listOf xs.toArray n0) :: (C, oC) :: (D, oD) :: (I, oI) :: (d1, W.listOf ys9.toArray n9) :: news) (fun o' => (L + 1, o6) :: (dl, W.listOf [.ref d0, .ref d1].toArray nl) :: (d0, W.listOf xs.toArray n0) :: (C, oC) :: (D, oD) :: (I, oI) :: (d1, o') :: news) :=
        UpdF.tail (p := (L + 1, o6)) (hd1 _ m6) (UpdF.tail (p := (dl, W.listOf [.ref d0, .ref d1].toArray nl)) el1 (UpdF.tail (p := (d0, W.listOf xs.toArray n0)) e01 (UpdF.tail (p := (C, oC)) (Ne.symm z.2.1) (UpdF.tail (p := (D, oD)) (Ne.symm z.2.2) (UpdF.tail (p := (I, oI)) (Ne.symm z.1) (UpdF.head hd1))))))
      have N₂ : News G L h₁ ((L + 1, o6) :: (dl, W.listOf [.ref d0, .ref d1].toArray nl) :: (d0, W.listOf xs.toArray n0) :: (C, oC) :: (D, oD) :: (I, oI) :: (d1, W.listOf ys9.toArray n9) :: news) :=
        News.put N₁ (.tail _ (.tail _ (.tail _ (.tail _ m6)))) (News.put N₁ (.tail _ (.tail _ (.tail _ (.tail _ ml)))) (News.put N₁ (.tail _ (.tail _ (.tail _ (.tail _ m0)))) N₁))
      clear N₁ hlt
      have hb9 : ys9.length ≤ 100 := by omega
      refine wpN_any ?_
      k_steps
      rename Fr _ _ _ _ => F8
      rename News _ _ _ _ => N8
      rename (_ : Int) < 3 => hlt3
      rename 0 ≤ (_ : Int) => hge3
      obtain ⟨kv, rfl⟩ := Int.eq_ofNat_of_zero_le hge3
      refine Held.mk ⟨_, _, _, rfl, F8, fun q hq => N8 q (.tail _ (.tail _ (.tail _ hq))), ?_, ?_⟩
      · exact keys_all (Q := fun a => a ≠ I ∧ a ≠ C ∧ a ≠ D) hne rfl
      · exact ⟨ys9 ++ [_], _, hlv.snoc (by omega), by rw [List.length_append, hl9]; rfl, by rw [List.length_append, List.length_singleton, hy9]; omega, rfl⟩
    case hfin =>
      clear F2 N2 hr2
      rintro vs9 news₁ D k h₁ tk₁ ⟨ys9, n9, hlv, hl9, hy9, rfl⟩ F₁ N₁ hne hlt
      refine wpN_any ?_
      k_steps
      refine Held.mk ⟨⟨.machine, .inr (.inl rfl), Looks.of_pure rfl⟩, wpN_any ?_⟩
      (try dsimp only [List.nil_append])
      obtain ⟨ns, hns, hnsl⟩ := hlv.ints
      refine bytes_K F₁ N₁ ⟨_, (N₁ _ (.head _)).1, rfl, _, rfl⟩ hns (fun n hn => ⟨by have := (hnsl n hn).1; omega, by have := (hnsl n hn).2; omega⟩) (by rw [hl9, sizeLine_eq]; omega) rfl fun h₄ t₄ tk₄ F₄ N₄ _ => ?_
      k_steps
      rename Fr _ _ _ _ => F5
      rename News _ _ _ _ => N5
      exact ret _ _ _ _ ys9 n9 (let_bytes hnsl) (by rw [List.length_map, ← hns.length, hl9]) hy9 F5 (fun q hq => N5 q (.tail _ hq))
/- part QA -/
theorem anew_QA {M : Model} {A : Around} {env : Env} {Q : Flow → Shared → Prop} {E : Value → Shared → Prop} {s : Shared} (h : wpAny M A (execs [] env) Q E s) : wpAny M A (execs [] env) Q E s := by
  w_top off
  try (walk1; fail)
  exact h
open Sem (wp)
noncomputable abbrev mapSB (m : Str → Option Value) (so : List UInt8) (ts : Tok) (bl : Nat) : Str → Option Value := fun z => if z = Str.ofString "some" then some (.bytes so.toArray ts) else if z = Str.ofString "both" then some (.ref bl) else m z
set_option linter.unusedVariables false in
theorem law_b3 {w : World} {G h : Heap} {L fa rl sl bl : Nat} {cd : Value} {p : Program} {loose : List Str} {mean : ExcName → Option Value} {mg mb m : Str → Option Value} {gs : Array GenState} {dr : Drawn} {os : OsState} {tk : Nat} {o1 o5 : Obj} {rv sv bv : List Value} {rn sn bn : Nat} {tabs news : List (Addr × Obj)} {R S B : List (List UInt8)} {so : List UInt8} {ts : Tok} {Q : Flow → Shared → Prop}
    (F : Fr G L h (mapSB m so ts bl)) (N : News G L h news) (m1 : (L + 1 + 1 + 1 + 1 + 1 + 1, o1) ∈ news) (m5 : (L + 1 + 1, o5) ∈ news) (mr : (rl, W.listOf rv.toArray rn) ∈ news) (ms : (sl, W.listOf sv.toArray sn) ∈ news) (mb' : (bl, W.listOf bv.toArray bn) ∈ news) (mt : ∀ q ∈ tabs, q ∈ news)
    (k1 : o1.data = .cell (some (.ref sl))) (k5 : o5.data = .cell (some (.ref rl))) (hT : TabF tabs)
    (B' : Below callerA G [] G) (X' : (hd.heap_1 w.params).In G) (T' : Top p loose mean mg mb G)
    (hR : RulesAt rv R) (hR2 : R.length = 2 ∨ R.length = 3) (hRl : ∀ r ∈ R, r.length ≤ 100) (hS : RulesAt sv S) (hS2 : S.length = 2 ∨ S.length = 3) (hSl : ∀ r ∈ S, r.length ≤ 100) (hB : RulesAt bv B) (hB2 : B.length = 2 ∨ B.length = 3) (hBl : ∀ r ∈ B, r.length ≤ 100)
    (hsl : so.length ≤ 100) (hso : ∀ c ∈ so, 97 ≤ c.toNat ∧ c.toNat ≤ 99) (hgl : (grow R so 99).1.length ≤ 100) (hgo : ∀ c ∈ (grow R so 99).1, 97 ≤ c.toNat ∧ c.toNat ≤ 99)
    (heq : (grow S (grow R so 99).1 99).1 = (grow B so 99).1)
    (ret : ∀ (h' : Heap) (tk' : Nat), Fr G L h' (mapSB m so ts bl) → News G L h' news → Q .next ⟨h', gs, dr, tk', os⟩) :
    wpN (model lawProg w) (lawA L fa cd) (exec (restBody.getD 3 (.Pass default)) (lawEnv L fa cd)) Q ⟨h, gs, dr, tk, os⟩ := by
  have C' := codeHdK X'
  have N0 : News G L h ((L + 1 + 1 + 1 + 1 + 1 + 1, o1) :: (L + 1 + 1, o5) :: (rl, W.listOf rv.toArray rn) :: (sl, W.listOf sv.toArray sn) :: (bl, W.listOf bv.toArray bn) :: news) :=
    News.put N m1 (News.put N m5 (News.put N mr (News.put N ms (News.put N mb' N))))
  clear N
  delta lawA lawEnv restBody lawRec recOf
  dsimp only [List.drop, List.getD, List.getElem?_cons_succ, List.getElem?_cons_zero, Option.getD]
  refine wpN_If (wpN_isTrue_Compare1 (wpN_Subscript (wpN_Call_Name (wpN_any ?_))))
  k_steps
  refine wpN_callWith rfl (wpN_evalArgs_some (wpN_spliced_cons (wpN_Subscript (wpN_Call_Name (wpN_any ?_)))))
  k_steps
  refine wpN_callWith rfl (wpN_evalArgs_some (wpN_any ?_))
  k_steps
  rename Fr _ _ _ _ => F3
  rename News _ _ _ _ => N3
  refine Held.mk ⟨keeps_K (by k_is) _ (X'.keeps F3.keep), ?_⟩
  (try dsimp only [List.nil_append, List.cons_append])
  refine' use_grownF (tabs := tabs) hT hR hR2 hRl hsl ?hmost hso B' F3 X' N3 T' ?hk ?hd ?hu ?hm ?ht ?ret
  case hmost => decide
  case hk => exact rfl
  case hd => ktr_room
  case hu => ktr_units
  case hm => exact .tail _ (.tail _ (.head _))
  case ht => exact fun q hq => .tail _ (.tail _ (.tail _ (.tail _ (.tail _ (mt q hq)))))
  case ret =>
    intro a t1 u1 h' tk' F4 N4
    generalize hX1 : (grow R so 99).1 = X1 at *
    refine wpN_any ?_
    k_steps
    refine wpN_any ?_
    k_steps
    rename Fr _ _ _ _ => F5
    rename News _ _ _ _ => N5
    refine Held.mk ⟨keeps_K (by k_is) _ (X'.keeps F5.keep), ?_⟩
    (try dsimp only [List.nil_append, List.cons_append])
    refine' use_grownF (tabs := tabs) hT hS hS2 hSl hgl ?hmost hgo B' F5 X' N5 T' ?hk ?hd ?hu ?hm ?ht ?ret
    case hmost => decide
    case hk => exact rfl
    case hd => ktr_room
    case hu => ktr_units
    case hm => exact .tail _ (.tail _ (.tail _ (.tail _ (.head _))))
    case ht => exact fun q hq => .tail _ (.tail _ (.tail _ (.tail _ (.tail _ (.tail _ (mt q hq))))))
    case ret =>
      intro a2 t2 u2 h2 tk2 F6 N6
      generalize hX2 : (grow S X1 99).1 = X2 at *
      refine wpN_any ?_
      k_steps
      refine wpN_Subscript (wpN_Call_Name (wpN_any ?_))
      k_steps
      refine wpN_callWith rfl (wpN_evalArgs_some (wpN_any ?_))
      k_steps
      rename Fr _ _ _ _ => F7
      rename News _ _ _ _ => N7
      refine Held.mk ⟨keeps_K (by k_is) _ (X'.keeps F7.keep), ?_⟩
      (try dsimp only [List.nil_append, List.cons_append])
      refine' use_grownF (tabs := tabs) hT hB hB2 hBl hsl ?hmost hso B' F7 X' N7 T' ?hk ?hd ?hu ?hm ?ht ?ret
      case hmost => decide
      case hk => exact rfl
      case hd => ktr_room
      case hu => ktr_units
      case hm => exact .tail _ (.tail _ (.tail _ (.tail _ (.tail _ (.tail _ (.head _))))))
      case ht => exact fun q hq => .tail _ (.tail _ (.tail _ (.tail _ (.tail _ (.tail _ (.tail _ (mt q hq)))))))
      case ret =>
        intro a3 t3 u3 h3 tk3 F8 N8
        rw [← heq] at N8
        refine wpN_any ?_
        k_steps
        refine wpN_any ?_
        k_steps
        rw [ne_self]
        refine wpN_any ?_
        k_steps
        exact wpN_execs_nil (ret _ _ F8 (fun q hq => N8 q (.tail _ (.tail _ (.tail _ (.tail _ (.tail _ (.tail _ (.tail _ (.tail _ hq))))))))))
/- part QB -/
theorem anew_QB {M : Model} {A : Around} {env : Env} {Q : Flow → Shared → Prop} {E : Value → Shared → Prop} {s : Shared} (h : wpAny M A (execs [] env) Q E s) : wpAny M A (execs [] env) Q E s := by
  w_top off
  try (walk1; fail)
  exact h
open Sem (wp)
set_option linter.unusedVariables false in
theorem law_b4 {w : World} {G h : Heap} {L fa dl d0 d1 : Nat} {cd : Value} {p : Program} {loose : List Str} {mean : ExcName → Option Value} {mg mb m : Str → Option Value} {gs : Array GenState} {dr : Drawn} {os : OsState} {tk : Nat} {o6 : Obj} {xs ys : List Value} {nl n0 n1 : Nat} {news : List (Addr × Obj)} {Q : Flow → Shared → Prop}
    (F : Fr G L h m) (N : News G L h ((d1, W.listOf ys.toArray n1) :: news)) (hd1 : ∀ q ∈ news, q.1 ≠ d1) (m6 : (L + 1, o6) ∈ news) (ml : (dl, W.listOf [.ref d0, .ref d1].toArray nl) ∈ news) (m0 : (d0, W.listOf xs.toArray n0) ∈ news)
    (k6 : o6.data = .cell (some (.ref dl)))
    (B' : Below callerA G [] G) (X' : (hd.heap_1 w.params).In G) (T' : Top p loose mean mg mb G)
    (hy : ys.length ≤ 60) (hxl : xs.length ≤ 100) (e01 : d0 ≠ d1) (el0 : dl ≠ d0) (el1 : dl ≠ d1) (hints : ∀ i, i < xs.length → ∃ k u, xs[i]? = some (.int k u))
    (ret : ∀ (h' : Heap) (tk' : Nat) (t : Tok) (mv : Nat), mv < 5 → Fr G L h' (fun z => if z = Str.ofString "most" then some (.int mv t) else m z) → News G L h' news → Q .next ⟨h', gs, dr, tk', os⟩) :
    wpN (model lawProg w) (lawA L fa cd) (exec (restBody.getD 4 (.Pass default)) (lawEnv L fa cd)) Q ⟨h, gs, dr, tk, os⟩ := by
  have C' := codeHdK X'
  have U9 : UpdF d1 (W.listOf ys.toArray n1) ((L + 1, o6) :: (dl, W.listOf [.ref d0, .ref d1].toArray nl) :: (d0, W.listOf xs.toArray n0) :: (d1, W.listOf ys.toArray n1) :: news) (fun o' => (L + 1, o6) :: (dl, W.listOf [.ref d0, .ref d1].toArray nl) :: (d0, W.listOf xs.toArray n0) :: (d1, o') :: news) :=
    UpdF.tail (p := (L + 1, o6)) (hd1 _ m6) (UpdF.tail (p := (dl, W.listOf [.ref d0, .ref d1].toArray nl)) el1 (UpdF.tail (p := (d0, W.listOf xs.toArray n0)) e01 (UpdF.head hd1)))
  have N₂ : News G L h ((L + 1, o6) :: (dl, W.listOf [.ref d0, .ref d1].toArray nl) :: (d0, W.listOf xs.toArray n0) :: (d1, W.listOf ys.toArray n1) :: news) :=
    News.put N (.tail _ m6) (News.put N (.tail _ ml) (News.put N (.tail _ m0) N))
  clear N
  have hb9 : ys.length ≤ 100 := by omega
  delta lawA lawEnv restBody lawRec recOf
  dsimp only [List.drop, List.getD, List.getElem?_cons_succ, List.getElem?_cons_zero, Option.getD]
  refine wpN_any ?_
  k_steps
  rename Fr _ _ _ _ => F8
  rename News _ _ _ _ => N8
  rename (_ : Int) < 5 => hlt3
  rename 0 ≤ (_ : Int) => hge3
  obtain ⟨kv, rfl⟩ := Int.eq_ofNat_of_zero_le hge3
  exact ret _ _ _ kv (by omega) F8 (fun q hq => N8 q (.tail _ (.tail _ (.tail _ (.tail _ hq)))))
/- part QC -/
theorem anew_QC {M : Model} {A : Around} {env : Env} {Q : Flow → Shared → Prop} {E : Value → Shared → Prop} {s : Shared} (h : wpAny M A (execs [] env) Q E s) : wpAny M A (execs [] env) Q E s := by
  w_top off
  try (walk1; fail)
  exact h
open Sem (wp)
noncomputable abbrev mapM (m : Str → Option Value) (mv : Nat) (tm : Tok) : Str → Option Value := fun z => if z = Str.ofString "most" then some (.int mv tm) else m z
noncomputable abbrev mapU (m : Str → Option Value) (ul : Nat) : Str → Option Value := fun z => if z = Str.ofString "ruled" then some (.ref ul) else m z
noncomputable abbrev mapC (m : Str → Option Value) (cu : Nat) (tc : Tok) : Str → Option Value := fun z => if z = Str.ofString "cut_at" then some (.int cu tc) else m z
noncomputable def NatsVal (vs : List Value) (P : List Nat) : Prop := IntsVal vs (P.map fun n => ((n : Nat) : Int))
theorem NatsVal.len {vs : List Value} {P : List Nat} (h : NatsVal vs P) : vs.length = P.length := by rw [h.1, List.length_map]
theorem NatsVal.at {vs : List Value} {P : List Nat} {k : Nat} (h : NatsVal vs P) (hk : k < P.length) : ∃ t, vs[((k : Nat) : Int).toNat]? = some (.int ((P.getD k 0 : Nat) : Int) t) := by
  obtain ⟨t, e⟩ := IntsVal.at h (k := k) (by rw [List.length_map]; exact hk)
  refine ⟨t, ?_⟩
  rw [e]
  congr 2
  simp [List.getD, List.getElem?_eq_getElem hk]
set_option linter.unusedVariables false in
theorem law_b6 {w : World} {G h : Heap} {L fa bl ul : Nat} {cd : Value} {p : Program} {loose : List Str} {mean : ExcName → Option Value} {mg mb m : Str → Option Value} {gs : Array GenState} {dr : Drawn} {os : OsState} {tk : Nat} {uv : List Value} {un mv : Nat} {P : List Nat} {so : List UInt8} {ts tm : Tok} {rest : List (Addr × Obj)} {Q : Flow → Shared → Prop}
    (F : Fr G L h (mapU (mapM (mapSB m so ts bl) mv tm) ul)) (N : News G L h ((ul, W.listOf uv.toArray un) :: rest)) (hu : NatsVal uv P) (hP : P.length ≤ 1000) (hso : so.length ≤ 1000) (hmv : mv ≤ 1000)
    (B' : Below callerA G [] G) (X' : (hd.heap_1 w.params).In G) (T' : Top p loose mean mg mb G)
    (ret : ∀ (h' : Heap) (tk' : Nat) (t : Tok), Fr G L h' (mapC (mapU (mapM (mapSB m so ts bl) mv tm) ul) (if mv < P.length then P.getD mv 0 else so.length) t) → News G L h' ((ul, W.listOf uv.toArray un) :: rest) → Q .next ⟨h', gs, dr, tk', os⟩) :
    wpN (model lawProg w) (lawA L fa cd) (exec (restBody.getD 6 (.Pass default)) (lawEnv L fa cd)) Q ⟨h, gs, dr, tk, os⟩ := by
  have C' := codeHdK X'
  have hul := hu.len
  delta lawA lawEnv restBody lawRec recOf
  dsimp only [List.drop, List.getElem?_cons_succ, List.getElem?_cons_zero, Option.getD]
  show wpN _ _ (exec (Stmt.Assign _ _ _) _) _ _
  by_cases hlt : mv < P.length
  · rw [if_pos hlt] at ret
    obtain ⟨tx, hx⟩ := hu.at hlt
    refine wpN_any ?_
    k_steps
    all_goals first
      | (exfalso; omega)
      | (rename Fr _ _ _ _ => F8; rename News _ _ _ _ => N8; exact ret _ _ _ F8 N8)
  · rw [if_neg hlt] at ret
    refine wpN_any ?_
    k_steps
    all_goals first
      | (exfalso; omega)
      | (rename Fr _ _ _ _ => F8; rename News _ _ _ _ => N8; exact ret _ _ _ F8 N8)
/- part QD -/
theorem anew_QD {M : Model} {A : Around} {env : Env} {Q : Flow → Shared → Prop} {E : Value → Shared → Prop} {s : Shared} (h : wpAny M A (execs [] env) Q E s) : wpAny M A (execs [] env) Q E s := by
  w_top off
  try (walk1; fail)
  exact h
open Sem (wp)
noncomputable abbrev mapF (m : Str → Option Value) (a : Nat) : Str → Option Value := fun z => if z = Str.ofString "first" then some (.ref a) else m z
set_option linter.unusedVariables false in
theorem law_b7 {w : World} {G h : Heap} {L fa rl bl ul cu : Nat} {cd : Value} {p : Program} {loose : List Str} {mean : ExcName → Option Value} {mg mb m : Str → Option Value} {gs : Array GenState} {dr : Drawn} {os : OsState} {tk : Nat} {o5 : Obj} {rv : List Value} {rn mv : Nat} {so : List UInt8} {ts tm tc : Tok} {tabs news : List (Addr × Obj)} {R : List (List UInt8)} {Q : Flow → Shared → Prop}
    (F : Fr G L h (mapC (mapU (mapM (mapSB m so ts bl) mv tm) ul) cu tc)) (N : News G L h news) (m5 : (L + 1 + 1, o5) ∈ news) (mr : (rl, W.listOf rv.toArray rn) ∈ news) (mt : ∀ q ∈ tabs, q ∈ news)
    (k5 : o5.data = .cell (some (.ref rl))) (hT : TabF tabs)
    (B' : Below callerA G [] G) (X' : (hd.heap_1 w.params).In G) (T' : Top p loose mean mg mb G)
    (hR : RulesAt rv R) (hR2 : R.length = 2 ∨ R.length = 3) (hRl : ∀ r ∈ R, r.length ≤ 100) (hsl : so.length ≤ 100) (hso : ∀ c ∈ so, 97 ≤ c.toNat ∧ c.toNat ≤ 99)
    (ret : ∀ (h' : Heap) (tk' a : Nat) (t u : Tok), Fr G L h' (mapF (mapC (mapU (mapM (mapSB m so ts bl) mv tm) ul) cu tc) a) → News G L h' ((a, pairObj (grow R (so.take cu) 99).1 t (grow R (so.take cu) 99).2 u) :: news) → Q .next ⟨h', gs, dr, tk', os⟩) :
    wpN (model lawProg w) (lawA L fa cd) (exec (restBody.getD 7 (.Pass default)) (lawEnv L fa cd)) Q ⟨h, gs, dr, tk, os⟩ := by
  have C' := codeHdK X'
  have N0 : News G L h ((L + 1 + 1, o5) :: (rl, W.listOf rv.toArray rn) :: news) := News.put N m5 (News.put N mr N)
  clear N
  delta lawA lawEnv restBody lawRec recOf
  dsimp only [List.drop, List.getD, List.getElem?_cons_succ, List.getElem?_cons_zero, Option.getD]
  refine wpN_Assign_Name (wpN_Call_Name (wpN_any ?_))
  k_steps
  refine wpN_callWith rfl (wpN_evalArgs_some (wpN_any ?_))
  k_steps
  rename Fr _ _ _ _ => F3
  rename News _ _ _ _ => N3
  refine Held.mk ⟨keeps_K (by k_is) _ (X'.keeps F3.keep), ?_⟩
  (try dsimp only [List.nil_append, List.cons_append])
  rw [bcut_upto]
  refine' use_grownF (tabs := tabs) hT hR hR2 hRl ?hfit ?hmost ?hlet B' F3 X' N3 T' ?hk ?hd ?hu ?hm ?ht ?ret
  case hfit => rw [List.length_take]; omega
  case hlet => exact fun c hc => hso c (List.mem_of_mem_take hc)
  case hmost => decide
  case hk => exact rfl
  case hd => ktr_room
  case hu => ktr_units
  case hm => exact .tail _ (.head _)
  case ht => exact fun q hq => .tail _ (.tail _ (mt q hq))
  case ret =>
    intro a t1 u1 h' tk' F4 N4
    k_steps
    rename Fr _ _ _ _ => F5
    rename News _ _ _ _ => N5
    exact ret _ _ a t1 u1 F5 (News.put N5 (.head _) (fun q hq => N5 q (.tail _ (.tail _ (.tail _ hq)))))
set_option linter.unusedVariables false in
theorem law_b8 {w : World} {G h : Heap} {L fa rl bl ul cu fa1 M1 : Nat} {cd : Value} {p : Program} {loose : List Str} {mean : ExcName → Option Value} {mg mb m : Str → Option Value} {gs : Array GenState} {dr : Drawn} {os : OsState} {tk : Nat} {o5 : Obj} {rv : List Value} {rn mv : Nat} {so X1 : List UInt8} {ts tm tc t1 u1 : Tok} {tabs news : List (Addr × Obj)} {R : List (List UInt8)} {Q : Flow → Shared → Prop}
    (F : Fr G L h (mapF (mapC (mapU (mapM (mapSB m so ts bl) mv tm) ul) cu tc) fa1)) (N : News G L h ((fa1, pairObj X1 t1 M1 u1) :: news)) (m5 : (L + 1 + 1, o5) ∈ news) (mr : (rl, W.listOf rv.toArray rn) ∈ news) (mt : ∀ q ∈ tabs, q ∈ news)
    (k5 : o5.data = .cell (some (.ref rl))) (hT : TabF tabs)
    (B' : Below callerA G [] G) (X' : (hd.heap_1 w.params).In G) (T' : Top p loose mean mg mb G)
    (hR : RulesAt rv R) (hR2 : R.length = 2 ∨ R.length = 3) (hRl : ∀ r ∈ R, r.length ≤ 100) (hsl : so.length ≤ 100) (hso : ∀ c ∈ so, 97 ≤ c.toNat ∧ c.toNat ≤ 99) (hmv : mv ≤ 99) (hX1 : X1.length ≤ 1000)
    (heq : grow R so mv = (X1 ++ so.drop cu, M1))
    (ret : ∀ (h' : Heap) (tk' : Nat) (m : Str → Option Value) (led : List (Addr × Obj)), Fr G L h' m → News G L h' led → (∀ q ∈ news, q ∈ led) → Q (.ret (.bool true)) ⟨h', gs, dr, tk', os⟩) :
    wpN (model lawProg w) (lawA L fa cd) (exec (restBody.getD 8 (.Pass default)) (lawEnv L fa cd)) Q ⟨h, gs, dr, tk, os⟩ := by
  have C' := codeHdK X'
  have N0 : News G L h ((L + 1 + 1, o5) :: (rl, W.listOf rv.toArray rn) :: (fa1, pairObj X1 t1 M1 u1) :: news) := News.put N (.tail _ m5) (News.put N (.tail _ mr) N)
  clear N
  delta lawA lawEnv restBody lawRec recOf
  dsimp only [List.drop, List.getD, List.getElem?_cons_succ, List.getElem?_cons_zero, Option.getD]
  refine wpN_Return_some (wpN_Compare1 (wpN_Call_Name (wpN_any ?_)))
  k_steps
  refine wpN_callWith rfl (wpN_evalArgs_some (wpN_any ?_))
  k_steps
  rename Fr _ _ _ _ => F3
  rename News _ _ _ _ => N3
  refine Held.mk ⟨keeps_K (by k_is) _ (X'.keeps F3.keep), ?_⟩
  (try dsimp only [List.nil_append, List.cons_append])
  refine' use_grownF (tabs := tabs) hT hR hR2 hRl hsl hmv hso B' F3 X' N3 T' ?hk ?hd ?hu ?hm ?ht ?ret
  case hk => exact rfl
  case hd => ktr_room
  case hu => ktr_units
  case hm => exact .tail _ (.head _)
  case ht => exact fun q hq => .tail _ (.tail _ (.tail _ (mt q hq)))
  case ret =>
    intro a t2 u2 h' tk' F4 N4
    rw [heq] at N4
    refine wpN_any ?_
    k_steps
    rw [bcut_from]
    refine bytes_add_K (d := X1 ++ so.drop cu) (by rw [List.size_toArray, List.size_toArray, List.length_drop]; omega) rfl fun t9 k9 => ?_
    k_steps
    rename Fr _ _ _ _ => F5
    rename News _ _ _ _ => N5
    refine wpN_any (SeqAt.eq_tupleAt (e := fun _ => true) ⟨_, (N5 _ (.tail _ (.head _))).1, rfl, _, rfl⟩ ⟨_, (N5 _ (.head _)).1, rfl, _, rfl⟩ (by first | (show (4 : Nat) < cLine; decide) | ktr_units) ?he ?hq)
    case he =>
      intro j h1 h2
      match j, h1 with
      | 0, _ => exact fun prog w E Q hq => eqBool_bytes (by rw [decide_eq_true rfl]; exact hq)
      | 1, _ => exact fun prog w E Q hq => wpAny_eqBool_int (by rw [beq_self_eq_true]; exact hq)
    case hq => exact ret _ _ _ _ F5 N5 (fun q hq => .tail _ (.tail _ (.tail _ (.tail _ (.tail _ hq)))))
/- part EB -/
theorem anew_EB {M : Model} {A : Around} {env : Env} {Q : Flow → Shared → Prop} {E : Value → Shared → Prop} {s : Shared} (h : wpAny M A (execs [] env) Q E s) : wpAny M A (execs [] env) Q E s := by
  w_top off
  try (walk1; fail)
  exact h
section
variable {prog : Program} {w : World} {A : Around} {E : Value → Shared → Prop} {s : Shared} {b : Array UInt8} {t : Tok}
theorem nextOf_bytes {it : Addr} {i : Nat} {c : UInt8} {Q : Value → Shared → Prop} (hit : KBw.IsBytesIter s.heap it b t i) (hx : b[i]? = some c)
    (hQ : ∀ h', KBw.IsBytesIter h' it b t (i + 1) → Heap.SameBut it s.heap h' → Q (.int (c.toNat : Int) s.toks) { s with heap := h', toks := s.toks + 1 }) : wpAny (model prog w) A (Builtin.SmallTypes.nextOf (.ref it)) Q E s := by
  obtain ⟨o, ho, hc, hd⟩ := id hit
  unfold Builtin.SmallTypes.nextOf
  refine wpAny_bind (wpAny_callSpecial?_slot (name := PySem.Str.ofString "__next__") (KBw.iter_typeIs hit) KBw.slot_next
    (wpAny_call_entry KBw.slot_next (KBw.iter_typeIs hit) KBw.entry_next ?_ (KBw.args_next _)))
  show wpAny _ _ (field (.ref it) 0 >>= _) _ _ s
  refine wpAny_bind (wpAny_field ho hd (x := .bytes b t) rfl ?_)
  refine bm_if_false rfl ?_
  refine wpAny_bind (wpAny_field ho hd (x := .int i 0) rfl ?_)
  refine wpAny_bind (wpAny_of_eq (a := b) rfl ?_)
  simp only [Int.toNat_natCast, hx]
  refine wpAny_bind (wpAny_setField ho hd (by simp) (wpAny_bind (wpAny_mkInt (wpAny_pure ⟨_, rfl, wpAny_pure (hQ _ ?_ (Heap.SameBut.update ..))⟩))))
  exact ⟨_, Heap.get?_update_self _ ho (Obj.isFreed_of_fields (Obj.data_mapFields hd _)), (Obj.cls_mapFields ..).trans hc, by rw [Obj.data_mapFields hd]; simp [rawInt]⟩
theorem nextOf_bytes_end {it : Addr} {i : Nat} {Q : Value → Shared → Prop} (hh : A.handled = none) (hit : KBw.IsBytesIter s.heap it b t i) (hx : b[i]? = none)
    (hE : ∀ h' e, Heap.ExtBut it s.heap h' → (∃ o, h'.get? e = some o ∧ o.cls = .type "StopIteration") → E (.ref e) { s with heap := h' }) : wpAny (model prog w) A (Builtin.SmallTypes.nextOf (.ref it)) Q E s := by
  obtain ⟨o, ho, hc, hd⟩ := id hit
  unfold Builtin.SmallTypes.nextOf
  refine wpAny_bind (wpAny_callSpecial?_slot (name := PySem.Str.ofString "__next__") (KBw.iter_typeIs hit) KBw.slot_next
    (wpAny_call_entry KBw.slot_next (KBw.iter_typeIs hit) KBw.entry_next ?_ (KBw.args_next _)))
  show wpAny _ _ (field (.ref it) 0 >>= _) _ _ s
  refine wpAny_bind (wpAny_field ho hd (x := .bytes b t) rfl ?_)
  refine bm_if_false rfl ?_
  refine wpAny_bind (wpAny_field ho hd (x := .int i 0) rfl ?_)
  refine wpAny_bind (wpAny_of_eq (a := b) rfl ?_)
  simp only [Int.toNat_natCast, hx]
  refine wpAny_bind (wpAny_rule (wpAny_bind (wpAny_setField ho hd (by simp) ?_)))
  show wpAny _ _ (newExc (.type "StopIteration") [] >>= _) _ _ _
  refine wpAny_bind ?_
  simp only [newExc, newTuple]
  refine wpAny_bind (wpAny_newObj_type ?_ (by size_fits))
  refine wpAny_bind (m := firstArgMember _ _) (wpAny_of_eq (a := Value.none) (by first | rfl | (simp only [firstArgMember]; rfl)) ?_)
  refine wpAny_newObj_type ?_ (by size_fits)
  simp only [raiseNew]
  refine wpAny_bind (wpAny_handled ?_)
  first | rw [show A.in1.handled = none from hh] | rw [hh]
  refine wpAny_bind (wpAny_pure (wpAny_throw ?_))
  exact hE _ _ (((Heap.SameBut.update ..).extBut.push _).push _) ⟨_, Heap.get?_push_size _ rfl, rfl⟩
theorem bIter_off {h h' : Heap} {it e : Addr} {i : Nat} (x : KBw.IsBytesIter h it b t i) (hs : Heap.SameBut e h h') (hne : e ≠ it) : KBw.IsBytesIter h' it b t i := let ⟨o, ho, r⟩ := x; ⟨o, (hs.2 it (Ne.symm hne)).trans ho, r⟩
theorem enumB_item {e it : Addr} {i : Nat} {c : UInt8} {old : Value} {Q : Value → Shared → Prop}
    (he : IsEnum s.heap e it i old) (hit : KBw.IsBytesIter s.heap it b t i) (hx : b[i]? = some c) (hne : e ≠ it)
    (hQ : ∀ h' tk tj tv, IsEnumOut h' e it ((i : Int) + 1) (.int c.toNat tv) s.heap.objs.size → KBw.IsBytesIter h' it b t (i + 1) →
      h'.get? s.heap.objs.size = some { cls := .type "tuple", data := .seq #[.int i tj, .int c.toNat tv] } → (∀ z o, z ≠ e → z ≠ it → s.heap.get? z = some o → h'.get? z = some o) → Q (.ref s.heap.objs.size) { s with heap := h', toks := tk }) :
    wpAny (model prog w) A (Builtin.«enumerate.__next__» ⟨[.ref e], []⟩) (fun fin s' => ∃ v, fin = .done (.ret v) ∧ Q v s') E s := by
  show wpAny _ _ (field (.ref e) 2 >>= _) _ _ _
  refine wpAny_bind (wpAny_field he rfl (x := .ref it) rfl ?_)
  refine wpAny_bind (nextOf_bytes hit hx fun h₁ hit₁ hs₁ => ?_)
  have he₁ : IsEnum h₁ e it i old := (hs₁.2 e hne).trans he
  generalize s.toks = tv at *
  show wpAny _ _ (field (.ref e) 3 >>= _) _ _ _
  refine wpAny_bind (wpAny_field he₁ rfl (x := rawInt i) rfl ?_)
  show wpAny _ _ (field (.ref e) 4 >>= _) _ _ _
  refine wpAny_bind (wpAny_field he₁ rfl (x := .none) rfl ?_)
  show wpAny _ _ (mkInt i >>= _) _ _ _
  refine wpAny_bind (wpAny_mkInt ?_)
  show wpAny _ _ (setField (.ref e) 3 (rawInt ((i : Int) + 1)) >>= _) _ _ _
  refine wpAny_bind (wpAny_setField_rec he₁ (by simp) fun h₂ he₂ hs₂ => ?_)
  replace he₂ : IsEnum h₂ e it ((i : Int) + 1) old := he₂
  show wpAny _ _ (setField (.ref e) 4 .none >>= _) _ _ _
  refine wpAny_bind (wpAny_setField_rec he₂ (by simp) fun h₃ he₃ hs₃ => ?_)
  replace he₃ : IsEnum h₃ e it ((i : Int) + 1) old := he₃
  replace hs₁ : Heap.SameBut it s.heap h₁ := hs₁
  replace hs₂ : Heap.SameBut e h₁ h₂ := hs₂
  replace hs₃ : Heap.SameBut e h₂ h₃ := hs₃
  have hsz : h₃.objs.size = s.heap.objs.size := by rw [hs₃.1, hs₂.1, hs₁.1]
  have hel : e < s.heap.objs.size := Heap.lt_size he
  refine wpAny_bind (wpAny_newTuple ?_)
  rw [show ({ s with heap := h₃, toks := tv + 1 + 1 } : Shared).heap.objs.size = s.heap.objs.size from hsz]
  generalize tv + 1 = tj
  have he₄ : IsEnum (h₃.push { cls := .type "tuple", data := .seq #[.int i tj, .int c.toNat tv] }) e it ((i : Int) + 1) old := Heap.get?_push_of_some _ he₃
  have ht₄ : (h₃.push { cls := .type "tuple", data := .seq #[.int i tj, .int c.toNat tv] }).get? s.heap.objs.size = some { cls := .type "tuple", data := .seq #[.int i tj, .int c.toNat tv] } := by rw [← hsz]; exact Heap.get?_push_size _ rfl
  have hk₄ : ∀ z o, z ≠ e → z ≠ it → s.heap.get? z = some o → (h₃.push { cls := .type "tuple", data := .seq #[.int i tj, .int c.toNat tv] }).get? z = some o := fun z o hze hzi hz =>
    Heap.get?_push_of_some _ (hs₃.extBut z o hze (hs₂.extBut z o hze (hs₁.extBut z o hzi hz)))
  have hit₄ : KBw.IsBytesIter (h₃.push { cls := .type "tuple", data := .seq #[.int i tj, .int c.toNat tv] }) it b t (i + 1) := by
    obtain ⟨o, ho, r⟩ := bIter_off (bIter_off hit₁ hs₂ hne) hs₃ hne
    exact ⟨o, Heap.get?_push_of_some _ ho, r⟩
  generalize (h₃.push { cls := .type "tuple", data := .seq #[.int i tj, .int c.toNat tv] }) = h₄ at he₄ ht₄ hk₄ hit₄ ⊢
  clear he₃ hs₃ he₂ hs₂ he₁ hs₁ hit₁ hsz
  show wpAny _ _ (Builtin.SmallTypes.ownedTupleIsFree (.ref e) >>= _) _ _ _
  refine wpAny_bind ?_
  unfold Builtin.SmallTypes.ownedTupleIsFree
  refine wpAny_bind (wpAny_field he₄ rfl (x := .none) rfl (wpAny_pure ?_))
  simp only [if_true]
  refine wpAny_bind (wpAny_rule ?_)
  refine wpAny_bind (wpAny_field he₄ rfl (x := old) rfl ?_)
  refine wpAny_bind (wpAny_setField_rec he₄ (by simp) fun h₅ he₅ hs₅ => ?_)
  replace hs₅ : Heap.SameBut e h₄ h₅ := hs₅
  replace he₅ : IsEnum h₅ e it ((i : Int) + 1) (.int c.toNat tv) := he₅
  show wpAny _ _ (Builtin.SmallTypes.ownedTupleHandOut (.ref e) (.ref s.heap.objs.size) >>= _) _ _ _
  refine wpAny_bind ?_
  unfold Builtin.SmallTypes.ownedTupleHandOut
  refine wpAny_bind (wpAny_setField_rec he₅ (by simp) fun h₆ he₆ hs₆ => ?_)
  replace hs₆ : Heap.SameBut e h₅ h₆ := hs₆
  replace he₆ : IsEnumOut h₆ e it ((i : Int) + 1) (.int c.toNat tv) s.heap.objs.size := he₆
  refine wpAny_setField_rec he₆ (by simp) fun h₇ he₇ hs₇ => ?_
  replace hs₇ : Heap.SameBut e h₆ h₇ := hs₇
  replace he₇ : IsEnumOut h₇ e it ((i : Int) + 1) (.int c.toNat tv) s.heap.objs.size := he₇
  refine wpAny_bind (wpAny_letGo (wpAny_pure ⟨_, rfl, hQ h₇ _ tj tv he₇ ?_ ?_ ?_⟩))
  · exact bIter_off (bIter_off (bIter_off hit₄ hs₅ hne) hs₆ hne) hs₇ hne
  · exact hs₇.extBut _ _ (Nat.ne_of_gt hel) (hs₆.extBut _ _ (Nat.ne_of_gt hel) (hs₅.extBut _ _ (Nat.ne_of_gt hel) ht₄))
  · exact fun z o hze hzi hz => hs₇.extBut z o hze (hs₆.extBut z o hze (hs₅.extBut z o hze (hk₄ z o hze hzi hz)))
theorem enumB_next {e it : Addr} {i : Nat} {c : UInt8} {old : Value} {Q : Option Value → Shared → Prop}
    (he : IsEnum s.heap e it i old) (hit : KBw.IsBytesIter s.heap it b t i) (hx : b[i]? = some c) (hne : e ≠ it)
    (hQ : ∀ h' tk tj tv, IsEnumOut h' e it ((i : Int) + 1) (.int c.toNat tv) s.heap.objs.size → KBw.IsBytesIter h' it b t (i + 1) →
      h'.get? s.heap.objs.size = some { cls := .type "tuple", data := .seq #[.int i tj, .int c.toNat tv] } → (∀ z o, z ≠ e → z ≠ it → s.heap.get? z = some o → h'.get? z = some o) → Q (some (.ref s.heap.objs.size)) { s with heap := h', toks := tk }) :
    wpAny (model prog w) A (pyNext (.ref e)) Q E s := by
  have hT : s.TypeIs (.ref e) "enumerate" := ⟨_, he, rfl⟩
  unfold pyNext
  exact wpAny_bind (wpAny_attempt (wpAny_callSpecial?_slot (name := Str.ofString "__next__") hT PySem.F.slot_enumerate_next
    (wpAny_call_entry PySem.F.slot_enumerate_next hT PySem.F.entry_enumerate_next
      (enumB_item he hit hx hne fun h' tk tj tv a1 a2 a3 k => wpAny_pure (hQ h' tk tj tv a1 a2 a3 k)) (PySem.F.args_enumerate_next_1 _))))
theorem enumB_end {e it : Addr} {i : Nat} {old : Value} {Q : Option Value → Shared → Prop} (hh : A.handled = none)
    (he : IsEnum s.heap e it i old) (hit : KBw.IsBytesIter s.heap it b t i) (hx : b[i]? = none)
    (hQ : ∀ h', Heap.ExtBut it s.heap h' → Q none { s with heap := h' }) : wpAny (model prog w) A (pyNext (.ref e)) Q E s := by
  have hT : s.TypeIs (.ref e) "enumerate" := ⟨_, he, rfl⟩
  unfold pyNext
  refine wpAny_bind (wpAny_attempt (wpAny_callSpecial?_slot (name := Str.ofString "__next__") hT PySem.F.slot_enumerate_next
    (wpAny_call_entry PySem.F.slot_enumerate_next hT PySem.F.entry_enumerate_next ?_ (PySem.F.args_enumerate_next_1 _))))
  show wpAny _ _ (field (.ref e) 2 >>= _) _ _ _
  refine wpAny_bind (wpAny_field he rfl (x := .ref it) rfl ?_)
  refine wpAny_bind (nextOf_bytes_end hh hit hx fun h' x he' hx' => ?_)
  obtain ⟨o, ho, hc⟩ := hx'
  refine wpAny_bind (wpAny_isInstance (T := "StopIteration") (b := true) ⟨o, ho, hc⟩ isSubtype_stop ?_)
  exact wpAny_pure (hQ _ he')
end
/- part EC -/
theorem anew_EC {M : Model} {A : Around} {env : Env} {Q : Flow → Shared → Prop} {E : Value → Shared → Prop} {s : Shared} (h : wpAny M A (execs [] env) Q E s) : wpAny M A (execs [] env) Q E s := by
  w_top off
  try (walk1; fail)
  exact h
set_option maxHeartbeats 4000000 in
theorem meets_enumB (b : Array UInt8) (t : Tok) :
    Meets (Builtin.«enumerate.__new__» ⟨[.type "enumerate", .bytes b t], []⟩) (fun _ R s =>
      R (.ok (.ret (.ref (s.heap.push { cls := .type "bytes_iterator", data := .fields #[.bytes b t, .int 0 0] }).objs.size)))
        { s with heap := (s.heap.push { cls := .type "bytes_iterator", data := .fields #[.bytes b t, .int 0 0] }).push { cls := .type "enumerate", data := .fields #[.none, .bool false, .ref s.heap.objs.size, rawInt 0, .none, .none] } }) :=
  .of_wp fun prog w A R s h => by
    obtain ⟨hp, g, d, tk, os⟩ := s
    have hsub := sub_enumerate
    wp_walk
    refine wpAny_stack_any fun st => wpAny_pure ?_
    split
    · rename_i c _ _ _ _ _
      cases (c == Value.type "enumerate")
      · wp_walk using KBw.pyIter_bytes
        exact ⟨_, rfl, h⟩
      · wp_walk using KBw.pyIter_bytes
        exact ⟨_, rfl, h⟩
    · wp_walk using KBw.pyIter_bytes
      exact ⟨_, rfl, h⟩
section
variable {prog : Program} {w : World} {A : Around} {E : Value → Shared → Prop} {s : Shared} {b : Array UInt8} {t : Tok}
theorem call_enumB {Q : Value → Shared → Prop}
    (h : ∀ h', IsEnum h' (s.heap.objs.size + 1) s.heap.objs.size 0 .none → KBw.IsBytesIter h' s.heap.objs.size b t 0 → h'.objs.size = s.heap.objs.size + 2 →
      (∀ z o, s.heap.get? z = some o → h'.get? z = some o) → Q (.ref (s.heap.objs.size + 1)) { s with heap := h' }) :
    wpAny (model prog w) A (call (.type "enumerate") [.bytes b t]) Q E s := by
  refine callType_new PySem.F.called_enumerate (by decide) (PySem.F.typeCall_enumerate_1 _) (PySem.F.newCall_enumerate_1 _) (fun obj => PySem.F.args_object_init_2 obj _) PySem.F.entry_enumerate_new (meets_enumB b t) ?_
  have hz : (s.heap.push { cls := .type "bytes_iterator", data := .fields #[.bytes b t, .int 0 0] }).objs.size = s.heap.objs.size + 1 := Heap.size_push ..
  show _ ∧ _
  rw [hz]
  have he : IsEnum ((s.heap.push { cls := .type "bytes_iterator", data := .fields #[.bytes b t, .int 0 0] }).push
      { cls := .type "enumerate", data := .fields #[.none, .bool false, .ref s.heap.objs.size, rawInt 0, .none, .none] }) (s.heap.objs.size + 1) s.heap.objs.size 0 .none := by
    have := Heap.get?_push_size (s.heap.push { cls := .type "bytes_iterator", data := .fields #[.bytes b t, .int 0 0] })
      (o := { cls := .type "enumerate", data := .fields #[.none, .bool false, .ref s.heap.objs.size, rawInt 0, .none, .none] }) rfl
    rw [hz] at this; exact this
  exact ⟨⟨_, he, rfl⟩, h _ he ⟨_, Heap.get?_push_of_some _ (Heap.get?_push_size _ rfl), rfl, rfl⟩ (by rw [Heap.size_push, hz]) fun z o y => Heap.get?_push_of_some _ (Heap.get?_push_of_some _ y)⟩
end
/- part EF -/
theorem anew_EF {M : Model} {A : Around} {env : Env} {Q : Flow → Shared → Prop} {E : Value → Shared → Prop} {s : Shared} (h : wpAny M A (execs [] env) Q E s) : wpAny M A (execs [] env) Q E s := by
  w_top off
  try (walk1; fail)
  exact h
open Sem (wp)
noncomputable def posB (n : Nat) (l : List UInt8) (i : Nat) : List Nat := (List.range i).filter fun k => decide ((l.getD k 0).toNat < 97 + n)
theorem posB_yes {n i : Nat} {l : List UInt8} (h : (l.getD i 0).toNat < 97 + n) : posB n l (i + 1) = posB n l i ++ [i] := by
  unfold posB
  rw [List.range_succ, List.filter_append, List.filter_cons_of_pos (by exact decide_eq_true h)]
  rfl
theorem posB_no {n i : Nat} {l : List UInt8} (h : ¬ (l.getD i 0).toNat < 97 + n) : posB n l (i + 1) = posB n l i := by
  unfold posB
  rw [List.range_succ, List.filter_append, List.filter_cons_of_neg (by rw [decide_eq_false h]; decide)]
  exact List.append_nil _
noncomputable def TestE (prog : Program) (w : World) (A : Around) (env : Env) (h₀ : Heap) (L : Addr) (m : Str → Option Value) (news : List (Addr × Obj)) (ct : PySem.Expr) (a b : Str) (gs : Array GenState) (dr : Drawn) (os : OsState) (n : Nat) (l : List UInt8) : Prop :=
  ∀ i (tj tv : Tok) C oC mC h tk oth, i < l.length → Fr h₀ L h m → News h₀ L h ((C, oC) :: (oth ++ news)) → h.Ns C mC → env.locals = C → mC a = some (.int i tj) → mC b = some (.int (l.getD i 0).toNat tv) →
    wpAny (model prog w) A (isTrue ct env (eval ct env)) (fun ok s' => Held (ok = decide ((l.getD i 0).toNat < 97 + n) ∧ ∃ h' tk', s' = ⟨h', gs, dr, tk', os⟩ ∧ Fr h₀ L h' m ∧ News h₀ L h' ((C, oC) :: (oth ++ news)))) (fun _ _ => False) ⟨h, gs, dr, tk, os⟩
noncomputable def EltE (prog : Program) (w : World) (A : Around) (env : Env) (h₀ : Heap) (L : Addr) (m : Str → Option Value) (news : List (Addr × Obj)) (elt : PySem.Expr) (a : Str) (gs : Array GenState) (dr : Drawn) (os : OsState) (l : List UInt8) : Prop :=
  ∀ i (tj : Tok) C oC mC h tk oth, i < l.length → Fr h₀ L h m → News h₀ L h ((C, oC) :: (oth ++ news)) → h.Ns C mC → env.locals = C → mC a = some (.int i tj) →
    wpAny (model prog w) A (eval elt env) (fun y s' => Held ((∃ t', y = .int i t') ∧ ∃ h' tk', s' = ⟨h', gs, dr, tk', os⟩ ∧ Fr h₀ L h' m ∧ News h₀ L h' ((C, oC) :: (oth ++ news)))) (fun _ _ => False) ⟨h, gs, dr, tk, os⟩
section
variable {prog : Program} {w : World} {A : Around} {s : Shared} {R : Result → Shared → Prop}
theorem codeN_enumB {h₀ : Heap} {L C D e it : Nat} {m mC : Str → Option Value} {news : List (Addr × Obj)} {elt iter ct : PySem.Expr} {a b : Str} {pa pb tp : Pos} {kk : Nat} {scope : Scope} {pos : Pos} {cenv : Env} {l : List UInt8} {t : Tok} {n : Nat}
    (hh : A.handled = none) (hsz : l.length ≤ 1000) (hxa : cenv.kindOf a = some .local) (hxb : cenv.kindOf b = some .local) (hab : ¬ a = b) (hp : (cenv.scope.kind == .class || (cenv.scope.kind == .module && cenv.locals != cenv.globals)) = false) (hC : cenv.locals = C)
    (o1 : L < it) (o2 : it < e) (o3 : e < D) (o4 : D < C) (h0 : ∀ x, it ≤ x → h₀.get? x = none) (hlt : ∀ p ∈ news, p.1 < it)
    (he : IsEnum s.heap e it 0 .none) (hit : KBw.IsBytesIter s.heap it l.toArray t 0) (hns : s.heap.Ns C mC) (hD : s.heap.PlainList D #[]) (F : Fr h₀ L s.heap m) (N : News h₀ L s.heap news)
    (test : TestE prog w A cenv h₀ L m news ct a b s.gens s.drawn s.os n l) (hel : EltE prog w A cenv h₀ L m news elt a s.gens s.drawn s.os l)
    (fin : ∀ ys mC k h tk, NatsVal ys (posB n l l.length) → Fr h₀ L h m → News h₀ L h ((D, PySem.W.listOf ys.toArray k) :: news) → h.Ns C mC → R (.ok .next) ⟨h, s.gens, s.drawn, tk, s.os⟩) :
    codeN (model prog w) A (.compLoop (.ListComp elt [⟨.Tuple [.Name a pa, .Name b pb] kk tp, iter, [ct], 0⟩] scope pos) 0 (.ref e) (.ref D) cenv) R s := by
  subst hC
  have nLit : it ≠ L := Nat.ne_of_gt o1
  have nLe : e ≠ L := Nat.ne_of_gt (Nat.lt_trans o1 o2)
  have nLD : D ≠ L := Nat.ne_of_gt (Nat.lt_trans o1 (Nat.lt_trans o2 o3))
  have nLC : cenv.locals ≠ L := Nat.ne_of_gt (Nat.lt_trans o1 (Nat.lt_trans o2 (Nat.lt_trans o3 o4)))
  have nei : e ≠ it := Nat.ne_of_gt o2
  have nDi : D ≠ it := Nat.ne_of_gt (Nat.lt_trans o2 o3)
  have nDe : D ≠ e := Nat.ne_of_gt o3
  have nCi : cenv.locals ≠ it := Nat.ne_of_gt (Nat.lt_trans o2 (Nat.lt_trans o3 o4))
  have nCe : cenv.locals ≠ e := Nat.ne_of_gt (Nat.lt_trans o3 o4)
  have nCD : cenv.locals ≠ D := Nat.ne_of_gt o4
  have zi := h0 it (Nat.le_refl _)
  have ze := h0 e (Nat.le_of_lt o2)
  have zD := h0 D (Nat.le_of_lt (Nat.lt_trans o2 o3))
  have zC := h0 cenv.locals (Nat.le_of_lt (Nat.lt_trans o2 (Nat.lt_trans o3 o4)))
  have nN : ∀ p ∈ news, p.1 ≠ it ∧ p.1 ≠ e ∧ p.1 ≠ D ∧ p.1 ≠ cenv.locals := fun p hp => ⟨Nat.ne_of_lt (hlt p hp), Nat.ne_of_lt (Nat.lt_trans (hlt p hp) o2), Nat.ne_of_lt (Nat.lt_trans (hlt p hp) (Nat.lt_trans o2 o3)), Nat.ne_of_lt (Nat.lt_trans (hlt p hp) (Nat.lt_trans o2 (Nat.lt_trans o3 o4)))⟩
  refine codeN_any (kct_loop (fun k s' => ∃ (h' : Heap) (tk : Nat) (mC' : Str → Option Value) (ys : List Value) (i : Nat) (old : Value), s' = ⟨h', s.gens, s.drawn, tk, s.os⟩ ∧ IsEnum h' e it i old ∧ KBw.IsBytesIter h' it l.toArray t i ∧ h'.Ns cenv.locals mC' ∧ h'.PlainList D ys.toArray ∧ NatsVal ys (posB n l i) ∧ ys.length ≤ i ∧ Fr h₀ L h' m ∧ News h₀ L h' news ∧ i ≤ l.length ∧ k = l.length + 1 - i) ?_ (l.length + 1)
    ⟨s.heap, s.toks, mC, [], 0, _, rfl, he, hit, hns, hD, ⟨rfl, fun k hk => absurd hk (Nat.not_lt_zero _)⟩, Nat.zero_le _, F, N, Nat.zero_le _, rfl⟩)
  rintro k s' ⟨h', tk, mC', ys, i, old, rfl, he', hit', hns', hD', hys, hyl, F', N', hi, rfl⟩
  by_cases hlt9 : i < l.length
  · have hx : l.toArray[i]? = some (l.getD i 0) := by simp [List.getD, List.getElem?_eq_getElem hlt9]
    refine enumB_next he' hit' hx nei fun h₁ tk₁ tj tv ho hit₁ hT hk₁ => ?_
    have hTe : (h'.objs.size : Nat) ≠ e := Nat.ne_of_gt (Heap.lt_size he')
    dsimp only at ho hT hk₁ ⊢
    refine wpAny_letOwnedTupleGo_enum ho fun h₂ he₂ hs₂ => ?_
    have hT₂ : h₂.IsTuple h'.objs.size #[.int i tj, .int (l.getD i 0).toNat tv] := ⟨_, (hs₂.2 _ hTe).trans hT, rfl, _, rfl⟩
    have keep₂ : ∀ z o, z ≠ e → z ≠ it → h'.get? z = some o → h₂.get? z = some o := fun z o a1 a2 hz => hs₂.extBut z o a1 (hk₁ z o a1 a2 hz)
    refine kcp_assign (env := cenv) hh hT₂ hxa hxb hp (hns'.at' fun o e9 => keep₂ _ o nCe nCi e9) fun h₃ tk₃ hn₃ hk₃ => ?_
    have keep₃ : ∀ z o, z ≠ e → z ≠ it → z ≠ cenv.locals → h'.get? z = some o → h₃.get? z = some o := fun z o a1 a2 a3 hz => hk₃ z o a3 (keep₂ z o a1 a2 hz)
    have he₃ : IsEnum h₃ e it ((i : Int) + 1) (.int (l.getD i 0).toNat tv) := hk₃ _ _ (Ne.symm nCe) he₂
    obtain ⟨oi, hoi, hoi2⟩ := bIter_off hit₁ hs₂ nei
    have hoi₃ := hk₃ _ _ (Ne.symm nCi) hoi
    obtain ⟨nD, hoD⟩ := hD'
    have hoD₃ := keep₃ _ _ nDe nDi (Ne.symm nCD) hoD
    obtain ⟨oC, hoC⟩ : ∃ o, h₃.get? cenv.locals = some o := by obtain ⟨o, _, _, e9, _⟩ := hn₃; exact ⟨o, e9⟩
    have F₃ : Fr h₀ L h₃ m := ⟨F'.ns.at' fun o e9 => keep₃ _ o (Ne.symm nLe) (Ne.symm nLit) (Ne.symm nLC) e9, fun z o hz => keep₃ z o (fun q => by rw [q, ze] at hz; cases hz) (fun q => by rw [q, zi] at hz; cases hz) (fun q => by rw [q, zC] at hz; cases hz) (F'.keep z o hz), F'.above⟩
    have N₃ : News h₀ L h₃ ((cenv.locals, oC) :: ([(D, _), (e, _), (it, oi)] ++ news)) := fun p hp => by
      rcases List.mem_cons.mp hp with rfl | hp
      · exact ⟨hoC, nLC, zC⟩
      rcases List.mem_cons.mp hp with rfl | hp
      · exact ⟨hoD₃, nLD, zD⟩
      rcases List.mem_cons.mp hp with rfl | hp
      · exact ⟨he₃, nLe, ze⟩
      rcases List.mem_cons.mp hp with rfl | hp
      · exact ⟨hoi₃, nLit, zi⟩
      · exact ⟨keep₃ _ _ (nN p hp).2.1 (nN p hp).1 (nN p hp).2.2.2 (N' p hp).1, (N' p hp).2⟩
    have va : (fun z => if z = b then some (Value.int (l.getD i 0).toNat tv) else if z = a then some (.int i tj) else mC' z) a = some (.int i tj) := by simp [hab]
    have vb : (fun z => if z = b then some (Value.int (l.getD i 0).toNat tv) else if z = a then some (.int i tj) else mC' z) b = some (.int (l.getD i 0).toNat tv) := by simp
    have back : ∀ (ys' : List Value) (h₅ : Heap) (tk₅ : Nat), NatsVal ys' (posB n l (i + 1)) → ys'.length ≤ i + 1 → Fr h₀ L h₅ m → h₅.PlainList D ys'.toArray → h₅.get? cenv.locals = some oC → IsEnum h₅ e it ((i : Int) + 1) (.int (l.getD i 0).toNat tv) → h₅.get? it = some oi → News h₀ L h₅ news →
        ∃ k, k < l.length + 1 - i ∧ ∃ (h' : Heap) (tk : Nat) (mC' : Str → Option Value) (ys : List Value) (i : Nat) (old : Value), (⟨h₅, s.gens, s.drawn, tk₅, s.os⟩ : Shared) = ⟨h', s.gens, s.drawn, tk, s.os⟩ ∧ IsEnum h' e it i old ∧ KBw.IsBytesIter h' it l.toArray t i ∧ h'.Ns cenv.locals mC' ∧ h'.PlainList D ys.toArray ∧ NatsVal ys (posB n l i) ∧ ys.length ≤ i ∧ Fr h₀ L h' m ∧ News h₀ L h' news ∧ i ≤ l.length ∧ k = l.length + 1 - i := by
      intro ys' h₅ tk₅ c1 c2 c3 c4 c5 c6 c7 c8
      refine ⟨l.length + 1 - (i + 1), by omega, h₅, tk₅, _, ys', i + 1, _, rfl, by push_cast; exact c6, ⟨oi, c7, hoi2⟩, hn₃.at' (h' := h₅) (fun o e9 => ?_), c4, c1, c2, c3, c8, hlt9, rfl⟩
      rw [hoC] at e9; cases e9; exact c5
    refine wpAny_mono (test i tj tv _ oC _ h₃ tk₃ _ hlt9 F₃ N₃ hn₃ rfl va vb) (fun ok s₄ h₄ => ?_) (fun _ _ x => x.elim)
    obtain ⟨rfl, h₄', tk₄, rfl, F₄, N₄⟩ := h₄
    by_cases hc : (l.getD i 0).toNat < 97 + n
    · rw [if_pos (by simpa using hc)]
      have hn₄ : h₄'.Ns cenv.locals (fun z => if z = b then some (Value.int (l.getD i 0).toNat tv) else if z = a then some (.int i tj) else mC' z) := hn₃.at' fun o e9 => by rw [hoC] at e9; cases e9; exact (N₄ _ (.head _)).1
      refine wpAny_mono (hel i tj _ oC _ h₄' tk₄ _ hlt9 F₄ N₄ hn₄ rfl va) (fun y s₅ h₅ => ?_) (fun _ _ x => x.elim)
      obtain ⟨⟨t', rfl⟩, h₅', tk₅, rfl, F₅, N₅⟩ := h₅
      refine wpAny_list_append_plain (hsz := by rw [List.size_toArray, sizeLine_eq]; omega) ⟨nD, (N₅ _ (.tail _ (.head _))).1⟩ fun h₆ hl₆ hs₆ => ?_
      refine back (ys ++ [.int i t']) h₆ _ ?_ (by rw [List.length_append, List.length_singleton]; omega) ⟨F₅.ns.sameBut hs₆ (Ne.symm nLD), fun z o hz => (hs₆.2 z fun q => by rw [q, zD] at hz; cases hz).trans (F₅.keep z o hz), F₅.above⟩ (by simpa using hl₆)
        ((hs₆.2 _ nCD).trans (N₅ _ (.head _)).1) ((hs₆.2 _ (Ne.symm nDe)).trans (N₅ _ (.tail _ (.tail _ (.head _)))).1) ((hs₆.2 _ (Ne.symm nDi)).trans (N₅ _ (.tail _ (.tail _ (.tail _ (.head _))))).1)
        (fun p hp => ⟨(hs₆.2 _ (nN p hp).2.2.1).trans (N₅ p (.tail _ (.tail _ (.tail _ (.tail _ hp))))).1, (N' p hp).2⟩)
      rw [posB_yes hc]
      unfold NatsVal at hys ⊢
      rw [List.map_append]
      exact hys.snoc
    · rw [if_neg (by simpa using hc)]
      exact back ys h₄' tk₄ (by rw [posB_no hc]; exact hys) (Nat.le_succ_of_le hyl) F₄ ⟨nD, (N₄ _ (.tail _ (.head _))).1⟩ (N₄ _ (.head _)).1 (N₄ _ (.tail _ (.tail _ (.head _)))).1 (N₄ _ (.tail _ (.tail _ (.tail _ (.head _))))).1 (fun p hp => N₄ p (.tail _ (.tail _ (.tail _ (.tail _ hp)))))
  · have hin : i = l.length := by omega
    subst hin
    refine enumB_end hh he' hit' (by simp) fun h₁ hk₁ => ?_
    obtain ⟨nD, hoD⟩ := hD'
    refine fin ys _ nD h₁ _ hys ⟨F'.ns.at' fun o e9 => hk₁ _ o (Ne.symm nLit) e9, fun z o hz => hk₁ z o (fun q => by rw [q, zi] at hz; cases hz) (F'.keep z o hz), F'.above⟩ (fun p hp => ?_) (hns'.at' fun o e9 => hk₁ _ o nCi e9)
    rcases List.mem_cons.mp hp with rfl | hp
    · exact ⟨hk₁ _ _ nDi hoD, nLD, zD⟩
    · exact ⟨hk₁ _ _ (nN p hp).1 (N' p hp).1, (N' p hp).2⟩
end
/- part EG -/
theorem anew_EG {M : Model} {A : Around} {env : Env} {Q : Flow → Shared → Prop} {E : Value → Shared → Prop} {s : Shared} (h : wpAny M A (execs [] env) Q E s) : wpAny M A (execs [] env) Q E s := by
  w_top off
  try (walk1; fail)
  exact h
open Sem (wp)
section
variable {prog : Program} {w : World} {A : Around} {s : Shared} {env : Env}
theorem wpN_Assign_enumB {h₀ : Heap} {L : Nat} {elt iter ct : PySem.Expr} {a b y : Str} {pa pb tp py : Pos} {kk : Nat} {scope : Scope} {pos spos : Pos} {cl : List (Str × Addr)} {Q : Flow → Shared → Prop}
    (h : wpN (model prog w) A (eval iter env) (fun xv s₁ => Held (∃ (it : Nat) (l : List UInt8) (t : Tok) (m : Str → Option Value) (news : List (Addr × Obj)) (n : Nat), xv = .ref (it + 1) ∧ s₁.heap.objs.size = it + 2 ∧ IsEnum s₁.heap (it + 1) it 0 .none ∧ KBw.IsBytesIter s₁.heap it l.toArray t 0 ∧ l.length ≤ 1000 ∧
      Fr h₀ L s₁.heap m ∧ News h₀ L s₁.heap news ∧ (∀ p ∈ news, p.1 < it) ∧ L < it ∧ h₀.objs.size ≤ it ∧
      (∀ C, TestE prog w A (compEnvC scope cl C env) h₀ L m news ct a b s₁.gens s₁.drawn s₁.os n l) ∧ (∀ C, EltE prog w A (compEnvC scope cl C env) h₀ L m news elt a s₁.gens s₁.drawn s₁.os l) ∧
      (∀ ys D k h₁ tk₁, NatsVal ys (posB n l l.length) → Fr h₀ L h₁ (fun z => if z = y then some (.ref D) else m z) → News h₀ L h₁ ((D, PySem.W.listOf ys.toArray k) :: news) → Q .next ⟨h₁, s₁.gens, s₁.drawn, tk₁, s₁.os⟩))) s)
    (hL : env.locals = L) (hsw : swapsWith (.ListComp elt [⟨.Tuple [.Name a pa, .Name b pb] kk tp, iter, [ct], 0⟩] scope pos) (some (.Name y py)) spos.line env = pure true)
    (hy : env.kindOf y = some .local) (hp : (env.scope.kind == .class || (env.scope.kind == .module && env.locals != env.globals)) = false)
    (hh : A.handled = none) (hclos : closureFor scope env = pure cl) (hcell : ∀ y ∈ scope.names, y.2 ≠ .cell) (hkind : scope.kind = .function)
    (hnames : ∀ y ∈ scope.names, y.2 = .local → scope.names.lookup y.1 = some .local) (hxa : scope.names.lookup a = some .local) (hxb : scope.names.lookup b = some .local) (hab : ¬ a = b)
    (hs : ∀ x, foldedSetIterable iter env x = pure x := by intro _; rfl) :
    wpN (model prog w) A (exec (.Assign [.Name y py] (.ListComp elt [⟨.Tuple [.Name a pa, .Name b pb] kk tp, iter, [ct], 0⟩] scope pos) spos) env) Q s := by
  rw [exec_Assign_Name_used _ _ _ _ hsw]
  refine wpN_bind (wpN_standAt (wpN_bind ?_))
  show wpN _ A (do let _ ← comprehension (.ListComp elt [⟨.Tuple [.Name a pa, .Name b pb] kk tp, iter, [ct], 0⟩] scope pos) scope env _ (newList []) false (eval iter env) (some (assign (.Name y py) env))) _ s
  refine wpN_bind (wpN_mono (wpN_comp (use := some (assign (.Name y py) env)) (Q := fun _ s' => Q .next s') rfl hs hclos hkind hnames (wpN_mono h (fun xv s₁ h₁ => ?_))) (fun _ s' hq => wpN_pure (wpN_pure hq)))
  obtain ⟨it, l, t, m, news, n, rfl, hsz, he, hit, hlen, F, N, hlt, hLi, h0s, test, hel, fin⟩ := h₁
  refine wpN_any (wpAny_pyIter_enum he ?_)
  refine wpN_any (wpAny_newObj_type (wpN_any (wpAny_newFunctionEnv hcell (by intro y hy; simp at hy) (fun h₁ hns₁ hsb₁ => ?_) hkind)))
  dsimp only at hns₁ hsb₁ ⊢
  generalize hH2 : s₁.heap.push { cls := .type "list", dict := none, data := .seq ([] : List Value).toArray } = H2 at hns₁ hsb₁ ⊢
  have hC : H2.objs.size = it + 3 := by rw [← hH2, Heap.size_push, hsz]
  rw [hC] at hns₁ hsb₁
  rw [hC, hsz]
  have old : ∀ z o, s₁.heap.get? z = some o → h₁.get? z = some o := fun z o e9 => by
    have hz : z < it + 2 := hsz ▸ Heap.lt_size e9
    exact hsb₁.extBut z o (Nat.ne_of_lt (Nat.lt_succ_of_lt hz)) (Heap.get?_push_of_some _ (hH2 ▸ Heap.get?_push_of_some _ e9))
  have hacc : h₁.PlainList (it + 2) #[] := ⟨_, hsb₁.extBut _ _ (Nat.ne_of_lt (Nat.lt_succ_self _)) (Heap.get?_push_of_some _ (by rw [← hsz, ← hH2]; exact Heap.get?_push_size _ rfl))⟩
  have fresh : ∀ x, it ≤ x → h₀.get? x = none := fun x hx => Heap.get?_none_of_le (Nat.le_trans h0s hx)
  have loop : codeN (model prog w) A (.compLoop (.ListComp elt [⟨.Tuple [.Name a pa, .Name b pb] kk tp, iter, [ct], 0⟩] scope pos) 0 (.ref (it + 1)) (.ref (it + 2)) (compEnvC scope cl (it + 3) env)) (compPostN (model prog w) A (some (assign (.Name y py) env)) (fun _ s' => Q .next s') (.ref (it + 2)) (it + 3)) { s₁ with heap := h₁, toks := s₁.toks + ([] : List (Str × Value)).length } := by
    refine codeN_enumB (s := { s₁ with heap := h₁, toks := s₁.toks + ([] : List (Str × Value)).length }) (cenv := compEnvC scope cl (it + 3) env) (e := it + 1) (it := it) (D := it + 2) (C := it + 3) (L := L) (n := n) hh hlen (lookup_relabel_local hxa) (lookup_relabel_local hxb) hab (by simp [compEnvC, relabel, hkind]) rfl hLi (Nat.lt_succ_self _) (Nat.lt_succ_self _) (Nat.lt_succ_self _) fresh hlt
      (old _ _ he) (by obtain ⟨o, ho, r⟩ := hit; exact ⟨o, old _ _ ho, r⟩) hns₁ hacc (F.keeps old) (fun p hp => ⟨old _ _ (N p hp).1, (N p hp).2⟩) (test _) (hel _) ?_
    intro ys mC k h₂ tk₂ hys F₂ N₂ hns₂
    show wpN _ A (assign (.Name y py) env (.ref (it + 2))) _ _
    have nCL : (it + 3 : Nat) ≠ L := Nat.ne_of_gt (Nat.lt_of_lt_of_le hLi (Nat.le_add_right _ _))
    subst hL
    refine wpN_any (wpAny_assign_Name (wpAny_storeName_local hy F₂.ns (fun h₄ hn₄ hs₄ => ?_) hp))
    have F₄ := F₂.set hn₄ hs₄
    have N₄ : News h₀ env.locals h₄ _ := N₂.set hs₄
    refine ⟨mC, hns₂.sameBut hs₄ nCL, fun h₃ hs₃ => ?_⟩
    have z3 := fresh (it + 3) (Nat.le_add_right _ _)
    refine fin ys (it + 2) k h₃ _ hys ⟨F₄.ns.sameBut hs₃ (Ne.symm nCL), fun z o e9 => (hs₃.2 z fun q => by rw [q, z3] at e9; cases e9).trans (F₄.keep z o e9), F₄.above⟩ (fun p hp => ?_)
    rcases List.mem_cons.mp hp with rfl | hp'
    · exact ⟨(hs₃.2 _ (Nat.ne_of_lt (Nat.lt_succ_self _))).trans (N₄ _ hp).1, (N₄ _ hp).2⟩
    · exact ⟨(hs₃.2 _ (Nat.ne_of_lt (Nat.lt_of_lt_of_le (hlt p hp') (Nat.le_add_right _ _)))).trans (N₄ p hp).1, (N₄ p hp).2⟩
  exact codeN_compStart loop (wpN_any (wpAny_pyIter_enum (old _ _ he) loop))
end
/- part QE -/
theorem anew_QE {M : Model} {A : Around} {env : Env} {Q : Flow → Shared → Prop} {E : Value → Shared → Prop} {s : Shared} (h : wpAny M A (execs [] env) Q E s) : wpAny M A (execs [] env) Q E s := by
  w_top off
  try (walk1; fail)
  exact h
open Sem (wp)
set_option linter.unusedVariables false in
theorem law_b5 {w : World} {G h : Heap} {L fa rl bl : Nat} {cd : Value} {p : Program} {loose : List Str} {mean : ExcName → Option Value} {mg mb m : Str → Option Value} {gs : Array GenState} {dr : Drawn} {os : OsState} {tk : Nat} {o5 : Obj} {rv : List Value} {rn mv : Nat} {so : List UInt8} {ts tm : Tok} {news : List (Addr × Obj)} {R : List (List UInt8)} {Q : Flow → Shared → Prop}
    (F : Fr G L h (mapM (mapSB m so ts bl) mv tm)) (N : News G L h news) (m5 : (L + 1 + 1, o5) ∈ news) (mr : (rl, W.listOf rv.toArray rn) ∈ news)
    (k5 : o5.data = .cell (some (.ref rl)))
    (B' : Below callerA G [] G) (X' : (hd.heap_1 w.params).In G) (T' : Top p loose mean mg mb G)
    (hR : RulesAt rv R) (hR2 : R.length = 2 ∨ R.length = 3) (hsl : so.length ≤ 100) (hso : ∀ c ∈ so, 97 ≤ c.toNat ∧ c.toNat ≤ 99)
    (ret : ∀ (h' : Heap) (tk' ul : Nat) (uv : List Value) (un : Nat), NatsVal uv (posB R.length so so.length) → Fr G L h' (mapU (mapM (mapSB m so ts bl) mv tm) ul) → News G L h' ((ul, W.listOf uv.toArray un) :: news) → Q .next ⟨h', gs, dr, tk', os⟩) :
    wpN (model lawProg w) (lawA L fa cd) (exec (restBody.getD 5 (.Pass default)) (lawEnv L fa cd)) Q ⟨h, gs, dr, tk, os⟩ := by
  have C' := codeHdK X'
  delta lawA lawEnv restBody lawRec recOf
  dsimp only [List.drop, List.getElem?_cons_succ, List.getElem?_cons_zero, Option.getD]
  have hrv : rv.length = R.length := hR.1
  refine' wpN_Assign_enumB (h₀ := G) (L := L) (wpN_Call_Name (wpN_any ?hmain)) ?hL ?hsw ?hy ?hp ?hh ?hclos ?hcell ?hkind ?hnames ?hxa ?hxb ?hab
  case hL => exact rfl
  case hsw => exact rfl
  case hy => exact rfl
  case hp => exact rfl
  case hh => exact rfl
  case hclos => exact rfl
  case hcell => decide
  case hkind => exact rfl
  case hnames => decide
  case hxa => exact rfl
  case hxb => exact rfl
  case hab => decide
  case hmain =>
    k_steps
    refine wpN_callWith rfl (wpN_evalArgs_some (wpN_any ?_))
    k_steps
    rename Fr _ _ _ _ => F2
    rename News _ _ _ _ => N2
    refine Held.mk ⟨⟨.machine, .inr (.inl rfl), Looks.of_pure rfl⟩, wpN_any ?_⟩
    (try dsimp only [List.nil_append, List.cons_append])
    refine call_enumB fun h' he hit hsz hk => ?_
    dsimp only at he hit hsz hk ⊢
    have hlt : ∀ q ∈ news, q.1 < h.objs.size := fun q hq => Heap.lt_size (N2 q hq).1
    have hLl : L < h.objs.size := F2.ns.lt
    refine Held.mk ⟨h.objs.size, so, ts, _, news, R.length, rfl, hsz, he, hit, by omega, F2.keeps hk, fun q hq => ⟨hk _ _ (N2 q hq).1, (N2 q hq).2⟩, hlt, hLl, Nat.le_trans F2.above (Nat.le_of_lt F2.ns.lt), ?test, ?elt, ?fin⟩
    case test =>
      clear F2 N2 hk he hit hsz hlt hLl
      intro C
      intro i tj tv C2 oC mC h₁ tk₁ oth hi F₁ N₁ hns hC hma hmb
      obtain rfl : C = C2 := hC
      have hmem : so.getD i 0 ∈ so := by rw [List.getD, List.getElem?_eq_getElem hi]; exact List.getElem_mem hi
      obtain ⟨z1, z2⟩ := hso _ hmem
      generalize hcv : so.getD i 0 = cv at *
      have N₂ : News G L h₁ ((L + 1 + 1, o5) :: (rl, W.listOf rv.toArray rn) :: (C, oC) :: (oth ++ news)) := News.put N₁ (.tail _ (List.mem_append_right _ m5)) (News.put N₁ (.tail _ (List.mem_append_right _ mr)) N₁)
      clear N₁
      k_steps
      exact Held.mk ⟨decide_eq_decide.mpr (by omega), _, _, rfl, F₁, fun q hq => N₂ q (.tail _ (.tail _ hq))⟩
    case elt =>
      clear F2 N2 hk he hit hsz hlt hLl
      intro C
      intro i tj C2 oC mC h₁ tk₁ oth hi F₁ N₁ hns hC hma
      obtain rfl : C = C2 := hC
      k_steps
      exact Held.mk ⟨⟨_, rfl⟩, _, _, rfl, F₁, N₁⟩
    case fin =>
      intro ys D k h₁ tk₁ hys F₁ N₁
      exact ret _ _ D ys k hys F₁ N₁
/- part PM -/
theorem anew_PM {M : Model} {A : Around} {env : Env} {Q : Flow → Shared → Prop} {E : Value → Shared → Prop} {s : Shared} (h : wpAny M A (execs [] env) Q E s) : wpAny M A (execs [] env) Q E s := by
  w_top off
  try (walk1; fail)
  exact h
theorem nrul_pos {R : List (List UInt8)} {l : List UInt8} : ∀ i, i ≤ l.length → nrul R (l.take i) = (posB R.length l i).length
  | 0, _ => by simp [nrul, posB]
  | i + 1, hi => by
    have hlt : i < l.length := hi
    have e : l.getD i 0 = l[i] := by rw [List.getD, List.getElem?_eq_getElem hlt]; rfl
    have ih := nrul_pos (R := R) (l := l) i (Nat.le_of_lt hlt)
    unfold nrul at ih ⊢
    rw [List.take_succ_eq_append_getElem hlt, List.countP_append, ih]
    by_cases h : (l.getD i 0).toNat < 97 + R.length
    · rw [posB_yes h, List.length_append, List.countP_cons_of_pos (by rw [← e]; exact decide_eq_true h)]; rfl
    · rw [posB_no h, List.countP_cons_of_neg (by rw [← e]; rw [decide_eq_false h]; decide)]; rfl
theorem posB_at {n : Nat} {l : List UInt8} : ∀ i k, k < (posB n l i).length → (posB n l ((posB n l i).getD k 0)).length = k ∧ (posB n l i).getD k 0 < i
  | 0, k, hk => absurd hk (Nat.not_lt_zero _)
  | i + 1, k, hk => by
    by_cases h : (l.getD i 0).toNat < 97 + n
    · rw [posB_yes h] at hk ⊢
      by_cases hlt : k < (posB n l i).length
      · have e : (posB n l i ++ [i]).getD k 0 = (posB n l i).getD k 0 := by simp only [List.getD_eq_getElem?_getD, List.getElem?_append_left hlt]
        rw [e]
        obtain ⟨h1, h2⟩ := posB_at i k hlt
        exact ⟨h1, Nat.lt_succ_of_lt h2⟩
      · have hk' : k = (posB n l i).length := by rw [List.length_append, List.length_singleton] at hk; omega
        have e : (posB n l i ++ [i]).getD k 0 = i := by rw [hk']; simp
        rw [e]
        exact ⟨hk'.symm, Nat.lt_succ_self _⟩
    · rw [posB_no h] at hk ⊢
      obtain ⟨h1, h2⟩ := posB_at i k hk
      exact ⟨h1, Nat.lt_succ_of_lt h2⟩
noncomputable def cutAt (R : List (List UInt8)) (so : List UInt8) (mv : Nat) : Nat := if mv < (posB R.length so so.length).length then (posB R.length so so.length).getD mv 0 else so.length
theorem law_cut {R : List (List UInt8)} {so : List UInt8} {mv : Nat} (hso : Letters so) (hl : so.length ≤ 99) :
    grow R so mv = ((grow R (so.take (cutAt R so mv)) 99).1 ++ so.drop (cutAt R so mv), (grow R (so.take (cutAt R so mv)) 99).2) := by
  have hcl : cutAt R so mv ≤ so.length := by
    unfold cutAt
    split
    · rename_i h; exact Nat.le_of_lt (posB_at _ _ h).2
    · exact Nat.le_refl _
  have hlet : ∀ c ∈ so.take (cutAt R so mv), 97 ≤ c.toNat := fun c hc => (hso c (List.mem_of_mem_take hc)).1
  rw [grow_99 hlet (by rw [List.length_take]; omega)]
  have key := grow_cut (R := R) (rest := so.drop (cutAt R so mv)) (pre := so.take (cutAt R so mv)) (m := mv) hlet ?_
  · rw [List.take_append_drop] at key
    exact key
  · rw [nrul_pos _ hcl]
    by_cases h : mv < (posB R.length so so.length).length
    · left
      have e : cutAt R so mv = (posB R.length so so.length).getD mv 0 := if_pos h
      rw [e]
      exact (posB_at _ _ h).1
    · right
      have e : cutAt R so mv = so.length := if_neg h
      rw [e]
      exact ⟨List.drop_length, by omega⟩
theorem both_len {R S : List (List UInt8)} : (bothOf R S 3).length = 3 := by unfold bothOf; rw [List.length_map, List.length_range]
theorem both_at {R S : List (List UInt8)} (hR : Nice R) {k : Nat} (hk : k < 3) : (bothOf R S 3).getD k [] = full S (ruled R k) := by
  have e : (bothOf R S 3).getD k [] = (grow S (ruled R k) 99).1 := by
    unfold bothOf
    match k, hk with
    | 0, _ => rfl
    | 1, _ => rfl
    | 2, _ => rfl
  rw [e, grow_99 (ruled_letters hR hk).low (Nat.le_trans (ruled_len hR k) (by decide))]
theorem both_fit {R S : List (List UInt8)} (hR : Nice R) (hS : Nice S) : ∀ r ∈ bothOf R S 3, r.length ≤ 100 := by
  intro r hr
  unfold bothOf at hr
  obtain ⟨k, hk, rfl⟩ := List.mem_map.mp hr
  have hk' := List.mem_range.mp hk
  rw [grow_99 (ruled_letters hR hk').low (Nat.le_trans (ruled_len hR k) (by decide))]
  have := full_len hS (ruled R k)
  have := ruled_len hR k
  show (full S (ruled R k)).length ≤ 100
  omega
theorem full_both {R S : List (List UInt8)} (hR : Nice R) {l : List UInt8} (hl : Letters l) : full S (full R l) = full (bothOf R S 3) l := by
  unfold full
  show full S _ = _
  rw [full_flatten, List.map_map]
  congr 1
  refine List.map_congr_left fun c hc => ?_
  have h := hl c hc
  show full S (ruled R (c.toNat - 97)) = ruled (bothOf R S 3) (c.toNat - 97)
  rw [← both_at hR (by omega)]
  unfold ruled
  rw [if_pos (by rw [both_len]; omega)]
theorem law_both {R S : List (List UInt8)} (hR : Nice R) (hS : Nice S) {so : List UInt8} (hso : Letters so) (hl : so.length = 4) :
    (grow S (grow R so 99).1 99).1 = (grow (bothOf R S 3) so 99).1 := by
  have h1 := full_len hR so
  rw [grow_99 hso.low (by omega), grow_99 hso.low (by omega), grow_99 (full_letters hR hso).low (by omega)]
  exact full_both hR hso
/- part QF -/
theorem anew_QF {M : Model} {A : Around} {env : Env} {Q : Flow → Shared → Prop} {E : Value → Shared → Prop} {s : Shared} (h : wpAny M A (execs [] env) Q E s) : wpAny M A (execs [] env) Q E s := by
  w_top off
  try (walk1; fail)
  exact h
open Sem (wp)
theorem tabF_280 {tabs : List (Addr × Obj)} (h : TabF tabs) : ∃ ps, (280, tabObj ps) ∈ tabs := by
  obtain ⟨_, _, _, _, _, _, _, _, rfl, _⟩ := h
  exact ⟨_, .head _⟩
set_option linter.unusedVariables false in
theorem law_body : LawBody := by
  intro w G h₁ L fa al cd p loose mean mg mb s tk xs ns o1 o2 o3 o4 o5 o6 Q F N d1 d2 d3 d4 d5 d6 B' X' T' I' hI hns hL hQ
  refine law_first F N d1 d2 d3 d4 d5 d6 B' X' T' I' hI hns hL ?_
  intro h' tk' rl tl dl d0 dk rv tv xs' ys R n tn nl n0 n1 o5' o6' F1 k5 k6 hR hG htv hys hxl hints z1 z2 z3 z4 z5 z6 z7 z8 z9 z10 y0 y1 y2 N1
  clear F N
  have hNR := hG.nice (by decide)
  have hRl : ∀ r ∈ R, r.length ≤ 100 := fun r hr => Nat.le_trans (hNR.2 r hr).1 (by decide)
  have hrul : ∀ k, (ruled R k).length ≤ 100 := fun k => Nat.le_trans (ruled_len hNR k) (by decide)
  show wpN _ _ (execs (lawRec.body.getD 3 (.Pass default) :: restBody) _) _ _
  refine wpN_execs_cons (law_outer F1 N1 d1 d2 d3 d4 k5 k6 rfl rfl rfl B' X' T' hL z1 z2 z3 z4 (.inl rfl) hR hG.1 htv (fun i hi j hj => turnLaw_of hNR hi hj) ?_)
  intro h2 tk2 tl2 vt va vtx vm tv2 n2 o2' o3' o4' w2 w3 w4 tabs F2 hTF q2 q3 q4 hrt N2
  have htg := tabF_tags hTF
  show wpN _ _ (execs (restBody.getD 0 (.Pass default) :: restBody.drop 1) _) _ _
  refine wpN_execs_cons (law_b0 (tabs := tabs) F2 (News.put N2 (by repeat (first | exact List.Mem.head _ | apply List.Mem.tail)) (News.put N2 (by repeat (first | exact List.Mem.head _ | apply List.Mem.tail)) (News.put N2 (by repeat (first | exact List.Mem.head _ | apply List.Mem.tail)) (News.put N2 (by repeat (first | exact List.Mem.head _ | apply List.Mem.tail)) (News.put N2 (by repeat (first | exact List.Mem.head _ | apply List.Mem.tail)) (News.put N2 (by repeat (first | exact List.Mem.head _ | apply List.Mem.tail)) (News.put N2 (by repeat (first | exact List.Mem.head _ | apply List.Mem.tail)) (fun q hq => N2 q (.tail _ (.tail _ (.tail _ (.tail _ (.tail _ (.tail _ (.tail _ (.tail _ (.tail _ (.tail _ (.tail _ hq))))))))))))))))))) d1 k5 k6 hTF B' X' T' hL (by omega) hxl z8 z9 z10 z3 hints ?_)
  intro h3 tk3 sl sv S sn ys' n1' o1' hS hGS hy' k1 hsd F3 N3
  clear N1 N2
  have hNS := hGS.nice (by decide)
  have hSl : ∀ r ∈ S, r.length ≤ 100 := fun r hr => Nat.le_trans (hNS.2 r hr).1 (by decide)
  show wpN _ _ (execs (restBody.getD 1 (.Pass default) :: restBody.drop 2) _) _ _
  refine wpN_execs_cons (law_b1 (tabs := tabs) F3 N3 (by repeat (first | exact List.Mem.head _ | apply List.Mem.tail)) (by repeat (first | exact List.Mem.head _ | apply List.Mem.tail)) (by repeat (first | exact List.Mem.head _ | apply List.Mem.tail)) (by repeat (first | exact List.Mem.head _ | apply List.Mem.tail)) (fun q hq => (.tail _ (.tail _ (.tail _ (.tail _ (.tail _ (.tail _ (.tail _ (.tail _ hq))))))))) k1 k5 hTF B' X' T' hR hG.1 hS hGS.1 hSl hrul (fun k hk => ruled_letters hNR hk) ?_)
  intro h4 tk4 bl bv bn hB F4 N4 hbl
  have hbd : dk ≠ bl := Nat.ne_of_lt (hbl _ (.head _))
  have hd1 : ∀ q ∈ (bl, W.listOf bv.toArray bn) :: (sl, W.listOf sv.toArray sn) :: (L + 1 + 1 + 1 + 1 + 1 + 1, o1') :: base3 L rl dl d0 o5' o6' rv xs' n nl n0 dk tabs, q.1 ≠ dk := by
    intro q hq
    have hq' : q ∈ (bl, W.listOf bv.toArray bn) :: (dk, W.listOf ys'.toArray n1') :: (sl, W.listOf sv.toArray sn) :: (L + 1 + 1 + 1 + 1 + 1 + 1, o1') :: base3 L rl dl d0 o5' o6' rv xs' n nl n0 dk tabs := by
      rcases List.mem_cons.mp hq with rfl | hq
      · exact .head _
      · exact .tail _ (.tail _ hq)
    have key : tagOf q.2 ≠ 0 → q.1 ≠ dk := fun ht => neTag (j := 0) N4 hq' (.tail _ (.head _)) rfl rfl ht
    simp only [base3, List.mem_cons] at hq
    rcases hq with rfl | rfl | rfl | rfl | rfl | rfl | rfl | rfl | hq
    · exact Ne.symm hbd
    · exact hsd
    · exact key (by rw [tag_cell k1]; decide)
    · exact key (by rw [tag_cell k5]; decide)
    · exact key (by rw [tag_cell k6]; decide)
    · exact z3
    · exact z10
    · exact z8
    · exact key (by rcases htg q hq with e | e <;> rw [e] <;> decide)
  have N5 : News G L h4 ((dk, W.listOf ys'.toArray n1') :: (bl, W.listOf bv.toArray bn) :: (sl, W.listOf sv.toArray sn) :: (L + 1 + 1 + 1 + 1 + 1 + 1, o1') :: base3 L rl dl d0 o5' o6' rv xs' n nl n0 dk tabs) := News.put N4 (.tail _ (.head _)) (News.put N4 (.head _) (fun q hq => N4 q (.tail _ (.tail _ hq))))
  clear N3 N4
  show wpN _ _ (execs (restBody.getD 2 (.Pass default) :: restBody.drop 3) _) _ _
  refine wpN_execs_cons (law_b2 F4 N5 hd1 (by repeat (first | exact List.Mem.head _ | apply List.Mem.tail)) (by repeat (first | exact List.Mem.head _ | apply List.Mem.tail)) (by repeat (first | exact List.Mem.head _ | apply List.Mem.tail)) k6 B' X' T' (by omega) hxl z8 z9 z10 hints ?_)
  intro h5 tk5 ts so ys2 n12 hso hs4 hy2 F5 N6
  replace F5 : Fr G L h5 (mapSB (lawMap al (some (.ref tl2)) vt va vtx vm) so ts bl) := F5
  clear N5
  show wpN _ _ (execs (restBody.getD 3 (.Pass default) :: restBody.drop 4) _) _ _
  have hg1 := full_len hNR so
  have hgr := grow_99 (R := R) hso.low (by omega)
  refine wpN_execs_cons (law_b3 (tabs := tabs) (B := bothOf R S 3) F5 N6 (by repeat (first | exact List.Mem.head _ | apply List.Mem.tail)) (by repeat (first | exact List.Mem.head _ | apply List.Mem.tail)) (by repeat (first | exact List.Mem.head _ | apply List.Mem.tail)) (by repeat (first | exact List.Mem.head _ | apply List.Mem.tail)) (by repeat (first | exact List.Mem.head _ | apply List.Mem.tail)) (fun q hq => (.tail _ (.tail _ (.tail _ (.tail _ (.tail _ (.tail _ (.tail _ (.tail _ (.tail _ hq)))))))))) k1 k5 hTF B' X' T' hR hG.1 hRl hS hGS.1 hSl hB (.inr both_len) (both_fit hNR hNS) (by omega) hso (by rw [hgr]; show (full R so).length ≤ 100; omega) (by rw [hgr]; exact full_letters hNR hso) (law_both hNR hNS hso hs4) ?_)
  intro h6 tk6 F6 N7
  clear N6 F5
  show wpN _ _ (execs (restBody.getD 4 (.Pass default) :: restBody.drop 5) _) _ _
  refine wpN_execs_cons (law_b4 F6 N7 hd1 (by repeat (first | exact List.Mem.head _ | apply List.Mem.tail)) (by repeat (first | exact List.Mem.head _ | apply List.Mem.tail)) (by repeat (first | exact List.Mem.head _ | apply List.Mem.tail)) k6 B' X' T' (by omega) hxl z8 z9 z10 hints ?_)
  intro h7 tk7 tm mv hmv F7 N8
  replace F7 : Fr G L h7 (mapM (mapSB (lawMap al (some (.ref tl2)) vt va vtx vm) so ts bl) mv tm) := F7
  clear N7 F6
  show wpN _ _ (execs (restBody.getD 5 (.Pass default) :: restBody.drop 6) _) _ _
  refine wpN_execs_cons (law_b5 F7 N8 (by repeat (first | exact List.Mem.head _ | apply List.Mem.tail)) (by repeat (first | exact List.Mem.head _ | apply List.Mem.tail)) k5 B' X' T' hR hG.1 (by omega) hso ?_)
  intro h8 tk8 ul uv un hu F8 N9
  clear N8 F7
  have hPl : (posB R.length so so.length).length ≤ 1000 := Nat.le_trans (List.length_filter_le ..) (by rw [List.length_range]; omega)
  show wpN _ _ (execs (restBody.getD 6 (.Pass default) :: restBody.drop 7) _) _ _
  refine wpN_execs_cons (law_b6 F8 N9 hu hPl (by omega) (by omega) B' X' T' ?_)
  intro h9 tk9 tc F9 N10
  replace F9 : Fr G L h9 (mapC (mapU (mapM (mapSB (lawMap al (some (.ref tl2)) vt va vtx vm) so ts bl) mv tm) ul) (cutAt R so mv) tc) := F9
  clear N9 F8
  show wpN _ _ (execs (restBody.getD 7 (.Pass default) :: restBody.drop 8) _) _ _
  refine wpN_execs_cons (law_b7 (tabs := tabs) F9 N10 (by repeat (first | exact List.Mem.head _ | apply List.Mem.tail)) (by repeat (first | exact List.Mem.head _ | apply List.Mem.tail)) (fun q hq => (.tail _ (.tail _ (.tail _ (.tail _ (.tail _ (.tail _ (.tail _ (.tail _ (.tail _ hq)))))))))) k5 hTF B' X' T' hR hG.1 hRl (by omega) hso ?_)
  intro h10 tk10 fa1 tf uf F10 N11
  clear N10 F9
  have hcl := full_len hNR (so.take (cutAt R so mv))
  have htl : (so.take (cutAt R so mv)).length ≤ 4 := by rw [List.length_take]; omega
  have hgc := grow_99 (R := R) (l := so.take (cutAt R so mv)) (fun c hc => (hso c (List.mem_of_mem_take hc)).1) (by omega)
  show wpN _ _ (execs (restBody.getD 8 (.Pass default) :: restBody.drop 9) _) _ _
  refine wpN_execs_cons (law_b8 (tabs := tabs) F10 N11 (by repeat (first | exact List.Mem.head _ | apply List.Mem.tail)) (by repeat (first | exact List.Mem.head _ | apply List.Mem.tail)) (fun q hq => (.tail _ (.tail _ (.tail _ (.tail _ (.tail _ (.tail _ (.tail _ (.tail _ (.tail _ hq)))))))))) k5 hTF B' X' T' hR hG.1 hRl (by omega) hso (by omega) (by rw [hgc]; show (full R _).length ≤ 1000; omega) (law_cut hso (by omega)) ?_)
  intro h11 tk11 m11 led11 F11 N12 hsub
  obtain ⟨ps, hps⟩ := tabF_280 hTF
  exact hQ _ _ _ _ F11 N12 ⟨ps, hsub _ (.tail _ (.tail _ (.tail _ (.tail _ (.tail _ (.tail _ (.tail _ (.tail _ (.tail _ hps)))))))))⟩
theorem law_holds : PySem.Challenge.rw_xm0624_01.Holds := law_holds_of law_body
end Mine
theorem PySem.Challenge.cw_xm0624_01_holds : PySem.Challenge.rw_xm0624_01.Holds :=
  Mine.law_holds
