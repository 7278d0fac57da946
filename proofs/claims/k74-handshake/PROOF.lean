import PyProof.Rows.All
import Wide.All
import OpenK.AllK
import Wide.FinOn
import HandS.ForMost
import HandS.Nested
import HandS.ClsMeth
import HandS.Deep
import HandS.FStr
import HandS.IsInst
import HandS.TupAny
import HandS.Defaults
import PySem.Challenge.RW_guestlives_k74_whole_handshake_goes_on
set_option Elab.async false
set_option linter.all false
set_option maxRecDepth 100000
set_option maxHeartbeats 4000000
/-! super() over the hand layer: judgements at a known code -/
namespace Sup
open PySem PySem.Spec L2 ClX

abbrev wAt {α : Type} (M : Model) (A : Around) (c : Code) (t : Sem α) (Q : α → Shared → Prop) (E : Value → Shared → Prop) (s : Shared) : Prop := _root_.PySem.wpAt M A c t Q E s

/-! ### the tree level -/
section
variable {α β : Type} {M : Model} {A : Around} {c : Code} {E : Value → Shared → Prop} {s : Shared} {env : Env}
theorem a_bind {m : Sem α} {f : α → Sem β} {Q : β → Shared → Prop} (h : wAt M A c m (fun a s' => wAt M A c (f a) Q E s') E s) : wAt M A c (m >>= f) Q E s := _root_.PySem.wpAt_bind h
theorem a_any {t : Sem α} {Q : α → Shared → Prop} (h : wpAny M A t Q E s) : wAt M A c t Q E s := _root_.PySem.wpAt_of_wpAny h
theorem a_mono {t : Sem α} {Q Q' : α → Shared → Prop} (h : wAt M A c t Q E s) (q : ∀ a s, Q a s → Q' a s) : wAt M A c t Q' E s := _root_.PySem.wpAt_mono h q fun _ _ x => x
theorem a_hold {vs : List Value} {m : Sem α} {Q : α → Shared → Prop} (h : wAt M A c m Q E s) : wAt M A c (holding vs m) Q E s := ks_wpAt_holding h
/-- a first part at the code, the rest anywhere -/
theorem a_then {m : Sem α} {f : α → Sem β} {Q : β → Shared → Prop} (h : wAt M A c m (fun a s' => wpAny M A (f a) Q E s') E s) : wAt M A c (m >>= f) Q E s := a_bind (a_mono h fun _ _ x => a_any x)

/-- a body or a loop of a def runs: no comprehension stands around it -/
def Bare (c : Code) (e : Env) : Prop := c.env? = some e ∧ c.isInlined = false ∧ c.handsOn none = false
theorem bare_func {b : List Stmt} {e : Env} : Bare (.func b e) e := ⟨rfl, rfl, rfl⟩
theorem bare_for {tg : Expr} {it : Value} {b o : List Stmt} {e : Env} : Bare (.forLoop tg it b o e) e := ⟨rfl, rfl, rfl⟩
theorem top_stays {c : Code} {p : Pos} {below : List (Code × Pos)} (h3 : c.handsOn none = false) : pastTheWaiting ((c, p) :: below) = (c, p) :: pastTheWaiting.go false (some c) below := by
  show (if c.handsOn none then pastTheWaiting.go true (some c) below else (c, p) :: pastTheWaiting.go false (some c) below) = _
  rw [h3]; rfl
theorem noComps {e : Env} (hb : Bare c e) {Q : List Env → Shared → Prop} (h : Q [] s) : wAt M A c comprehensionsAround Q E s := by
  obtain ⟨h1, h2, h3⟩ := hb
  unfold comprehensionsAround callersCodes
  refine a_bind (a_bind (_root_.PySem.wpAt_stack fun p below => ?_))
  have e1 := top_stays (p := p) (below := below) h3
  have e2 : ((((c, p) :: below).map (·.1)).findSome? (·.env?)).map (·.frame) = some e.frame := by
    simp [h1]
  have e3 : (((pastTheWaiting ((c, p) :: below)).map (·.1)).findSome? (·.env?)).map (·.frame) = some e.frame := by
    rw [e1]; simp [h1]
  have e4 : (((((pastTheWaiting ((c, p) :: below)).map (·.1)).filter (·.env?.isSome)).takeWhile (·.isInlined)).filterMap (·.env?)) = ([] : List Env) := by
    rw [e1]; simp [h1, h2]
  dsimp only
  rw [e2, e3]
  simp only [bne_self_eq_false, Bool.false_eq_true, if_false]
  refine a_bind (a_any (wpAny_pure (a_any (wpAny_pure ?_))))
  rw [e4]
  exact a_any (wpAny_pure h)
end
section
variable {prog : Program} {w : World} {A : Around} {c : Code} {E : Value → Shared → Prop} {s : Shared} {env : Env}
/-- «super» as what stands ahead of an attribute -/
theorem super_base {p0 p1 : Pos} {attr : Str} {whole : Sem Value} {f cc : Addr} {of oc : Obj} {fd : FuncData} {ar : Arg} {vs : Array Value} {file : Str} {tf : Tok} {Q : Value → Shared → Prop} (hb : Bare c env)
    (hks : env.kindOf "super" = some .globalImplicit) (hkc : env.kindOf "__class__" = some .free) (hat : (attr == ("__class__" : Str)) = false) (hfu : env.func = some f) (hf : s.heap.get? f = some of)
    (hfd : of.data = .func fd) (hp : (fd.params.posonlyargs ++ fd.params.args).head? = some ar) (hco : env.code = .ref cc) (hcc : s.heap.get? cc = some oc) (hoc : oc.data = .fields vs)
    (hvs : vs[2]? = some (.str file tf)) (hfile : ((prog.main.file : Str) == file) = true) (htop : (prog.main.scope.names.lookup ("super" : Str)).isSome = false)
    (h : wpAny (model prog w) A (loadName env "super") (fun g s₁ => g = .type "super" ∧ wpAny (model prog w) A (loadName env "__class__") (fun k s₂ => wpAny (model prog w) A (loadName env ar.arg) (fun me s₃ =>
      wpAny (model prog w) A (isType k) (fun b s₄ => b = true ∧ wpAny (model prog w) A (call (.type "super") [k, me]) Q E s₄) E s₃) E s₂) E s₁) E s) :
    wAt (model prog w) A c (attributeBase (.Call (.Name "super" p0) [] [] p1) attr env whole) Q E s := by
  unfold attributeBase
  simp only [bne_self_eq_false, hat, hks, hkc, hfu, hco, Bool.or_false, Bool.or_self, Bool.false_eq_true, if_false, Option.isSome_some, if_true, pure_bind]
  unfold funcData
  refine a_bind (a_any (wpAny_bind (wpAny_load hf ?_)))
  rw [hfd]
  refine wpAny_pure ?_
  simp only [hp]
  refine a_bind (a_any (wpAny_askSetting ?_))
  refine a_bind (a_any (wpAny_field hcc hoc hvs ?_))
  have x1 : ((model prog w).prog.main.file == file) = true := hfile
  have x2 : (List.lookup (Str.ofString "super") (model prog w).prog.main.scope.names).isSome = false := htop
  simp only [x1, x2, if_true, Bool.false_eq_true, if_false]
  refine a_bind (a_any (wpAny_rule ?_))
  refine a_bind (a_any (wpAny_standAt ?_))
  refine a_bind (a_any (wpAny_mono h (fun g s₁ h₁ => ?_) fun _ _ z => z))
  obtain ⟨rfl, h₁⟩ := h₁
  refine a_bind (a_any (wpAny_mono h₁ (fun k s₂ h₂ => ?_) fun _ _ z => z))
  refine a_bind (noComps hb ?_)
  show wAt _ _ _ (loadName env ar.arg >>= _) _ _ _
  refine a_bind (a_any (wpAny_mono h₂ (fun me s₃ h₃ => ?_) fun _ _ z => z))
  refine a_bind (a_any (wpAny_mono h₃ (fun b s₄ h₄ => ?_) fun _ _ z => z))
  obtain ⟨rfl, h₄⟩ := h₄
  exact a_any h₄
/-- one argument for a built-in -/
theorem callB1 {pos : Pos} {id : String} {t : Sem Value} {Q : Value → Shared → Prop} {M : Model} (h : wAt M A c t (fun v s₁ => wpAny M A (call (.builtin id) [v]) Q E s₁) E s) : wAt M A c (callWith pos (.builtin id) [] [(false, t)] []) Q E s := by
  unfold callWith
  refine a_then (a_hold ?_)
  unfold evalArgs
  show wAt M A c (spliced [(false, t)] >>= _) _ E s
  rw [spliced]
  refine a_then (a_then (a_mono h fun v s₁ h₁ => ?_))
  simp only [Bool.false_eq_true, if_false]
  refine wpAny_bind (wpAny_pure (wpAny_bind (wpAny_holding ?_)))
  rw [spliced]
  refine wpAny_pure (wpAny_pure ?_)
  refine wpAny_holding (wpAny_bind (wpAny_pure (wpAny_bind (wpAny_pure (wpAny_pure ?_)))))
  refine wpAny_bind (wpAny_standAt ?_)
  show wpAny M A (pure Keeper.machine >>= _) Q E s₁
  refine wpAny_bind (wpAny_pure ?_)
  exact wpAny_bind (wpAny_mono h₁ (fun r s₂ hr => wpAny_bind (wpAny_holding (wpAny_point (wpAny_pure hr)))) fun _ _ z => z)
theorem cmp1_test {l r : Expr} {op : CmpOp} {pos : Pos} {whole : Sem Value} {Q : Bool → Shared → Prop} {M : Model}
    (h : wAt M A c (eval l env) (fun a s₁ => wpAny M A (eval r env) (fun b s₂ => wpAny M A (compareOp op a b) (fun x s₃ => wpAny M A (truthy x) Q E s₃) E s₂) E s₁) E s)
    (hm : behindInMarks op r = false) : wAt M A c (isTrue (.Compare l [op] [r] pos) env whole) Q E s := fun Γ p hc hΓ => by
  simp only [isTrue_Compare1, markedBehindIn_of_false hm, Sem.wp_bind', Sem.wp_holding, Sem.wp_cmd_standAt, Sem.wp_operate]
  refine Sem.wp_mono M Γ _ (fun a p₁ s₁ h₁ => ?_) (fun _ _ _ z => z) _ _ (h Γ p hc hΓ)
  refine Sem.wp_mono M Γ _ (fun b _ s₂ h₂ => ?_) (fun _ _ _ z => z) _ _ (h₁ Γ p₁ hΓ)
  exact Sem.wp_mono M Γ _ (fun x p₃ s₃ h₃ => h₃ Γ p₃ hΓ) (fun _ _ _ z => z) _ _ (h₂ Γ _ hΓ)
theorem for_at {tg iter : Expr} {body : List Stmt} {pos : Pos} {M : Model} {Q : Flow → Shared → Prop}
    (h : wAt M A c (eval iter env) (fun x s₁ => wpAny M A (pyIter x) (fun itv s₂ => codeAny M A (.forLoop tg itv body [] env) (fun r s' => match r with | .ok f => Q f s' | .error e => cameBackBy M A env E e s') s₂) E s₁) E s)
    (hs : ∀ x, foldedSetIterable iter env x = pure x) : wAt M A c (exec (.For tg iter body [] pos) env) Q E s := by
  rw [exec_For]
  refine a_bind (a_any (wpAny_standAt (a_then (a_mono h fun x s₁ h₁ => ?_))))
  refine wpAny_bind (wpAny_of_eq (hs x) (wpAny_bind (wpAny_standAt (wpAny_bind (wpAny_holding (wpAny_mono h₁ (fun itv s₂ h₂ => ?_) fun _ _ z => z))))))
  exact wpAny_runOwn h₂
/-- a code that begins anew, at itself -/
theorem again_at {c : Code} {R : Result → Shared → Prop} {M : Model} (hq : c.quiet = true) (I : Nat → Shared → Prop)
    (turn : ∀ n s, I n s → wAt M (A.under c) c (M.den c) (fun fin s' => match fin with
      | .done f => R (.ok f) s'
      | .again k => (k = c ∧ ∃ m, m < n ∧ I m s') ∨ (k.quiet = true ∧ codeAny M A k R s')) (fun e s' => R (.error e) s') s)
    (n : Nat) (h : I n s) : codeAny M A c R s := by
  induction n using Nat.strongRecOn generalizing s with
  | ind n ih =>
    refine _root_.PySem.codeAny_of_treeAt (a_mono (turn n s h) fun fin s' hf => ?_)
    cases fin with
    | done f => exact hf
    | again k =>
      rcases hf with ⟨rfl, m, hm, hI⟩ | hf
      · exact ⟨hq, ih m hm hI⟩
      · exact hf
theorem loop_at {R : Result → Shared → Prop} {tg : Expr} {itv : Value} {body : List Stmt} (I : Nat → Shared → Prop)
    (turn : ∀ n s, I n s → wpAny (model prog w) A (pyNext itv) (fun r s₁ => match r with
      | none => R (.ok .next) s₁
      | some v => wpAny (model prog w) A (letOwnedTupleGo tg itv v) (fun _ s₂ => wpAny (model prog w) A (assign tg env v) (fun _ s₃ =>
          wAt (model prog w) A (.forLoop tg itv body [] env) (execs body env) (fun f s₄ => match f with
            | .next | .cont => ∃ m, m < n ∧ I m s₄
            | .brk => R (.ok .next) s₄
            | .ret u => R (.ok (.ret u)) s₄) (fun _ _ => False) s₃) (fun _ _ => False) s₂) (fun _ _ => False) s₁) (fun _ _ => False) s)
    (n : Nat) (h : I n s) : codeAny (model prog w) A (.forLoop tg itv body [] env) R s := by
  refine again_at rfl I (fun n s hI => ?_) n h
  show wAt _ A _ ((forTurn tg itv body [] env).onRaise (fun x => do noteFrame x env; theTreesLotGoes x)) _ _ s
  refine ks_wpAt_onRaise (_root_.PySem.wpAt_mono (E := fun _ _ => False) ?_ (fun _ _ z => z) fun _ _ z => False.elim z)
  simp only [forTurn]
  refine a_bind (a_any (wpAny_standAt (a_bind (a_any (wpAny_onRaise (wpAny_mono (turn n s hI) (fun r s₁ h₁ => ?_) fun _ _ z => False.elim z))))))
  cases r with
  | none => exact a_any (wpAny_pure (.inr ⟨rfl, codeAny_block (wpAny_execs_nil h₁)⟩))
  | some v =>
    refine a_bind (a_any (wpAny_mono h₁ (fun _ s₂ h₂ => ?_) fun _ _ z => z))
    refine a_bind (a_any (wpAny_mono h₂ (fun _ s₃ h₃ => ?_) fun _ _ z => z))
    refine a_bind (a_mono h₃ fun f s₄ h₄ => ?_)
    cases f with
    | next => exact a_any (wpAny_pure (.inl ⟨rfl, h₄⟩))
    | cont => exact a_any (wpAny_pure (.inl ⟨rfl, h₄⟩))
    | brk => exact a_any (wpAny_pure h₄)
    | ret u => exact a_any (wpAny_pure h₄)
end

/-! ### the judgements -/
structure PEA (X : Cx) (c : Code) (e : Expr) (t : TE) : Prop where
  go : ∀ (pins : List (Addr × Obj)) (s : Shared) (σ : L2.St) (H : Hp) (Q : VK), Inv X pins σ H s → t σ H Q → wAt (model X.prog X.w) X.A c (eval e X.env) (EP X pins σ Q) X.xe s
structure PTA (X : Cx) (c : Code) (e : Expr) (t : TT) : Prop where
  go : ∀ (pins : List (Addr × Obj)) (s : Shared) (σ : L2.St) (H : Hp) (Q : Bool → Hp → Prop), Inv X pins σ H s → t σ H Q → wAt (model X.prog X.w) X.A c (isTrue e X.env (eval e X.env)) (TP X pins σ Q) X.xe s
structure PSA (X : Cx) (c : Code) (st : Stmt) (t : TS) : Prop where
  go : ∀ (pins : List (Addr × Obj)) (s : Shared) (σ : L2.St) (H : Hp) (D : Ends), Inv X pins σ H s → t D σ H → wAt (model X.prog X.w) X.A c (exec st X.env) (SP X pins D) X.xe s
structure PSsA (X : Cx) (c : Code) (st : List Stmt) (t : TS) : Prop where
  go : ∀ (pins : List (Addr × Obj)) (s : Shared) (σ : L2.St) (H : Hp) (D : Ends), Inv X pins σ H s → t D σ H → wAt (model X.prog X.w) X.A c (execs st X.env) (SP X pins D) X.xe s
structure PIA (X : Cx) (c : Code) (tg iter : Expr) (wi : TI) : Prop where
  go : ∀ (pins : List (Addr × Obj)) (s : Shared) (σ : L2.St) (H : Hp) (R : It → Hp → Prop), Inv X pins σ H s → wi σ H R →
    wAt (model X.prog X.w) X.A c (eval iter X.env) (fun v s1 => wpAny (model X.prog X.w) X.A (pyIter v) (PIE X pins σ tg R) X.xe s1) X.xe s
section
variable {X : Cx} {c : Code} {st : Stmt} {rest : List Stmt} {t u : TS} {e : Expr} {te : TE} {pos : Pos}
theorem PS.at_ (h : PS X st t) : PSA X c st t := ⟨fun pins s σ H D I q => a_any (h.run pins s σ H D I q)⟩
theorem PSs.at_ (h : PSs X rest t) : PSsA X c rest t := ⟨fun pins s σ H D I q => a_any (h.run pins s σ H D I q)⟩
theorem ssa_cons (h1 : PSA X c st t) (h2 : PSsA X c rest u) : PSsA X c (st :: rest) (tSeq t u) := by
  refine ⟨fun pins s σ H D I h => ks_wpAt_execs_cons (a_mono (h1.go pins s σ H { D with nx := u D } I h) fun f s1 q => ?_)⟩
  cases f with
  | next => exact let ⟨σ', H', I', q'⟩ := q; h2.go pins s1 σ' H' D I' q'
  | ret v => exact q
  | brk => exact q
  | cont => exact q
theorem ssa_one (h1 : PSA X c st t) : PSsA X c [st] t := by
  refine ⟨fun pins s σ H D I h => ks_wpAt_execs_cons (a_mono (h1.go pins s σ H D I h) fun f s1 q => ?_)⟩
  cases f with
  | next => exact a_any (wpAny_execs_nil q)
  | ret v => exact q
  | brk => exact q
  | cont => exact q
theorem sa_expr (he : PEA X c e te) (hs : swapsWith e none pos.line X.env = pure false := by rfl) : PSA X c (.Expr e pos) (tDrop te) :=
  ⟨fun pins s σ H D I h => ks_wpAt_Expr_any (a_mono (he.go pins s σ H _ I h) fun v s1 ⟨x, H1, I1, r1, q1⟩ => ⟨σ, H1, I1, q1⟩) I.quiet hs⟩
theorem sa_if {k : Expr} {a b : List Stmt} {tc : TT} (hc : PTA X c k tc) (ha : PSs X a t) (hb : PSs X b u) : PSA X c (.If k a b pos) (tIfS tc t u) := by
  refine ⟨fun pins s σ H D I h => ks_wpAt_If (a_mono (hc.go pins s σ H _ I h) fun d s1 ⟨H1, I1, q1⟩ => ?_)⟩
  cases d with
  | true => exact a_any (ha.run pins s1 σ H1 D I1 q1)
  | false => exact a_any (hb.run pins s1 σ H1 D I1 q1)
theorem ta_cmp {a b : Expr} {ta tb : TE} {op : CmpOp} {r : R2} (ho : OpR X (compareOp op) r) (ha : PEA X c a ta) (hb : PE X b tb) (hm : behindInMarks op b = false) : PTA X c (.Compare a [op] [b] pos) (tTest (tOp r ta tb)) := by
  refine ⟨fun pins s σ H Q I h => cmp1_test (a_mono (ha.go pins s σ H _ I h) fun v s1 ⟨x, H1, I1, r1, q1⟩ => ?_) hm⟩
  refine thn (hb.run pins s1 σ H1 _ I1 q1) fun v2 s2 ⟨y, H2, I2, r2, q2⟩ => ?_
  refine thn (ho pins s2 σ H2 x y v v2 _ I2 r1 r2 q2) fun z s3 ⟨zv, H3, I3, r3, k, ek, q3⟩ => ?_
  subst ek
  cases r3
  exact wpAny_truthy_bool ⟨H3, I3, q3⟩
theorem ea_callB {x : Str} {p : Pos} {id : String} {r : List V → Hp → VK → Prop} (hc : CallR X (.builtin id) r) (hg : Gl X x) (hm : X.mg x = none) (hv : bootBuiltins x = some (.builtin id)) (ha : PEA X c e te)
    (hn : x ≠ "__name__" := by decide) (hdb : (x == ("__debug__" : Str)) = false := by decide) (he : starEach [e] X.env = [(false, eval e X.env)] := by rfl) : PEA X c (.Call (.Name x p) [e] [] pos) (tCB r (tCons te tNil)) := by
  refine ⟨fun pins s σ H Q I h => ?_⟩
  rw [arm_eval_Call_Name']
  refine a_bind (a_any (ld_blt I hg hm hv ?_ hn hdb))
  rw [he]
  refine callB1 (a_mono (ha.go pins s σ H _ I h) fun v s1 ⟨y, H1, I1, r1, q1⟩ => ?_)
  exact hc pins s1 σ H1 [y] [v] Q I1 (.cons r1 .nil) q1
theorem ia_list {tg : Expr} (hl : PEA X c e te) : PIA X c tg e (iList X.K te) := by
  refine ⟨fun pins s σ H R I h => a_mono (hl.go pins s σ H _ I h) fun v s1 ⟨x, H1, I1, r1, a, ex, ⟨xs, hq⟩, q⟩ => ?_⟩
  subst ex
  cases r1
  obtain ⟨its, rv, pl, hz⟩ := I1.list hq
  have I2 : Inv X pins σ H1 { s1 with heap := s1.heap.push { cls := .type "list_iterator", data := .fields #[.ref a, .int 0 0] } } := I1.kept (t' := s1.toks) fun b o z => Heap.get?_push_of_some _ z
  refine wpAny_pyIter_list pl.isList ⟨s1.heap.objs.size, [s1.heap.objs.size], _, _, H1, rfl, I2, turn_list a _, ⟨_, Heap.get?_push_size _ rfl, rfl, rfl⟩, fun b hb => ?_, q⟩
  obtain rfl : b = s1.heap.objs.size := List.mem_singleton.mp hb
  exact I1.fpOk (Nat.le_refl _) I1.fresh
/-- a loop whose turns run at the loop's own code -/
theorem sa_for {tg iter : Expr} {body : List Stmt} {wi : TI} {g : TG} {tb : TS} (hx : X.xe = fun _ _ => False) (hc : X.calm = true) (hi : PIA X c tg iter wi) (hg : PG X tg g) (hb : ∀ itv, PSsA X (.forLoop tg itv body [] X.env) body tb)
    (hs : ∀ x, foldedSetIterable iter X.env x = pure x := by intro _; rfl) : PSA X c (.For tg iter body [] pos) (tFor wi g tb) := by
  refine ⟨fun pins s σ H D I h => for_at (a_mono (hi.go pins s σ H _ I h) fun v s1 h1 => thn h1 fun itv s2 h2 => ?_) hs⟩
  obtain ⟨it, fp, tn, J, H2, rfl, I2, T, st2, f2, W, ⟨m0, w0⟩, turn⟩ := h2
  have fixed : ∀ {H' : Hp}, (∀ b ∈ fp, H' b = none) → ∀ b ∈ fp, FpOk X pins H' b := fun hn b hb => ⟨hn b hb, (f2 b hb).2⟩
  refine loop_at (fun n z => ∃ i σ' H', Inv X pins σ' H' z ∧ tn i z.heap ∧ (∀ b ∈ fp, H' b = none) ∧ W i n σ' H') (fun n s3 hI => ?_) m0 ⟨0, σ, H2, I2, st2, fun b hb => (f2 b hb).1, w0⟩
  obtain ⟨i, σ3, H3, I3, st3, fr3, w3⟩ := hI
  rcases turn i n σ3 H3 w3 with ⟨stop, qn⟩ | ⟨more, N, hN, step⟩
  · refine thn (T.done X rfl rfl rfl hc i pins s3 σ3 H3 _ I3 (fixed fr3) st3 stop) fun r s4 ⟨hr, I4⟩ => ?_
    subst hr
    exact ⟨σ3, H3, I4, qn⟩
  refine thn (T.item X rfl rfl rfl hc i pins s3 σ3 H3 _ I3 (fixed fr3) st3 more) fun r s4 ⟨u, hr, h4⟩ => ?_
  subst hr
  refine thn h4 fun _ s5 ⟨x, H5, I5, r5, y5, st5, fr5⟩ => ?_
  have J5 := I5.pinned (fixed fr5) (T.obj _ _ st5)
  have hgo := hg.run _ s5 σ3 H5 x u _ J5 r5 (step x H5 y5)
  rw [hx] at hgo
  refine thn hgo fun _ s6 ⟨σ6, H6, I6, q6⟩ => ?_
  have hbo := (hb (.ref it)).go _ s6 σ6 H6 _ I6 q6
  rw [hx] at hbo
  refine a_mono hbo fun f s7 q7 => ?_
  have next : ∀ {σ7 : L2.St} {H7 : Hp}, Inv X (pins ++ pinsAt fp s5.heap) σ7 H7 s7 → N σ7 H7 → ∃ m, m < n ∧ ∃ i σ' H', Inv X pins σ' H' s7 ∧ tn i s7.heap ∧ (∀ b ∈ fp, H' b = none) ∧ W i m σ' H' := fun {σ7 H7} I7 n7 => by
    have held : ∀ b ∈ fp, ∀ o, s5.heap.get? b = some o → s7.heap.get? b = some o ∧ H7 b = none := fun b hb o e =>
      have z := I7.pin (b, o) (List.mem_append_right _ (List.mem_append_right _ (mem_pinsAt hb e)))
      ⟨z.1, z.2.1⟩
    obtain ⟨m', hm, w7⟩ := hN σ7 H7 n7
    refine ⟨m', hm, i + 1, σ7, H7, I7.unpinned, T.keep _ _ _ st5 fun b hb o e => (held b hb o e).1, fun b hb => ?_, w7⟩
    obtain ⟨o, e, _⟩ := T.obj _ _ st5 b hb
    exact (held b hb o e).2
  cases f with
  | next => exact let ⟨σ7, H7, I7, n7⟩ := q7; next I7 n7
  | cont => exact let ⟨σ7, H7, I7, n7⟩ := q7; next I7 n7
  | brk => exact let ⟨σ7, H7, I7, z7⟩ := q7; ⟨σ7, H7, I7.unpinned, z7⟩
  | ret v => exact let ⟨x7, σ7, H7, I7, r7, z7⟩ := q7; ⟨x7, σ7, H7, I7.unpinned, r7, z7⟩
end

/-! ### super().m(e, ..) -/
/-- what the class at C has to say to super() of a def in the class at D -/
structure SupM (K : PySem.W.Frag) (C D : Addr) (m : Str) (g : Addr) : Prop where
  sub : PySem.W.mroIn K C (.ref D) = some true
  fnd : PySem.W.ks_superIn K C D m = some (some (.ref g))
  fn : PySem.W.fnIn K g = true
  ty : PySem.W.typeIn K (.ref g) = some (.type "function")
  any : PySem.W.nsIn K cStatics "thirdparty.any" = some none
/-- the def's own facts: its cell `__class__` holds D, its first parameter stands in slot i -/
structure SupEnv (X : Cx) (i : Nat) (D : Addr) : Prop where
  ks : X.env.kindOf "super" = some .globalImplicit
  kc : X.env.kindOf "__class__" = some .free
  top : (X.prog.main.scope.names.lookup ("super" : Str)).isSome = false
  mg : X.mg "super" = none
  cls : ∃ cd, PySem.W.clsIn X.K D = some cd
  fn : ∃ (f : Addr) (oc : Value) (od : Option Addr) (fd : FuncData) (osl : Array (Option Value)) (ar : Arg), X.env.func = some f ∧ X.K.lookup f = some ⟨oc, od, .func fd, osl⟩ ∧ (fd.params.posonlyargs ++ fd.params.args).head? = some ar ∧
    X.N[i]? = some ar.arg ∧ X.env.scope.names.lookup ar.arg = some .local
  code : ∃ (k : Addr) (oc : Value) (od : Option Addr) (vs : Array Value) (osl : Array (Option Value)) (file : Str) (tf : Tok), X.env.code = .ref k ∧ X.K.lookup k = some ⟨oc, od, .fields vs, osl⟩ ∧ vs[2]? = some (.str file tf) ∧ ((X.prog.main.file : Str) == file) = true
  cell : ∃ (k : Addr) (oc : Value) (od : Option Addr) (osl : Array (Option Value)), X.env.cells.lookup ("__class__" : Str) = some k ∧ X.K.lookup k = some ⟨oc, od, .cell (some (.ref D)), osl⟩
def tSup (K : PySem.W.Frag) (i : Nat) (D : Addr) (m : Str) (g : Addr) (sp : Sp) (E : XK) (t : TA) : TE := fun σ H Q => ∃ a C dx fs, σ[i]? = some (some (.ref a)) ∧ H a = some (.ins C dx fs) ∧ SupM K C D m g ∧ t σ H fun vs H2 => sp (.ref a :: vs) H2 Q E
section
variable {X : Cx} {c : Code} {CX : CXT} {k i : Nat} {D g : Addr} {sp : Sp} {E : XK} {e : Expr} {es : List Expr} {m : Str} {p0 p1 pos apos : Pos} {t : TA} {pl : Sem Bool}
theorem ea_super (hb : Bare c X.env) (S : SupEnv X i D) (F : FnR X.prog X.w X.K X.mg X.base CX k g sp) (hr : Room k X.A) (hx : Passes CX X E) (ha : PA X (e :: es) t) (hat : (m == ("__class__" : Str)) = false)
    (boot : bootBuiltins "super" = some (.type "super"))
    (hst : starEach (e :: es) X.env = (false, eval e X.env) :: starEach es X.env := by rfl) (hpl : (backTo pos (starEach es X.env)).any (·.1) = false := by rfl)
    (ht : eval (.Call (.Attribute (.Call (.Name "super" p0) [] [] p1) m apos) (e :: es) [] pos) X.env = (do
      let ov ← attributeBase (.Call (.Name "super" p0) [] [] p1) m X.env (eval (.Call (.Name "super" p0) [] [] p1) X.env)
      standAt apos.atName
      let (f, first) ← holding [ov] (getMethod ov m pl)
      callWith pos f first (backTo pos (starEach (e :: es) X.env)) []) := by rfl) :
    PEA X c (.Call (.Attribute (.Call (.Name "super" p0) [] [] p1) m apos) (e :: es) [] pos) (tSup X.K i D m g sp E t) := by
  refine ⟨fun pins s σ H Q I ⟨a, C, dx, fs, hσ, hH, SM, q⟩ => ks_wpAt_MethodCall (pl := pl) ?_ ht⟩
  obtain ⟨hh, gs, dr, tk, os⟩ := s
  obtain ⟨f, ofc, ofd, fd, ofs, ar, hfu, hf, hp, hN, hloc⟩ := S.fn
  obtain ⟨kc, occ, ocd, vs, ocs, file, tf, hco, hcc, hvs, hfile⟩ := S.code
  obtain ⟨kl, olc, old, ols, hcl, hcell⟩ := S.cell
  obtain ⟨cdD, hcD⟩ := S.cls
  obtain ⟨mA, O, _⟩ := ins_get I.hok hH
  obtain ⟨od, J, _⟩ := O.look
  obtain ⟨oD, hD1, hD2⟩ : ∃ oD, hh.get? D = some oD ∧ oD.data = .cls cdD := by
    unfold PySem.W.clsIn at hcD
    split at hcD
    · rename_i ho
      cases hcD
      exact ⟨_, I.kIn _ _ ho, rfl⟩
    · cases hcD
  obtain ⟨ml, hn, hl⟩ := I.loc
  obtain ⟨u, ru, lk⟩ := hl i ar.arg _ hN hσ (.inl hloc)
  obtain rfl : u = Value.ref a := ru
  have hma : ml ar.arg = some (.ref a) := by
    rcases lk with ⟨_, z⟩ | ⟨z, _⟩
    · exact z
    · have z2 : X.env.scope.names.lookup ar.arg = some .cell ∨ X.env.scope.names.lookup ar.arg = some .free := z
      rw [hloc] at z2
      rcases z2 with z2 | z2 <;> cases z2
  refine super_base hb S.ks S.kc hat hfu (I.kIn _ _ hf) rfl hp hco (I.kIn _ _ hcc) rfl hvs hfile S.top ?_
  obtain ⟨mb, b1, b2⟩ := I.mod.blt
  refine PySem.W.ks_loadName_global I.ok.kind S.ks (Calls.loadGlobal_builtin (by rw [I.ok.glob]; exact I.mod.glob.keeps I.bk) S.mg (by rw [I.ok.blt]; exact b1.keeps I.bk) ((b2 _ (by decide)).trans boot) ⟨rfl, ?_⟩)
  refine wpAny_loadName_free I.ok.kind S.kc hcl ⟨_, I.kIn _ _ hcell, rfl⟩ ?_
  refine wpAny_loadName_local I.ok.kind hloc hn hma ?_
  refine ks_wpAny_isType_cls hD1 hD2 ⟨rfl, ?_⟩
  have KX := I.kIn
  refine ks_wpAny_call_super hD1 hD2 J.at_ J.cls (fun cd z => ?_) (PySem.W.looks_mroIn KX SM.sub) (fun h1 e1 k1 => ?_)
  · cases z
  have I1 : Inv X pins σ H ⟨h1, gs, dr, tk, os⟩ := I.kept (t' := tk) k1
  have K1 : X.K.In h1 := I1.kIn
  cases hcC : PySem.W.clsIn X.K C with
  | none =>
    have z := SM.fnd
    unfold PySem.W.ks_superIn at z
    rw [hcC] at z
    cases z
  | some cd =>
    have fnd : PySem.W.alongIn X.K m ((cd.mro.dropWhile (· != .ref D)).drop 1) = some (some (.ref g)) := by
      have z := SM.fnd
      unfold PySem.W.ks_superIn at z
      rw [hcC] at z
      exact z
    obtain ⟨og, hg1, hg2⟩ : ∃ og, X.K.lookup g = some og ∧ og.cls = .type "function" := by
      have z : (X.K.lookup g).map (·.cls) = some (.type "function") := SM.ty
      cases y : X.K.lookup g with
      | none => rw [y] at z; cases z
      | some o => rw [y] at z; exact ⟨o, rfl, Option.some.inj z⟩
    have nxC : a ≠ C := PySem.W.ks_ne KX J hcC
    refine ks_wpAny_getMethod_super e1 (PySem.W.looks_opaque K1 SM.any) (l₀ := cd.mro) ?_ rfl K1 fnd (K1 _ _ hg1) hg2 nxC hat ?_
    · exact fun A Q E s k q => wpAny_bind ((PySem.W.looks_clsIn K1 hcC) A _ E s k (wpAny_pure q))
    have I2 := met_new (g := g) (C := a) I1
    refine callwith_cm I2 (base_none I1 (Nat.le_refl _)) SM.fn (thn (ha.run pos _ _ σ H _ I2 q) fun us s3 ⟨ws, H2, I3, rv, q2⟩ => ⟨⟨pin_at I3, I3.kIn⟩, ?_⟩) hst hpl
    exact run_cm F hr hx I3 rv q2
end

/-! ### a def that closes over `__class__` -/
abbrev nf (name qual : Str) (params : Arguments) (body : List Stmt) (scope : Scope) (cc k : Addr) : NdefX.NF := ⟨name, qual, params, body, scope, [("__class__", cc)], k⟩
/-- such a def of the text as it stands behind the top: its code object at k, its cell at cc holds the class at D -/
structure FunA (K : PySem.W.Frag) (x qual : Str) (st : Stmt) (f : Addr) (fd : FuncData) (k cc D : Addr) : Prop where
  ex : ∃ (oc : Value) (od : Option Addr) (dV kV doc pm : Value) (an : Option Addr) (ct : Value) (osl : Array (Option Value)),
    fd = PySem.W.fnX x qual (defArgs st) (defBody st) (defScope st) [("__class__", cc)] dV kV doc pm an (.ref k) ct ∧ K.lookup f = some ⟨oc, od, .func fd, osl⟩ ∧ PySem.W.codeIn K (.ref k) qual = true
  cell : ∃ (oc : Value) (od : Option Addr) (osl : Array (Option Value)), K.lookup cc = some ⟨oc, od, .cell (some (.ref D)), osl⟩
  kp : PySem.W.keepIn K (.ref f) = true
section
variable {P : Program} {w : World} {K : PySem.W.Frag} {mg : Str → Option Value} {base : Heap}
theorem FunA.ok {x qual : Str} {st : Stmt} {f k cc D : Addr} {fd : FuncData} {N ps : List Str} {n : Nat} {sp : Sp} (F : FunA K x qual st f fd k cc D) (S : NdefX.NScope N ps ["__class__"] (defScope st))
    (len : ∀ vs H Q E, sp vs H Q E → vs.length = ps.length)
    (hbody : ∀ (A : Around) (outer : List Env) (s : Shared) (H : Hp) (vs : List V) (Q : VK) (E : XK), Room n (A.deeper (NdefX.envF (nf x qual (defArgs st) (defBody st) (defScope st) cc k) f s.heap.objs.size)) → sp vs H Q E →
      ∃ t, PSsA (NdefX.ncx CX0 P w K mg base N (nf x qual (defArgs st) (defBody st) (defScope st) cc k) f A outer s H E).nox (.func (defBody st) (NdefX.envF (nf x qual (defArgs st) (defBody st) (defScope st) cc k) f s.heap.objs.size)) (defBody st) t ∧
        t { nx := fun _ H' => Q .non H', rt := Q } (NdefX.startF N vs [none]) H) : FnOk P w K mg base CX0 (n + 1) f fd ps sp := by
  obtain ⟨oc, od, dV, kV, doc, pm, an, ct, osl, rfl, lk, hcd⟩ := F.ex
  obtain ⟨c1, c2, c3, hcell⟩ := F.cell
  refine ⟨len, fun A outer s H args us vs Q E hr e0 hb r hsp => ?_⟩
  have hl := len _ _ _ _ hsp
  have keep : ∀ b o, base.get? b = some o → s.heap.get? b = some o := fun b o e => (e0.bs b o e).1
  have KX : K.In s.heap := e0.mod.kin.keeps keep
  have C : NdefX.CellsAt [("__class__", cc)] ["__class__"] [none] s.heap H := by
    refine ⟨rfl, fun y a e => ?_, fun y z a e1 e2 => ?_, fun i y e => ?_⟩
    · have q := PySem.mem_of_lookup e
      have q2 := List.mem_singleton.mp q
      cases q2
      exact ⟨(e0.bs _ _ (e0.mod.kin _ _ hcell)).2, _, _, KX _ _ hcell, rfl⟩
    · have q1 := List.mem_singleton.mp (PySem.mem_of_lookup e1)
      have q2 := List.mem_singleton.mp (PySem.mem_of_lookup e2)
      cases q1; cases q2; rfl
    · cases i with
      | zero =>
        cases e
        exact ⟨cc, rfl, fun v z => by cases z⟩
      | succ i => cases e
  obtain ⟨t, ht, hq⟩ := hbody A outer s H vs Q E (hr.deeper _) hsp
  refine ks_codeAny_call_defAt (fd := PySem.W.fnX x qual (defArgs st) (defBody st) (defScope st) [("__class__", cc)] dV kV doc pm an (.ref k) ct) (body := defBody st) (binds := ps.zip us) hr.depth (KX _ _ lk) rfl
    (e0.mod.nolimit.keeps keep) (PySem.W.codeRec_of KX hcd) rfl hb S.nocell (fun y hy => S.par y.1 (List.of_mem_zip hy).1) (fun h₁ hns hk => ?_) S.co S.gen S.kind
  have I : Inv (NdefX.ncx CX0 P w K mg base N (nf x qual (defArgs st) (defBody st) (defScope st) cc k) f A outer s H E).nox [] (NdefX.startF N vs [none]) H { s with heap := h₁, toks := s.toks + (ps.zip us).length } :=
    (NdefX.inv_startN (F := nf x qual (defArgs st) (defBody st) (defScope st) cc k) (CX := CX0) (E := E) S hr.hd e0 hl r C hns hk).wish _
  have run := ht.go [] _ _ H _ I hq
  refine _root_.PySem.wpAt_mono run (fun fl s' hs => ?_) fun e s' z => z.elim
  have fin : ∀ {σ' : L2.St} {H' : Hp} {v : V} {u : Value}, Inv (NdefX.ncx CX0 P w K mg base N (nf x qual (defArgs st) (defBody st) (defScope st) cc k) f A outer s H E).nox [] σ' H' s' → RelV v u → Q v H' → CE outer P w H s Q u s' :=
    fun {σ' H' v u} J rv q => ⟨v, H', J.os, J.bare, J.base, J.hok, rv, q⟩
  cases fl with
  | ret u => exact let ⟨v, σ', H', J, rv, q⟩ := hs; fin J rv q
  | next => exact let ⟨σ', H', J, q⟩ := hs; fin (v := .non) (u := .none) J rfl q
  | brk => exact let ⟨_, _, _, q⟩ := hs; False.elim q
  | cont => exact let ⟨_, _, _, q⟩ := hs; False.elim q
end
end Sup

/-! the mirror: what the program's defs reckon, over a word of three letters -/
namespace K74
open PySem

inductive Wd where
  | b | a | w
  deriving DecidableEq
def Wd.t : Wd → Str
  | .b => "between" | .a => "amid" | .w => "waiting"
def Wd.all : List Wd := [.b, .a, .w]
theorem Wd.t_inj {x y : Wd} (h : x.t = y.t) : x = y := by
  cases x <;> cases y <;> first | rfl | exact absurd h (by decide +kernel)
theorem Wd.t_eq (x y : Wd) : (x.t == y.t) = decide (x = y) := by
  cases x <;> cases y <;> decide +kernel
abbrev Ps := Wd × Wd
inductive Dd where
  | begin | finish | hit | pass
  deriving DecidableEq
def Dd.t : Dd → Str
  | .begin => "begin" | .finish => "finish" | .hit => "hit" | .pass => "pass"
/-- from, to -/
def Dd.o : Dd → Wd
  | .begin => .b | .finish => .a | .hit => .a | .pass => .w
def Dd.g : Dd → Wd
  | .begin => .a | .finish => .b | .hit => .w | .pass => .b
def Dd.all : List Dd := [.begin, .finish, .hit, .pass]
/-- a processor: false 0, true 1 -/
def pn : Bool → Int
  | false => 0 | true => 1
def mt : Dd → Bool → Str
  | .begin, false => "begin 0" | .begin, true => "begin 1" | .finish, false => "finish 0" | .finish, true => "finish 1"
  | .hit, false => "hit 0" | .hit, true => "hit 1" | .pass, false => "pass 0" | .pass, true => "pass 1"
def get (s : Ps) (p : Bool) : Wd := if p then s.2 else s.1
def put (s : Ps) (p : Bool) (x : Wd) : Ps := if p then (s.1, x) else (x, s.2)
def may (c : Bool) (o : Wd) : Bool := decide (o = .b) || (c && decide (o = .w))
/-- is the deed possible for p -/
def can (c : Bool) (s : Ps) (d : Dd) (p : Bool) : Bool := decide (get s p = d.o) && (decide (d ≠ .pass) || may c (get s (!p)))
def one (c : Bool) (s : Ps) (d : Dd) (p : Bool) : List (Str × Ps) := if can c s d p = true then [(mt d p, put s p d.g)] else []
def mvD (c : Bool) (s : Ps) (ps : List Bool) (d : Dd) : List (Str × Ps) := ps.flatMap fun p => one c s d p
def mvL (c : Bool) (s : Ps) (ds : List Dd) : List (Str × Ps) := ds.flatMap fun d => mvD c s [false, true] d
/-- the moves of a state -/
def mv (c : Bool) (s : Ps) : List (Str × Ps) := mvL c s Dd.all
def hmv (c : Bool) (s : Ps) : List (Str × Option Ps) := (mv c s).map fun m => (m.1, some m.2)
def smv1 (c : Bool) (m : Str × Ps) : Str × Option Ps := (m.1, if (mv c m.2).length = 0 then none else some m.2)
def smv (c : Bool) (s : Ps) : List (Str × Option Ps) := (mv c s).map (smv1 c)
theorem one_le (c : Bool) (s : Ps) (d : Dd) (p : Bool) : (one c s d p).length ≤ 1 := by unfold one; split <;> simp
theorem mvD_le (c : Bool) (s : Ps) (ps : List Bool) (d : Dd) : (mvD c s ps d).length ≤ ps.length := by
  unfold mvD
  induction ps with
  | nil => simp
  | cons p ps ih =>
    rw [List.flatMap_cons, List.length_append, List.length_cons]
    have := one_le c s d p
    omega
theorem mvL_le (c : Bool) (s : Ps) (ds : List Dd) : (mvL c s ds).length ≤ 2 * ds.length := by
  unfold mvL
  induction ds with
  | nil => simp
  | cons p ps ih =>
    rw [List.flatMap_cons, List.length_append, List.length_cons]
    have := mvD_le c s [false, true] p
    simp only [List.length_cons, List.length_nil] at this
    omega
theorem mv_le (c : Bool) (s : Ps) : (mv c s).length ≤ 8 := mvL_le c s Dd.all
theorem hmv_le (c : Bool) (s : Ps) : (hmv c s).length ≤ 8 := by unfold hmv; rw [List.length_map]; exact mv_le c s
theorem smv_le (c : Bool) (s : Ps) : (smv c s).length ≤ 8 := by unfold smv; rw [List.length_map]; exact mv_le c s

/-! ### breadth first: the states -/
def ext (l : List Ps) : List Ps → List Ps
  | [] => l
  | x :: r => ext (if x ∈ l then l else l ++ [x]) r
def stF (c : Bool) : Nat → List Ps
  | 0 => [(.b, .b)]
  | k + 1 => match (stF c k)[k]? with
    | none => stF c k
    | some s => ext (stF c k) ((mv c s).map (·.2))
def allPs : List Ps := [(.b, .b), (.b, .a), (.b, .w), (.a, .b), (.a, .a), (.a, .w), (.w, .b), (.w, .a), (.w, .w)]
theorem mem_all (s : Ps) : s ∈ allPs := by
  obtain ⟨x, y⟩ := s
  cases x <;> cases y <;> decide
theorem st_len : ∀ c : Bool, (stF c 9).length = 9 := by decide +kernel
theorem st_go : ∀ c : Bool, ∀ k : Fin 9, k.val < (stF c k.val).length := by decide +kernel
theorem st_sz : ∀ c : Bool, ∀ k : Fin 10, (stF c k.val).length ≤ 9 := by decide +kernel
theorem st_all : ∀ c : Bool, allPs.all (fun s => decide (s ∈ stF c 9)) = true := by decide +kernel
theorem st_mem (c : Bool) (s : Ps) : s ∈ stF c 9 := of_decide_eq_true (List.all_eq_true.mp (st_all c) s (mem_all s))

/-! ### breadth first: the way to what must not happen -/
abbrev Qd := List Ps × List (Ps × List Str)
def look (ws : List (Ps × List Str)) (s : Ps) : Option (List Str) := (ws.find? fun x => decide (x.1 = s)).map (·.2)
def turn (w : List Str) : List (Str × Option Ps) → Qd → Except (List Str) Qd
  | [], q => .ok q
  | (m, none) :: _, _ => .error (w ++ [m])
  | (m, some s) :: r, q => if (look q.2 s).isSome then turn w r q else turn w r (q.1 ++ [s], q.2 ++ [(s, w ++ [m])])
def bf (f : Ps → List (Str × Option Ps)) : Nat → Except (List Str) Qd
  | 0 => .ok ([(.b, .b)], [((.b, .b), [])])
  | k + 1 => match bf f k with
    | .error r => .error r
    | .ok q => match q.1[k]? with
      | none => .ok q
      | some s => match look q.2 s with
        | none => .ok q
        | some w => turn w (f s) q
def stepB (f : Ps → List (Str × Option Ps)) (res : Option (List Str)) (k : Nat) : Bool := match bf f k with
  | .error _ => true
  | .ok q => decide (q.1.length ≤ 20) && decide (q.2.length ≤ 20) && (match q.1[k]? with
    | none => decide (q.1.length ≤ k) && decide (res = none)
    | some s => decide (k < 9) && decide (k < q.1.length) && (match look q.2 s with
      | none => false
      | some w => decide (w.length ≤ 20) && (match turn w (f s) q with
        | .error r => decide (res = some r)
        | .ok _ => true)))
def goodB (f : Ps → List (Str × Option Ps)) (res : Option (List Str)) : Bool := (List.range 10).all (stepB f res)
theorem good_h : ∀ c : Bool, goodB (hmv c) none = true := by decide +kernel
theorem good_st : goodB (smv true) none = true := by decide +kernel
def four : List Str := ["begin 0", "begin 1", "hit 0", "hit 1"]
theorem good_sf : goodB (smv false) (some four) = true := by decide +kernel

/-! ### a waiting one goes on -/
def passes (p : Bool) (l : List (Str × Ps)) : Bool := l.any fun m => decide (m.1 = mt .pass p)
def goesOn (c : Bool) (s : Ps) (p : Bool) : Bool := passes p (mv c s) || (mv c s).any fun m => decide (m.1 = mt .finish (!p)) && passes p (mv c m.2)
theorem goes_all : ∀ p : Bool, allPs.all (fun s => decide (get s p = .w → goesOn true s p = true)) = true := by decide +kernel
theorem goes (s : Ps) (p : Bool) (h : get s p = .w) : goesOn true s p = true := of_decide_eq_true (List.all_eq_true.mp (goes_all p) s (mem_all s)) h
/-- stuck: only both waiting, and only if it does not count -/
theorem stuck_all : ∀ c : Bool, allPs.all (fun s => decide ((mv c s).length = 0) == (decide (s = (.w, .w)) && !c)) = true := by decide +kernel
theorem stuck (c : Bool) (s : Ps) : decide ((mv c s).length = 0) = (decide (s = (.w, .w)) && !c) := beq_iff_eq.mp (List.all_eq_true.mp (stuck_all c) s (mem_all s))

/-! ### the same as data -/
def dSt (s : Ps) : PyData := .tuple [.str s.1.t, .str s.2.t]
def dMv (m : Str × Ps) : PyData := .tuple [.str m.1, dSt m.2]
theorem eqv_all : allPs.all (fun s => allPs.all fun r => PyData.eqv (dSt s) (dSt r) == decide (s = r)) = true := by decide +kernel
theorem eqv_st (s r : Ps) : PyData.eqv (dSt s) (dSt r) = decide (s = r) := beq_iff_eq.mp (List.all_eq_true.mp (List.all_eq_true.mp eqv_all s (mem_all s)) r (mem_all r))
theorem eqv_self_mv (m : Str × Ps) : PyData.eqv (dMv m) (dMv m) = true := by
  unfold dMv
  simp only [PyData.eqv, PyData.eqvAll, eqv_st, decide_true, Bool.and_true, beq_self_eq_true]
theorem eqv_sts : ∀ l : List Ps, PyData.eqvAll (l.map dSt) (l.map dSt) = true
  | [] => rfl
  | s :: r => by
    rw [List.map_cons]
    simp only [PyData.eqvAll, eqv_st, decide_true, Bool.true_and]
    exact eqv_sts r
theorem any_st (l : List Ps) (s : Ps) : ((l.map dSt).any fun z => PyData.eqv z (dSt s)) = decide (s ∈ l) := by
  induction l with
  | nil => simp
  | cons r l ih =>
    rw [List.map_cons, List.any_cons, ih, eqv_st]
    by_cases h : r = s
    · subst h; simp
    · have h2 : ¬ s = r := fun z => h z.symm
      simp [h, h2]
theorem shaped_st (s : Ps) : SeqAt.shaped (dSt s) = true := by
  obtain ⟨x, y⟩ := s
  cases x <;> cases y <;> decide +kernel
theorem lay_sts : ∀ l : List Ps, PyData.canLayAll0 (l.map dSt) = true ∧ PyData.depthAll (l.map dSt) ≤ 2
  | [] => ⟨rfl, by decide⟩
  | s :: r => by
    obtain ⟨h1, h2⟩ := lay_sts r
    rw [List.map_cons]
    simp only [PyData.canLayAll0, PyData.depthAll, h1, Bool.and_true]
    have e : (dSt s).canLay0 = true ∧ (dSt s).depth ≤ 2 := by
      obtain ⟨x, y⟩ := s
      cases x <;> cases y <;> decide +kernel
    exact ⟨e.1, by omega⟩
theorem shaped_sts (l : List Ps) : SeqAt.shaped (.list (l.map dSt)) = true := by
  obtain ⟨h1, h2⟩ := lay_sts l
  unfold SeqAt.shaped
  rw [Bool.and_eq_true]
  exact ⟨by simp only [PyData.canLay0]; exact h1, decide_eq_true (by simp only [PyData.depth]; omega)⟩
theorem shaped_mt (d : Dd) (p : Bool) (s : Ps) : SeqAt.shaped (dMv (mt d p, s)) = true := by
  obtain ⟨x, y⟩ := s
  cases d <;> cases p <;> cases x <;> cases y <;> decide +kernel
theorem mem_mv {c : Bool} {s : Ps} {m : Str × Ps} (h : m ∈ mv c s) : ∃ d p, m.1 = mt d p := by
  unfold mv mvL at h
  obtain ⟨d, _, h⟩ := List.mem_flatMap.mp h
  unfold mvD at h
  obtain ⟨p, _, h⟩ := List.mem_flatMap.mp h
  unfold one at h
  split at h
  · rw [List.mem_singleton.mp h]
    exact ⟨d, p, rfl⟩
  · cases h
theorem shaped_mv {c : Bool} {s : Ps} {m : Str × Ps} (h : m ∈ mv c s) : SeqAt.shaped (dMv m) = true := by
  obtain ⟨d, p, e⟩ := mem_mv h
  obtain ⟨x, y⟩ := m
  have e : x = mt d p := e
  subst e
  exact shaped_mt d p y
end K74

/-! the text by places, the heap's words, the small defs -/
namespace K74
open PySem L2 Sup
def top (i : Nat) : Stmt := PySem.Challenge.pw_guestlives_k74_whole_handshake_goes_on.main.body.getD i (.Pass ⟨0, 0, 0, 0⟩)
abbrev sTI : Stmt := inClass (top 3) 0
abbrev sScen : Stmt := inClass (top 3) 3
abbrev sStates : Stmt := inClass (top 3) 4
abbrev sHI : Stmt := inClass (top 6) 0
abbrev sStart : Stmt := inClass (top 6) 1
abbrev sMay : Stmt := inClass (top 6) 2
abbrev sMoves : Stmt := inClass (top 6) 3
abbrev sSMoves : Stmt := inClass (top 7) 0
abbrev sStuck : Stmt := top 8
abbrev sRow : Stmt := top 10
abbrev sDigit : Stmt := top 11
abbrev sWords : Stmt := top 12
abbrev sLMoves : Stmt := top 13
abbrev sSame : Stmt := top 14
abbrev sLStates : Stmt := top 15
abbrev sNine : Stmt := top 16
abbrev sGoes : Stmt := top 17
abbrev sWalk : Stmt := top 18
abbrev sTable : Stmt := top 19
abbrev sLaw : Stmt := top 20

/-! ### the heap's words -/
/-- what stood as a tuple stands so -/
def Tups (H H' : Hp) : Prop := ∀ b xs, H b = some (.tup xs) → H' b = some (.tup xs)
theorem Tups.refl (H : Hp) : Tups H H := fun _ _ h => h
theorem Tups.trans {H H1 H2 : Hp} (a : Tups H H1) (b : Tups H1 H2) : Tups H H2 := fun c o h => b c o (a c o h)
theorem Tups.same {H H' : Hp} (e : Same H H') : Tups H H' := fun b xs h => e b _ h
theorem Tups.new {H : Hp} {p : Addr} {o : HO} (h : H p = none) : Tups H (upd H p o) := fun b xs e => by
  rw [upd_ne (ne_of_none e h)]; exact e
theorem Tups.lst {H : Hp} {p : Addr} {ys : List V} {o : HO} (h : H p = some (.lst ys)) : Tups H (upd H p o) := fun b xs e => by
  rw [upd_ne (ne_of e h (by intro z; cases z))]; exact e
theorem Tups.dT {H : Hp} {p : Addr} {ys : List (List Key × V)} {o : HO} (h : H p = some (.dT ys)) : Tups H (upd H p o) := fun b xs e => by
  rw [upd_ne (ne_of e h (by intro z; cases z))]; exact e
theorem Same.new {H H0 : Hp} {p : Addr} {o : HO} (s : Same H0 H) (h : H p = none) : Same H0 (upd H p o) := fun b u e => by
  rw [upd_ne (ne_of_none (s b u e) h)]; exact s b u e
/-- a change of what was not there at H0 -/
theorem Same.late {H H0 : Hp} {p : Addr} {o : HO} (s : Same H0 H) (h : H0 p = none) : Same H0 (upd H p o) := fun b u e => by
  rw [upd_ne (ne_of_none e h)]; exact s b u e

def stV (s : Ps) : List V := [.str s.1.t, .str s.2.t]
def StAt (H : Hp) (v : V) (s : Ps) : Prop := ∃ a, v = .ref a ∧ H a = some (.tup (stV s))
def AfAt (H : Hp) (v : V) : Option Ps → Prop
  | some s => StAt H v s
  | none => v = .str "bad"
def MvAt (H : Hp) (v : V) (m : Str × Option Ps) : Prop := ∃ a y, v = .ref a ∧ H a = some (.tup [.str m.1, y]) ∧ AfAt H y m.2
theorem StAt.mono {H H' : Hp} {v : V} {s : Ps} (t : Tups H H') (h : StAt H v s) : StAt H' v s := let ⟨a, e, q⟩ := h; ⟨a, e, t _ _ q⟩
theorem AfAt.mono {H H' : Hp} {v : V} {s : Option Ps} (t : Tups H H') (h : AfAt H v s) : AfAt H' v s := by
  cases s with
  | none => exact h
  | some s => exact StAt.mono t h
theorem MvAt.mono {H H' : Hp} {v : V} {m : Str × Option Ps} (t : Tups H H') (h : MvAt H v m) : MvAt H' v m := let ⟨a, y, e, q, r⟩ := h; ⟨a, y, e, t _ _ q, r.mono t⟩
/-- a list's values, one by one -/
inductive All2 {β : Type} (F : V → β → Prop) : List V → List β → Prop
  | nil : All2 F [] []
  | cons {v : V} {b : β} {vs : List V} {bs : List β} : F v b → All2 F vs bs → All2 F (v :: vs) (b :: bs)
section
variable {β : Type} {F G : V → β → Prop} {vs : List V} {bs : List β}
theorem All2.mono (h : All2 F vs bs) (k : ∀ v b, F v b → G v b) : All2 G vs bs := by
  induction h with
  | nil => exact .nil
  | cons h _ ih => exact .cons (k _ _ h) ih
theorem All2.length (h : All2 F vs bs) : vs.length = bs.length := by
  induction h with
  | nil => rfl
  | cons _ _ ih => rw [List.length_cons, List.length_cons, ih]
theorem All2.snoc {v : V} {b : β} (h : All2 F vs bs) (r : F v b) : All2 F (vs ++ [v]) (bs ++ [b]) := by
  induction h with
  | nil => exact .cons r .nil
  | cons h _ ih => exact .cons h ih
theorem All2.get {i : Nat} {v : V} (h : All2 F vs bs) (e : vs[i]? = some v) : ∃ b, bs[i]? = some b ∧ F v b := by
  induction h generalizing i with
  | nil => simp at e
  | cons h _ ih =>
    cases i with
    | zero => simp at e; subst e; exact ⟨_, rfl, h⟩
    | succ i => simpa using ih (by simpa using e)
theorem All2.at_ {i : Nat} {b : β} (h : All2 F vs bs) (e : bs[i]? = some b) : ∃ v, vs[i]? = some v ∧ F v b := by
  induction h generalizing i with
  | nil => simp at e
  | cons h _ ih =>
    cases i with
    | zero => simp at e; subst e; exact ⟨_, rfl, h⟩
    | succ i => simpa using ih (by simpa using e)
end
theorem sts_mono {H H' : Hp} {vs : List V} {l : List Ps} (t : Tups H H') (h : All2 (StAt H) vs l) : All2 (StAt H') vs l := h.mono fun _ _ q => q.mono t
theorem mvs_mono {H H' : Hp} {vs : List V} {l : List (Str × Option Ps)} (t : Tups H H') (h : All2 (MvAt H) vs l) : All2 (MvAt H') vs l := h.mono fun _ _ q => q.mono t
theorem small {n : Nat} (h : n ≤ 1000) : n ≤ sizeLine := Nat.le_trans h (by decide)

/-! ### the instance -/
def fs1 (p r : Addr) : List (Str × V) := [("first", .ref p), ("rows", .ref r)]
def fs2 (p r : Addr) (c : Bool) : List (Str × V) := [("first", .ref p), ("rows", .ref r), ("waiting_counts", .bl c)]
theorem put_first (p : Addr) : putF "first" (.ref p) [] = [(("first" : Str), V.ref p)] := rfl
theorem put_rows (p r : Addr) : putF "rows" (.ref r) [(("first" : Str), V.ref p)] = fs1 p r := by
  show (if ("first" : Str) = "rows" then _ else _) = _
  rw [if_neg (by decide +kernel)]; rfl
theorem put_wc (p r : Addr) (c : Bool) : putF "waiting_counts" (.bl c) (fs1 p r) = fs2 p r c := by
  unfold fs1
  show (if ("first" : Str) = "waiting_counts" then _ else _) = _
  rw [if_neg (by decide +kernel)]
  show (("first" : Str), V.ref p) :: (if ("rows" : Str) = "waiting_counts" then _ else _) = _
  rw [if_neg (by decide +kernel)]; rfl
theorem look_cons {f g : Str} {v : V} {l : List (Str × V)} : List.lookup f ((g, v) :: l) = if f = g then some v else List.lookup f l := by
  by_cases h : f = g
  · subst h; rw [if_pos rfl]; simp [List.lookup]
  · rw [if_neg h, List.lookup, beq_eq_false_iff_ne.mpr h]
theorem fs2_first (p r : Addr) (c : Bool) : (fs2 p r c).lookup ("first" : Str) = some (.ref p) := by
  unfold fs2; rw [look_cons, if_pos rfl]
theorem fs2_wc (p r : Addr) (c : Bool) : (fs2 p r c).lookup ("waiting_counts" : Str) = some (.bl c) := by
  unfold fs2
  rw [look_cons, if_neg (by decide +kernel), look_cons, if_neg (by decide +kernel), look_cons, if_pos rfl]
theorem fs2_no (p r : Addr) (c : Bool) {m : Str} (h1 : ¬ m = "first") (h2 : ¬ m = "rows") (h3 : ¬ m = "waiting_counts") : (fs2 p r c).lookup m = none := by
  unfold fs2
  rw [look_cons, if_neg h1, look_cons, if_neg h2, look_cons, if_neg h3] <;> rfl
/-- at x an instance of the class at C, made with c -/
def HsAt (H : Hp) (x C : Addr) (c : Bool) : Prop := ∃ dx p r, H x = some (.ins C dx (fs2 p r c)) ∧ H p = some (.tup (stV (.b, .b)))
theorem HsAt.mono {H H' : Hp} {x C : Addr} {c : Bool} (s : Same H H') (h : HsAt H x C c) : HsAt H' x C c := let ⟨dx, p, r, h1, h2⟩ := h; ⟨dx, p, r, s _ _ h1, s _ _ h2⟩
/-- what is asked of the class at C -/
structure ClsT (K : PySem.W.Frag) (C : Addr) : Prop where
  cl : Cls K C
  n1 : NoAttr K C "first"
  n2 : NoAttr K C "rows"
  n3 : NoAttr K C "waiting_counts"

/-! ### Table.__init__ -/
def spTI (K : PySem.W.Frag) : Sp := fun vs H Q _ => ∃ (x p e C dx : Addr), vs = [.ref x, .ref p, .ref e] ∧ H x = some (.ins C dx []) ∧ (∀ H', SqT K H' e []) ∧ ClsT K C ∧
  ∀ r H', H' x = some (.ins C dx (fs1 p r)) → (∀ b o, b ≠ x → H b = some o → H' b = some o) → Q .non H'
theorem scTI : FnScope ["self", "first", "rows", "row"] ["self", "first", "rows"] (defScope sTI) := ⟨rfl, rfl, rfl, by decide +kernel, rfl, by decide +kernel, by decide +kernel⟩
section
variable {P : Program} {w : World} {K : PySem.W.Frag} {mg : Str → Option Value} {base : Heap}
abbrev FunTI (K : PySem.W.Frag) (e f : Addr) (fd : FuncData) : Prop := FunD K "__init__" "Table.__init__" (defArgs sTI) (defBody sTI) (defScope sTI) [.str "start", .ref e] [] f fd
theorem ok_TI {e f : Addr} {fd : FuncData} (F : FunTI K e f fd) : FnOk P w K mg base CX0 1 f fd ["self", "first", "rows"] (spTI K) := by
  refine F.ok scTI (fun vs H Q E h => ?_) (fun cdv A outer s H vs Q E hr h => ?_)
  · obtain ⟨x, p, e, C, dx, rfl, _⟩ := h
    rfl
  · obtain ⟨x, p, e, C, dx, rfl, hx, he, T, k⟩ := h
    refine ⟨_, PSs.nox (pss_cons (ps_fld (pv 0) (pv 1) rfl) (pss_one (ps_fld (pv 0)
      (pe_lc (own := [("row", 3)]) (g := gName 3) (tt := tYes) (te := fun _ _ _ => False) rfl scTI.nd (pi_tup (pv 2)) (blkOk_by (N := ["self", "first", "rows", "row"]) (sc := defScope sTI) (by decide +kernel))
        (fun _ _ _ _ _ => pg_name (i := 3) scTI.nd rfl (Or.inl rfl)) (fun _ _ _ _ _ => pts_nil) (fun _ _ _ _ _ => ⟨fun _ _ _ _ _ _ z => z.elim⟩)) rfl))), ?_⟩
    refine ⟨_, rfl, _, rfl, x, C, dx, [], rfl, hx, T.cl, T.n1, (by show 0 < 1000; decide), ?_⟩
    refine ⟨_, rfl, e, rfl, ⟨[], he _⟩, fun D hD => ⟨fun i m H' => i = 0 ∧ H' = upd (upd H x (.ins C dx (putF "first" (.ref p) []))) D (.lst []), ⟨0, rfl, rfl⟩, fun i m H' hW => ?_⟩⟩
    obtain ⟨rfl, rfl⟩ := hW
    have nx : x ≠ D := by
      intro z
      rw [z, upd_same] at hD
      cases hD
    have hD0 : H D = none := by
      rw [upd_ne nx.symm] at hD
      exact hD
    refine .inl ⟨⟨[], he _, Nat.le_refl _⟩, _, rfl, x, C, dx, _, rfl, (by rw [upd_ne nx]; exact upd_same), T.cl, T.n2, (by show 1 < 1000; decide), ?_⟩
    refine k D _ (by rw [upd_same, put_first, put_rows]) fun b o hb e => ?_
    rw [upd_ne hb, upd_ne (ne_of_none e hD0), upd_ne hb]
    exact e
/-- called with one argument -/
theorem r_TI {e f : Addr} {fd : FuncData} (F : FunTI K e f fd) : FnR P w K mg base CX0 1 f (fun vs H Q E => spTI K (vs ++ [.ref e]) H Q E) := by
  obtain ⟨ds, hv, hb⟩ := F.binds1 (ps := ["self", "first", "rows"]) 2 1 (by simp) rfl fun T kV doc pm an cdv ct us its h1 h2 => by
    match us, h1, its, h2 with
    | [_, _], _, [_, _], _ => exact ⟨_, rfl, rfl⟩
  exact (ok_TI F).raw hb hv

/-! ### Handshake.__init__ -/
/-- what the program says of itself -/
structure PrT (P : Program) : Prop where
  top : (P.main.scope.names.lookup ("super" : Str)).isSome = false
  file : ((P.main.file : Str) == ("/claim/cut.py" : Str)) = true
/-- a code object's file -/
def CodeT (K : PySem.W.Frag) (k : Addr) : Prop := ∃ (oc : Value) (od : Option Addr) (vs : Array Value) (osl : Array (Option Value)) (tf : Tok), K.lookup k = some ⟨oc, od, .fields vs, osl⟩ ∧ vs[2]? = some (.str ("/claim/cut.py" : Str) tf)
def spHI (K : PySem.W.Frag) (CH fT : Addr) : Sp := fun vs H Q _ => ∃ (x C dx : Addr) (c : Bool), vs = [.ref x, .bl c] ∧ H x = some (.ins C dx []) ∧ ClsT K C ∧ SupM K C CH "__init__" fT ∧
  ∀ H', HsAt H' x C c → (∀ b o, b ≠ x → H b = some o → H' b = some o) → Q .non H'
theorem scHI : NdefX.NScope ["self", "waiting_counts", "__class__"] ["self", "waiting_counts"] ["__class__"] (defScope sHI) := NdefX.nscope_by (by decide +kernel)
theorem ok_HI {f fT e k cc CH : Addr} {fd fdT : FuncData} (PT : PrT P) (F : FunA K "__init__" "Handshake.__init__" sHI f fd k cc CH) (FT : FunTI K e fT fdT) (cK : CodeT K k) (cD : ∃ cd, PySem.W.clsIn K CH = some cd) (eT : ∀ H', SqT K H' e [])
    (mgS : mg "super" = none) (boot : bootBuiltins "super" = some (.type "super")) : FnOk P w K mg base CX0 2 f fd ["self", "waiting_counts"] (spHI K CH fT) := by
  refine F.ok scHI (fun vs H Q E h => ?_) (fun A outer s H vs Q E hr h => ?_)
  · obtain ⟨x, C, dx, c, rfl, _⟩ := h
    rfl
  · obtain ⟨x, C, dx, c, rfl, hx, T, SM, kq⟩ := h
    obtain ⟨oc, od, dV, kV, doc, pm, an, ct, osl, rfl, lk, hcd⟩ := F.ex
    obtain ⟨c1, c2, c3, c4⟩ := F.cell
    obtain ⟨d1, d2, d3, d4, d5, d6, d7⟩ := cK
    have SE : SupEnv (NdefX.ncx CX0 P w K mg base ["self", "waiting_counts", "__class__"] (nf "__init__" "Handshake.__init__" (defArgs sHI) (defBody sHI) (defScope sHI) cc k) f A outer s H E).nox 0 CH :=
      ⟨rfl, rfl, PT.top, mgS, cD, ⟨f, _, _, _, _, _, rfl, lk, rfl, rfl, rfl⟩, ⟨k, _, _, _, _, _, _, rfl, d6, d7, PT.file⟩, ⟨cc, _, _, _, rfl, c4⟩⟩
    refine ⟨_, ssa_cons (sa_expr (ea_super bare_func SE (r_TI FT) hr pass0 (pa_cons (pe_tup (pa_cons pe_str (pa_cons pe_str pa_nil))) pa_nil) (by decide +kernel) boot)) (PSs.at_ (pss_one (ps_fld (pv 0) (pv 1) rfl))), ?_⟩
    refine ⟨x, C, dx, [], rfl, hx, SM, (by show 2 ≤ sizeLine; decide), fun p hp => ?_⟩
    have nxp : x ≠ p := ne_of_none hx hp
    refine ⟨x, p, e, C, dx, rfl, (by rw [upd_ne nxp]; exact hx), eT, T, fun r H1 h1 k1 => ?_⟩
    refine ⟨_, rfl, _, rfl, x, C, dx, _, rfl, h1, T.cl, T.n3, (by show 2 < 1000; decide), ?_⟩
    refine kq _ ⟨dx, p, r, (by rw [put_wc]; exact upd_same), ?_⟩ fun b o hb eb => ?_
    · rw [upd_ne nxp.symm]
      exact k1 p _ nxp.symm upd_same
    · rw [upd_ne hb]
      exact k1 b o hb (by rw [upd_ne (ne_of_none eb hp)]; exact eb)

/-! ### start, may_pass -/
def spStart (C : Addr) : Sp := fun vs H Q _ => ∃ (x : Addr) (c : Bool), vs = [.ref x] ∧ HsAt H x C c ∧ ∀ v, StAt H v (.b, .b) → Q v H
theorem scStart : FnScope ["self"] ["self"] (defScope sStart) := ⟨rfl, rfl, rfl, by decide +kernel, rfl, by decide +kernel, by decide +kernel⟩
theorem ok_start {f C : Addr} {fd : FuncData} (F : Fun K "start" "Handshake.start" sStart f fd) (T : ClsT K C) : FnOk P w K mg base CX0 1 f fd ["self"] (spStart C) := by
  refine F.ok scStart (fun vs H Q E h => ?_) (fun cdv A outer s H vs Q E hr h => ?_)
  · obtain ⟨x, c, rfl, _⟩ := h
    rfl
  · obtain ⟨x, c, rfl, ⟨dx, p, r, h1, h2⟩, kq⟩ := h
    refine ⟨_, pss_one (ps_ret (pe_fld (pv 0) rfl)), ?_⟩
    exact ⟨_, rfl, x, C, dx, _, _, rfl, h1, T.cl, T.n1, fs2_first _ _ _, kq _ ⟨p, rfl, h2⟩⟩
def spMay (C : Addr) : Sp := fun vs H Q _ => ∃ (x : Addr) (c : Bool) (o : Wd), vs = [.ref x, .str o.t] ∧ HsAt H x C c ∧ Q (.bl (may c o)) H
theorem scMay : FnScope ["self", "other"] ["self", "other"] (defScope sMay) := ⟨rfl, rfl, rfl, by decide +kernel, rfl, by decide +kernel, by decide +kernel⟩
theorem eq_wd (x y : Wd) : decide (V.str x.t = V.str y.t) = decide (x = y) := by
  rw [dec_str]
  exact Wd.t_eq x y
theorem ok_may {f C : Addr} {fd : FuncData} (F : Fun K "may_pass" "Handshake.may_pass" sMay f fd) (T : ClsT K C) : FnOk P w K mg base CX0 1 f fd ["self", "other"] (spMay C) := by
  refine F.ok scMay (fun vs H Q E h => ?_) (fun cdv A outer s H vs Q E hr h => ?_)
  · obtain ⟨x, c, o, rfl, _⟩ := h
    rfl
  · obtain ⟨x, c, o, rfl, ⟨dx, p, r, h1, h2⟩, kq⟩ := h
    refine ⟨_, pss_one (ps_ret (pe_or (pe_cmpR op_eq (pv 1) pe_str (nomark _)) (pe_one (pe_and (pe_fld (pv 0) rfl) (pe_one (pe_cmpR op_eq (pv 1) pe_str (nomark _))))))), ?_⟩
    refine ⟨_, rfl, rfl, _, rfl, ?_⟩
    have e1 : decide (V.str o.t = V.str "between") = decide (o = .b) := eq_wd o .b
    have e2 : decide (V.str o.t = V.str "waiting") = decide (o = .w) := eq_wd o .w
    rw [e1]
    unfold may at kq
    by_cases hb : o = .b
    · rw [decide_eq_true hb] at kq ⊢
      exact iteT kq
    · rw [decide_eq_false hb] at kq ⊢
      refine iteF ⟨_, rfl, x, C, dx, _, _, rfl, h1, T.cl, T.n3, fs2_wc _ _ _, c, rfl, ?_⟩
      cases c with
      | false => exact iteF kq
      | true =>
        refine iteT ⟨_, rfl, rfl, ?_⟩
        rw [e2]
        exact kq
end
end K74

/-! Handshake.moves -/
namespace K74
open PySem L2 Sup
/-! ### tests, by their answers -/
section
variable {A B C : TT} {σ : L2.St} {H : Hp} {Q : Bool → Hp → Prop} {a b c : Bool}
theorem tand (hA : ∀ Q : Bool → Hp → Prop, Q a H → A σ H Q) (hB : a = true → ∀ Q : Bool → Hp → Prop, Q b H → B σ H Q) (q : Q (a && b) H) : tAnd A B σ H Q := by
  refine hA _ ?_
  cases a with
  | true => exact iteT (hB rfl _ q)
  | false => exact iteF q
theorem tor (hA : ∀ Q : Bool → Hp → Prop, Q a H → A σ H Q) (hB : a = false → ∀ Q : Bool → Hp → Prop, Q b H → B σ H Q) (q : Q (a || b) H) : tOr A B σ H Q := by
  refine hA _ ?_
  cases a with
  | true => exact iteT q
  | false => exact iteF (hB rfl _ q)
end
theorem eq_dd (d : Dd) : decide (V.str d.t = V.str "pass") = decide (d = .pass) := by
  rw [dec_str]
  cases d <;> decide +kernel
theorem ix_st (s : Ps) (p : Bool) : atI (stV s) (pn p) = some (.str (get s p).t) := by cases p <;> rfl
theorem ix_st1 (s : Ps) (p : Bool) : atI (stV s) (1 - pn p) = some (.str (get s (!p)).t) := by cases p <;> rfl
theorem set_st (s : Ps) (p : Bool) (x : Wd) : ∃ j, ixN (stV s).length (pn p) = some j ∧ (stV s).set j (.str x.t) = stV (put s p x) := by
  cases p
  · exact ⟨0, rfl, rfl⟩
  · exact ⟨1, rfl, rfl⟩
theorem text_mv (d : Dd) (p : Bool) : Str.empty ++ d.t ++ " " ++ (toString (pn p) : String) = mt d p := by
  cases d <;> cases p <;> decide +kernel
theorem turn2 {j : Nat} (hj : j < 2) : ∃ p : Bool, (0 : Int) + (j : Int) = pn p ∧ [false, true].take (j + 1) = [false, true].take j ++ [p] := by
  match j, hj with
  | 0, _ => exact ⟨false, rfl, rfl⟩
  | 1, _ => exact ⟨true, rfl, rfl⟩
def hm (l : List (Str × Ps)) : List (Str × Option Ps) := l.map fun m => (m.1, some m.2)
theorem hm_app (a b : List (Str × Ps)) : hm (a ++ b) = hm a ++ hm b := List.map_append
theorem hm_len (a : List (Str × Ps)) : (hm a).length = a.length := List.length_map _
/-- what moves(state) promises: a new list -/
def spMv (C : Addr) (f : Bool → Ps → List (Str × Option Ps)) : Sp := fun vs H Q _ => ∃ (x : Addr) (c : Bool) (v : V) (s : Ps), vs = [.ref x, v] ∧ HsAt H x C c ∧ StAt H v s ∧
  ∀ l ms H', Same H H' → H l = none → H' l = some (.lst ms) → All2 (MvAt H') ms (f c s) → Q (.ref l) H'
structure DeedsT (K : PySem.W.Frag) (mg : Str → Option Value) (dA : Addr) (ts : Dd → Addr) : Prop where
  mg : mg "DEEDS" = some (.ref dA)
  all : ∀ H, SqT K H dA (Dd.all.map fun d => .ref (ts d))
  one : ∀ d H, SqT K H (ts d) [.str d.t, .str d.o.t, .str d.g.t]
structure GlT (mg : Str → Option Value) : Prop where
  two : ∃ t, mg "PROCESSORS" = some (.int 2 t)
  range : mg "range" = none
  list : mg "list" = none
  tuple : mg "tuple" = none
  len : mg "len" = none
  isi : mg "isinstance" = none
  str : mg "str" = none
  int : mg "int" = none
  abs : mg "abs" = none
theorem scMv : FnScope ["self", "state", "found", "name", "origin", "target", "p", "behind"] ["self", "state"] (defScope sMoves) := ⟨rfl, rfl, rfl, by decide +kernel, rfl, by decide +kernel, by decide +kernel⟩
section
variable {P : Program} {w : World} {K : PySem.W.Frag} {mg : Str → Option Value} {base : Heap}
theorem ok_moves {f fM C dA : Addr} {ts : Dd → Addr} {fd fdM : FuncData} (F : Fun K "moves" "Handshake.moves" sMoves f fd) (T : ClsT K C) (FM : Fun K "may_pass" "Handshake.may_pass" sMay fM fdM) (bM : Binds K fdM ["self", "other"] []) (mM : Meth K C "may_pass" fM)
    (DT : DeedsT K mg dA ts) (GT : GlT mg) : FnOk P w K mg base CX0 2 f fd ["self", "state"] (spMv C hmv) := by
  have GM : FnOk P w K mg base CX0 1 fM fdM ["self", "other"] (spMay C) := ok_may FM T
  obtain ⟨t2, mg2⟩ := GT.two
  refine F.ok scMv (fun vs H Q E h => ?_) (fun cdv A outer s0 H vs Q E hr h => ?_)
  · obtain ⟨x, c, v, s, rfl, _⟩ := h
    rfl
  · obtain ⟨x, c, v, s, rfl, hx, hs, kq⟩ := h
    refine ⟨_, pss_cons (ps_set (i := 2) scMv.nd rfl (Or.inl rfl) (pe_lst pa_nil)) (pss_cons (ps_for PassesOwn.never rfl (pi_tup (pe_glob (v := .ref dA) rfl DT.mg rfl))
      (pg_tup rfl (pgs_cons (pg_name (i := 3) scMv.nd rfl (Or.inl rfl)) (pgs_cons (pg_name (i := 4) scMv.nd rfl (Or.inl rfl)) (pgs_cons (pg_name (i := 5) scMv.nd rfl (Or.inl rfl)) pgs_nil))))
      (pss_one (ps_for PassesOwn.never rfl (pi_range1 rfl GT.range (pa_cons (pe_glob (v := .int 2) rfl mg2 ⟨_, rfl⟩) pa_nil)) (pg_name (i := 6) scMv.nd rfl (Or.inl rfl))
        (pss_one (ps_if (PW.pt (pw_and (pt_cmpR op_eq (pe_ix ix_tup (pv 1) (pv 6) (fun _ _ => rfl)) (pv 4) (nomark _)) (pw_and1 (PW.pt (pw_or (pt_cmpR op_ne (pv 3) pe_str (nomark _))
            (pw_or1 (pt_val (pe_meth (pv 0) T.cl mM GM hr bM .nil pass0 (pa_cons (pe_ix ix_tup (pv 1) (pe_op op_sub pe_int (pv 6)) (fun _ _ => rfl)) pa_nil)))))))))
          (pss_cons (ps_set (i := 7) scMv.nd rfl (Or.inl rfl) (pe_callTy call_list_of rfl GT.list (by decide +kernel) (pa_cons (pv 1) pa_nil)))
            (pss_cons (ps_asg (pv 5) (pg_sub (pv 7) (pv 6) set_list))
              (pss_one (ps_expr (pe_bm PySem.F.plainAttrs_list PySem.F.slot_list_append PySem.F.type_list_append mt_append (pv 2)
                (pa_cons (pe_tup (pa_cons (pe_joined (PJ.cons (pe_fmt (pv 3)) (PJ.cons pe_str (PJ.cons (pe_fmt (pv 6)) PJ.nil)))) (pa_cons (pe_callTy call_tuple_of rfl GT.tuple (by decide +kernel) (pa_cons (pv 7) pa_nil)) pa_nil))) pa_nil))))))
          pss_nil))))) (pss_one (ps_ret (pv 2)))), ?_⟩
    obtain ⟨a, rfl, ha⟩ := hs
    refine ⟨Nat.zero_le _, fun l hl => ?_⟩
    refine ⟨dA, rfl, ⟨_, DT.all _⟩, for_tup (K := K) (a := dA) (xs := Dd.all.map fun d => .ref (ts d)) (fun i σ H' => ∃ ms n3 n4 n5 n6 n7, σ = [some (.ref x), some (.ref a), some (.ref l), n3, n4, n5, n6, n7] ∧ Same H H' ∧ H' l = some (.lst ms) ∧
      All2 (MvAt H') ms (hm (mvL c s (Dd.all.take i)))) ⟨[], none, none, none, none, none, rfl, Same.new (Same.refl H) hl, upd_same, .nil⟩ (fun _ _ _ _ _ => DT.all _) ?_ ?_⟩
    · rintro i y σ H1 hi ⟨ms, n3, n4, n5, n6, n7, rfl, sm, hL, hA⟩
      obtain ⟨d, hd, rfl⟩ : ∃ d, Dd.all[i]? = some d ∧ y = .ref (ts d) := by
        rw [List.getElem?_map] at hi
        cases e : Dd.all[i]? with
        | none => rw [e] at hi; cases hi
        | some d => rw [e] at hi; exact ⟨d, rfl, (Option.some.inj hi).symm⟩
      refine ⟨ts d, _, rfl, DT.one d _, rfl, _, _, rfl, _, _, rfl, _, _, rfl, rfl, ?_⟩
      refine ⟨2, rfl, by decide, by decide, for_range (lo := 0) (n := 2) (fun j σ H' => ∃ ms n6 n7, σ = [some (.ref x), some (.ref a), some (.ref l), some (.str d.t), some (.str d.o.t), some (.str d.g.t), n6, n7] ∧ Same H H' ∧ H' l = some (.lst ms) ∧
        All2 (MvAt H') ms (hm (mvL c s (Dd.all.take i) ++ mvD c s ([false, true].take j) d))) ⟨ms, n6, n7, rfl, sm, hL, by simpa [mvD] using hA⟩ ?_ ?_⟩
      · rintro j σ H2 hj ⟨ms2, m6, m7, rfl, sm2, hL2, hA2⟩
        obtain ⟨p, ep, et⟩ := turn2 hj
        rw [ep]
        have ha2 := sm2 _ _ ha
        refine tand (a := decide (get s p = d.o)) (b := decide (d ≠ .pass) || may c (get s (!p))) (fun Q q => ?_) (fun e1 Q q => ?_) ?_
        · refine ⟨_, rfl, _, rfl, a, _, _, _, rfl, rfl, SqT.of ha2, ix_st s p, _, rfl, rfl, _, rfl, ?_⟩
          rw [eq_wd]
          exact q
        · refine tor (a := decide (d ≠ .pass)) (b := may c (get s (!p))) (fun Q q => ?_) (fun e2 Q q => ?_) q
          · refine ⟨_, rfl, rfl, _, rfl, ?_⟩
            rw [eq_dd]
            have e : (!decide (d = .pass)) = decide (d ≠ .pass) := by simp
            rw [e]
            exact q
          · obtain ⟨dx, pp, r, h1, h2⟩ := hx.mono sm2
            refine ⟨_, rfl, x, dx, _, rfl, h1, fs2_no _ _ _ (by decide +kernel) (by decide +kernel) (by decide +kernel), _, rfl, _, rfl, _, _, rfl, rfl, a, _, _, _, rfl, rfl, SqT.of ha2, ix_st1 s p, ?_⟩
            exact ⟨x, c, get s (!p), rfl, hx.mono sm2, _, rfl, q⟩
        · show if can c s d p = true then _ else _
          have nxt : mvL c s (Dd.all.take i) ++ mvD c s ([false, true].take (j + 1)) d = (mvL c s (Dd.all.take i) ++ mvD c s ([false, true].take j) d) ++ one c s d p := by
            rw [et]
            unfold mvD
            rw [List.flatMap_append, List.append_assoc, List.flatMap_cons, List.flatMap_nil, List.append_nil]
          refine ite2 (fun hc => ?_) (fun hc => ?_)
          · have e1 : one c s d p = [(mt d p, put s p d.g)] := by unfold one; rw [if_pos hc]
            obtain ⟨k, hk1, hk2⟩ := set_st s p d.g
            have z1 : d.t.length ≤ sizeLine ∧ (Str.empty ++ d.t).length ≤ sizeLine ∧ (Str.empty ++ d.t ++ " ").length ≤ sizeLine ∧ (Str.empty ++ d.t ++ " " ++ (toString (pn p) : String)).length ≤ sizeLine := by
              cases d <;> cases p <;> decide +kernel
            have z2 : (pn p).natAbs.log2 < 1920 := by cases p <;> decide +kernel
            refine ⟨_, rfl, a, _, rfl, .inr (SqT.of ha2), fun b hb => ?_⟩
            refine ⟨_, rfl, _, rfl, _, rfl, b, _, _, k, rfl, rfl, upd_same, hk1, ?_⟩
            have nlb : l ≠ b := ne_of_none hL2 hb
            refine ⟨_, rfl, .inl ⟨rfl, _, SqL.of (by rw [upd_ne nlb, upd_ne nlb]; exact hL2)⟩, ?_⟩
            refine ⟨_, rfl, .inl ⟨_, rfl, z1.1, _, rfl, z1.2.1, _, rfl, z1.2.2.1, _, rfl, .inr ⟨_, rfl, z2, _, rfl, z1.2.2.2, ?_⟩⟩⟩
            refine ⟨_, rfl, b, _, rfl, .inl ⟨SqL.of upd_same, fun t ht => ?_⟩⟩
            refine ⟨by show 2 ≤ sizeLine; decide, fun m hm => ?_⟩
            rw [text_mv, hk2] at *
            have len2 : ms2.length ≤ 8 := by
              have := hA2.length
              have q1 := mvL_le c s (Dd.all.take i)
              have q2 := mvD_le c s ([false, true].take j) d
              have q3 : (Dd.all.take i).length ≤ 3 := by
                have hi4 : i < 4 := (List.getElem?_eq_some_iff.mp hd).1
                rw [List.length_take]
                omega
              rw [hm_len, List.length_append] at this
              have q4 : ([false, true].take j).length ≤ 2 := by rw [List.length_take]; simp; omega
              omega
            have ntb : t ≠ b := fun z => by
              rw [z, upd_same] at ht
              cases ht
            have nlt : l ≠ t := fun z => by
              rw [← z, upd_ne nlb, upd_ne nlb, hL2] at ht
              cases ht
            have nmt : m ≠ t := fun z => by
              rw [z, upd_same] at hm
              cases hm
            have nlm : l ≠ m := fun z => by
              rw [← z, upd_ne nlt, upd_ne nlb, upd_ne nlb, hL2] at hm
              cases hm
            have g2 : ∀ o1 o2 o3 o4, upd (upd (upd (upd H2 b o1) b o2) t o3) m o4 l = some (.lst ms2) := fun o1 o2 o3 o4 => by
              rw [upd_ne nlm, upd_ne nlt, upd_ne nlb, upd_ne nlb]
              exact hL2
            refine ⟨l, ms2, .ref m, rfl, rfl, g2 _ _ _ _, Nat.lt_of_le_of_lt len2 (by decide), ms2 ++ [.ref m], _, _, rfl, ?_, upd_same, ?_⟩
            · exact Same.late (Same.new (Same.new (Same.late (Same.new sm2 hb) (sm2.free hb)) ht) hm) hl
            · rw [nxt, e1, hm_app]
              refine All2.snoc (mvs_mono ((((Tups.new hb).trans (Tups.lst upd_same)).trans (Tups.new ht)).trans ((Tups.new hm).trans (Tups.lst (g2 _ _ _ _)))) hA2) ?_
              exact ⟨m, .ref t, rfl, by rw [upd_ne nlm.symm]; exact upd_same, t, rfl, by rw [upd_ne nlt.symm, upd_ne nmt.symm]; exact upd_same⟩
          · have e1 : one c s d p = [] := by unfold one; rw [if_neg hc]
            exact ⟨ms2, _, m7, rfl, sm2, hL2, by rw [nxt, e1, List.append_nil]; exact hA2⟩
      · rintro σ H2 ⟨ms2, m6, m7, rfl, sm2, hL2, hA2⟩
        refine ⟨ms2, _, _, _, m6, m7, rfl, sm2, hL2, ?_⟩
        have e : mvL c s (Dd.all.take (i + 1)) = mvL c s (Dd.all.take i) ++ mvD c s [false, true] d := by
          rw [List.take_add_one, hd]
          unfold mvL
          rw [List.flatMap_append]
          simp
        rw [e]
        exact hA2
    · rintro σ H1 ⟨ms, n3, n4, n5, n6, n7, rfl, sm, hL, hA⟩
      exact ⟨_, rfl, kq l ms H1 sm hl hL hA⟩
end
end K74

/-! StuckSearch.moves -/
namespace K74
open PySem L2 Sup
theorem len_int {n : Nat} : decide (V.int (n : Int) = V.int 0) = decide (n = 0) := by
  rw [dec_int]
  by_cases h : n = 0
  · subst h; rfl
  · rw [decide_eq_false h]
    exact beq_eq_false_iff_ne.mpr (by omega)
theorem raw0 {P : Program} {w : World} {K : PySem.W.Frag} {mg : Str → Option Value} {base : Heap} {k : Nat} {f : Addr} {fd : FuncData} {ps : List Str} {sp : Sp} (F : FnOk P w K mg base CX0 k f fd ps sp) (b : Binds K fd ps []) : FnR P w K mg base CX0 k f sp :=
  (F.raw b .nil).imp fun vs H Q E q => by rw [List.append_nil]; exact q
theorem scSM : NdefX.NScope ["self", "state", "__class__", "found", "move", "behind"] ["self", "state"] ["__class__"] (defScope sSMoves) := NdefX.nscope_by (by decide +kernel)
section
variable {P : Program} {w : World} {K : PySem.W.Frag} {mg : Str → Option Value} {base : Heap}
theorem ok_smoves {f fH k cc CS : Addr} {fd fdH : FuncData} (PT : PrT P) (F : FunA K "moves" "StuckSearch.moves" sSMoves f fd k cc CS) (cK : CodeT K k) (cD : ∃ cd, PySem.W.clsIn K CS = some cd) (mgS : mg "super" = none) (boot : bootBuiltins "super" = some (.type "super"))
    (FH : FnOk P w K mg base CX0 2 fH fdH ["self", "state"] (spMv CS hmv)) (bH : Binds K fdH ["self", "state"] []) (SM : SupM K CS CS "moves" fH) (GT : GlT mg) (bad : ∃ t, mg "BAD" = some (.str "bad" t)) : FnOk P w K mg base CX0 3 f fd ["self", "state"] (spMv CS smv) := by
  have RH := raw0 FH bH
  obtain ⟨tb, mgB⟩ := bad
  refine F.ok scSM (fun vs H Q E h => ?_) (fun A outer s0 H vs Q E hr h => ?_)
  · obtain ⟨x, c, v, s, rfl, _⟩ := h
    rfl
  · obtain ⟨x, c, v, s, rfl, hx, hs, kq⟩ := h
    obtain ⟨oc, od, dV, kV, doc, pm, an, ct, osl, rfl, lk, hcd⟩ := F.ex
    obtain ⟨c1, c2, c3, c4⟩ := F.cell
    obtain ⟨d1, d2, d3, d4, d5, d6, d7⟩ := cK
    have SE : SupEnv (NdefX.ncx CX0 P w K mg base ["self", "state", "__class__", "found", "move", "behind"] (nf "moves" "StuckSearch.moves" (defArgs sSMoves) (defBody sSMoves) (defScope sSMoves) cc k) f A outer s0 H E).nox 0 CS :=
      ⟨rfl, rfl, PT.top, mgS, cD, ⟨f, _, _, _, _, _, rfl, lk, rfl, rfl, rfl⟩, ⟨k, _, _, _, _, _, _, rfl, d6, d7, PT.file⟩, ⟨cc, _, _, _, rfl, c4⟩⟩
    refine ⟨_, ssa_cons (PS.at_ (ps_set (i := 3) scSM.nd rfl (Or.inl rfl) (pe_lst pa_nil))) (ssa_cons (sa_for rfl rfl (ia_list (ea_super bare_func SE RH hr pass0 (pa_cons (pv 1) pa_nil) (by decide +kernel) boot))
      (pg_tup rfl (pgs_cons (pg_name (i := 4) scSM.nd rfl (Or.inl rfl)) (pgs_cons (pg_name (i := 5) scSM.nd rfl (Or.inl rfl)) pgs_nil)))
      (fun itv => ssa_one (sa_if (ta_cmp op_eq (ea_callB call_len_seq rfl GT.len PySem.boot_len (ea_super bare_for SE RH hr pass0 (pa_cons (pv 5) pa_nil) (by decide +kernel) boot)) pe_int (nomark _))
        (pss_one (ps_expr (pe_bm PySem.F.plainAttrs_list PySem.F.slot_list_append PySem.F.type_list_append mt_append (pv 3) (pa_cons (pe_tup (pa_cons (pv 4) (pa_cons (pe_glob (v := .str "bad") rfl mgB ⟨_, rfl⟩) pa_nil))) pa_nil))))
        (pss_one (ps_expr (pe_bm PySem.F.plainAttrs_list PySem.F.slot_list_append PySem.F.type_list_append mt_append (pv 3) (pa_cons (pe_tup (pa_cons (pv 4) (pa_cons (pv 5) pa_nil))) pa_nil)))))))
      (PSs.at_ (pss_one (ps_ret (pv 3))))), ?_⟩
    have hx0 := hx
    obtain ⟨dx, pp, r, h1, h2⟩ := hx
    refine ⟨Nat.zero_le _, fun l hl => ?_⟩
    have s1 : Same H (upd H l (.lst [])) := Same.new (Same.refl H) hl
    refine ⟨x, CS, dx, _, rfl, s1 _ _ h1, SM, _, rfl, x, c, v, s, rfl, hx0.mono s1, hs.mono (Tups.same s1), fun l1 ms H1 sm1 hn1 hL1 hA1 => ?_⟩
    have sm : Same H H1 := s1.trans sm1
    have nl1 : l1 ≠ l := fun z => by
      rw [z, upd_same] at hn1
      cases hn1
    refine ⟨l1, rfl, ⟨_, SqL.of hL1⟩, for_list (K := K) (a := l1) (xs := ms) (fun i σ H' => ∃ ls n4 n5, σ = [some (.ref x), some v, none, some (.ref l), n4, n5] ∧ Same H H' ∧ Tups H1 H' ∧ H' l1 = some (.lst ms) ∧ H' l = some (.lst ls) ∧
      All2 (MvAt H') ls (((mv c s).take i).map (smv1 c))) ⟨[], none, none, rfl, sm, Tups.refl _, hL1, sm1 _ _ upd_same, .nil⟩ (fun i σ H' _ ⟨_, _, _, _, _, _, q, _⟩ => SqL.of q) ?_ ?_⟩
    · rintro i y σ H2 hi ⟨ls, n4, n5, rfl, sm2, tp, hL2, hl2, hA2⟩
      obtain ⟨m, hm, ⟨q, yv, rfl, hq, hy⟩⟩ := hA1.get hi
      obtain ⟨m0, hm0, rfl⟩ : ∃ m0, (mv c s)[i]? = some m0 ∧ m = (m0.1, some m0.2) := by
        unfold hmv at hm
        rw [List.getElem?_map] at hm
        cases e : (mv c s)[i]? with
        | none => rw [e] at hm; cases hm
        | some m0 => rw [e] at hm; exact ⟨m0, rfl, (Option.some.inj hm).symm⟩
      have hy2 : StAt H2 yv m0.2 := StAt.mono tp hy
      have hi8 : i < 8 := Nat.lt_of_lt_of_le (List.getElem?_eq_some_iff.mp hm0).1 (mv_le c s)
      refine ⟨q, _, rfl, SqT.of (tp _ _ hq), rfl, _, _, rfl, _, _, rfl, rfl, ?_⟩
      refine ⟨x, CS, dx, _, rfl, sm2 _ _ h1, SM, _, rfl, x, c, yv, m0.2, rfl, hx0.mono sm2, hy2, fun l2 ms2 H3 sm3 hn3 hL3 hA3 => ?_⟩
      refine ⟨l2, _, rfl, .inl (SqL.of hL3), rfl, _, rfl, ?_⟩
      rw [len_int, hA3.length, show (hmv c m0.2).length = (mv c m0.2).length from hm_len _]
      have nxt : ((mv c s).take (i + 1)).map (smv1 c) = ((mv c s).take i).map (smv1 c) ++ [smv1 c m0] := by
        rw [List.take_add_one, hm0, List.map_append]
        rfl
      have len2 : ls.length ≤ 8 := by
        rw [hA2.length, List.length_map, List.length_take]
        omega
      have tp3 : Tups H2 H3 := Tups.same sm3
      have fin : ∀ (H4 : Hp) (mm : Addr) (z : V), H3 mm = none → AfAt H3 z (smv1 c m0).2 → H4 = upd (upd H3 mm (.tup [.str m0.1, z])) l (.lst (ls ++ [.ref mm])) →
          Same H H4 ∧ Tups H1 H4 ∧ H4 l1 = some (.lst ms) ∧ H4 l = some (.lst (ls ++ [.ref mm])) ∧ All2 (MvAt H4) (ls ++ [.ref mm]) (((mv c s).take (i + 1)).map (smv1 c)) := by
        rintro H4 mm z hmm hz rfl
        have hl3 := sm3 _ _ hl2
        have nm : mm ≠ l := fun e => by rw [e, hl3] at hmm; cases hmm
        have nm1 : l1 ≠ mm := ne_of_none (sm3 _ _ hL2) hmm
        have tA : Tups H3 (upd (upd H3 mm (.tup [.str m0.1, z])) l (.lst (ls ++ [.ref mm]))) := (Tups.new hmm).trans (Tups.lst (by rw [upd_ne nm.symm]; exact hl3))
        refine ⟨Same.late (Same.new (sm2.trans sm3) hmm) hl, (tp.trans tp3).trans tA, ?_, upd_same, ?_⟩
        · rw [upd_ne nl1, upd_ne nm1]
          exact sm3 _ _ hL2
        · rw [nxt]
          exact All2.snoc (mvs_mono (tp3.trans tA) hA2) ⟨mm, z, rfl, by rw [upd_ne nm]; exact upd_same, AfAt.mono tA hz⟩
      have hl3 := sm3 _ _ hl2
      refine ite2 (fun hc => ?_) (fun hc => ?_)
      · have h0 : (mv c m0.2).length = 0 := of_decide_eq_true hc
        refine ⟨_, rfl, .inl ⟨rfl, _, SqL.of hl3⟩, _, rfl, by show 2 ≤ sizeLine; decide, fun mm hmm => ?_⟩
        obtain ⟨f1, f2, f3, f4, f5⟩ := fin _ mm (.str "bad") hmm (by unfold smv1; rw [if_pos h0]; rfl) rfl
        exact ⟨l, ls, .ref mm, rfl, rfl, (by rw [upd_ne (ne_of_none hl3 hmm)]; exact hl3), Nat.lt_of_le_of_lt len2 (by decide), _, _, _, rfl, f1, f2, f3, f4, f5⟩
      · have h0 : ¬ (mv c m0.2).length = 0 := fun z => hc (decide_eq_true z)
        refine ⟨_, rfl, .inl ⟨rfl, _, SqL.of hl3⟩, _, rfl, _, rfl, by show 2 ≤ sizeLine; decide, fun mm hmm => ?_⟩
        obtain ⟨f1, f2, f3, f4, f5⟩ := fin _ mm yv hmm (by unfold smv1; rw [if_neg h0]; exact hy2.mono tp3) rfl
        exact ⟨l, ls, .ref mm, rfl, rfl, (by rw [upd_ne (ne_of_none hl3 hmm)]; exact hl3), Nat.lt_of_le_of_lt len2 (by decide), _, _, _, rfl, f1, f2, f3, f4, f5⟩
    · rintro σ H2 ⟨ls, n4, n5, rfl, sm2, tp, hL2, hl2, hA2⟩
      refine ⟨_, rfl, kq l ls H2 sm2 hl hl2 ?_⟩
      have e : ms.length = (mv c s).length := by
        rw [hA1.length]
        exact hm_len _
      rw [e, List.take_length] at hA2
      exact hA2
end
end K74

/-! Table.states -/
namespace K74
open PySem L2 Sup
theorem u65 {k : Nat} {A : Around} (r : Room k A) : A.units + 65 < cLine := by have := r.un; omega
theorem StAt.dp {K : PySem.W.Frag} {H : Hp} {v : V} {s : Ps} (h : StAt H v s) : Dp K H v (dSt s) := by
  obtain ⟨a, rfl, e⟩ := h
  exact .tup (SqT.of e) (.cons (.str _) (.cons (.str _) .nil))
theorem sts_dpA {K : PySem.W.Frag} {H : Hp} {vs : List V} {l : List Ps} (h : All2 (StAt H) vs l) : DpAll K H vs (l.map dSt) := by
  induction h with
  | nil => exact .nil
  | cons h _ ih => exact .cons h.dp ih
theorem sts_dp {K : PySem.W.Frag} {H : Hp} {a : Addr} {vs : List V} {l : List Ps} (e : H a = some (.lst vs)) (h : All2 (StAt H) vs l) : Dp K H (.ref a) (.list (l.map dSt)) := .lst (SqL.of e) (sts_dpA h)
def dBad : PyData := .str "bad"
theorem shaped_bad : SeqAt.shaped dBad = true := by decide +kernel
theorem eqv_bad (s : Ps) : PyData.eqv (dSt s) dBad = false := rfl
theorem ext_snoc (l : List Ps) (a : List Ps) (x : Ps) : ext l (a ++ [x]) = if x ∈ ext l a then ext l a else ext l a ++ [x] := by
  induction a generalizing l with
  | nil => rfl
  | cons y a ih => exact ih _
theorem ext_len (a : List Ps) : ∀ l : List Ps, (ext l a).length ≤ l.length + a.length := by
  induction a with
  | nil => intro l; exact Nat.le_refl _
  | cons y a ih =>
    intro l
    have h := ih (if y ∈ l then l else l ++ [y])
    have h2 : (if y ∈ l then l else l ++ [y]).length ≤ l.length + 1 := by
      split
      · omega
      · simp
    show (ext (if y ∈ l then l else l ++ [y]) a).length ≤ _
    rw [List.length_cons]
    omega
def aft (c : Bool) (s : Ps) : List Ps := (mv c s).map fun m => m.2
theorem aft_len (c : Bool) (s : Ps) : (aft c s).length = (mv c s).length := List.length_map _
theorem aft_at {c : Bool} {s : Ps} {i : Nat} {m : Str × Ps} (h : (mv c s)[i]? = some m) : (aft c s)[i]? = some m.2 := by
  unfold aft
  rw [List.getElem?_map, h]; rfl
theorem stF_succ {c : Bool} {k : Nat} {s : Ps} (h : (stF c k)[k]? = some s) : stF c (k + 1) = ext (stF c k) (aft c s) := by
  show (match (stF c k)[k]? with | none => stF c k | some s => ext (stF c k) (aft c s)) = ext (stF c k) (aft c s)
  rw [h]
theorem st_at (c : Bool) {k : Nat} (h : k < 9) : ∃ s, (stF c k)[k]? = some s := ⟨_, List.getElem?_eq_getElem (st_go c ⟨k, h⟩)⟩
theorem hmv_at {c : Bool} {s : Ps} {i : Nat} {m : Str × Option Ps} (hm : (hmv c s)[i]? = some m) : ∃ m0, (mv c s)[i]? = some m0 ∧ m = (m0.1, some m0.2) := by
  unfold hmv at hm
  rw [List.getElem?_map] at hm
  cases e : (mv c s)[i]? with
  | none => rw [e] at hm; cases hm
  | some m0 => rw [e] at hm; exact ⟨m0, rfl, (Option.some.inj hm).symm⟩
def spStates (C : Addr) : Sp := fun vs H Q _ => ∃ (x : Addr) (c : Bool), vs = [.ref x] ∧ HsAt H x C c ∧ ∀ l ls H', Same H H' → H l = none → H' l = some (.lst ls) → All2 (StAt H') ls (stF c 9) → Q (.ref l) H'
theorem scStates : FnScope ["self", "found", "place", "_", "after"] ["self"] (defScope sStates) := ⟨rfl, rfl, rfl, by decide +kernel, rfl, by decide +kernel, by decide +kernel⟩
section
variable {P : Program} {w : World} {K : PySem.W.Frag} {mg : Str → Option Value} {base : Heap}
theorem ok_states {f fM fS C : Addr} {fd fdM fdS : FuncData} (F : Fun K "states" "Table.states" sStates f fd) (T : ClsT K C) (GT : GlT mg) (bad : ∃ t, mg "BAD" = some (.str "bad" t))
    (GM : FnOk P w K mg base CX0 2 fM fdM ["self", "state"] (spMv C hmv)) (bM : Binds K fdM ["self", "state"] []) (mM : Meth K C "moves" fM)
    (GS : FnOk P w K mg base CX0 1 fS fdS ["self"] (spStart C)) (bS : Binds K fdS ["self"] []) (mS : Meth K C "start" fS) : FnOk P w K mg base CX0 3 f fd ["self"] (spStates C) := by
  obtain ⟨tb, mgB⟩ := bad
  refine F.ok scStates (fun vs H Q E h => ?_) (fun cdv A outer s0 H vs Q E hr h => ?_)
  · obtain ⟨x, c, rfl, _⟩ := h
    rfl
  · obtain ⟨x, c, rfl, hx, kq⟩ := h
    refine ⟨_, pss_cons (ps_set (i := 1) scStates.nd rfl (Or.inl rfl) (pe_lst (pa_cons (pe_meth0 (pv 0) T.cl mS GS (hr.mono (by decide)) bS .nil pass0) pa_nil))) (pss_cons (ps_set (i := 2) scStates.nd rfl (Or.inl rfl) pe_int)
      (pss_cons (ps_while PassesOwn.never (pt_cmpR op_lt (pv 2) (pe_callB call_len_seq (by rfl) GT.len PySem.boot_len (pa_cons (pv 1) pa_nil)) (nomark _))
        (pss_cons (ps_for PassesOwn.never rfl (pi_list (pe_meth (pv 0) T.cl mM GM hr bM .nil pass0 (pa_cons (pe_ix ix_list (pv 1) (pv 2) (fun _ _ => rfl)) pa_nil)))
          (pg_tup rfl (pgs_cons (pg_name (i := 3) scStates.nd rfl (Or.inl rfl)) (pgs_cons (pg_name (i := 4) scStates.nd rfl (Or.inl rfl)) pgs_nil)))
          (pss_one (ps_if (PW.pt (pw_and (pt_cmpR (op_neD hr.units) (pv 4) (pe_glob (v := .str "bad") rfl mgB ⟨_, rfl⟩) (nomark _)) (pw_and1 (pt_cmpR (op_notInD (u65 hr)) (pv 4) (pv 1) rfl))))
            (pss_one (ps_expr (pe_bm PySem.F.plainAttrs_list PySem.F.slot_list_append PySem.F.type_list_append mt_append (pv 1) (pa_cons (pv 4) pa_nil)))) pss_nil)))
        (pss_one (ps_aug (i := 2) scStates.nd rfl (Or.inl rfl) pe_int ip_add))))
      (pss_one (ps_ret (pv 1))))), ?_⟩
    have hx0 := hx
    obtain ⟨dx, pp, r, h1, h2⟩ := hx
    refine ⟨_, rfl, x, dx, _, rfl, h1, fs2_no _ _ _ (by decide +kernel) (by decide +kernel) (by decide +kernel), x, c, rfl, hx0, fun v0 hv0 => ?_⟩
    refine ⟨by show 1 ≤ sizeLine; decide, fun l hl => ?_⟩
    refine ⟨fun m σ H' => ∃ k ls n3 n4, m = 9 - k ∧ k ≤ 9 ∧ σ = [some (.ref x), some (.ref l), some (.int (k : Int)), n3, n4] ∧ Same H H' ∧ H' l = some (.lst ls) ∧ All2 (StAt H') ls (stF c k),
      ⟨9, 0, [v0], none, none, rfl, by decide, rfl, Same.new (Same.refl H) hl, upd_same, .cons (hv0.mono (Tups.new hl)) .nil⟩, ?_⟩
    rintro m σ H1 ⟨k, ls, n3, n4, rfl, hk, rfl, sm, hL, hA⟩
    refine ⟨_, rfl, _, rfl, l, _, rfl, .inl (SqL.of hL), _, _, rfl, rfl, _, rfl, ?_⟩
    rw [hA.length]
    by_cases hk9 : k < 9
    · rw [decide_eq_true (show ((k : Int) < ((stF c k).length : Nat)) by have := st_go c ⟨k, hk9⟩; exact Int.ofNat_lt.mpr this)]
      obtain ⟨s, hs⟩ := st_at c hk9
      obtain ⟨v, hv, hvs⟩ := hA.at_ hs
      refine iteT ⟨fun σ H' => ∃ ls n3 n4, σ = [some (.ref x), some (.ref l), some (.int ((k + 1 : Nat) : Int)), n3, n4] ∧ Same H H' ∧ H' l = some (.lst ls) ∧ All2 (StAt H') ls (stF c (k + 1)), ?_, ?_⟩
      · rintro σ' H' ⟨ls', n3', n4', e1, e2, e3, e4⟩
        exact ⟨9 - (k + 1), by omega, k + 1, ls', n3', n4', rfl, hk9, e1, e2, e3, e4⟩
      · refine ⟨_, rfl, x, dx, _, rfl, sm _ _ h1, fs2_no _ _ _ (by decide +kernel) (by decide +kernel) (by decide +kernel), _, rfl, _, rfl, l, _, _, _, rfl, rfl, SqL.of hL, atI_nat hv, ?_⟩
        refine ⟨x, c, v, s, rfl, hx0.mono sm, hvs, fun l1 ms H2 sm2 hn2 hL1 hA1 => ?_⟩
        have nl : l1 ≠ l := fun z => by rw [z, hL] at hn2; cases hn2
        refine ⟨l1, rfl, ⟨_, SqL.of hL1⟩, for_list (K := K) (a := l1) (xs := ms) (fun i σ H' => ∃ ls n3 n4, σ = [some (.ref x), some (.ref l), some (.int (k : Int)), n3, n4] ∧ Same H H' ∧ Tups H2 H' ∧ H' l1 = some (.lst ms) ∧ H' l = some (.lst ls) ∧
          All2 (StAt H') ls (ext (stF c k) ((aft c s).take i))) ⟨ls, n3, n4, rfl, sm.trans sm2, Tups.refl _, hL1, sm2 _ _ hL, sts_mono (Tups.same sm2) hA⟩ (fun i σ H' _ ⟨_, _, _, _, _, _, q, _⟩ => SqL.of q) ?_ ?_⟩
        · rintro i y σ H3 hi ⟨ls3, m3, m4, rfl, sm3, tp, hL3, hl3, hA3⟩
          obtain ⟨m, hm, ⟨q, yv, rfl, hq, hy⟩⟩ := hA1.get hi
          obtain ⟨m0, hm0, rfl⟩ := hmv_at hm
          have hy3 : StAt H3 yv m0.2 := StAt.mono tp hy
          have nxt : ext (stF c k) ((aft c s).take (i + 1)) = if m0.2 ∈ ext (stF c k) ((aft c s).take i) then ext (stF c k) ((aft c s).take i) else ext (stF c k) ((aft c s).take i) ++ [m0.2] := by
            rw [List.take_add_one, aft_at hm0]
            exact ext_snoc _ _ _
          refine ⟨q, _, rfl, SqT.of (tp _ _ hq), rfl, _, _, rfl, _, _, rfl, rfl, ?_⟩
          refine tand (a := true) (b := !decide (m0.2 ∈ ext (stF c k) ((aft c s).take i))) (fun Q q => ?_) (fun _ Q q => ?_) ?_
          · exact ⟨_, rfl, dSt m0.2, dBad, hy3.dp, .str _, shaped_st _, shaped_bad, _, rfl, q⟩
          · refine ⟨_, rfl, _, rfl, dSt m0.2, _, hy3.dp, sts_dp hl3 hA3, shaped_st _, shaped_sts _, _, rfl, ?_⟩
            rw [any_st]
            exact q
          · rw [Bool.true_and]
            have len3 : ls3.length ≤ 100 := by
              have q1 := ext_len ((aft c s).take i) (stF c k)
              have q2 := st_sz c ⟨k, by omega⟩
              have q3 := mv_le c s
              have q4 : ((aft c s).take i).length ≤ 8 := by
                rw [List.length_take, aft_len]
                omega
              have q5 : (stF c k).length ≤ 9 := q2
              rw [hA3.length]
              omega
            refine ite2 (fun hc => ?_) (fun hc => ?_)
            · have hc2 : ¬ m0.2 ∈ ext (stF c k) ((aft c s).take i) := of_decide_eq_false (by simpa using hc)
              refine ⟨_, rfl, .inl ⟨rfl, _, SqL.of hl3⟩, _, rfl, l, ls3, yv, rfl, rfl, hl3, Nat.lt_of_le_of_lt len3 (by decide), _, _, _, rfl, Same.late sm3 hl, tp.trans (Tups.lst hl3), ?_, upd_same, ?_⟩
              · rw [upd_ne nl]
                exact hL3
              · rw [nxt, if_neg hc2]
                exact All2.snoc (sts_mono (Tups.lst hl3) hA3) (hy3.mono (Tups.lst hl3))
            · have hc2 : m0.2 ∈ ext (stF c k) ((aft c s).take i) := by simpa using hc
              exact ⟨ls3, _, _, rfl, sm3, tp, hL3, hl3, by rw [nxt, if_pos hc2]; exact hA3⟩
        · rintro σ H3 ⟨ls3, m3, m4, rfl, sm3, tp, hL3, hl3, hA3⟩
          refine ⟨_, rfl, _, _, rfl, rfl, ls3, m3, m4, rfl, sm3, hl3, ?_⟩
          rw [stF_succ hs]
          have e : ms.length = (aft c s).length := by
            rw [hA1.length, aft_len]
            exact hm_len _
          rw [e, List.take_length] at hA3
          exact hA3
    · have e9 : k = 9 := by omega
      subst e9
      rw [decide_eq_false (show ¬ (((9 : Nat) : Int) < ((stF c 9).length : Nat)) by rw [st_len]; omega)]
      exact iteF ⟨_, rfl, kq l ls H1 sm hl hL hA⟩
end
end K74

/-! {k: v}, k a tuple -/
namespace K74
open PySem L2 Sup
def tDisp1 (tk tv : TE) : TE := fun σ H Q => ∀ p, H p = none → tk σ (upd H p (.dT [])) fun x H1 => tv σ H1 fun y H2 => ∃ (b : Addr) (ks : List Key), x = .ref b ∧ H2 b = some (.tup (ks.map kV)) ∧ H2 p = some (.dT []) ∧ Q (.ref p) (upd H2 p (.dT [(ks, y)]))
theorem pe_disp1 {X : Cx} {k v : Expr} {tk tv : TE} {pos : Pos} (hk : PE X k tk) (hv : PE X v tv) (hu : X.A.units + 1 < cLine) : PE X (.Dict [some k] [v] pos) (tDisp1 tk tv) := by
  refine ⟨fun pins s σ H Q I q => ?_⟩
  have hn := I.fresh
  have I1 := I.laid (a := s.heap.objs.size) (o := .dT []) (h' := s.heap.push { cls := .type "dict", data := .dict #[] }) (t' := s.toks) (fun _ _ z => Heap.get?_push_of_some _ z) (Nat.le_refl _) (dt_empty s.heap I.big)
  rw [arm_eval_Dict]
  have sh : (evalEachOpt [some k] X.env).zip ((evalEach [v] X.env).map fun v => do let x ← v; standAt pos; pure x) = [(eval k X.env, do let x ← eval v X.env; standAt pos; pure x)].map fun p => (some p.1, p.2) := by
    simp [evalEachOpt, evalOpt, evalEach]
  rw [sh, dictDisplay_pairs [(eval k X.env, do let x ← eval v X.env; standAt pos; pure x)] (by simp) (by show 1 < 17; decide)]
  refine wpAny_bind (wpAny_standAt (wpAny_bind ?_))
  unfold subDict
  refine wpAny_bind (wpAny_alloc (wpAny_bind (wpAny_holding ?_)))
  split
  · refine wpAny_bind (evalPairs_cons (thn (hk.run pins _ σ _ _ I1 (q _ hn)) fun kv s1 ⟨x, H1, J1, r1, q1⟩ => ?_))
    refine wpAny_bind (thn (hv.run pins s1 σ H1 _ J1 q1) fun vv s2 ⟨y, H2, J2, r2, b, ks, ex, hb, hp, q2⟩ => wpAny_bind (wpAny_standAt (wpAny_pure (evalPairs_nil (wpAny_holding ?_)))))
    subst ex
    obtain rfl : kv = Value.ref b := r1
    rw [List.forIn_cons]
    obtain ⟨z, hd, xs, rel, dd⟩ := dt_of J2.hok hp
    cases rel
    have hu0 : X.A.units < cLine := by omega
    refine wpAny_bind (wpAny_bind (wpAny_bind (wpAny_dictSet_heap (hsz := Nat.zero_le _) (knd := tupleKind (mixKind X.prog X.w)) hu0 (key_of J2.hok hb) dd fun h' dd' hs => wpAny_pure ?_)))
    dsimp only
    rw [List.forIn_nil]
    refine wpAny_pure (wpAny_pure (wpAny_pure (wpAny_pure ⟨.ref s.heap.objs.size, _, ?_, rfl, q2⟩)))
    obtain ⟨o, es, ep, ho, h2, h3, h4, _, h5⟩ := dd'
    refine d_write J2 (by rw [hp]; exact True.intro) hs ⟨o, ho⟩ ⟨by show 1 ≤ sizeLine; decide, hd, [(ks, b, vv)], .cons ⟨rfl, ?_, r2⟩ .nil, o, es, ep, ho, h2, h3, h4, h5⟩
    exact (upd_ne (ne_of hb hp (fun z => nomatch z))).trans hb
  · rename_i h
    exact absurd (show 1 ≤ 15 by decide) h
end K74

/-! Table.scenario -/
namespace K74
open PySem L2 Sup
/-! ### the mirror's turns -/
theorem good_at {f : Ps → List (Str × Option Ps)} {res : Option (List Str)} (h : goodB f res = true) {k : Nat} (hk : k < 10) {q : Qd} (e : bf f k = .ok q) :
    q.1.length ≤ 20 ∧ q.2.length ≤ 20 ∧ ((q.1.length ≤ k ∧ res = none) ∨ ∃ s w, q.1[k]? = some s ∧ k < 9 ∧ k < q.1.length ∧ look q.2 s = some w ∧ w.length ≤ 20 ∧ (∀ r, turn w (f s) q = .error r → res = some r) ∧ bf f (k + 1) = turn w (f s) q) := by
  have h1 : stepB f res k = true := List.all_eq_true.mp h k (List.mem_range.mpr hk)
  unfold stepB at h1
  rw [e] at h1
  simp only [Bool.and_eq_true, decide_eq_true_eq] at h1
  obtain ⟨⟨a1, a2⟩, a3⟩ := h1
  refine ⟨a1, a2, ?_⟩
  cases hq : q.1[k]? with
  | none =>
    rw [hq] at a3
    simp only [Bool.and_eq_true, decide_eq_true_eq] at a3
    exact .inl a3
  | some s =>
    rw [hq] at a3
    simp only [Bool.and_eq_true, decide_eq_true_eq] at a3
    obtain ⟨⟨b1, b2⟩, b3⟩ := a3
    cases hw : look q.2 s with
    | none => rw [hw] at b3; cases b3
    | some w =>
      rw [hw] at b3
      simp only [Bool.and_eq_true, decide_eq_true_eq] at b3
      refine .inr ⟨s, w, rfl, b1, b2, hw, b3.1, fun r hr => ?_, ?_⟩
      · have z := b3.2
        rw [hr] at z
        exact of_decide_eq_true z
      · show (match bf f k with | .error r => Except.error r | .ok q => match q.1[k]? with | none => .ok q | some s => match look q.2 s with | none => .ok q | some w => turn w (f s) q) = _
        rw [e]
        dsimp only
        rw [hq]
        dsimp only
        rw [hw]
theorem look_app {ws : List (Ps × List Str)} {s : Ps} {w : List Str} (h : look ws s = some w) (x : Ps × List Str) : look (ws ++ [x]) s = some w := by
  unfold look at h ⊢
  rw [List.find?_append]
  cases e : ws.find? (fun x => decide (x.1 = s)) with
  | none => rw [e] at h; cases h
  | some y => rw [e] at h; exact h
/-! ### the dict of the ways -/
def kSt (s : Ps) : List Key := [Sum.inr s.1.t, Sum.inr s.2.t]
theorem kSt_map (s : Ps) : (kSt s).map kV = stV s := rfl
theorem kSt_inj {s r : Ps} (h : kSt s = kSt r) : s = r := by
  obtain ⟨a, b⟩ := s
  obtain ⟨c, d⟩ := r
  unfold kSt at h
  injection h with h1 h2
  injection h2 with h2 _
  have e1 := Wd.t_inj (Sum.inr.inj h1)
  have e2 := Wd.t_inj (Sum.inr.inj h2)
  exact Prod.ext e1 e2
inductive Ways (H : Hp) : List (List Key × V) → List (Ps × List Str) → Prop
  | nil : Ways H [] []
  | cons {a : Addr} {s : Ps} {w : List Str} {kvs : List (List Key × V)} {ws : List (Ps × List Str)} : H a = some (.tup (w.map V.str)) → Ways H kvs ws → Ways H ((kSt s, .ref a) :: kvs) ((s, w) :: ws)
section
variable {H H' : Hp} {kvs : List (List Key × V)} {ws : List (Ps × List Str)}
theorem Ways.mono (t : Tups H H') (h : Ways H kvs ws) : Ways H' kvs ws := by
  induction h with
  | nil => exact .nil
  | cons e _ ih => exact .cons (t _ _ e) ih
theorem Ways.length (h : Ways H kvs ws) : kvs.length = ws.length := by
  induction h with
  | nil => rfl
  | cons _ _ ih => rw [List.length_cons, List.length_cons, ih]
theorem Ways.snoc (h : Ways H kvs ws) {a : Addr} {s : Ps} {w : List Str} (e : H a = some (.tup (w.map V.str))) : Ways H (kvs ++ [(kSt s, .ref a)]) (ws ++ [(s, w)]) := by
  induction h with
  | nil => exact .cons e .nil
  | cons e' _ ih => exact .cons e' ih
theorem Ways.val (h : Ways H kvs ws) (s : Ps) : (look ws s = none ∧ valV kvs (kSt s) = none) ∨ ∃ w a, look ws s = some w ∧ valV kvs (kSt s) = some (.ref a) ∧ H a = some (.tup (w.map V.str)) := by
  induction h with
  | nil => exact .inl ⟨rfl, rfl⟩
  | @cons a r w kvs ws e t ih =>
    by_cases hr : r = s
    · subst hr
      exact .inr ⟨w, a, by simp [look], valV_pos rfl, e⟩
    · have e1 : look ((r, w) :: ws) s = look ws s := by simp [look, hr]
      have e2 : valV ((kSt r, V.ref a) :: kvs) (kSt s) = valV kvs (kSt s) := valV_neg fun z => hr (kSt_inj z)
      rw [e1, e2]
      exact ih
end
def dAf : Option Ps → PyData
  | some s => dSt s
  | none => dBad
theorem AfAt.dp {K : PySem.W.Frag} {H : Hp} {v : V} {o : Option Ps} (h : AfAt H v o) : Dp K H v (dAf o) := by
  cases o with
  | some s => exact StAt.dp h
  | none =>
    have h : v = .str "bad" := h
    subst h
    exact .str _
theorem shaped_af (o : Option Ps) : SeqAt.shaped (dAf o) = true := by
  cases o with
  | some s => exact shaped_st s
  | none => exact shaped_bad
theorem eqv_af (o : Option Ps) : PyData.eqv (dAf o) dBad = o.isNone := by
  cases o with
  | some s => rfl
  | none => decide +kernel
/-- what scenario() promises -/
def spScen (C : Addr) (res : Bool → Option (List Str)) : Sp := fun vs H Q _ => ∃ (x : Addr) (c : Bool), vs = [.ref x] ∧ HsAt H x C c ∧ (res c = none → ∀ H', Same H H' → Q .non H') ∧
  ∀ ws, res c = some ws → ∀ l H', Same H H' → H l = none → H' l = some (.lst (ws.map V.str)) → Q (.ref l) H'
theorem scScen : FnScope ["self", "ways", "queue", "place", "state", "move", "after"] ["self"] (defScope sScen) := ⟨rfl, rfl, rfl, by decide +kernel, rfl, by decide +kernel, by decide +kernel⟩
section
variable {P : Program} {w : World} {K : PySem.W.Frag} {mg : Str → Option Value} {base : Heap}
theorem ok_scen {f fM fS C : Addr} {fd fdM fdS : FuncData} {mf : Bool → Ps → List (Str × Option Ps)} {res : Bool → Option (List Str)} {n : Nat} (mle : ∀ c s, (mf c s).length ≤ 8) (good : ∀ c, goodB (mf c) (res c) = true)
    (F : Fun K "scenario" "Table.scenario" sScen f fd) (T : ClsT K C) (GT : GlT mg) (bad : ∃ t, mg "BAD" = some (.str "bad" t))
    (GM : FnOk P w K mg base CX0 n fM fdM ["self", "state"] (spMv C mf)) (bM : Binds K fdM ["self", "state"] []) (mM : Meth K C "moves" fM) (hn : 1 ≤ n)
    (GS : FnOk P w K mg base CX0 1 fS fdS ["self"] (spStart C)) (bS : Binds K fdS ["self"] []) (mS : Meth K C "start" fS) : FnOk P w K mg base CX0 (n + 1) f fd ["self"] (spScen C res) := by
  obtain ⟨tb, mgB⟩ := bad
  refine F.ok scScen (fun vs H Q E h => ?_) (fun cdv A outer s0 H vs Q E hr h => ?_)
  · obtain ⟨x, c, rfl, _⟩ := h
    rfl
  · obtain ⟨x, c, rfl, hx, kN, kS⟩ := h
    have hu := hu_of hr
    refine ⟨_, pss_cons (ps_set (i := 1) scScen.nd rfl (Or.inl rfl) (pe_disp1 (pe_meth0 (pv 0) T.cl mS GS (hr.mono hn) bS .nil pass0) (pe_tup pa_nil) hu))
      (pss_cons (ps_set (i := 2) scScen.nd rfl (Or.inl rfl) (pe_lst (pa_cons (pe_meth0 (pv 0) T.cl mS GS (hr.mono hn) bS .nil pass0) pa_nil)))
      (pss_cons (ps_set (i := 3) scScen.nd rfl (Or.inl rfl) pe_int)
      (pss_cons (ps_while PassesOwn.never (pt_cmpR op_lt (pv 3) (pe_callB call_len_seq (by rfl) GT.len PySem.boot_len (pa_cons (pv 2) pa_nil)) (nomark _))
        (pss_cons (ps_set (i := 4) scScen.nd rfl (Or.inl rfl) (pe_ix ix_list (pv 2) (pv 3) (fun _ _ => rfl)))
        (pss_cons (ps_for PassesOwn.never rfl (pi_list (pe_meth (pv 0) T.cl mM GM hr bM .nil pass0 (pa_cons (pv 4) pa_nil)))
          (pg_tup rfl (pgs_cons (pg_name (i := 5) scScen.nd rfl (Or.inl rfl)) (pgs_cons (pg_name (i := 6) scScen.nd rfl (Or.inl rfl)) pgs_nil)))
          (pss_cons (ps_if (pt_cmpR (op_eqD hr.units) (pv 6) (pe_glob (v := .str "bad") rfl mgB ⟨_, rfl⟩) (nomark _))
              (pss_one (ps_ret (pe_op op_cat (pe_callTy call_list_of rfl GT.list (by decide +kernel) (pa_cons (pe_dget hu (pv 1) (pv 4) (fun _ _ => rfl)) pa_nil)) (pe_lst (pa_cons (pv 5) pa_nil))))) pss_nil)
          (pss_one (ps_if (pt_cmp (pc_dnotin hu (pv 6) (pv 1)))
            (pss_cons (ps_dput hu (pv 1) (pv 6) (pe_op op_catA (pe_dget hu (pv 1) (pv 4) (fun _ _ => rfl)) (pe_tup (pa_cons (pv 5) pa_nil))) rfl)
              (pss_one (ps_expr (pe_bm PySem.F.plainAttrs_list PySem.F.slot_list_append PySem.F.type_list_append mt_append (pv 2) (pa_cons (pv 6) pa_nil))))) pss_nil))))
        (pss_one (ps_aug (i := 3) scScen.nd rfl (Or.inl rfl) pe_int ip_add)))))
      (pss_one (ps_ret pe_non))))), ?_⟩
    have hx0 := hx
    obtain ⟨dx, pp, r, h1, h2⟩ := hx
    intro d hd
    have sA : Same H (upd H d (.dT [])) := Same.new (Same.refl H) hd
    refine ⟨_, rfl, x, dx, _, rfl, sA _ _ h1, fs2_no _ _ _ (by decide +kernel) (by decide +kernel) (by decide +kernel), x, c, rfl, hx0.mono sA, fun v0 hv0 => ?_⟩
    obtain ⟨b0, rfl, hb0⟩ := hv0
    refine ⟨Nat.zero_le _, fun e he => ?_⟩
    have nde : d ≠ e := fun z => by rw [← z, upd_same] at he; cases he
    refine ⟨b0, kSt (.b, .b), rfl, (by rw [kSt_map]; exact Tups.new he _ _ hb0), (by rw [upd_ne nde]; exact upd_same), ?_⟩
    have sB : Same H (upd (upd (upd H d (.dT [])) e (.tup [])) d (.dT [(kSt (.b, .b), .ref e)])) := Same.late (Same.new sA he) hd
    have tB : Tups (upd H d (.dT [])) (upd (upd (upd H d (.dT [])) e (.tup [])) d (.dT [(kSt (.b, .b), .ref e)])) := (Tups.new he).trans (Tups.dT (by rw [upd_ne nde]; exact upd_same))
    refine ⟨_, rfl, x, dx, _, rfl, sB _ _ h1, fs2_no _ _ _ (by decide +kernel) (by decide +kernel) (by decide +kernel), x, c, rfl, hx0.mono sB, fun v1 hv1 => ?_⟩
    refine ⟨by show 1 ≤ sizeLine; decide, fun l hl => ?_⟩
    have nld : l ≠ d := fun z => by rw [z, upd_same] at hl; cases hl
    have hl0 : H l = none := sB.free hl
    have sC : Same H (upd (upd (upd (upd H d (.dT [])) e (.tup [])) d (.dT [(kSt (.b, .b), .ref e)])) l (.lst [v1])) := Same.new sB hl
    have tC : Tups (upd (upd (upd H d (.dT [])) e (.tup [])) d (.dT [(kSt (.b, .b), .ref e)])) (upd (upd (upd (upd H d (.dT [])) e (.tup [])) d (.dT [(kSt (.b, .b), .ref e)])) l (.lst [v1])) := Tups.new hl
    refine ⟨fun m σ H' => ∃ (k : Nat) (q : Qd) (qs : List V) (kvs : List (List Key × V)) (n4 n5 n6 : Option V), m = 9 - k ∧ k ≤ 9 ∧ σ = [some (.ref x), some (.ref d), some (.ref l), some (.int (k : Int)), n4, n5, n6] ∧ Same H H' ∧ bf (mf c) k = .ok q ∧
        H' l = some (.lst qs) ∧ All2 (StAt H') qs q.1 ∧ H' d = some (.dT kvs) ∧ Ways H' kvs q.2,
      ⟨9, 0, _, [v1], _, none, none, none, rfl, by decide, rfl, sC, rfl, upd_same, .cons (hv1.mono tC) .nil, (by rw [upd_ne nld.symm]; exact upd_same), .cons ?_ .nil⟩, ?_⟩
    · rw [upd_ne (ne_of_none (show upd (upd (upd H d (.dT [])) e (.tup [])) d (.dT [(kSt (.b, .b), .ref e)]) e = some (.tup []) by rw [upd_ne nde.symm]; exact upd_same) hl), upd_ne nde.symm]
      exact upd_same
    rintro m σ H1 ⟨k, q, qs, kvs, n4, n5, n6, rfl, hk, rfl, sm, hbf, hL, hQ, hD, hW⟩
    obtain ⟨g1, g2, g3⟩ := good_at (good c) (show k < 10 by omega) hbf
    refine ⟨_, rfl, _, rfl, l, _, rfl, .inl (SqL.of hL), _, _, rfl, rfl, _, rfl, ?_⟩
    rw [hQ.length]
    rcases g3 with ⟨hlen, hres⟩ | ⟨s, wy, hs, hk9, hklt, hlook, hwy, herr, hnext⟩
    · rw [decide_eq_false (show ¬ ((k : Int) < ((q.1.length : Nat) : Int)) by omega)]
      exact iteF (kN hres H1 sm)
    rw [decide_eq_true (show ((k : Int) < ((q.1.length : Nat) : Int)) by omega)]
    obtain ⟨v, hv, hvs⟩ := hQ.at_ hs
    obtain ⟨b, rfl, hb⟩ := hvs
    refine iteT ⟨fun σ H' => ∃ (q' : Qd) (qs : List V) (kvs : List (List Key × V)) (n4 n5 n6 : Option V), σ = [some (.ref x), some (.ref d), some (.ref l), some (.int ((k + 1 : Nat) : Int)), n4, n5, n6] ∧ Same H H' ∧ bf (mf c) (k + 1) = .ok q' ∧
        H' l = some (.lst qs) ∧ All2 (StAt H') qs q'.1 ∧ H' d = some (.dT kvs) ∧ Ways H' kvs q'.2, ?_, ?_⟩
    · rintro σ' H' ⟨q', qs', kvs', m4, m5, m6, e1, e2, e3, e4, e5, e6, e7⟩
      exact ⟨9 - (k + 1), by omega, k + 1, q', qs', kvs', m4, m5, m6, rfl, hk9, e1, e2, e3, e4, e5, e6, e7⟩
    refine ⟨_, rfl, _, rfl, l, _, _, _, rfl, rfl, SqL.of hL, atI_nat hv, ?_⟩
    refine ⟨_, rfl, x, dx, _, rfl, sm _ _ h1, fs2_no _ _ _ (by decide +kernel) (by decide +kernel) (by decide +kernel), _, rfl, ?_⟩
    refine ⟨x, c, .ref b, s, rfl, hx0.mono sm, ⟨b, rfl, hb⟩, fun l1 ms H2 sm2 hn2 hL1 hA1 => ?_⟩
    have nl : l1 ≠ l := fun z => by rw [z, hL] at hn2; cases hn2
    have nd1 : l1 ≠ d := fun z => by rw [z, hD] at hn2; cases hn2
    have len1 : ms.length = (mf c s).length := hA1.length
    refine ⟨l1, rfl, ⟨_, SqL.of hL1⟩, for_list (K := K) (a := l1) (xs := ms) (fun i σ H' => ∃ (q' : Qd) (qs : List V) (kvs : List (List Key × V)) (n5 n6 : Option V), σ = [some (.ref x), some (.ref d), some (.ref l), some (.int (k : Int)), some (.ref b), n5, n6] ∧ Same H H' ∧ Tups H2 H' ∧
        H' l1 = some (.lst ms) ∧ turn wy (mf c s) q = turn wy ((mf c s).drop i) q' ∧ q'.1.length ≤ q.1.length + i ∧ q'.2.length ≤ q.2.length + i ∧ look q'.2 s = some wy ∧ H' l = some (.lst qs) ∧ All2 (StAt H') qs q'.1 ∧ H' d = some (.dT kvs) ∧ Ways H' kvs q'.2)
      ⟨q, qs, kvs, n5, n6, rfl, sm.trans sm2, Tups.refl _, hL1, rfl, Nat.le_refl _, Nat.le_refl _, hlook, sm2 _ _ hL, sts_mono (Tups.same sm2) hQ, sm2 _ _ hD, hW.mono (Tups.same sm2)⟩ (fun i σ H' _ ⟨_, _, _, _, _, _, _, _, z, _⟩ => SqL.of z) ?_ ?_⟩
    · rintro i y σ H3 hi ⟨q', qs3, kvs3, m5, m6, rfl, sm3, tp, hL3, hturn, z1, z2, hlk, hl3, hQ3, hd3, hW3⟩
      obtain ⟨m, hm, ⟨a, yv, rfl, hq, hy⟩⟩ := hA1.get hi
      obtain ⟨mn, mo⟩ := m
      have hi8 : i < 8 := Nat.lt_of_lt_of_le (List.getElem?_eq_some_iff.mp hm).1 (mle c s)
      have hdrop : (mf c s).drop i = (mn, mo) :: (mf c s).drop (i + 1) := by
        obtain ⟨hlt, e⟩ := List.getElem?_eq_some_iff.mp hm
        rw [List.drop_eq_getElem_cons hlt, e]
      have hy3 : AfAt H3 yv mo := AfAt.mono tp hy
      have hb3 : H3 b = some (.tup ((kSt s).map kV)) := tp _ _ (Tups.same sm2 _ _ hb)
      have hval : ∃ a0, valV kvs3 (kSt s) = some (.ref a0) ∧ H3 a0 = some (.tup (wy.map V.str)) := by
        rcases hW3.val s with ⟨z, _⟩ | ⟨w', a0, z, e1, e2⟩
        · rw [z] at hlk; cases hlk
        · rw [z] at hlk
          cases hlk
          exact ⟨a0, e1, e2⟩
      obtain ⟨a0, hv0, ha0⟩ := hval
      rw [hdrop] at hturn
      refine ⟨a, _, rfl, SqT.of (tp _ _ hq), rfl, _, _, rfl, _, _, rfl, rfl, ?_⟩
      refine ⟨_, rfl, dAf mo, dBad, hy3.dp, .str _, shaped_af _, shaped_bad, _, rfl, ?_⟩
      rw [eqv_af]
      cases mo with
      | none =>
        have hres : res c = some (wy ++ [mn]) := herr _ hturn
        refine iteT ?_
        refine ⟨_, rfl, _, rfl, d, .ref a0, rfl, (by rw [← hv0]; exact DGet.t hd3 hb3), a0, _, rfl, .inr (SqT.of ha0), fun p1 hp1 => ?_⟩
        refine ⟨_, rfl, by show 1 ≤ sizeLine; decide, fun p2 hp2 => ?_⟩
        have n12 : p1 ≠ p2 := fun z => by rw [← z, upd_same] at hp2; cases hp2
        refine ⟨p1, p2, _, _, rfl, rfl, (by rw [upd_ne n12]; exact upd_same), upd_same, by rw [List.length_map]; exact small (by show wy.length + 1 ≤ 1000; omega), fun p3 hp3 => ?_⟩
        have sF : Same H (upd (upd (upd H3 p1 (.lst (wy.map V.str))) p2 (.lst [.str mn])) p3 (.lst (wy.map V.str ++ [.str mn]))) := Same.new (Same.new (Same.new sm3 hp1) hp2) hp3
        refine kS _ hres p3 _ sF ((Same.new (Same.new sm3 hp1) hp2).free hp3) ?_
        rw [upd_same, List.map_append]
        rfl
      | some s' =>
        obtain ⟨b', rfl, hb'⟩ := hy3
        refine iteF ?_
        have hlen3 : qs3.length ≤ 100 := by rw [hQ3.length]; omega
        have klen3 : kvs3.length ≤ 100 := by rw [hW3.length]; omega
        have eT : turn wy ((mn, some s') :: (mf c s).drop (i + 1)) q' = if (look q'.2 s').isSome then turn wy ((mf c s).drop (i + 1)) q' else turn wy ((mf c s).drop (i + 1)) (q'.1 ++ [s'], q'.2 ++ [(s', wy ++ [mn])]) := rfl
        refine ⟨_, rfl, _, rfl, d, _, rfl, DGet.t hd3 (by rw [kSt_map]; exact hb'), _, rfl, ?_⟩
        rcases hW3.val s' with ⟨e1, e2⟩ | ⟨w', a', e1, e2, e3⟩
        · rw [e2]
          refine iteT ?_
          rw [e1] at eT
          rw [eT] at hturn
          have fin : ∀ (aw : Addr) (H4 : Hp), Same H3 H4 → H4 aw = some (.tup ((wy ++ [mn]).map V.str)) → ∀ H5, H5 = upd (upd H4 d (.dT (putK kvs3 (kSt s') (.ref aw)))) l (.lst (qs3 ++ [.ref b'])) →
              H4 d = some (.dT kvs3) ∧ H4 b' = some (.tup ((kSt s').map kV)) ∧ upd H4 d (.dT (putK kvs3 (kSt s') (.ref aw))) l = some (.lst qs3) ∧
              Same H H5 ∧ Tups H2 H5 ∧ H5 l1 = some (.lst ms) ∧ H5 l = some (.lst (qs3 ++ [.ref b'])) ∧ All2 (StAt H5) (qs3 ++ [.ref b']) (q'.1 ++ [s']) ∧ H5 d = some (.dT (putK kvs3 (kSt s') (.ref aw))) ∧ Ways H5 (putK kvs3 (kSt s') (.ref aw)) (q'.2 ++ [(s', wy ++ [mn])]) := by
            rintro aw H4 s34 haw H5 rfl
            have hd4 := s34 _ _ hd3
            have hl4 := s34 _ _ hl3
            have hl5 : upd H4 d (.dT (putK kvs3 (kSt s') (.ref aw))) l = some (.lst qs3) := by rw [upd_ne nld]; exact hl4
            have t45 : Tups H4 (upd (upd H4 d (.dT (putK kvs3 (kSt s') (.ref aw)))) l (.lst (qs3 ++ [.ref b']))) := (Tups.dT hd4).trans (Tups.lst hl5)
            have t35 := (Tups.same s34).trans t45
            refine ⟨hd4, s34 _ _ hb', hl5, Same.late (Same.late (sm3.trans s34) hd) hl0, tp.trans t35, ?_, upd_same, ?_, ?_, ?_⟩
            · rw [upd_ne nl, upd_ne nd1]
              exact s34 _ _ hL3
            · exact All2.snoc (sts_mono t35 hQ3) ⟨b', rfl, t35 _ _ hb'⟩
            · rw [upd_ne nld.symm]
              exact upd_same
            · have z := Ways.snoc (s := s') (hW3.mono t35) (t45 _ _ haw)
              rw [← putK_new (kvs := kvs3) (V.ref aw) e2] at z
              exact z
          refine ⟨_, rfl, _, rfl, d, .ref a0, rfl, (by rw [← hv0]; exact DGet.t hd3 hb3), _, rfl, by show 1 ≤ sizeLine; decide, fun p1 hp1 => ?_⟩
          have s31 : Same H3 (upd H3 p1 (.tup [.str mn])) := Same.new (Same.refl _) hp1
          refine ⟨a0, p1, wy.map V.str, [.str mn], rfl, rfl, SqT.of (s31 _ _ ha0), SqT.of upd_same, by rw [List.length_map]; exact small (by show wy.length + 1 ≤ 1000; omega), fun hnil => ?_, (fun _ z => nomatch z), fun hne _ p2 hp2 => ?_⟩
          · have hw0 : wy = [] := List.map_eq_nil_iff.mp hnil
            subst hw0
            obtain ⟨f1, f2, f3, f4, f5, f6, f7, f8, f9, f10⟩ := fin p1 _ s31 upd_same _ rfl
            refine ⟨_, rfl, _, rfl, d, _, rfl, DPut.t f1 f2 (Nat.lt_of_le_of_lt klen3 (by decide)), ?_⟩
            refine ⟨_, rfl, .inl ⟨rfl, _, SqL.of f3⟩, _, rfl, l, qs3, .ref b', rfl, rfl, f3, Nat.lt_of_le_of_lt hlen3 (by decide), ?_⟩
            refine ⟨(q'.1 ++ [s'], q'.2 ++ [(s', [] ++ [mn])]), _, _, _, _, rfl, f4, f5, f6, hturn, ?_, ?_, look_app hlk _, f7, f8, f9, f10⟩
            · simp only [List.length_append, List.length_singleton]; omega
            · simp only [List.length_append, List.length_singleton]; omega
          · have s32 : Same H3 (upd (upd H3 p1 (.tup [.str mn])) p2 (.tup (wy.map V.str ++ [.str mn]))) := Same.new s31 hp2
            obtain ⟨f1, f2, f3, f4, f5, f6, f7, f8, f9, f10⟩ := fin p2 _ s32 (by rw [upd_same, List.map_append]; rfl) _ rfl
            refine ⟨_, rfl, _, rfl, d, _, rfl, DPut.t f1 f2 (Nat.lt_of_le_of_lt klen3 (by decide)), ?_⟩
            refine ⟨_, rfl, .inl ⟨rfl, _, SqL.of f3⟩, _, rfl, l, qs3, .ref b', rfl, rfl, f3, Nat.lt_of_le_of_lt hlen3 (by decide), ?_⟩
            refine ⟨(q'.1 ++ [s'], q'.2 ++ [(s', wy ++ [mn])]), _, _, _, _, rfl, f4, f5, f6, hturn, ?_, ?_, look_app hlk _, f7, f8, f9, f10⟩
            · simp only [List.length_append, List.length_singleton]; omega
            · simp only [List.length_append, List.length_singleton]; omega
        · rw [e2]
          refine iteF ?_
          rw [e1] at eT
          rw [eT] at hturn
          exact ⟨q', qs3, kvs3, _, _, rfl, sm3, tp, hL3, hturn, by omega, by omega, hlk, hl3, hQ3, hd3, hW3⟩
    · rintro σ H3 ⟨q', qs3, kvs3, m5, m6, rfl, sm3, tp, hL3, hturn, z1, z2, hlk, hl3, hQ3, hd3, hW3⟩
      rw [len1, List.drop_length] at hturn
      refine ⟨_, rfl, _, _, rfl, rfl, q', qs3, kvs3, _, m5, m6, rfl, sm3, ?_, hl3, hQ3, hd3, hW3⟩
      rw [hnext, hturn]
      rfl
end
end K74

/-! stuck_scenario, the law's small defs -/
namespace K74
open PySem L2 Sup
section
variable {P : Program} {w : World} {K : PySem.W.Frag} {mg : Str → Option Value} {base : Heap}
/-! ### a new instance -/
/-- all that was there stays, but the one instance -/
theorem Same.inst {H H' : Hp} {x dx C : Addr} (nx : H x = none) (nd : H dx = none) (k : ∀ b o, b ≠ x → (upd (upd H dx (.own x)) x (.ins C dx [])) b = some o → H' b = some o) : Same H H' := fun b o e =>
  k b o (ne_of_none e nx) (by rw [upd_ne (ne_of_none e nx), upd_ne (ne_of_none e nd)]; exact e)
def spStuck (res : Bool → Option (List Str)) : Sp := fun vs H Q _ => ∃ (c : Bool), vs = [.bl c] ∧ (res c = none → ∀ H', Same H H' → Q .non H') ∧
  ∀ ws, res c = some ws → ∀ l H', Same H H' → H l = none → H' l = some (.lst (ws.map V.str)) → Q (.ref l) H'
theorem scStuck : FnScope ["waiting_counts"] ["waiting_counts"] (defScope sStuck) := ⟨rfl, rfl, rfl, by decide +kernel, rfl, by decide +kernel, by decide +kernel⟩
theorem ok_stuck {f fI fC CH CS fT : Addr} {fd fdI fdC : FuncData} {res : Bool → Option (List Str)} {n : Nat} (F : Fun K "stuck_scenario" "stuck_scenario" sStuck f fd) (T : ClsT K CS) (mgC : mg "StuckSearch" = some (.ref CS)) (M : Mk K CS fI)
    (GI : FnOk P w K mg base CX0 2 fI fdI ["self", "waiting_counts"] (spHI K CH fT)) (bI : Binds K fdI ["self", "waiting_counts"] []) (SM : SupM K CS CH "__init__" fT)
    (GC : FnOk P w K mg base CX0 n fC fdC ["self"] (spScen CS res)) (bC : Binds K fdC ["self"] []) (mC : Meth K CS "scenario" fC) (hn : 3 ≤ n) : FnOk P w K mg base CX0 (n + 1) f fd ["waiting_counts"] (spStuck res) := by
  refine F.ok scStuck (fun vs H Q E h => ?_) (fun cdv A outer s0 H vs Q E hr h => ?_)
  · obtain ⟨c, rfl, _⟩ := h
    rfl
  · obtain ⟨c, rfl, kN, kS⟩ := h
    refine ⟨_, pss_one (ps_ret (pe_meth0 (pe_make M GI (hr.mono hn) rfl mgC bI .nil pass0 (pa_cons (pv 0) pa_nil)) T.cl mC GC hr bC .nil pass0)), ?_⟩
    refine ⟨_, rfl, fun x dx nx nd ne => ?_⟩
    refine ⟨x, CS, dx, c, rfl, upd_same, T, SM, fun H1 hH k1 => ⟨rfl, ?_⟩⟩
    have s1 : Same H H1 := Same.inst nx nd k1
    have hH0 := hH
    obtain ⟨dx1, p, r, h1, h2⟩ := hH
    refine ⟨x, dx1, _, rfl, h1, fs2_no _ _ _ (by decide +kernel) (by decide +kernel) (by decide +kernel), x, c, rfl, hH0, fun e H2 s2 => kN e H2 (s1.trans s2), fun ws e l H2 s2 hl hL => kS ws e l H2 (s1.trans s2) (s1.free hl) hL⟩

/-! ### the row of digits -/
def spRow (K : PySem.W.Frag) : Sp := fun vs H Q _ => ∃ (a : Addr) (ns : List Int), vs = [.ref a, .int 60] ∧ SqL K H a (ns.map V.int) ∧
  ∀ (l : Addr) (rs : List Int) (H' : Hp), Same H H' → H l = none → H' l = some (.lst (rs.map V.int)) → rs.length ≤ 60 → Q (.ref l) H'
theorem scRow : FnScope ["_law_script", "_law_most", "_law_row_here", "_law_cell", "_law_rest", "_law_k"] ["_law_script", "_law_most"] (defScope sRow) := ⟨rfl, rfl, rfl, by decide +kernel, rfl, by decide +kernel, by decide +kernel⟩
theorem int_at {ns : List Int} {i : Nat} {y : V} (h : (ns.map V.int)[i]? = some y) : ∃ z, y = .int z := by
  rw [List.getElem?_map] at h
  cases e : ns[i]? with
  | none => rw [e] at h; cases h
  | some z => rw [e] at h; exact ⟨z, (Option.some.inj h).symm⟩
theorem ok_row {f : Addr} {fd : FuncData} (F : Fun K "_law_row" "_law_row" sRow f fd) (GT : GlT mg) : FnOk P w K mg base CX0 1 f fd ["_law_script", "_law_most"] (spRow K) := by
  refine F.ok scRow (fun vs H Q E h => ?_) (fun cdv A outer s0 H vs Q E hr h => ?_)
  · obtain ⟨a, ns, rfl, _⟩ := h
    rfl
  · obtain ⟨a, ns, rfl, hS, kq⟩ := h
    refine ⟨_, pss_cons (ps_set (i := 2) scRow.nd rfl (Or.inl rfl) (pe_lst pa_nil)) (pss_cons (ps_for PassesOwn.never rfl (pi_list (pv 0)) (pg_name (i := 3) scRow.nd rfl (Or.inl rfl))
      (pss_cons (ps_set (i := 4) scRow.nd rfl (Or.inl rfl) (pe_callB call_abs rfl GT.abs (by decide +kernel) (pa_cons (pe_callTy call_int1 rfl GT.int (by decide +kernel) (pa_cons (pv 3) pa_nil)) pa_nil)))
        (pss_one (ps_for PassesOwn.never rfl (pi_range1 rfl GT.range (pa_cons pe_int pa_nil)) (pg_name (i := 5) scRow.nd rfl (Or.inl rfl))
          (pss_cons (ps_if (pt_cmpR op_lt (pe_callB call_len_seq (by rfl) GT.len PySem.boot_len (pa_cons (pv 2) pa_nil)) (pv 1) (nomark _))
              (pss_one (ps_expr (pe_bm PySem.F.plainAttrs_list PySem.F.slot_list_append PySem.F.type_list_append mt_append (pv 2) (pa_cons (pe_op op_mod (pv 4) pe_int) pa_nil)))) pss_nil)
            (pss_cons (ps_set (i := 4) scRow.nd rfl (Or.inl rfl) (pe_op op_fdiv (pv 4) pe_int))
              (pss_one (ps_if (pt_cmpR op_eq (pv 4) pe_int (nomark _)) (pss_one ps_break) pss_nil))))))))
      (pss_one (ps_ret (pv 2)))), ?_⟩
    refine ⟨Nat.zero_le _, fun l hl => ?_⟩
    refine ⟨_, rfl, a, rfl, ⟨_, (Same.new (Same.refl H) hl).seq hS⟩, for_list (K := K) (a := a) (xs := ns.map V.int) (fun i σ H' => ∃ (rs : List Int) (n3 n4 n5 : Option V), σ = [some (.ref a), some (.int 60), some (.ref l), n3, n4, n5] ∧ Same H H' ∧ H' l = some (.lst (rs.map V.int)) ∧ rs.length ≤ 60)
      ⟨[], none, none, none, rfl, Same.new (Same.refl H) hl, upd_same, Nat.zero_le _⟩ (fun i σ H' _ ⟨_, _, _, _, _, s, _⟩ => s.seq hS) ?_ ?_⟩
    · rintro i y σ H1 hi ⟨rs, n3, n4, n5, rfl, sm, hL, hz⟩
      obtain ⟨z, rfl⟩ := int_at hi
      refine ⟨_, rfl, .inl ⟨z, rfl, _, rfl, ?_⟩⟩
      refine ⟨60, rfl, by decide, by decide, for_range (lo := 0) (n := 60) (fun j σ H' => ∃ (rs : List Int) (n3 : Option V) (z : Int) (n5 : Option V), σ = [some (.ref a), some (.int 60), some (.ref l), n3, some (.int z), n5] ∧ Same H H' ∧ H' l = some (.lst (rs.map V.int)) ∧ rs.length ≤ 60)
        ⟨rs, _, _, n5, rfl, sm, hL, hz⟩ ?_ ?_⟩
      · rintro j σ H2 hj ⟨rs2, m3, z2, m5, rfl, sm2, hL2, hz2⟩
        refine ⟨_, rfl, l, _, rfl, .inl (SqL.of hL2), _, rfl, _, _, rfl, rfl, _, rfl, ?_⟩
        rw [List.length_map]
        refine ite2 (fun hc => ?_) (fun hc => ?_)
        · have hlt : rs2.length < 60 := by
            have := of_decide_eq_true hc
            omega
          refine ⟨_, rfl, .inl ⟨rfl, _, SqL.of hL2⟩, _, rfl, _, _, rfl, rfl, (by show (0 : Int) < 16; decide), l, _, _, rfl, rfl, hL2, by rw [List.length_map]; exact Nat.lt_of_le_of_lt hz2 (by decide), ?_⟩
          have hL3 : upd H2 l (.lst (rs2.map V.int ++ [.int (z2 % 16)])) l = some (.lst ((rs2 ++ [z2 % 16]).map V.int)) := by rw [upd_same, List.map_append]; rfl
          have hz3 : (rs2 ++ [z2 % 16]).length ≤ 60 := by rw [List.length_append, List.length_singleton]; omega
          refine ⟨_, rfl, _, _, rfl, rfl, ⟨by decide, by decide⟩, _, rfl, rfl, _, rfl, ?_⟩
          refine ite2 (fun hc2 => ?_) (fun hc2 => ?_)
          · exact ⟨_, _, _, _, rfl, Same.late sm2 hl, hL3, hz3⟩
          · exact ⟨_, _, _, _, rfl, Same.late sm2 hl, hL3, hz3⟩
        · refine ⟨_, rfl, _, _, rfl, rfl, ⟨by decide, by decide⟩, _, rfl, rfl, _, rfl, ?_⟩
          refine ite2 (fun hc2 => ?_) (fun hc2 => ?_)
          · exact ⟨_, _, _, _, rfl, sm2, hL2, hz2⟩
          · exact ⟨_, _, _, _, rfl, sm2, hL2, hz2⟩
      · rintro σ H2 ⟨rs2, m3, z2, m5, rfl, sm2, hL2, hz2⟩
        exact ⟨rs2, _, _, _, rfl, sm2, hL2, hz2⟩
    · rintro σ H1 ⟨rs, n3, n4, n5, rfl, sm, hL, hz⟩
      exact ⟨_, rfl, kq l rs H1 sm hl hL hz⟩

/-! ### one digit -/
def spDigit (K : PySem.W.Frag) : Sp := fun vs H Q _ => ∃ (a : Addr) (rs : List Int) (k : Nat), vs = [.ref a, .int (k : Int)] ∧ SqL K H a (rs.map V.int) ∧ ∀ z, Q (.int z) H
theorem scDigit : FnScope ["_law_row_here", "_law_at"] ["_law_row_here", "_law_at"] (defScope sDigit) := ⟨rfl, rfl, rfl, by decide +kernel, rfl, by decide +kernel, by decide +kernel⟩
theorem ok_digit {f : Addr} {fd : FuncData} (F : Fun K "_law_digit" "_law_digit" sDigit f fd) (GT : GlT mg) : FnOk P w K mg base CX0 1 f fd ["_law_row_here", "_law_at"] (spDigit K) := by
  refine F.ok scDigit (fun vs H Q E h => ?_) (fun cdv A outer s0 H vs Q E hr h => ?_)
  · obtain ⟨a, rs, k, rfl, _⟩ := h
    rfl
  · obtain ⟨a, rs, k, rfl, hS, kq⟩ := h
    refine ⟨_, pss_cons (ps_if (pt_cmpR op_lt (pv 1) (pe_callB call_len_seq (by rfl) GT.len PySem.boot_len (pa_cons (pv 0) pa_nil)) (nomark _)) (pss_one (ps_ret (pe_ix ix_list (pv 0) (pv 1) (fun _ _ => rfl)))) pss_nil) (pss_one (ps_ret pe_int)), ?_⟩
    refine ⟨_, rfl, _, rfl, a, _, rfl, .inl hS, _, _, rfl, rfl, _, rfl, ?_⟩
    rw [List.length_map]
    refine ite2 (fun hc => ?_) (fun hc => ?_)
    · have hlt : k < rs.length := by
        have := of_decide_eq_true hc
        omega
      exact ⟨_, rfl, _, rfl, a, _, _, _, rfl, rfl, hS, atI_nat (by rw [List.getElem?_map, List.getElem?_eq_getElem hlt]; rfl), kq _⟩
    · exact kq _

/-! ### the nine states -/
def spNine : Sp := fun vs H Q _ => vs = [] ∧ ∀ l ls H', Same H H' → H l = none → H' l = some (.lst ls) → All2 (StAt H') ls allPs → Q (.ref l) H'
theorem scNine : FnScope ["_law_words_here", "_law_nine_here", "_law_first", "_law_second"] [] (defScope sNine) := ⟨rfl, rfl, rfl, by decide +kernel, rfl, by decide +kernel, by decide +kernel⟩
theorem wd_at {i : Nat} {y : V} (h : (Wd.all.map fun x => V.str x.t)[i]? = some y) : ∃ x, Wd.all[i]? = some x ∧ y = .str x.t := by
  rw [List.getElem?_map] at h
  cases e : Wd.all[i]? with
  | none => rw [e] at h; cases h
  | some x => rw [e] at h; exact ⟨x, rfl, (Option.some.inj h).symm⟩
def nineTo (i j : Nat) : List Ps := ((Wd.all.take i).flatMap fun x => Wd.all.map fun y => (x, y)) ++ match Wd.all[i]? with
  | none => []
  | some x => (Wd.all.take j).map fun y => (x, y)
theorem nine0 (i : Nat) : nineTo i 0 = (Wd.all.take i).flatMap fun x => Wd.all.map fun y => (x, y) := by
  unfold nineTo
  cases Wd.all[i]? <;> simp
theorem nineS {i j : Nat} {x y : Wd} (hx : Wd.all[i]? = some x) (hy : Wd.all[j]? = some y) : nineTo i (j + 1) = nineTo i j ++ [(x, y)] := by
  unfold nineTo
  rw [hx]
  dsimp only
  rw [List.take_add_one, hy, List.map_append, List.append_assoc]
  rfl
theorem nine3 {i : Nat} {x : Wd} (hx : Wd.all[i]? = some x) : nineTo i 3 = nineTo (i + 1) 0 := by
  rw [nine0, List.take_add_one, hx, List.flatMap_append]
  unfold nineTo
  rw [hx]
  simp [Wd.all]
theorem nine_all : nineTo 3 0 = allPs := by decide +kernel
theorem nine_len : ∀ i : Fin 4, ∀ j : Fin 4, (nineTo i.val j.val).length ≤ 20 := by decide +kernel
theorem ok_nine {f : Addr} {fd : FuncData} (F : Fun K "_law_nine" "_law_nine" sNine f fd) : FnOk P w K mg base CX0 1 f fd [] spNine := by
  refine F.ok scNine (fun vs H Q E h => ?_) (fun cdv A outer s0 H vs Q E hr h => ?_)
  · obtain ⟨rfl, _⟩ := h
    rfl
  · obtain ⟨rfl, kq⟩ := h
    refine ⟨_, pss_cons (ps_set (i := 0) scNine.nd rfl (Or.inl rfl) (pe_lst (pa_cons pe_str (pa_cons pe_str (pa_cons pe_str pa_nil))))) (pss_cons (ps_set (i := 1) scNine.nd rfl (Or.inl rfl) (pe_lst pa_nil))
      (pss_cons (ps_for PassesOwn.never rfl (pi_list (pv 0)) (pg_name (i := 2) scNine.nd rfl (Or.inl rfl)) (pss_one (ps_for PassesOwn.never rfl (pi_list (pv 0)) (pg_name (i := 3) scNine.nd rfl (Or.inl rfl))
        (pss_one (ps_expr (pe_bm PySem.F.plainAttrs_list PySem.F.slot_list_append PySem.F.type_list_append mt_append (pv 1) (pa_cons (pe_tup (pa_cons (pv 2) (pa_cons (pv 3) pa_nil))) pa_nil)))))))
      (pss_one (ps_ret (pv 1))))), ?_⟩
    refine ⟨by show 3 ≤ sizeLine; decide, fun a ha => ?_⟩
    refine ⟨Nat.zero_le _, fun l hl => ?_⟩
    have nal : a ≠ l := fun z => by rw [← z, upd_same] at hl; cases hl
    have sA : Same H (upd H a (.lst (Wd.all.map fun x => V.str x.t))) := Same.new (Same.refl H) ha
    have hl0 : H l = none := sA.free hl
    have hla : upd (upd H a (.lst (Wd.all.map fun x => V.str x.t))) l (.lst []) a = some (.lst (Wd.all.map fun x => V.str x.t)) := by rw [upd_ne nal]; exact upd_same
    refine ⟨_, rfl, a, rfl, ⟨_, SqL.of hla⟩, for_list (K := K) (a := a) (xs := Wd.all.map fun x => V.str x.t) (fun i σ H' => ∃ ls n2 n3, σ = [some (.ref a), some (.ref l), n2, n3] ∧ Same H H' ∧ H' a = some (.lst (Wd.all.map fun x => V.str x.t)) ∧ H' l = some (.lst ls) ∧ All2 (StAt H') ls (nineTo i 0))
      ⟨[], none, none, rfl, Same.new sA hl, hla, upd_same, .nil⟩ (fun i σ H' _ ⟨_, _, _, _, _, q, _⟩ => SqL.of q) ?_ ?_⟩
    · rintro i y σ H1 hi ⟨ls, n2, n3, rfl, sm, hA, hL, hQ⟩
      obtain ⟨x, hx, rfl⟩ := wd_at hi
      have hi3 : i < 3 := (List.getElem?_eq_some_iff.mp hx).1
      refine ⟨_, rfl, a, rfl, ⟨_, SqL.of hA⟩, for_list (K := K) (a := a) (xs := Wd.all.map fun x => V.str x.t) (fun j σ H' => ∃ ls n3, σ = [some (.ref a), some (.ref l), some (.str x.t), n3] ∧ Same H H' ∧ H' a = some (.lst (Wd.all.map fun x => V.str x.t)) ∧ H' l = some (.lst ls) ∧ All2 (StAt H') ls (nineTo i j))
        ⟨ls, n3, rfl, sm, hA, hL, hQ⟩ (fun i σ H' _ ⟨_, _, _, _, q, _⟩ => SqL.of q) ?_ ?_⟩
      · rintro j y2 σ H2 hj ⟨ls2, m3, rfl, sm2, hA2, hL2, hQ2⟩
        obtain ⟨y, hy, rfl⟩ := wd_at hj
        have hj3 : j < 3 := (List.getElem?_eq_some_iff.mp hy).1
        have len2 : ls2.length ≤ 20 := by
          rw [hQ2.length]
          exact nine_len ⟨i, by omega⟩ ⟨j, by omega⟩
        refine ⟨_, rfl, .inl ⟨rfl, _, SqL.of hL2⟩, _, rfl, _, rfl, by show 2 ≤ sizeLine; decide, fun t ht => ?_⟩
        have nlt : l ≠ t := ne_of_none hL2 ht
        have hL3 : upd H2 t (.tup [.str x.t, .str y.t]) l = some (.lst ls2) := by rw [upd_ne nlt]; exact hL2
        have tt : Tups H2 (upd (upd H2 t (.tup [.str x.t, .str y.t])) l (.lst (ls2 ++ [.ref t]))) := (Tups.new ht).trans (Tups.lst hL3)
        refine ⟨l, ls2, .ref t, rfl, rfl, hL3, Nat.lt_of_le_of_lt len2 (by decide), _, _, rfl, Same.late (Same.new sm2 ht) hl0, ?_, upd_same, ?_⟩
        · rw [upd_ne nal, upd_ne (ne_of_none hA2 ht)]
          exact hA2
        · rw [nineS hx hy]
          exact All2.snoc (sts_mono tt hQ2) ⟨t, rfl, by rw [upd_ne nlt.symm]; exact upd_same⟩
      · rintro σ H2 ⟨ls2, m3, rfl, sm2, hA2, hL2, hQ2⟩
        exact ⟨ls2, _, m3, rfl, sm2, hA2, hL2, by rw [← nine3 hx]; exact hQ2⟩
    · rintro σ H1 ⟨ls, n2, n3, rfl, sm, hA, hL, hQ⟩
      exact ⟨_, rfl, kq l ls H1 sm hl0 hL (by rw [← nine_all]; exact hQ)⟩
end
end K74

/-! the law's words and moves -/
namespace K74
open PySem L2 Sup
def wdV (d : Dd) : List V := [.str d.t, .str d.o.t, .str d.g.t]
def WdAt (H : Hp) (v : V) (d : Dd) : Prop := ∃ a, v = .ref a ∧ H a = some (.tup (wdV d))
theorem WdAt.mono {H H' : Hp} {v : V} {d : Dd} (t : Tups H H') (h : WdAt H v d) : WdAt H' v d := let ⟨a, e, q⟩ := h; ⟨a, e, t _ _ q⟩
theorem wds_mono {H H' : Hp} {vs : List V} {l : List Dd} (t : Tups H H') (h : All2 (WdAt H) vs l) : All2 (WdAt H') vs l := h.mono fun _ _ q => q.mono t
section
variable {P : Program} {w : World} {K : PySem.W.Frag} {mg : Str → Option Value} {base : Heap}
def spWords : Sp := fun vs H Q _ => vs = [] ∧ ∀ l ts H', Same H H' → H l = none → H' l = some (.lst ts) → All2 (WdAt H') ts Dd.all → Q (.ref l) H'
theorem scWords : FnScope [] [] (defScope sWords) := ⟨rfl, rfl, rfl, by decide +kernel, rfl, by decide +kernel, by decide +kernel⟩
theorem ok_words {f : Addr} {fd : FuncData} (F : Fun K "_law_words" "_law_words" sWords f fd) : FnOk P w K mg base CX0 1 f fd [] spWords := by
  refine F.ok scWords (fun vs H Q E h => ?_) (fun cdv A outer s0 H vs Q E hr h => ?_)
  · obtain ⟨rfl, _⟩ := h
    rfl
  · obtain ⟨rfl, kq⟩ := h
    refine ⟨_, pss_one (ps_ret (pe_lst (pa_cons (pe_tup (pa_cons pe_str (pa_cons pe_str (pa_cons pe_str pa_nil)))) (pa_cons (pe_tup (pa_cons pe_str (pa_cons pe_str (pa_cons pe_str pa_nil))))
      (pa_cons (pe_tup (pa_cons pe_str (pa_cons pe_str (pa_cons pe_str pa_nil)))) (pa_cons (pe_tup (pa_cons pe_str (pa_cons pe_str (pa_cons pe_str pa_nil)))) pa_nil)))))), ?_⟩
    refine ⟨by show 3 ≤ sizeLine; decide, fun a1 h1 => ⟨by show 3 ≤ sizeLine; decide, fun a2 h2 => ⟨by show 3 ≤ sizeLine; decide, fun a3 h3 => ⟨by show 3 ≤ sizeLine; decide, fun a4 h4 => ⟨by show 4 ≤ sizeLine; decide, fun l hl => ?_⟩⟩⟩⟩⟩
    have g1 := Tups.new (o := .tup (wdV .begin)) h1
    have g2 := Tups.new (o := .tup (wdV .finish)) h2
    have g3 := Tups.new (o := .tup (wdV .hit)) h3
    have g4 := Tups.new (o := .tup (wdV .pass)) h4
    have g5 := Tups.new (o := .lst [.ref a1, .ref a2, .ref a3, .ref a4]) hl
    have s4 := Same.new (o := .tup (wdV .pass)) (Same.new (o := .tup (wdV .hit)) (Same.new (o := .tup (wdV .finish)) (Same.new (o := .tup (wdV .begin)) (Same.refl H) h1) h2) h3) h4
    refine kq l [.ref a1, .ref a2, .ref a3, .ref a4] _ (Same.new s4 hl) (s4.free hl) upd_same ?_
    exact .cons (b := Dd.begin) ⟨a1, rfl, g5 _ _ (g4 _ _ (g3 _ _ (g2 _ _ upd_same)))⟩ (.cons (b := Dd.finish) ⟨a2, rfl, g5 _ _ (g4 _ _ (g3 _ _ upd_same))⟩ (.cons (b := Dd.hit) ⟨a3, rfl, g5 _ _ (g4 _ _ upd_same)⟩ (.cons (b := Dd.pass) ⟨a4, rfl, g5 _ _ upd_same⟩ .nil)))

/-! ### the law's moves -/
def spLM : Sp := fun vs H Q _ => ∃ (v : V) (s : Ps) (c : Bool), vs = [v, .bl c] ∧ StAt H v s ∧ ∀ l ms H', Same H H' → H l = none → H' l = some (.lst ms) → All2 (MvAt H') ms (hmv c s) → Q (.ref l) H'
theorem scLM : FnScope ["_law_state", "_law_counts", "_law_found", "_law_word", "_law_p", "_law_other", "_law_possible", "_law_behind"] ["_law_state", "_law_counts"] (defScope sLMoves) := ⟨rfl, rfl, rfl, by decide +kernel, rfl, by decide +kernel, by decide +kernel⟩
theorem text_mv2 (d : Dd) (p : Bool) : d.t ++ " " ++ (toString (pn p) : String) = mt d p := by
  cases d <;> cases p <;> decide +kernel
theorem pn_at {i : Nat} {y : V} (h : ([V.int 0, V.int 1] : List V)[i]? = some y) : ∃ p : Bool, y = .int (pn p) ∧ [false, true][i]? = some p := by
  match i, h with
  | 0, h => exact ⟨false, (Option.some.inj h).symm, rfl⟩
  | 1, h => exact ⟨true, (Option.some.inj h).symm, rfl⟩
theorem ix_wd0 (d : Dd) : atI (wdV d) 0 = some (.str d.t) := rfl
theorem ix_wd1 (d : Dd) : atI (wdV d) 1 = some (.str d.o.t) := rfl
theorem ix_wd2 (d : Dd) : atI (wdV d) 2 = some (.str d.g.t) := rfl
theorem mvD_snoc {c : Bool} {s : Ps} {d : Dd} {j : Nat} {p : Bool} (hp : [false, true][j]? = some p) : mvD c s ([false, true].take (j + 1)) d = mvD c s ([false, true].take j) d ++ one c s d p := by
  rw [List.take_add_one, hp]
  unfold mvD
  rw [List.flatMap_append]
  show _ ++ List.flatMap _ [p] = _
  rw [List.flatMap_cons, List.flatMap_nil, List.append_nil]
theorem mvL_snoc {c : Bool} {s : Ps} {d : Dd} {i : Nat} (hd : Dd.all[i]? = some d) : mvL c s (Dd.all.take (i + 1)) = mvL c s (Dd.all.take i) ++ mvD c s [false, true] d := by
  rw [List.take_add_one, hd]
  unfold mvL
  rw [List.flatMap_append]
  show _ ++ List.flatMap _ [d] = _
  rw [List.flatMap_cons, List.flatMap_nil, List.append_nil]
theorem ok_lmoves {f fW : Addr} {fd fdW : FuncData} (F : Fun K "_law_moves" "_law_moves" sLMoves f fd) (FW : Fun K "_law_words" "_law_words" sWords fW fdW) (bW : Binds K fdW [] []) (mgW : mg "_law_words" = some (.ref fW)) (GT : GlT mg) :
    FnOk P w K mg base CX0 2 f fd ["_law_state", "_law_counts"] spLM := by
  have GW : FnOk P w K mg base CX0 1 fW fdW [] spWords := ok_words FW
  refine F.ok scLM (fun vs H Q E h => ?_) (fun cdv A outer s0 H vs Q E hr h => ?_)
  · obtain ⟨v, s, c, rfl, _⟩ := h
    rfl
  · obtain ⟨v, s, c, rfl, hs, kq⟩ := h
    obtain ⟨a, rfl, ha⟩ := hs
    refine ⟨_, pss_cons (ps_set (i := 2) scLM.nd rfl (Or.inl rfl) (pe_lst pa_nil)) (pss_cons (ps_for PassesOwn.never rfl (pi_list (pe_call0 GW hr rfl mgW FW.kp bW .nil pass0)) (pg_name (i := 3) scLM.nd rfl (Or.inl rfl))
      (pss_one (ps_for PassesOwn.never rfl (pi_list (pe_lst (pa_cons pe_int (pa_cons pe_int pa_nil)))) (pg_name (i := 4) scLM.nd rfl (Or.inl rfl))
        (pss_cons (ps_set (i := 5) scLM.nd rfl (Or.inl rfl) (pe_ix ix_tup (pv 0) (pe_op op_sub pe_int (pv 4)) (fun _ _ => rfl)))
        (pss_cons (ps_set (i := 6) scLM.nd rfl (Or.inl rfl) (pe_cmpR op_eq (pe_ix ix_tup (pv 0) (pv 4) (fun _ _ => rfl)) (pe_ix ix_tup (pv 3) pe_int (fun _ _ => rfl)) (nomark _)))
        (pss_cons (ps_if (PW.pt (pw_and (pt_cmpR op_eq (pe_ix ix_tup (pv 3) pe_int (fun _ _ => rfl)) pe_str (nomark _)) (pw_and (pt_cmpR op_ne (pv 5) pe_str (nomark _))
            (pw_and1 (pt_not (PW.pt (pw_and (pt_val (pv 1)) (pw_and1 (pt_cmpR op_eq (pv 5) pe_str (nomark _)))))))))) (pss_one (ps_set (i := 6) scLM.nd rfl (Or.inl rfl) pe_bl)) pss_nil)
        (pss_one (ps_if (pt_val (pv 6))
          (pss_cons (ps_set (i := 7) scLM.nd rfl (Or.inl rfl) (pe_lst (pa_cons (pe_ix ix_tup (pv 0) pe_int (fun _ _ => rfl)) (pa_cons (pe_ix ix_tup (pv 0) pe_int (fun _ _ => rfl)) pa_nil))))
          (pss_cons (ps_asg (pe_ix ix_tup (pv 3) pe_int (fun _ _ => rfl)) (pg_sub (pv 7) (pv 4) set_list))
          (pss_one (ps_expr (pe_bm PySem.F.plainAttrs_list PySem.F.slot_list_append PySem.F.type_list_append mt_append (pv 2)
            (pa_cons (pe_tup (pa_cons (pe_op op_add_str (pe_op op_add_str (pe_ix ix_tup (pv 3) pe_int (fun _ _ => rfl)) pe_str) (pe_callTy call_str_int rfl GT.str (by decide +kernel) (pa_cons (pv 4) pa_nil)))
              (pa_cons (pe_tup (pa_cons (pe_ix ix_list (pv 7) pe_int (fun _ _ => rfl)) (pa_cons (pe_ix ix_list (pv 7) pe_int (fun _ _ => rfl)) pa_nil))) pa_nil))) pa_nil))))))
          pss_nil)))))))) (pss_one (ps_ret (pv 2)))), ?_⟩
    refine ⟨Nat.zero_le _, fun l hl => ?_⟩
    refine ⟨rfl, fun lw ts H1 sm1 hnw hLw hW => ?_⟩
    have nlw : lw ≠ l := fun z => by rw [z, upd_same] at hnw; cases hnw
    have sm10 : Same H H1 := (Same.new (Same.refl H) hl).trans sm1
    refine ⟨lw, rfl, ⟨_, SqL.of hLw⟩, for_list (K := K) (a := lw) (xs := ts) (fun i σ H' => ∃ ms n3 n4 n5 n6 n7, σ = [some (.ref a), some (.bl c), some (.ref l), n3, n4, n5, n6, n7] ∧ Same H H' ∧ H' lw = some (.lst ts) ∧ Tups H1 H' ∧ H' l = some (.lst ms) ∧
      All2 (MvAt H') ms (hm (mvL c s (Dd.all.take i)))) ⟨[], none, none, none, none, none, rfl, sm10, hLw, Tups.refl _, sm1 _ _ upd_same, .nil⟩ (fun i σ H' _ ⟨_, _, _, _, _, _, _, _, q, _⟩ => SqL.of q) ?_ ?_⟩
    · rintro i y σ H2 hi ⟨ms, n3, n4, n5, n6, n7, rfl, sm, hLw2, tp2, hL, hA⟩
      obtain ⟨d, hd, ⟨aw, rfl, haw⟩⟩ := hW.get hi
      have hi4 : i < 4 := (List.getElem?_eq_some_iff.mp hd).1
      refine ⟨by show 2 ≤ sizeLine; decide, fun lp hlp => ?_⟩
      have nlp : l ≠ lp := ne_of_none hL hlp
      have tpN := Tups.new (o := .lst [.int 0, .int 1]) hlp
      refine ⟨lp, rfl, ⟨_, SqL.of upd_same⟩, for_list (K := K) (a := lp) (xs := [.int 0, .int 1]) (fun j σ H' => ∃ ms n4 n5 n6 n7, σ = [some (.ref a), some (.bl c), some (.ref l), some (.ref aw), n4, n5, n6, n7] ∧ Same H H' ∧ H' lw = some (.lst ts) ∧ Tups H1 H' ∧ H' lp = some (.lst [.int 0, .int 1]) ∧
        H' l = some (.lst ms) ∧ All2 (MvAt H') ms (hm (mvL c s (Dd.all.take i) ++ mvD c s ([false, true].take j) d)))
        ⟨ms, n4, n5, n6, n7, rfl, Same.new sm hlp, (by rw [upd_ne (ne_of_none hLw2 hlp)]; exact hLw2), tp2.trans tpN, upd_same, (by rw [upd_ne nlp]; exact hL), by simpa [mvD] using mvs_mono tpN hA⟩ (fun i σ H' _ ⟨_, _, _, _, _, _, _, _, _, q, _⟩ => SqL.of q) ?_ ?_⟩
      · rintro j y2 σ H3 hj ⟨ms3, m4, m5, m6, m7, rfl, sm3, hLw3, tp3, hlp3, hL3, hA3⟩
        obtain ⟨p, rfl, hp⟩ := pn_at hj
        have hj2 : j < 2 := (List.getElem?_eq_some_iff.mp hp).1
        have ha3 := sm3 _ _ ha
        have haw3 := tp3 _ _ haw
        refine ⟨_, rfl, _, rfl, _, _, rfl, rfl, a, _, _, _, rfl, rfl, SqT.of ha3, ix_st1 s p, ?_⟩
        refine ⟨_, rfl, _, rfl, a, _, _, _, rfl, rfl, SqT.of ha3, ix_st s p, _, rfl, aw, _, _, _, rfl, rfl, SqT.of haw3, ix_wd1 d, rfl, ?_⟩
        have e1 : ∀ o : Wd, decide (V.str o.t = V.str "between") = decide (o = .b) := fun o => eq_wd o .b
        have e2 : ∀ o : Wd, decide (V.str o.t = V.str "waiting") = decide (o = .w) := fun o => eq_wd o .w
        dsimp only [gName]
        show tIfS _ _ _ _ _ _
        refine tand (a := decide (d = .pass)) (b := (!decide (get s (!p) = .b)) && !(c && decide (get s (!p) = .w))) (fun Q q => ?_) (fun _ Q q => ?_) ?_
        · refine ⟨_, rfl, aw, _, _, _, rfl, rfl, SqT.of haw3, ix_wd0 d, rfl, _, rfl, ?_⟩
          rw [eq_dd]
          exact q
        · refine tand (a := !decide (get s (!p) = .b)) (b := !(c && decide (get s (!p) = .w))) (fun Q q => ?_) (fun _ Q q => ?_) q
          · refine ⟨_, rfl, rfl, _, rfl, ?_⟩
            rw [e1]
            exact q
          · refine tand (a := c) (b := decide (get s (!p) = .w)) (fun Q q => ⟨_, rfl, _, rfl, q⟩) (fun _ Q q => ⟨_, rfl, rfl, _, rfl, ?_⟩) q
            rw [e2]
            exact q
        · rw [eq_wd]
          have hnext : mvL c s (Dd.all.take i) ++ mvD c s ([false, true].take (j + 1)) d = (mvL c s (Dd.all.take i) ++ mvD c s ([false, true].take j) d) ++ one c s d p := by
            rw [mvD_snoc hp, List.append_assoc]
          refine ite2 (fun hc => ?_) (fun hc => ?_)
          · have hno : can c s d p = false := by
              unfold can may
              simp only [Bool.and_eq_true, decide_eq_true_eq, Bool.not_eq_true', decide_eq_false_iff_not] at hc
              obtain ⟨h1, h2, h3⟩ := hc
              simp [h1, h2, h3]
            refine ⟨_, rfl, _, rfl, iteF ?_⟩
            exact ⟨ms3, _, _, _, m7, rfl, sm3, hLw3, tp3, hlp3, hL3, by rw [hnext, show one c s d p = [] by unfold one; rw [hno]; rfl, List.append_nil]; exact hA3⟩
          · have hcan : can c s d p = decide (get s p = d.o) := by
              unfold can may
              by_cases h1 : d = .pass
              · simp only [h1, decide_true, Bool.true_and, Bool.and_eq_true, Bool.not_eq_true', decide_eq_false_iff_not, not_and] at hc
                by_cases h2 : get s (!p) = .b
                · simp [h2]
                · have h3 : (c && decide (get s (!p) = .w)) = true := by
                    have := hc h2
                    simpa using this
                  rw [h3]
                  simp
              · simp [h1]
            refine ⟨_, rfl, _, rfl, ?_⟩
            rw [← hcan]
            refine ite2 (fun hy => ?_) (fun hy => ?_)
            · have e1 : one c s d p = [(mt d p, put s p d.g)] := by unfold one; rw [if_pos hy]
              obtain ⟨k, hk1, hk2⟩ := set_st s p d.g
              have z1 : d.t.length + (" " : Str).length ≤ sizeLine ∧ (d.t ++ " ").length + ((toString (pn p) : String) : Str).length ≤ sizeLine := by
                cases d <;> cases p <;> decide +kernel
              have z2 : (pn p).natAbs.log2 < 1920 := by cases p <;> decide +kernel
              refine ⟨_, rfl, a, _, _, _, rfl, rfl, SqT.of ha3, (show atI (stV s) 0 = some (.str s.1.t) from rfl), _, rfl, a, _, _, _, rfl, rfl, SqT.of ha3, (show atI (stV s) 1 = some (.str s.2.t) from rfl), by show 2 ≤ sizeLine; decide, fun b hb => ?_⟩
              refine ⟨_, rfl, aw, _, _, _, rfl, rfl, SqT.of (Tups.new hb _ _ haw3), ix_wd2 d, _, rfl, _, rfl, b, _, _, k, rfl, rfl, upd_same, hk1, ?_⟩
              have nlb : l ≠ b := ne_of_none hL3 hb
              have hbs : (upd (upd H3 b (.lst [.str s.1.t, .str s.2.t])) b (.lst (([.str s.1.t, .str s.2.t] : List V).set k (.str d.g.t)))) b = some (.lst (stV (put s p d.g))) := by
                rw [upd_same]
                exact congrArg (fun x => some (HO.lst x)) hk2
              have tB : Tups H3 (upd (upd H3 b (.lst [.str s.1.t, .str s.2.t])) b (.lst (([.str s.1.t, .str s.2.t] : List V).set k (.str d.g.t)))) := (Tups.new hb).trans (Tups.lst upd_same)
              have sB : Same H3 (upd (upd H3 b (.lst [.str s.1.t, .str s.2.t])) b (.lst (([.str s.1.t, .str s.2.t] : List V).set k (.str d.g.t)))) := Same.late (Same.new (Same.refl _) hb) hb
              generalize upd (upd H3 b (.lst [.str s.1.t, .str s.2.t])) b (.lst (([.str s.1.t, .str s.2.t] : List V).set k (.str d.g.t))) = H4 at hbs tB sB ⊢
              have hL4 := sB _ _ hL3
              refine ⟨_, rfl, .inl ⟨rfl, _, SqL.of hL4⟩, ?_⟩
              refine ⟨_, rfl, aw, _, _, _, rfl, rfl, SqT.of (tB _ _ haw3), ix_wd0 d, _, _, rfl, rfl, z1.1, _, rfl, _, rfl, z2, _, _, rfl, rfl, z1.2, ?_⟩
              rw [text_mv2]
              refine ⟨_, rfl, b, _, _, _, rfl, rfl, SqL.of hbs, (show atI (stV (put s p d.g)) 0 = some (.str (put s p d.g).1.t) from rfl), _, rfl, b, _, _, _, rfl, rfl, SqL.of hbs, (show atI (stV (put s p d.g)) 1 = some (.str (put s p d.g).2.t) from rfl), by show 2 ≤ sizeLine; decide, fun t ht => ?_⟩
              refine ⟨by show 2 ≤ sizeLine; decide, fun m hm' => ?_⟩
              have len2 : ms3.length ≤ 20 := by
                have q0 := hA3.length
                have q1 := mvL_le c s (Dd.all.take i)
                have q2 := mvD_le c s ([false, true].take j) d
                have q3 : (Dd.all.take i).length ≤ 4 := by rw [List.length_take]; exact Nat.min_le_right _ _
                have q4 : ([false, true].take j).length ≤ 2 := by rw [List.length_take]; exact Nat.min_le_right _ _
                rw [hm_len, List.length_append] at q0
                omega
              have nlt : l ≠ t := ne_of_none hL4 ht
              have nlm : l ≠ m := by
                intro z
                rw [← z, upd_ne nlt, hL4] at hm'
                cases hm'
              have nmt : m ≠ t := fun z => by
                rw [z, upd_same] at hm'
                cases hm'
              have g2 : ∀ o1 o2, upd (upd H4 t o1) m o2 l = some (.lst ms3) := fun o1 o2 => by
                rw [upd_ne nlm, upd_ne nlt]
                exact hL4
              have s34 : Same H3 (upd (upd H4 t (.tup (stV (put s p d.g)))) m (.tup [.str (mt d p), .ref t])) := Same.new (Same.new sB ht) hm'
              have t34 : Tups H3 (upd (upd (upd H4 t (.tup (stV (put s p d.g)))) m (.tup [.str (mt d p), .ref t])) l (.lst (ms3 ++ [.ref m]))) := (Tups.same s34).trans (Tups.lst (g2 _ _))
              refine ⟨l, ms3, .ref m, rfl, rfl, g2 _ _, Nat.lt_of_le_of_lt len2 (by decide), ms3 ++ [.ref m], _, _, _, _, rfl, Same.late (sm3.trans s34) hl, ?_, tp3.trans t34, ?_, upd_same, ?_⟩
              · rw [upd_ne nlw]
                exact s34 _ _ hLw3
              · rw [upd_ne nlp.symm]
                exact s34 _ _ hlp3
              · rw [hnext, e1, hm_app]
                refine All2.snoc (mvs_mono t34 hA3) ⟨m, .ref t, rfl, by rw [upd_ne nlm.symm]; exact upd_same, t, rfl, by rw [upd_ne nlt.symm, upd_ne nmt.symm]; exact upd_same⟩
            · exact ⟨ms3, _, _, _, m7, rfl, sm3, hLw3, tp3, hlp3, hL3, by rw [hnext, show one c s d p = [] by unfold one; rw [if_neg hy], List.append_nil]; exact hA3⟩
      · rintro σ H3 ⟨ms3, m4, m5, m6, m7, rfl, sm3, hLw3, tp3, hlp3, hL3, hA3⟩
        exact ⟨ms3, _, m4, m5, m6, m7, rfl, sm3, hLw3, tp3, hL3, by rw [mvL_snoc hd]; exact hA3⟩
    · rintro σ H2 ⟨ms, n3, n4, n5, n6, n7, rfl, sm, hLw2, tp2, hL, hA⟩
      have e : ts.length = 4 := hW.length
      rw [e] at hA
      exact ⟨_, rfl, kq l ms H2 sm hl hL hA⟩
end
end K74

/-! the law's comparisons -/
namespace K74
open PySem L2 Sup
theorem eq_str (a b : Str) : decide (V.str a = V.str b) = decide (a = b) := by
  by_cases h : a = b
  · subst h; simp
  · rw [decide_eq_false h]
    exact decide_eq_false fun z => h (V.str.inj z)
theorem MvAt.dp {K : PySem.W.Frag} {H : Hp} {v : V} {m : Str × Ps} (h : MvAt H v (m.1, some m.2)) : Dp K H v (dMv m) := by
  obtain ⟨a, y, rfl, e, q⟩ := h
  exact .tup (SqT.of e) (.cons (.str _) (.cons (StAt.dp q) .nil))
section
variable {P : Program} {w : World} {K : PySem.W.Frag} {mg : Str → Option Value} {base : Heap}
theorem kit_list : PySem.W.kitOne K (.type "list") (.type "list") = some true := kit_ty (by decide +kernel)
theorem kit_tuple : PySem.W.kitOne K (.type "tuple") (.type "tuple") = some true := kit_ty (by decide +kernel)
/-! ### told and due -/
def spSame : Sp := fun vs H Q _ => ∃ (a b : Addr) (xs ys : List V) (c : Bool) (s : Ps), vs = [.ref a, .ref b] ∧ H a = some (.lst xs) ∧ H b = some (.lst ys) ∧ All2 (MvAt H) xs (hmv c s) ∧ All2 (MvAt H) ys (hmv c s) ∧ Q (.bl true) H
theorem scSame : FnScope ["_law_told", "_law_due", "_law_k"] ["_law_told", "_law_due"] (defScope sSame) := ⟨rfl, rfl, rfl, by decide +kernel, rfl, by decide +kernel, by decide +kernel⟩
theorem ok_same {f : Addr} {fd : FuncData} (F : Fun K "_law_same_moves" "_law_same_moves" sSame f fd) (GT : GlT mg) : FnOk P w K mg base CX0 1 f fd ["_law_told", "_law_due"] spSame := by
  refine F.ok scSame (fun vs H Q E h => ?_) (fun cdv A outer s0 H vs Q E hr h => ?_)
  · obtain ⟨a, b, xs, ys, c, s, rfl, _⟩ := h
    rfl
  · obtain ⟨a, b, xs, ys, c, s, rfl, ha, hb, hA, hB, kq⟩ := h
    refine ⟨_, pss_cons (ps_if (PW.pt (pw_or (pt_not (pt_val (pe_callB call_isi (by rfl) GT.isi (by decide +kernel) (pa_cons (pv 0) (pa_cons (pe_bltn (v := .ty "list") (by rfl) GT.list (by decide +kernel) rfl) pa_nil)))))
        (pw_or1 (pt_cmpR op_ne (pe_callB call_len_seq (by rfl) GT.len PySem.boot_len (pa_cons (pv 0) pa_nil)) (pe_callB call_len_seq (by rfl) GT.len PySem.boot_len (pa_cons (pv 1) pa_nil)) (nomark _)))))
        (pss_one (ps_ret pe_bl)) pss_nil)
      (pss_cons (ps_for PassesOwn.never rfl (pi_range1 rfl GT.range (pa_cons (pe_callB call_len_seq (by rfl) GT.len PySem.boot_len (pa_cons (pv 1) pa_nil)) pa_nil)) (pg_name (i := 2) scSame.nd rfl (Or.inl rfl))
        (pss_one (ps_if (PW.pt (pw_or (pt_not (pt_val (pe_callB call_isi (by rfl) GT.isi (by decide +kernel) (pa_cons (pe_ix ix_list (pv 0) (pv 2) (fun _ _ => rfl)) (pa_cons (pe_bltn (v := .ty "tuple") (by rfl) GT.tuple (by decide +kernel) rfl) pa_nil)))))
          (pw_or (pt_cmpR op_ne (pe_callB call_len_seq (by rfl) GT.len PySem.boot_len (pa_cons (pe_ix ix_list (pv 0) (pv 2) (fun _ _ => rfl)) pa_nil)) pe_int (nomark _))
          (pw_or (pt_not (pt_val (pe_callB call_isi (by rfl) GT.isi (by decide +kernel) (pa_cons (pe_ix ix_tup (pe_ix ix_list (pv 0) (pv 2) (fun _ _ => rfl)) pe_int (fun _ _ => rfl)) (pa_cons (pe_bltn (v := .ty "tuple") (by rfl) GT.tuple (by decide +kernel) rfl) pa_nil)))))
          (pw_or1 (pt_cmpR (op_neD hr.units) (pe_ix ix_list (pv 0) (pv 2) (fun _ _ => rfl)) (pe_ix ix_list (pv 1) (pv 2) (fun _ _ => rfl)) (nomark _)))))))
          (pss_one (ps_ret pe_bl)) pss_nil)))
      (pss_one (ps_ret pe_bl))), ?_⟩
    have lA := hA.length
    have lB := hB.length
    refine tor (a := false) (b := false) (fun Q q => ?_) (fun _ Q q => ?_) ?_
    · exact ⟨_, rfl, _, _, _, _, true, rfl, .ty "list", .base (.lst ha), kit_list, _, rfl, q⟩
    · refine ⟨_, rfl, a, _, rfl, .inl (SqL.of ha), _, rfl, b, _, rfl, .inl (SqL.of hb), rfl, _, rfl, ?_⟩
      rw [lA, lB, decide_eq_true rfl]
      exact q
    refine iteF ?_
    refine ⟨_, rfl, b, _, rfl, .inl (SqL.of hb), _, rfl, by omega, (by
      have := hmv_le c s
      omega), for_range (lo := 0) (n := ys.length) (fun i σ H' => ∃ n2, σ = [some (.ref a), some (.ref b), n2] ∧ H' = H) ⟨none, rfl, rfl⟩ ?_ ?_⟩
    · rintro i σ H1 hi ⟨n2, rfl, rfl⟩
      have ei : (0 : Int) + (i : Int) = (i : Int) := Int.zero_add _
      rw [ei]
      have hi2 : i < (hmv c s).length := by omega
      have hm := List.getElem?_eq_getElem hi2
      obtain ⟨m0, hm0, e0⟩ := hmv_at hm
      rw [e0] at hm
      obtain ⟨u, hu, hU⟩ := hA.at_ hm
      obtain ⟨v, hv, hV⟩ := hB.at_ hm
      have hU0 := hU
      obtain ⟨q1, y1, rfl, hq1, hy1⟩ := hU
      obtain ⟨t1, rfl, ht1⟩ := hy1
      refine tor (a := false) (b := false || (false || false)) (fun Q q => ?_) (fun _ Q q => ?_) ?_
      · exact ⟨_, rfl, _, rfl, a, _, _, _, rfl, rfl, SqL.of ha, atI_nat hu, _, _, _, _, true, rfl, .ty "tuple", .base (.tup hq1), kit_tuple, _, rfl, q⟩
      · refine tor (a := false) (b := false || false) (fun Q q => ?_) (fun _ Q q => ?_) q
        · exact ⟨_, rfl, _, rfl, a, _, _, _, rfl, rfl, SqL.of ha, atI_nat hu, q1, _, rfl, .inr (SqT.of hq1), rfl, _, rfl, q⟩
        · refine tor (a := false) (b := false) (fun Q q => ?_) (fun _ Q q => ?_) q
          · exact ⟨_, rfl, _, rfl, a, _, _, _, rfl, rfl, SqL.of ha, atI_nat hu, q1, _, _, _, rfl, rfl, SqT.of hq1, (show atI ([.str m0.1, .ref t1] : List V) 1 = some (.ref t1) from rfl), _, _, _, _, true, rfl, .ty "tuple", .base (.tup ht1), kit_tuple, _, rfl, q⟩
          · refine ⟨_, rfl, _, rfl, a, _, _, _, rfl, rfl, SqL.of ha, atI_nat hu, _, rfl, _, rfl, b, _, _, _, rfl, rfl, SqL.of hb, atI_nat hv, dMv m0, dMv m0, hU0.dp, hV.dp, shaped_mv (List.mem_of_getElem? hm0), shaped_mv (List.mem_of_getElem? hm0), _, rfl, ?_⟩
            rw [eqv_self_mv]
            exact q
      exact iteF ⟨_, rfl, rfl⟩
    · rintro σ H1 ⟨n2, rfl, rfl⟩
      exact kq

/-! ### the states, breadth first -/
def spLS : Sp := fun vs H Q _ => ∃ c : Bool, vs = [.bl c] ∧ ∀ l ls H', Same H H' → H l = none → H' l = some (.lst ls) → All2 (StAt H') ls (stF c 9) → Q (.ref l) H'
theorem scLS : FnScope ["_law_counts", "_law_found", "_law_k", "_law_one"] ["_law_counts"] (defScope sLStates) := ⟨rfl, rfl, rfl, by decide +kernel, rfl, by decide +kernel, by decide +kernel⟩
theorem ok_lstates {f fM : Addr} {fd fdM : FuncData} (F : Fun K "_law_states" "_law_states" sLStates f fd) (GT : GlT mg) (GM : FnOk P w K mg base CX0 2 fM fdM ["_law_state", "_law_counts"] spLM) (bM : Binds K fdM ["_law_state", "_law_counts"] []) (kM : PySem.W.keepIn K (.ref fM) = true) (mgM : mg "_law_moves" = some (.ref fM)) :
    FnOk P w K mg base CX0 3 f fd ["_law_counts"] spLS := by
  refine F.ok scLS (fun vs H Q E h => ?_) (fun cdv A outer s0 H vs Q E hr h => ?_)
  · obtain ⟨c, rfl, _⟩ := h
    rfl
  · obtain ⟨c, rfl, kq⟩ := h
    refine ⟨_, pss_cons (ps_set (i := 1) scLS.nd rfl (Or.inl rfl) (pe_lst (pa_cons (pe_tup (pa_cons pe_str (pa_cons pe_str pa_nil))) pa_nil))) (pss_cons (ps_for PassesOwn.never rfl (pi_range1 rfl GT.range (pa_cons pe_int pa_nil)) (pg_name (i := 2) scLS.nd rfl (Or.inl rfl))
      (pss_one (ps_if (pt_cmpR op_lt (pv 2) (pe_callB call_len_seq (by rfl) GT.len PySem.boot_len (pa_cons (pv 1) pa_nil)) (nomark _))
        (pss_one (ps_for PassesOwn.never rfl (pi_list (pe_call GM hr rfl mgM kM bM .nil pass0 (pa_cons (pe_ix ix_list (pv 1) (pv 2) (fun _ _ => rfl)) (pa_cons (pv 0) pa_nil)))) (pg_name (i := 3) scLS.nd rfl (Or.inl rfl))
          (pss_one (ps_if (pt_cmpR (op_notInD (u65 hr)) (pe_ix ix_tup (pv 3) pe_int (fun _ _ => rfl)) (pv 1) rfl)
            (pss_one (ps_expr (pe_bm PySem.F.plainAttrs_list PySem.F.slot_list_append PySem.F.type_list_append mt_append (pv 1) (pa_cons (pe_ix ix_tup (pv 3) pe_int (fun _ _ => rfl)) pa_nil)))) pss_nil)))) pss_nil)))
      (pss_one (ps_ret (pv 1)))), ?_⟩
    refine ⟨by show 2 ≤ sizeLine; decide, fun t ht => ⟨by show 1 ≤ sizeLine; decide, fun l hl => ?_⟩⟩
    have hl0 : H l = none := (Same.new (Same.refl H) ht).free hl
    have nlt : l ≠ t := fun z => by rw [z, upd_same] at hl; cases hl
    refine ⟨9, rfl, by decide, by decide, for_range (lo := 0) (n := 9) (fun i σ H' => ∃ ls n2 n3, σ = [some (.bl c), some (.ref l), n2, n3] ∧ Same H H' ∧ H' l = some (.lst ls) ∧ All2 (StAt H') ls (stF c i))
      ⟨[.ref t], none, none, rfl, Same.new (Same.new (Same.refl H) ht) hl, upd_same, .cons ⟨t, rfl, by rw [upd_ne nlt.symm]; exact upd_same⟩ .nil⟩ ?_ ?_⟩
    · rintro k σ H1 hk9 ⟨ls, n2, n3, rfl, sm, hL, hA⟩
      have ek : (0 : Int) + (k : Int) = (k : Int) := Int.zero_add _
      rw [ek]
      obtain ⟨s, hs⟩ := st_at c hk9
      obtain ⟨v, hv, hvs⟩ := hA.at_ hs
      refine ⟨_, rfl, _, rfl, l, _, rfl, .inl (SqL.of hL), _, _, rfl, rfl, _, rfl, ?_⟩
      rw [hA.length, decide_eq_true (show ((k : Int) < ((stF c k).length : Nat)) by have := st_go c ⟨k, hk9⟩; exact Int.ofNat_lt.mpr this)]
      refine iteT ⟨_, rfl, _, rfl, l, _, _, _, rfl, rfl, SqL.of hL, atI_nat hv, _, rfl, ?_⟩
      refine ⟨v, s, c, rfl, hvs, fun l1 ms H2 sm2 hn2 hL1 hA1 => ?_⟩
      have nl : l1 ≠ l := fun z => by rw [z, hL] at hn2; cases hn2
      refine ⟨l1, rfl, ⟨_, SqL.of hL1⟩, for_list (K := K) (a := l1) (xs := ms) (fun i σ H' => ∃ ls n3, σ = [some (.bl c), some (.ref l), some (.int (k : Int)), n3] ∧ Same H H' ∧ Tups H2 H' ∧ H' l1 = some (.lst ms) ∧ H' l = some (.lst ls) ∧
        All2 (StAt H') ls (ext (stF c k) ((aft c s).take i))) ⟨ls, n3, rfl, sm.trans sm2, Tups.refl _, hL1, sm2 _ _ hL, sts_mono (Tups.same sm2) hA⟩ (fun i σ H' _ ⟨_, _, _, _, _, q, _⟩ => SqL.of q) ?_ ?_⟩
      · rintro i y σ H3 hi ⟨ls3, m3, rfl, sm3, tp, hL3, hl3, hA3⟩
        obtain ⟨m, hm, ⟨q, yv, rfl, hq, hy⟩⟩ := hA1.get hi
        obtain ⟨m0, hm0, rfl⟩ := hmv_at hm
        have hy3 : StAt H3 yv m0.2 := StAt.mono tp hy
        have nxt : ext (stF c k) ((aft c s).take (i + 1)) = if m0.2 ∈ ext (stF c k) ((aft c s).take i) then ext (stF c k) ((aft c s).take i) else ext (stF c k) ((aft c s).take i) ++ [m0.2] := by
          rw [List.take_add_one, aft_at hm0]
          exact ext_snoc _ _ _
        have hq3 := tp _ _ hq
        refine ⟨_, rfl, q, _, _, _, rfl, rfl, SqT.of hq3, (show atI ([.str m0.1, yv] : List V) 1 = some yv from rfl), _, rfl, dSt m0.2, _, hy3.dp, sts_dp hl3 hA3, shaped_st _, shaped_sts _, _, rfl, ?_⟩
        rw [any_st]
        have len3 : ls3.length ≤ 100 := by
          have q1 := ext_len ((aft c s).take i) (stF c k)
          have q2 : (stF c k).length ≤ 9 := st_sz c ⟨k, by omega⟩
          have q3 := mv_le c s
          have q4 : ((aft c s).take i).length ≤ 8 := by
            rw [List.length_take, aft_len]
            omega
          rw [hA3.length]
          omega
        refine ite2 (fun hc => ?_) (fun hc => ?_)
        · have hc2 : ¬ m0.2 ∈ ext (stF c k) ((aft c s).take i) := of_decide_eq_false (by simpa using hc)
          refine ⟨_, rfl, .inl ⟨rfl, _, SqL.of hl3⟩, _, rfl, q, _, _, _, rfl, rfl, SqT.of hq3, (show atI ([.str m0.1, yv] : List V) 1 = some yv from rfl), l, ls3, yv, rfl, rfl, hl3, Nat.lt_of_le_of_lt len3 (by decide), _, _, rfl, Same.late sm3 hl0, tp.trans (Tups.lst hl3), ?_, upd_same, ?_⟩
          · rw [upd_ne nl]
            exact hL3
          · rw [nxt, if_neg hc2]
            exact All2.snoc (sts_mono (Tups.lst hl3) hA3) (hy3.mono (Tups.lst hl3))
        · have hc2 : m0.2 ∈ ext (stF c k) ((aft c s).take i) := by simpa using hc
          exact ⟨ls3, _, rfl, sm3, tp, hL3, hl3, by rw [nxt, if_pos hc2]; exact hA3⟩
      · rintro σ H3 ⟨ls3, m3, rfl, sm3, tp, hL3, hl3, hA3⟩
        refine ⟨ls3, _, m3, rfl, sm3, hl3, ?_⟩
        rw [stF_succ hs]
        have e : ms.length = (aft c s).length := by
          rw [hA1.length, aft_len]
          exact hm_len _
        rw [e, List.take_length] at hA3
        exact hA3
    · rintro σ H1 ⟨ls, n2, n3, rfl, sm, hL, hA⟩
      exact ⟨_, rfl, kq l ls H1 sm hl0 hL hA⟩

/-! ### a waiting one goes on -/
def spGo (C : Addr) : Sp := fun vs H Q _ => ∃ (x : Addr) (v : V) (s : Ps) (p : Bool), vs = [.ref x, v, .int (pn p)] ∧ HsAt H x C true ∧ StAt H v s ∧ get s p = .w ∧ ∀ H', Same H H' → Q (.bl true) H'
theorem scGo : FnScope ["_law_table_here", "_law_state", "_law_p", "_law_behind", "_law_one", "_law_later"] ["_law_table_here", "_law_state", "_law_p"] (defScope sGoes) := ⟨rfl, rfl, rfl, by decide +kernel, rfl, by decide +kernel, by decide +kernel⟩
theorem pass_text (p : Bool) : ("pass " : Str) ++ (toString (pn p) : String) = mt .pass p := by cases p <;> decide +kernel
theorem finish_text (p : Bool) : ("finish " : Str) ++ (toString (1 - pn p) : String) = mt .finish (!p) := by cases p <;> decide +kernel
theorem any_snoc {α : Type} {l : List α} {i : Nat} {a : α} {f : α → Bool} (h : l[i]? = some a) (h1 : (l.take i).any f = false) (h2 : f a = false) : (l.take (i + 1)).any f = false := by
  rw [List.take_add_one, h, List.any_append, h1]
  show (false || List.any [a] f) = false
  simp [h2]
theorem ok_goes {f fM C : Addr} {fd fdM : FuncData} (F : Fun K "_law_goes_on" "_law_goes_on" sGoes f fd) (T : ClsT K C) (GT : GlT mg) (GM : FnOk P w K mg base CX0 2 fM fdM ["self", "state"] (spMv C hmv)) (bM : Binds K fdM ["self", "state"] []) (mM : Meth K C "moves" fM) :
    FnOk P w K mg base CX0 3 f fd ["_law_table_here", "_law_state", "_law_p"] (spGo C) := by
  refine F.ok scGo (fun vs H Q E h => ?_) (fun cdv A outer s0 H vs Q E hr h => ?_)
  · obtain ⟨x, v, s, p, rfl, _⟩ := h
    rfl
  · obtain ⟨x, v, s, p, rfl, hx, hs, hw, kq⟩ := h
    refine ⟨_, pss_cons (ps_set (i := 3) scGo.nd rfl (Or.inl rfl) (pe_meth (pv 0) T.cl mM GM hr bM .nil pass0 (pa_cons (pv 1) pa_nil)))
      (pss_cons (ps_for PassesOwn.never rfl (pi_list (pv 3)) (pg_name (i := 4) scGo.nd rfl (Or.inl rfl))
        (pss_one (ps_if (pt_cmpR op_eq (pe_ix ix_tup (pv 4) pe_int (fun _ _ => rfl)) (pe_op op_add_str pe_str (pe_callTy call_str_int rfl GT.str (by decide +kernel) (pa_cons (pv 2) pa_nil))) (nomark _)) (pss_one (ps_ret pe_bl)) pss_nil)))
      (pss_cons (ps_for PassesOwn.never rfl (pi_list (pv 3)) (pg_name (i := 4) scGo.nd rfl (Or.inl rfl))
        (pss_one (ps_if (pt_cmpR op_eq (pe_ix ix_tup (pv 4) pe_int (fun _ _ => rfl)) (pe_op op_add_str pe_str (pe_callTy call_str_int rfl GT.str (by decide +kernel) (pa_cons (pe_op op_sub pe_int (pv 2)) pa_nil))) (nomark _))
          (pss_one (ps_for PassesOwn.never rfl (pi_list (pe_meth (pv 0) T.cl mM GM hr bM .nil pass0 (pa_cons (pe_ix ix_tup (pv 4) pe_int (fun _ _ => rfl)) pa_nil))) (pg_name (i := 5) scGo.nd rfl (Or.inl rfl))
            (pss_one (ps_if (pt_cmpR op_eq (pe_ix ix_tup (pv 5) pe_int (fun _ _ => rfl)) (pe_op op_add_str pe_str (pe_callTy call_str_int rfl GT.str (by decide +kernel) (pa_cons (pv 2) pa_nil))) (nomark _)) (pss_one (ps_ret pe_bl)) pss_nil)))) pss_nil)))
      (pss_one (ps_ret pe_bl)))), ?_⟩
    have hx0 := hx
    obtain ⟨dx, pp, r, h1, h2⟩ := hx
    have noM := fs2_no pp r true (m := "moves") (by decide +kernel) (by decide +kernel) (by decide +kernel)
    refine ⟨_, rfl, x, dx, _, rfl, h1, noM, _, rfl, x, true, v, s, rfl, hx0, hs, fun l ms H1 sm hn hL hA => ?_⟩
    have l1 : (pn p).natAbs.log2 < 1920 := by cases p <;> decide +kernel
    have l2 : (1 - pn p).natAbs.log2 < 1920 := by cases p <;> decide +kernel
    have z1 : ("pass " : Str).length + ((toString (pn p) : String) : Str).length ≤ sizeLine := by cases p <;> decide +kernel
    have z2 : ("finish " : Str).length + ((toString (1 - pn p) : String) : Str).length ≤ sizeLine := by cases p <;> decide +kernel
    have em : ms.length = (mv true s).length := by
      rw [hA.length]
      exact hm_len _
    refine ⟨_, rfl, l, rfl, ⟨_, SqL.of hL⟩, for_list (K := K) (a := l) (xs := ms) (fun i σ H' => ∃ n4 n5, σ = [some (.ref x), some v, some (.int (pn p)), some (.ref l), n4, n5] ∧ H' = H1 ∧ passes p ((mv true s).take i) = false) ⟨none, none, rfl, rfl, rfl⟩ (fun i σ H' _ ⟨_, _, _, e, _⟩ => by rw [e]; exact SqL.of hL) ?_ ?_⟩
    · rintro i y σ H2 hi ⟨n4, n5, rfl, rfl, hp⟩
      obtain ⟨m, hm, ⟨q, yv, rfl, hq, hy⟩⟩ := hA.get hi
      obtain ⟨m0, hm0, rfl⟩ := hmv_at hm
      refine ⟨_, rfl, q, _, _, _, rfl, rfl, SqT.of hq, (show atI ([.str m0.1, yv] : List V) 0 = some (.str m0.1) from rfl), _, rfl, _, rfl, l1, _, _, rfl, rfl, z1, rfl, _, rfl, ?_⟩
      rw [pass_text, eq_str]
      refine ite2 (fun hc => ?_) (fun hc => ?_)
      · exact kq _ sm
      · exact ⟨_, _, rfl, rfl, any_snoc hm0 hp (decide_eq_false fun z => hc (decide_eq_true z))⟩
    · rintro σ H2 ⟨n4, n5, rfl, rfl, hp⟩
      rw [em, List.take_length] at hp
      refine ⟨_, rfl, l, rfl, ⟨_, SqL.of hL⟩, for_list (K := K) (a := l) (xs := ms) (fun i σ H' => ∃ n4 n5, σ = [some (.ref x), some v, some (.int (pn p)), some (.ref l), n4, n5] ∧ Same H2 H' ∧
        ((mv true s).take i).any (fun m => decide (m.1 = mt .finish (!p)) && passes p (mv true m.2)) = false) ⟨n4, n5, rfl, Same.refl _, rfl⟩ (fun i σ H' _ ⟨_, _, _, e, _⟩ => SqL.of (e _ _ hL)) ?_ ?_⟩
      · rintro i y σ H3 hi ⟨m4, m5, rfl, sm3, hf⟩
        obtain ⟨m, hm, ⟨q, yv, rfl, hq, hy⟩⟩ := hA.get hi
        obtain ⟨m0, hm0, rfl⟩ := hmv_at hm
        have hq3 := sm3 _ _ hq
        refine ⟨_, rfl, q, _, _, _, rfl, rfl, SqT.of hq3, (show atI ([.str m0.1, yv] : List V) 0 = some (.str m0.1) from rfl), _, rfl, _, _, rfl, rfl, _, rfl, l2, _, _, rfl, rfl, z2, rfl, _, rfl, ?_⟩
        rw [finish_text, eq_str]
        refine ite2 (fun hc => ?_) (fun hc => ?_)
        · have hc2 : m0.1 = mt .finish (!p) := of_decide_eq_true hc
          have sm13 := sm.trans sm3
          refine ⟨_, rfl, x, dx, _, rfl, sm13 _ _ h1, noM, _, rfl, q, _, _, _, rfl, rfl, SqT.of hq3, (show atI ([.str m0.1, yv] : List V) 1 = some yv from rfl), x, true, yv, m0.2, rfl, hx0.mono sm13, StAt.mono (Tups.same sm3) hy, fun l4 ms4 H4 sm4 hn4 hL4 hA4 => ?_⟩
          have em4 : ms4.length = (mv true m0.2).length := by
            rw [hA4.length]
            exact hm_len _
          refine ⟨l4, rfl, ⟨_, SqL.of hL4⟩, for_list (K := K) (a := l4) (xs := ms4) (fun j σ H' => ∃ n5, σ = [some (.ref x), some v, some (.int (pn p)), some (.ref l), some (.ref q), n5] ∧ H' = H4 ∧ passes p ((mv true m0.2).take j) = false) ⟨m5, rfl, rfl, rfl⟩ (fun i σ H' _ ⟨_, _, e, _⟩ => by rw [e]; exact SqL.of hL4) ?_ ?_⟩
          · rintro j y5 σ H5 hj ⟨n5, rfl, rfl, hp5⟩
            obtain ⟨k, hk, ⟨q5, yv5, rfl, hq5, hy5⟩⟩ := hA4.get hj
            obtain ⟨k0, hk0, rfl⟩ := hmv_at hk
            refine ⟨_, rfl, q5, _, _, _, rfl, rfl, SqT.of hq5, (show atI ([.str k0.1, yv5] : List V) 0 = some (.str k0.1) from rfl), _, rfl, _, rfl, l1, _, _, rfl, rfl, z1, rfl, _, rfl, ?_⟩
            rw [pass_text, eq_str]
            refine ite2 (fun hc5 => ?_) (fun hc5 => ?_)
            · exact kq _ (sm13.trans sm4)
            · exact ⟨_, rfl, rfl, any_snoc hk0 hp5 (decide_eq_false fun z => hc5 (decide_eq_true z))⟩
          · rintro σ H5 ⟨n5, rfl, rfl, hp5⟩
            rw [em4, List.take_length] at hp5
            exact ⟨_, _, rfl, sm3.trans sm4, any_snoc hm0 hf (by rw [hp5, Bool.and_false])⟩
        · exact ⟨_, _, rfl, sm3, any_snoc hm0 hf (by rw [decide_eq_false fun z => hc (decide_eq_true z), Bool.false_and])⟩
      · rintro σ H3 ⟨m4, m5, rfl, sm3, hf⟩
        rw [em, List.take_length] at hf
        have g := goes s p hw
        unfold goesOn at g
        rw [hp, hf] at g
        cases g
end
end K74

/-! the walk, a table, the law -/
namespace K74
open PySem L2 Sup
/-! ### tests that make objects -/
section
variable {A B C : TT} {σ : L2.St} {H : Hp} {Q : Bool → Hp → Prop} {a b c : Bool}
/-- the test answers a, and keeps what was there -/
def Says (A : TT) (σ : L2.St) (H : Hp) (a : Bool) : Prop := ∀ Q : Bool → Hp → Prop, (∀ H', Same H H' → Q a H') → A σ H Q
theorem Says.and (hA : Says A σ H a) (hB : a = true → ∀ H1, Same H H1 → Says B σ H1 b) : Says (tAnd A B) σ H (a && b) := fun Q q => hA _ fun H1 s1 => by
  cases a with
  | true => exact iteT (hB rfl H1 s1 _ fun H' s' => q H' (s1.trans s'))
  | false => exact iteF (q H1 s1)
theorem Says.or (hA : Says A σ H a) (hB : a = false → ∀ H1, Same H H1 → Says B σ H1 b) : Says (tOr A B) σ H (a || b) := fun Q q => hA _ fun H1 s1 => by
  cases a with
  | true => exact iteT (q H1 s1)
  | false => exact iteF (hB rfl H1 s1 _ fun H' s' => q H' (s1.trans s'))
theorem Says.ifs {t u : TS} {D : Ends} (h : Says A σ H a) (k : ∀ H', Same H H' → if a = true then t D σ H' else u D σ H') : tIfS A t u D σ H := h _ k
end
section
variable {P : Program} {w : World} {K : PySem.W.Frag} {mg : Str → Option Value} {base : Heap}
/-! ### the drawn walk -/
def spWalk (K : PySem.W.Frag) (C : Addr) : Sp := fun vs H Q _ => ∃ (x a r : Addr) (ls : List V) (rs : List Int) (c : Bool), vs = [.ref x, .ref a, .ref r] ∧ HsAt H x C c ∧ H a = some (.lst ls) ∧ All2 (StAt H) ls (stF c 9) ∧ SqL K H r (rs.map V.int) ∧
  ∀ H', Same H H' → Q (.bl true) H'
theorem scWalk : FnScope ["_law_table_here", "_law_states_here", "_law_row_here", "_law_state", "_law_k", "_law_possible"] ["_law_table_here", "_law_states_here", "_law_row_here"] (defScope sWalk) := ⟨rfl, rfl, rfl, by decide +kernel, rfl, by decide +kernel, by decide +kernel⟩
theorem mod_at {xs : List V} (z : Int) (h : 0 < xs.length) : ∃ (i : Nat) (v : V), xs[i]? = some v ∧ atI xs (z % (xs.length : Int)) = some v := by
  have h1 : (0 : Int) ≤ z % (xs.length : Int) := Int.emod_nonneg _ (by omega)
  have h2 : z % (xs.length : Int) < (xs.length : Int) := Int.emod_lt_of_pos _ (by omega)
  have hi : (z % (xs.length : Int)).toNat < xs.length := by omega
  exact ⟨_, _, List.getElem?_eq_getElem hi, at_of (j := (z % (xs.length : Int)).toNat) (by omega) (List.getElem?_eq_getElem hi)⟩
theorem stuck_ww {c : Bool} {s : Ps} (h : (mv c s).length = 0) : s = (.w, .w) := by
  have e := stuck c s
  rw [decide_eq_true h] at e
  have e2 := (Bool.and_eq_true_iff.mp e.symm).1
  exact of_decide_eq_true e2
theorem ok_walk {f fM fS fD C : Addr} {fd fdM fdS fdD : FuncData} (F : Fun K "_law_walk" "_law_walk" sWalk f fd) (T : ClsT K C) (GT : GlT mg) (GM : FnOk P w K mg base CX0 2 fM fdM ["self", "state"] (spMv C hmv)) (bM : Binds K fdM ["self", "state"] []) (mM : Meth K C "moves" fM)
    (GS : FnOk P w K mg base CX0 1 fS fdS ["self"] (spStart C)) (bS : Binds K fdS ["self"] []) (mS : Meth K C "start" fS)
    (GD : FnOk P w K mg base CX0 1 fD fdD ["_law_row_here", "_law_at"] (spDigit K)) (bD : Binds K fdD ["_law_row_here", "_law_at"] []) (kD : PySem.W.keepIn K (.ref fD) = true) (mgD : mg "_law_digit" = some (.ref fD)) :
    FnOk P w K mg base CX0 3 f fd ["_law_table_here", "_law_states_here", "_law_row_here"] (spWalk K C) := by
  refine F.ok scWalk (fun vs H Q E h => ?_) (fun cdv A outer s0 H vs Q E hr h => ?_)
  · obtain ⟨x, a, r, ls, rs, c, rfl, _⟩ := h
    rfl
  · obtain ⟨x, a, r, ls, rs, c, rfl, hx, ha, hA, hR, kq⟩ := h
    have hr1 : Room 1 _ := hr.mono (by decide)
    refine ⟨_, pss_cons (ps_set (i := 3) scWalk.nd rfl (Or.inl rfl) (pe_meth0 (pv 0) T.cl mS GS hr1 bS .nil pass0)) (pss_cons (ps_for PassesOwn.never rfl (pi_range1 rfl GT.range (pa_cons pe_int pa_nil)) (pg_name (i := 4) scWalk.nd rfl (Or.inl rfl))
      (pss_cons (ps_set (i := 5) scWalk.nd rfl (Or.inl rfl) (pe_meth (pv 0) T.cl mM GM hr bM .nil pass0 (pa_cons (pv 3) pa_nil)))
      (pss_cons (ps_if (pt_cmpR op_eq (pe_callB call_len_seq (by rfl) GT.len PySem.boot_len (pa_cons (pv 5) pa_nil)) pe_int (nomark _))
        (pss_one (ps_ret (pe_cmpR (op_eqD hr.units) (pv 3) (pe_tup (pa_cons pe_str (pa_cons pe_str pa_nil))) (nomark _)))) pss_nil)
      (pss_cons (ps_set (i := 3) scWalk.nd rfl (Or.inl rfl) (pe_ix ix_tup (pe_ix ix_list (pv 5) (pe_op op_mod (pe_callTy call_int1 rfl GT.int (by decide +kernel) (pa_cons (pe_call GD hr1 rfl mgD kD bD .nil pass0 (pa_cons (pv 2) (pa_cons (pv 4) pa_nil))) pa_nil))
        (pe_callB call_len_seq (by rfl) GT.len PySem.boot_len (pa_cons (pv 5) pa_nil))) (fun _ _ => rfl)) pe_int (fun _ _ => rfl)))
      (pss_one (ps_if (pt_cmpR (op_notInD (u65 hr)) (pv 3) (pv 1) rfl) (pss_one (ps_ret pe_bl)) pss_nil))))))
      (pss_one (ps_ret pe_bl))), ?_⟩
    have hx0 := hx
    obtain ⟨dx, pp, pr, h1, h2⟩ := hx
    have noF : ∀ m : Str, ¬ m = "first" → ¬ m = "rows" → ¬ m = "waiting_counts" → (fs2 pp pr c).lookup m = none := fun m => fs2_no pp pr c
    refine ⟨_, rfl, x, dx, _, rfl, h1, noF _ (by decide +kernel) (by decide +kernel) (by decide +kernel), x, c, rfl, hx0, fun v0 hv0 => ?_⟩
    refine ⟨60, rfl, by decide, by decide, for_range (lo := 0) (n := 60) (fun i σ H' => ∃ v s n4 n5, σ = [some (.ref x), some (.ref a), some (.ref r), some v, n4, n5] ∧ Same H H' ∧ StAt H' v s) ⟨v0, _, none, none, rfl, Same.refl H, hv0⟩ ?_ ?_⟩
    · rintro k σ H1 hk ⟨v, s, n4, n5, rfl, sm, hs⟩
      have ek : (0 : Int) + (k : Int) = (k : Int) := Int.zero_add _
      rw [ek]
      refine ⟨_, rfl, x, dx, _, rfl, sm _ _ h1, noF _ (by decide +kernel) (by decide +kernel) (by decide +kernel), _, rfl, x, c, v, s, rfl, hx0.mono sm, hs, fun l ms H2 sm2 hn hL hM => ?_⟩
      have sm12 := sm.trans sm2
      have hs2 := hs.mono (Tups.same sm2)
      have em : ms.length = (mv c s).length := by
        rw [hM.length]
        exact hm_len _
      refine ⟨_, rfl, l, _, rfl, .inl (SqL.of hL), rfl, _, rfl, ?_⟩
      rw [len_int]
      refine ite2 (fun hc => ?_) (fun hc => ?_)
      · have h0 : (mv c s).length = 0 := by rw [← em]; exact of_decide_eq_true hc
        have hww := stuck_ww h0
        refine ⟨_, rfl, by show 2 ≤ sizeLine; decide, fun t ht => ?_⟩
        refine ⟨dSt s, dSt (.w, .w), (hs2.mono (Tups.new ht)).dp, StAt.dp ⟨t, rfl, upd_same⟩, shaped_st _, shaped_st _, ?_⟩
        rw [eqv_st, decide_eq_true hww]
        exact kq _ (Same.new sm12 ht)
      · have hpos : 0 < ms.length := by
          rcases Nat.eq_zero_or_pos ms.length with z | z
          · exact absurd (decide_eq_true z) hc
          · exact z
        refine ⟨_, rfl, _, rfl, _, rfl, r, rs, k, rfl, sm12.seq hR, fun z => .inl ⟨z, rfl, _, rfl, l, _, rfl, .inl (SqL.of hL), _, _, rfl, rfl, (by omega), ?_⟩⟩
        obtain ⟨i, u, hu, hat⟩ := mod_at (xs := ms) z hpos
        obtain ⟨m, hm, ⟨q, yv, rfl, hq, hy⟩⟩ := hM.get hu
        obtain ⟨m0, hm0, rfl⟩ := hmv_at hm
        refine ⟨l, _, _, _, rfl, rfl, SqL.of hL, hat, q, _, _, _, rfl, rfl, SqT.of hq, (show atI ([.str m0.1, yv] : List V) 1 = some yv from rfl), ?_⟩
        have hy2 : StAt H2 yv m0.2 := hy
        refine ⟨_, rfl, _, rfl, dSt m0.2, _, hy2.dp, sts_dp (sm12 _ _ ha) (sts_mono (Tups.same sm12) hA), shaped_st _, shaped_sts _, _, rfl, ?_⟩
        rw [any_st, decide_eq_true (st_mem c m0.2)]
        exact iteF ⟨yv, m0.2, _, _, rfl, sm12, hy2⟩
    · rintro σ H1 ⟨v, s, n4, n5, rfl, sm, hs⟩
      exact kq _ sm

/-! ### a table -/
structure IsiT (K : PySem.W.Frag) (CH CT : Addr) : Prop where
  ha : PySem.W.findIn K (.ref CH) "__class__" = some (some (.builtin "object.__class__"))
  hn : PySem.W.specialIn K (.builtin "object.__class__") "__get__" = some (some (.builtin "getset_descriptor.__get__"))
  ht : PySem.W.takesIn K (.builtin "object.__class__") = some true
  hm : PySem.W.mroIn K CH (.type "object") = some true
  ki : PySem.W.kitOne K (.ref CH) (.ref CT) = some true
/-- a def of the module, called by its name -/
structure Named (K : PySem.W.Frag) (mg : Str → Option Value) (x : Str) (f : Addr) : Prop where
  mg : mg x = some (.ref f)
  kp : PySem.W.keepIn K (.ref f) = true
def spTable (K : PySem.W.Frag) : Sp := fun vs H Q _ => ∃ (c : Bool) (r : Addr) (rs : List Int), vs = [.bl c, .ref r] ∧ SqL K H r (rs.map V.int) ∧ ∀ H', Same H H' → Q (.bl true) H'
theorem scTable : FnScope ["_law_counts", "_law_row_here", "_law_table_here", "_law_state", "_law_states_here", "_law_stuck", "_law_p"] ["_law_counts", "_law_row_here"] (defScope sTable) := ⟨rfl, rfl, rfl, by decide +kernel, rfl, by decide +kernel, by decide +kernel⟩
theorem ok_table {f fI fM fS fC fSt fN fSm fLM fLS fW fG CH CT fT : Addr} {fd fdI fdM fdS fdC fdSt fdN fdSm fdLM fdLS fdW fdG : FuncData} (F : Fun K "_law_table" "_law_table" sTable f fd) (T : ClsT K CH) (GT : GlT mg) (IT : IsiT K CH CT) (mgH : mg "Handshake" = some (.ref CH)) (mgT : mg "Table" = some (.ref CT)) (M : Mk K CH fI)
    (GI : FnOk P w K mg base CX0 2 fI fdI ["self", "waiting_counts"] (spHI K CH fT)) (bI : Binds K fdI ["self", "waiting_counts"] []) (SM : SupM K CH CH "__init__" fT)
    (GM : FnOk P w K mg base CX0 2 fM fdM ["self", "state"] (spMv CH hmv)) (bM : Binds K fdM ["self", "state"] []) (mM : Meth K CH "moves" fM)
    (GS : FnOk P w K mg base CX0 1 fS fdS ["self"] (spStart CH)) (bS : Binds K fdS ["self"] []) (mS : Meth K CH "start" fS)
    (GC : FnOk P w K mg base CX0 3 fC fdC ["self"] (spScen CH fun _ => none)) (bC : Binds K fdC ["self"] []) (mC : Meth K CH "scenario" fC)
    (GSt : FnOk P w K mg base CX0 3 fSt fdSt ["self"] (spStates CH)) (bSt : Binds K fdSt ["self"] []) (mSt : Meth K CH "states" fSt)
    (GN : FnOk P w K mg base CX0 1 fN fdN [] spNine) (bN : Binds K fdN [] []) (nN : Named K mg "_law_nine" fN)
    (GSm : FnOk P w K mg base CX0 1 fSm fdSm ["_law_told", "_law_due"] spSame) (bSm : Binds K fdSm ["_law_told", "_law_due"] []) (nSm : Named K mg "_law_same_moves" fSm)
    (GLM : FnOk P w K mg base CX0 2 fLM fdLM ["_law_state", "_law_counts"] spLM) (bLM : Binds K fdLM ["_law_state", "_law_counts"] []) (nLM : Named K mg "_law_moves" fLM)
    (GLS : FnOk P w K mg base CX0 3 fLS fdLS ["_law_counts"] spLS) (bLS : Binds K fdLS ["_law_counts"] []) (nLS : Named K mg "_law_states" fLS)
    (GW : FnOk P w K mg base CX0 3 fW fdW ["_law_table_here", "_law_states_here", "_law_row_here"] (spWalk K CH)) (bW : Binds K fdW ["_law_table_here", "_law_states_here", "_law_row_here"] []) (nW : Named K mg "_law_walk" fW)
    (GG : FnOk P w K mg base CX0 3 fG fdG ["_law_table_here", "_law_state", "_law_p"] (spGo CH)) (bG : Binds K fdG ["_law_table_here", "_law_state", "_law_p"] []) (nG : Named K mg "_law_goes_on" fG) :
    FnOk P w K mg base CX0 4 f fd ["_law_counts", "_law_row_here"] (spTable K) := by
  refine F.ok scTable (fun vs H Q E h => ?_) (fun cdv A outer s0 H vs Q E hr h => ?_)
  · obtain ⟨c, r, rs, rfl, _⟩ := h
    rfl
  · obtain ⟨c, r, rs, rfl, hR, kq⟩ := h
    have hr1 : Room 1 _ := hr.mono (by decide)
    have hr2 : Room 2 _ := hr.mono (by decide)
    refine ⟨_, pss_cons (ps_set (i := 2) scTable.nd rfl (Or.inl rfl) (pe_make M GI hr rfl mgH bI .nil pass0 (pa_cons (pv 0) pa_nil)))
      (pss_cons (ps_if (PW.pt (pw_or (pt_not (pt_val (pe_callB call_isi (by rfl) GT.isi (by decide +kernel) (pa_cons (pv 2) (pa_cons (pe_glob (v := .ref CT) rfl mgT rfl) pa_nil)))))
          (pw_or (pt_cmpR (op_neD hr.units) (pe_meth0 (pv 2) T.cl mS GS hr1 bS .nil pass0) (pe_tup (pa_cons pe_str (pa_cons pe_str pa_nil))) (nomark _))
          (pw_or1 (pt_cmp (pc_notN (pe_meth0 (pv 2) T.cl mC GC hr bC .nil pass0)))))))
        (pss_one (ps_ret pe_bl)) pss_nil)
      (pss_cons (ps_for PassesOwn.never rfl (pi_list (pe_call0 GN hr1 rfl nN.mg nN.kp bN .nil pass0)) (pg_name (i := 3) scTable.nd rfl (Or.inl rfl))
        (pss_one (ps_if (pt_not (pt_val (pe_call GSm hr1 rfl nSm.mg nSm.kp bSm .nil pass0 (pa_cons (pe_meth (pv 2) T.cl mM GM hr2 bM .nil pass0 (pa_cons (pv 3) pa_nil)) (pa_cons (pe_call GLM hr2 rfl nLM.mg nLM.kp bLM .nil pass0 (pa_cons (pv 3) (pa_cons (pv 0) pa_nil))) pa_nil)))))
          (pss_one (ps_ret pe_bl)) pss_nil)))
      (pss_cons (ps_set (i := 4) scTable.nd rfl (Or.inl rfl) (pe_meth0 (pv 2) T.cl mSt GSt hr bSt .nil pass0))
      (pss_cons (ps_if (PW.pt (pw_or (pt_not (pt_val (pe_callB call_isi (by rfl) GT.isi (by decide +kernel) (pa_cons (pv 4) (pa_cons (pe_bltn (v := .ty "list") (by rfl) GT.list (by decide +kernel) rfl) pa_nil)))))
          (pw_or (pt_cmpR (op_neD hr.units) (pv 4) (pe_call GLS hr rfl nLS.mg nLS.kp bLS .nil pass0 (pa_cons (pv 0) pa_nil)) (nomark _))
          (pw_or1 (pt_not (pt_val (pe_call GW hr rfl nW.mg nW.kp bW .nil pass0 (pa_cons (pv 2) (pa_cons (pv 4) (pa_cons (pv 1) pa_nil))))))))))
        (pss_one (ps_ret pe_bl)) pss_nil)
      (pss_cons (ps_for PassesOwn.never rfl (pi_list (pv 4)) (pg_name (i := 3) scTable.nd rfl (Or.inl rfl))
        (pss_cons (ps_set (i := 5) scTable.nd rfl (Or.inl rfl) (pe_cmpR op_eq (pe_callB call_len_seq (by rfl) GT.len PySem.boot_len (pa_cons (pe_meth (pv 2) T.cl mM GM hr2 bM .nil pass0 (pa_cons (pv 3) pa_nil)) pa_nil)) pe_int (nomark _)))
        (pss_cons (ps_if (pt_cmpR op_ne (pv 5) (pe_and (pe_cmpR (op_eqD hr.units) (pv 3) (pe_tup (pa_cons pe_str (pa_cons pe_str pa_nil))) (nomark _)) (pe_one (pe_not (pv 0)))) (nomark _)) (pss_one (ps_ret pe_bl)) pss_nil)
        (pss_one (ps_for PassesOwn.never rfl (pi_list (pe_lst (pa_cons pe_int (pa_cons pe_int pa_nil)))) (pg_name (i := 6) scTable.nd rfl (Or.inl rfl))
          (pss_one (ps_if (PW.pt (pw_and (pt_val (pv 0)) (pw_and (pt_cmpR op_eq (pe_ix ix_tup (pv 3) (pv 6) (fun _ _ => rfl)) pe_str (nomark _))
            (pw_and1 (pt_not (pt_val (pe_call GG hr rfl nG.mg nG.kp bG .nil pass0 (pa_cons (pv 2) (pa_cons (pv 3) (pa_cons (pv 6) pa_nil)))))))))) (pss_one (ps_ret pe_bl)) pss_nil)))))))
      (pss_one (ps_ret pe_bl))))))), ?_⟩
    refine ⟨_, rfl, fun x dx nx nd ne => ?_⟩
    refine ⟨x, CH, dx, c, rfl, upd_same, T, SM, fun H1 hH k1 => ⟨rfl, ?_⟩⟩
    have s1 : Same H H1 := Same.inst nx nd k1
    have hx0 := hH
    obtain ⟨dx1, pp, pr, h1, h2⟩ := hH
    have noF : ∀ m : Str, ¬ m = "first" → ¬ m = "rows" → ¬ m = "waiting_counts" → (fs2 pp pr c).lookup m = none := fun m => fs2_no pp pr c
    have noM := noF "moves" (by decide +kernel) (by decide +kernel) (by decide +kernel)
    dsimp only [gName]
    show tIfS _ _ _ _ _ _
    refine (Says.or (a := false) (b := false || false) (fun Q q => ?_) fun _ H2 s2 => Says.or (a := false) (b := false) (fun Q q => ?_) fun _ H3 s3 => fun Q q => ?_) _ fun H4 s4 => ?_
    · exact ⟨_, rfl, _, _, _, _, true, rfl, .own CT, .base (.ins h1 T.cl IT.ha IT.hn IT.ht IT.hm), IT.ki, _, rfl, q _ (Same.refl _)⟩
    · refine ⟨_, rfl, x, dx1, _, rfl, s2 _ _ h1, noF _ (by decide +kernel) (by decide +kernel) (by decide +kernel), x, c, rfl, hx0.mono s2, fun v hv => ⟨by show 2 ≤ sizeLine; decide, fun t ht => ?_⟩⟩
      refine ⟨dSt (.b, .b), dSt (.b, .b), (hv.mono (Tups.new ht)).dp, StAt.dp ⟨t, rfl, upd_same⟩, shaped_st _, shaped_st _, _, rfl, ?_⟩
      rw [eqv_st]
      exact q _ (Same.new (Same.refl _) ht)
    · have s23 := s2.trans s3
      exact ⟨_, rfl, x, dx1, _, rfl, s23 _ _ h1, noF _ (by decide +kernel) (by decide +kernel) (by decide +kernel), x, c, rfl, hx0.mono s23, fun _ H' s' => ⟨_, rfl, q H' s'⟩, fun ws e => nomatch e⟩
    refine iteF ?_
    refine ⟨rfl, fun l9 ls9 H5 s5 hn5 hL5 hA5 => ?_⟩
    have s15 := s4.trans s5
    refine ⟨l9, rfl, ⟨_, SqL.of hL5⟩, for_list (K := K) (a := l9) (xs := ls9) (fun i σ H' => ∃ n3 n4 n5 n6, σ = [some (.bl c), some (.ref r), some (.ref x), n3, n4, n5, n6] ∧ Same H5 H') ⟨none, none, none, none, rfl, Same.refl _⟩ (fun i σ H' _ ⟨_, _, _, _, _, e⟩ => SqL.of (e _ _ hL5)) ?_ ?_⟩
    · rintro i y σ H6 hi ⟨n3, n4, n5, n6, rfl, s6⟩
      obtain ⟨s, hs, hS⟩ := hA5.get hi
      have s16 := s15.trans s6
      refine ⟨_, rfl, x, dx1, _, rfl, s16 _ _ h1, noM, _, rfl, x, c, y, s, rfl, hx0.mono s16, hS.mono (Tups.same s6), fun l2 ms2 H7 s7 hn7 hL7 hA7 => ?_⟩
      refine ⟨_, rfl, _, rfl, y, s, c, rfl, hS.mono (Tups.same (s6.trans s7)), fun l3 ms3 H8 s8 hn8 hL8 hA8 => ?_⟩
      refine ⟨l2, l3, ms2, ms3, c, s, rfl, s8 _ _ hL7, hL8, mvs_mono (Tups.same s8) hA7, hA8, true, rfl, iteF ?_⟩
      exact ⟨_, _, _, _, rfl, s6.trans (s7.trans s8)⟩
    rintro σ H6 ⟨n3, n4, n5, n6, rfl, s6⟩
    have s16 := s15.trans s6
    refine ⟨_, rfl, x, dx1, _, rfl, s16 _ _ h1, noF _ (by decide +kernel) (by decide +kernel) (by decide +kernel), x, c, rfl, hx0.mono s16, fun l4 ls4 H7 s7 hn7 hL7 hA7 => ?_⟩
    have s17 := s16.trans s7
    dsimp only [gName]
    show tIfS _ _ _ _ _ _
    refine (Says.or (a := false) (b := false || false) (fun Q q => ?_) fun _ H8 s8 => Says.or (a := false) (b := false) (fun Q q => ?_) fun _ H9 s9 => fun Q q => ?_) _ fun HA sA => ?_
    · exact ⟨_, rfl, _, _, _, _, true, rfl, .ty "list", .base (.lst hL7), kit_list, _, rfl, q _ (Same.refl _)⟩
    · refine ⟨_, rfl, _, rfl, c, rfl, fun l5 ls5 H9 s9 hn9 hL9 hA9 => ?_⟩
      have s79 := s8.trans s9
      refine ⟨.list ((stF c 9).map dSt), .list ((stF c 9).map dSt), sts_dp (s79 _ _ hL7) (sts_mono (Tups.same s79) hA7), sts_dp hL9 hA9, shaped_sts _, shaped_sts _, _, rfl, ?_⟩
      have e : PyData.eqv (.list ((stF c 9).map dSt)) (.list ((stF c 9).map dSt)) = true := by
        simp only [PyData.eqv]
        exact eqv_sts _
      rw [e]
      exact q _ s9
    · have s79 := s8.trans s9
      have s19 := s17.trans s79
      exact ⟨_, rfl, _, rfl, _, rfl, x, l4, r, ls4, rs, c, rfl, hx0.mono s19, s79 _ _ hL7, sts_mono (Tups.same s79) hA7, (s1.trans s19).seq hR, fun H' s' => ⟨true, rfl, q H' s'⟩⟩
    refine iteF ?_
    have s1A := s17.trans sA
    have hLA := sA _ _ hL7
    have hAA := sts_mono (Tups.same sA) hA7
    refine ⟨_, rfl, l4, rfl, ⟨_, SqL.of hLA⟩, for_list (K := K) (a := l4) (xs := ls4) (fun i σ H' => ∃ n3 n5 n6, σ = [some (.bl c), some (.ref r), some (.ref x), n3, some (.ref l4), n5, n6] ∧ Same HA H') ⟨_, n5, n6, rfl, Same.refl _⟩ (fun i σ H' _ ⟨_, _, _, _, e⟩ => SqL.of (e _ _ hLA)) ?_ ?_⟩
    · rintro i y σ HB hi ⟨m3, m5, m6, rfl, sB⟩
      obtain ⟨s, hs, hS⟩ := hAA.get hi
      have s1B := s1A.trans sB
      refine ⟨_, rfl, x, dx1, _, rfl, s1B _ _ h1, noM, _, rfl, x, c, y, s, rfl, hx0.mono s1B, hS.mono (Tups.same sB), fun l2 ms2 HC sC hnC hLC hAC => ?_⟩
      have s1C := s1B.trans sC
      have sBC := sB.trans sC
      refine ⟨l2, _, rfl, .inl (SqL.of hLC), rfl, ?_⟩
      have em : ms2.length = (mv c s).length := by
        rw [hAC.length]
        exact hm_len _
      rw [len_int, em, stuck]
      dsimp only [gName]
      show tIfS _ _ _ _ _ _
      refine Says.ifs (a := false) (fun Q q => ?_) fun HD sD => ?_
      · refine ⟨_, rfl, _, rfl, by show 2 ≤ sizeLine; decide, fun t ht => ?_⟩
        have sCt : Same HC (upd HC t (.tup [.str "waiting", .str "waiting"])) := Same.new (Same.refl _) ht
        refine ⟨dSt s, dSt (.w, .w), ((hS.mono (Tups.same sBC)).mono (Tups.same sCt)).dp, StAt.dp ⟨t, rfl, upd_same⟩, shaped_st _, shaped_st _, ?_⟩
        rw [eqv_st]
        refine ⟨_, rfl, ?_⟩
        by_cases hw : s = (.w, .w)
        · rw [decide_eq_true hw]
          refine iteT ⟨_, rfl, c, rfl, rfl, _, rfl, ?_⟩
          have e : (!decide (V.bl (true && !c) = V.bl (!c))) = false := by simp
          rw [e]
          exact q _ sCt
        · rw [decide_eq_false hw]
          refine iteF ⟨rfl, _, rfl, ?_⟩
          have e : (!decide (V.bl (false && !c) = V.bl false)) = false := by simp
          rw [e]
          exact q _ sCt
      · refine iteF ?_
        have sBD := sBC.trans sD
        have hSD := hS.mono (Tups.same sBD)
        have s1D := s1A.trans sBD
        obtain ⟨ay, rfl, hay⟩ := id hSD
        refine ⟨by show 2 ≤ sizeLine; decide, fun lp hlp => ?_⟩
        have sDp : Same HD (upd HD lp (.lst [.int 0, .int 1])) := Same.new (Same.refl _) hlp
        refine ⟨lp, rfl, ⟨_, SqL.of upd_same⟩, for_list (K := K) (a := lp) (xs := [.int 0, .int 1]) (fun j σ H' => ∃ n6, σ = [some (.bl c), some (.ref r), some (.ref x), some (.ref ay), some (.ref l4), some (.bl (decide (s = (.w, .w)) && !c)), n6] ∧ Same (upd HD lp (.lst [.int 0, .int 1])) H')
          ⟨m6, rfl, Same.refl _⟩ (fun i σ H' _ ⟨_, _, e⟩ => SqL.of (e _ _ upd_same)) ?_ ?_⟩
        · rintro j y2 σ HE hj ⟨n6, rfl, sE⟩
          obtain ⟨p, rfl, hp⟩ := pn_at hj
          have sDE := sDp.trans sE
          have hayE := sDE _ _ hay
          dsimp only [gName]
          show tIfS _ _ _ _ _ _
          have e2 : ∀ o : Wd, decide (V.str o.t = V.str "waiting") = decide (o = .w) := fun o => eq_wd o .w
          refine (Says.and (a := c) (b := decide (get s p = .w) && false) (fun Q q => ?_) fun hc HF sF => Says.and (a := decide (get s p = .w)) (b := false) (fun Q q => ?_) fun hw HG sG => fun Q q => ?_) _ fun HI sI => ?_
          · exact ⟨_, rfl, _, rfl, q _ (Same.refl _)⟩
          · refine ⟨_, rfl, _, rfl, ay, _, _, _, rfl, rfl, SqT.of (sF _ _ hayE), ix_st s p, rfl, _, rfl, ?_⟩
            rw [e2]
            exact q _ (Same.refl _)
          · have sEG := sDE.trans (sF.trans sG)
            have s1G := s1D.trans sEG
            subst hc
            exact ⟨_, rfl, _, rfl, _, rfl, x, .ref ay, s, p, rfl, hx0.mono s1G, ⟨ay, rfl, sEG _ _ hay⟩, of_decide_eq_true hw, fun H' s' => ⟨true, rfl, q H' s'⟩⟩
          · rw [Bool.and_false, Bool.and_false]
            exact iteF ⟨_, rfl, sE.trans sI⟩
        · rintro σ HE ⟨n6, rfl, sE⟩
          exact ⟨_, _, _, rfl, sBD.trans (sDp.trans sE)⟩
    · rintro σ HB ⟨m3, m5, m6, rfl, sB⟩
      exact kq _ (s1.trans (s1A.trans sB))
end
end K74

/-! the law -/
namespace K74
open PySem L2 Sup
theorem strs_dpA {K : PySem.W.Frag} {H : Hp} : ∀ ws : List Str, DpAll K H (ws.map V.str) (ws.map PyData.str)
  | [] => .nil
  | w :: ws => .cons (.str w) (strs_dpA ws)
theorem strs_dp {K : PySem.W.Frag} {H : Hp} {a : Addr} {ws : List Str} (e : H a = some (.lst (ws.map V.str))) : Dp K H (.ref a) (.list (ws.map PyData.str)) := .lst (SqL.of e) (strs_dpA ws)
def dFour : PyData := .list (four.map PyData.str)
theorem shaped_four : SeqAt.shaped dFour = true := by decide +kernel
theorem eqv_four : PyData.eqv dFour dFour = true := by decide +kernel
def resS (c : Bool) : Option (List Str) := if c then none else some four
theorem good_s : ∀ c : Bool, goodB (smv c) (resS c) = true
  | true => good_st
  | false => good_sf
theorem cut_ints (rs : List Int) (lo hi : Option Int) : ∃ qs : List Int, cutV (rs.map V.int) lo hi = qs.map V.int := by
  unfold cutV
  rw [← List.map_drop, ← List.map_take]
  exact ⟨_, rfl⟩
section
variable {P : Program} {w : World} {K : PySem.W.Frag} {mg : Str → Option Value} {base : Heap}
def spLaw (K : PySem.W.Frag) : Sp := fun vs H Q _ => ∃ (a : Addr) (ns : List Int), vs = [.ref a] ∧ SqL K H a (ns.map V.int) ∧ ∀ H', Q (.bl true) H'
theorem scLaw : FnScope ["_law_script", "_law_row_here", "_law_told"] ["_law_script"] (defScope sLaw) := ⟨rfl, rfl, rfl, by decide +kernel, rfl, by decide +kernel, by decide +kernel⟩
theorem ok_law {f fR fT fS : Addr} {fd fdR fdT fdS : FuncData} (F : Fun K "law" "law" sLaw f fd) (GT : GlT mg)
    (GR : FnOk P w K mg base CX0 1 fR fdR ["_law_script", "_law_most"] (spRow K)) (bR : Binds K fdR ["_law_script", "_law_most"] []) (nR : Named K mg "_law_row" fR)
    (GTb : FnOk P w K mg base CX0 4 fT fdT ["_law_counts", "_law_row_here"] (spTable K)) (bT : Binds K fdT ["_law_counts", "_law_row_here"] []) (nT : Named K mg "_law_table" fT)
    (GS : FnOk P w K mg base CX0 5 fS fdS ["waiting_counts"] (spStuck resS)) (bS : Binds K fdS ["waiting_counts"] []) (nS : Named K mg "stuck_scenario" fS) : FnOk P w K mg base CX0 6 f fd ["_law_script"] (spLaw K) := by
  refine F.ok scLaw (fun vs H Q E h => ?_) (fun cdv A outer s0 H vs Q E hr h => ?_)
  · obtain ⟨a, ns, rfl, _⟩ := h
    rfl
  · obtain ⟨a, ns, rfl, hA, kq⟩ := h
    have hr1 : Room 1 _ := hr.mono (by decide)
    have hr4 : Room 4 _ := hr.mono (by decide)
    refine ⟨_, pss_cons (ps_set (i := 1) scLaw.nd rfl (Or.inl rfl) (pe_call GR hr1 rfl nR.mg nR.kp bR .nil pass0 (pa_cons (pv 0) (pa_cons pe_int pa_nil))))
      (pss_cons (ps_if (PW.pt (pw_or (pt_not (pt_val (pe_call GTb hr4 rfl nT.mg nT.kp bT .nil pass0 (pa_cons pe_bl (pa_cons (pv 1) pa_nil)))))
          (pw_or (pt_not (pt_val (pe_call GTb hr4 rfl nT.mg nT.kp bT .nil pass0 (pa_cons pe_bl (pa_cons (pv 1) pa_nil)))))
          (pw_or1 (pt_not (pt_val (pe_call GTb hr4 rfl nT.mg nT.kp bT .nil pass0 (pa_cons pe_bl (pa_cons (pe_slice sl_list (pv 1) (po_some pe_int) po_none) pa_nil)))))))))
        (pss_one (ps_ret pe_bl)) pss_nil)
      (pss_cons (ps_if (pt_cmp (pc_notN (pe_call GS hr rfl nS.mg nS.kp bS .nil pass0 (pa_cons pe_bl pa_nil)))) (pss_one (ps_ret pe_bl)) pss_nil)
      (pss_cons (ps_set (i := 2) scLaw.nd rfl (Or.inl rfl) (pe_call GS hr rfl nS.mg nS.kp bS .nil pass0 (pa_cons pe_bl pa_nil)))
      (pss_cons (ps_if (PW.pt (pw_or (pt_not (pt_val (pe_callB call_isi (by rfl) GT.isi (by decide +kernel) (pa_cons (pv 2) (pa_cons (pe_bltn (v := .ty "list") (by rfl) GT.list (by decide +kernel) rfl) pa_nil)))))
          (pw_or1 (pt_cmpR (op_neD hr.units) (pv 2) (pe_lst (pa_cons pe_str (pa_cons pe_str (pa_cons pe_str (pa_cons pe_str pa_nil))))) (nomark _)))))
        (pss_one (ps_ret pe_bl)) pss_nil)
      (pss_cons (ps_expr (pe_bm PySem.F.plainAttrs_list PySem.F.slot_list_append PySem.F.type_list_append mt_append (pv 2) (pa_cons pe_str pa_nil)))
      (pss_one (ps_ret (pe_cmpR (op_eqD hr.units) (pe_call GS hr rfl nS.mg nS.kp bS .nil pass0 (pa_cons pe_bl pa_nil)) (pe_lst (pa_cons pe_str (pa_cons pe_str (pa_cons pe_str (pa_cons pe_str pa_nil))))) (nomark _))))))))), ?_⟩
    refine ⟨_, rfl, a, ns, rfl, hA, fun l rs H1 s1 hn1 hL1 _ => ?_⟩
    dsimp only [gName]
    refine Says.ifs (a := false) (Says.or (a := false) (b := false || false) (fun Q q => ?_) fun _ H2 s2 => Says.or (a := false) (b := false) (fun Q q => ?_) fun _ H3 s3 => fun Q q => ?_) fun H4 s4 => ?_
    · exact ⟨_, rfl, true, l, rs, rfl, SqL.of hL1, fun H' s' => ⟨true, rfl, q H' s'⟩⟩
    · exact ⟨_, rfl, false, l, rs, rfl, SqL.of (s2 _ _ hL1), fun H' s' => ⟨true, rfl, q H' s'⟩⟩
    · refine ⟨_, rfl, _, rfl, l, _, rfl, SqL.of (s3 _ _ (s2 _ _ hL1)), fun p hp => ?_⟩
      obtain ⟨qs, eq⟩ := cut_ints rs (some 1) none
      have sp := Same.new (o := .lst (cutV (rs.map V.int) (some 1) none)) (Same.refl H3) hp
      exact ⟨true, p, qs, rfl, SqL.of (by rw [upd_same, eq]), fun H' s' => ⟨true, rfl, q H' (sp.trans s')⟩⟩
    refine iteF ?_
    dsimp only [tNext]
    show tIfS _ _ _ _ _ _
    refine Says.ifs (a := false) (fun Q q => ?_) fun H5 s5 => ?_
    · exact ⟨true, rfl, fun _ H' s' => ⟨_, rfl, q H' s'⟩, (fun ws e => by simp [resS] at e)⟩
    refine iteF ?_
    refine ⟨false, rfl, (fun e => by simp [resS] at e), fun ws e l2 H6 s6 hn6 hL6 => ?_⟩
    have e4 : ws = four := (Option.some.inj e).symm
    subst e4
    dsimp only [gName]
    refine Says.ifs (a := false) (Says.or (a := false) (b := false) (fun Q q => ?_) fun _ H7 s7 => fun Q q => ?_) fun H8 s8 => ?_
    · exact ⟨_, rfl, _, _, _, _, true, rfl, .ty "list", .base (.lst hL6), kit_list, _, rfl, q _ (Same.refl _)⟩
    · refine ⟨_, rfl, by show 4 ≤ sizeLine; decide, fun p hp => ?_⟩
      have sp := Same.new (o := .lst (four.map V.str)) (Same.refl H7) hp
      refine ⟨dFour, dFour, strs_dp (sp _ _ (s7 _ _ hL6)), strs_dp (ws := four) upd_same, shaped_four, shaped_four, _, rfl, ?_⟩
      rw [eqv_four]
      exact q _ sp
    refine iteF ?_
    have hL8 := s8 _ _ hL6
    refine ⟨_, rfl, .inl ⟨rfl, _, SqL.of hL8⟩, l2, _, _, rfl, rfl, hL8, by show 4 < sizeLine; decide, ?_⟩
    refine ⟨false, rfl, (fun e => by simp [resS] at e), fun ws e l3 H9 s9 hn9 hL9 => ?_⟩
    have e5 : ws = four := (Option.some.inj e).symm
    subst e5
    refine ⟨by show 4 ≤ sizeLine; decide, fun p hp => ?_⟩
    have sp := Same.new (o := .lst (four.map V.str)) (Same.refl H9) hp
    refine ⟨dFour, dFour, strs_dp (sp _ _ hL9), strs_dp (ws := four) upd_same, shaped_four, shaped_four, ?_⟩
    rw [eqv_four]
    exact kq _
end
end K74

/-! the end -/
namespace K74
open PySem L2 Sup
theorem all_mk {l : PySem.W.OpenLaw} {w : World} {K : PySem.W.Frag} {h : Heap} {mg : Str → Option Value} {fa CT CH CS fHI fStart fMay fMov fScen fStates fSM fTI ccH kH ccS kS dT eT dA t0 t1 t2 t3 gStuck gRow gDigit gWords gLM gSame gLS gNine gGo gWalk gTable gLaw : Addr} (X : K.In h) (G : h.Ns mainGlobals mg) (hfa : mg "law" = some (.ref fa)) (PT : PrT l.prog)
    {fHI_oc fHI_kV fHI_dc fHI_pm fHI_ct fStart_oc fStart_kV fStart_dc fStart_pm fStart_ct fStart_cd fMay_oc fMay_kV fMay_dc fMay_pm fMay_ct fMay_cd fScen_oc fScen_kV fScen_dc fScen_pm fScen_ct fScen_cd fMov_oc fMov_kV fMov_dc fMov_pm fMov_ct fMov_cd fStates_oc fStates_kV fStates_dc fStates_pm fStates_ct fStates_cd fSM_oc fSM_kV fSM_dc fSM_pm fSM_ct fTI_oc fTI_kV fTI_dc fTI_pm fTI_ct fTI_cd dT_oc ccH_oc ccS_oc kH_oc kS_oc gStuck_oc gStuck_kV gStuck_dc gStuck_pm gStuck_ct gStuck_cd gRow_oc gRow_kV gRow_dc gRow_pm gRow_ct gRow_cd gDigit_oc gDigit_kV gDigit_dc gDigit_pm gDigit_ct gDigit_cd gWords_oc gWords_kV gWords_dc gWords_pm gWords_ct gWords_cd gLM_oc gLM_kV gLM_dc gLM_pm gLM_ct gLM_cd gSame_oc gSame_kV gSame_dc gSame_pm gSame_ct gSame_cd gLS_oc gLS_kV gLS_dc gLS_pm gLS_ct gLS_cd gNine_oc gNine_kV gNine_dc gNine_pm gNine_ct gNine_cd gGo_oc gGo_kV gGo_dc gGo_pm gGo_ct gGo_cd gWalk_oc gWalk_kV gWalk_dc gWalk_pm gWalk_ct gWalk_cd gTable_oc gTable_kV gTable_dc gTable_pm gTable_ct gTable_cd gLaw_oc gLaw_kV gLaw_dc gLaw_pm gLaw_ct gLaw_cd : Value} {fHI_od fHI_an fStart_od fStart_an fMay_od fMay_an fScen_od fScen_an fMov_od fMov_an fStates_od fStates_an fSM_od fSM_an fTI_od fTI_an dT_od eT_od ccH_od ccS_od kH_od kS_od dA_od t0_od t1_od t2_od t3_od gStuck_od gStuck_an gRow_od gRow_an gDigit_od gDigit_an gWords_od gWords_an gLM_od gLM_an gSame_od gSame_an gLS_od gLS_an gNine_od gNine_an gGo_od gGo_an gWalk_od gWalk_an gTable_od gTable_an gLaw_od gLaw_an : Option Addr} {fHI_sl fStart_sl fMay_sl fScen_sl fMov_sl fStates_sl fSM_sl fTI_sl dT_sl eT_sl ccH_sl ccS_sl kH_sl kS_sl dA_sl t0_sl t1_sl t2_sl t3_sl gStuck_sl gRow_sl gDigit_sl gWords_sl gLM_sl gSame_sl gLS_sl gNine_sl gGo_sl gWalk_sl gTable_sl gLaw_sl : Array (Option Value)} {dT_n eT_n dA_n t0_n t1_n t2_n t3_n : Nat} {dT_t kH_t kS_t t0_x t0_y t0_z t1_x t1_y t1_z t2_x t2_y t2_z t3_x t3_y t3_z tP tB : Tok} {kH_vs kS_vs : Array Value} {cdH cdS : ClassData}
    (a_CT : PySem.W.nsIn K mainGlobals "Table" = some (some (.ref CT)))
    (a_CH : PySem.W.nsIn K mainGlobals "Handshake" = some (some (.ref CH)))
    (a_CS : PySem.W.nsIn K mainGlobals "StuckSearch" = some (some (.ref CS)))
    (pg_CH : PySem.W.plainGet K CH Str.empty = true)
    (hd_CH : PySem.W.hasDictIn K CH = true)
    (po_CH : PySem.W.plainOver K CH = true)
    (sa_CH : PySem.W.findIn K (.ref CH) "__setattr__" = some (some (.builtin "object.__setattr__")))
    (mk_CH : PySem.W.makesIn K CH = true)
    (kc_CH : PySem.W.keepIn K (.ref CH) = true)
    (n1_CH : PySem.W.findIn K (.ref CH) "first" = some none)
    (n2_CH : PySem.W.findIn K (.ref CH) "rows" = some none)
    (n3_CH : PySem.W.findIn K (.ref CH) "waiting_counts" = some none)
    (pg_CS : PySem.W.plainGet K CS Str.empty = true)
    (hd_CS : PySem.W.hasDictIn K CS = true)
    (po_CS : PySem.W.plainOver K CS = true)
    (sa_CS : PySem.W.findIn K (.ref CS) "__setattr__" = some (some (.builtin "object.__setattr__")))
    (mk_CS : PySem.W.makesIn K CS = true)
    (kc_CS : PySem.W.keepIn K (.ref CS) = true)
    (n1_CS : PySem.W.findIn K (.ref CS) "first" = some none)
    (n2_CS : PySem.W.findIn K (.ref CS) "rows" = some none)
    (n3_CS : PySem.W.findIn K (.ref CS) "waiting_counts" = some none)
    (in_CH : PySem.W.findIn K (.ref CH) "__init__" = some (some (.ref fHI)))
    (in_CS : PySem.W.findIn K (.ref CS) "__init__" = some (some (.ref fHI)))
    (i_fHI : PySem.W.isFn K (.ref fHI) = true)
    (l_fHI : K.lookup fHI = some ⟨fHI_oc, fHI_od, .func (PySem.W.fnX "__init__" "Handshake.__init__" (defArgs sHI) (defBody sHI) (defScope sHI) [("__class__", ccH)] .none fHI_kV fHI_dc fHI_pm fHI_an (.ref kH) fHI_ct), fHI_sl⟩)
    (c_fHI : PySem.W.codeIn K (.ref kH) "Handshake.__init__" = true)
    (k_fHI : PySem.W.keepIn K (.ref fHI) = true)
    (mH_fStart : PySem.W.findIn K (.ref CH) "start" = some (some (.ref fStart)))
    (mS_fStart : PySem.W.findIn K (.ref CS) "start" = some (some (.ref fStart)))
    (i_fStart : PySem.W.isFn K (.ref fStart) = true)
    (l_fStart : K.lookup fStart = some ⟨fStart_oc, fStart_od, .func (PySem.W.fnOf "start" "Handshake.start" (defArgs sStart) (defBody sStart) (defScope sStart) .none fStart_kV fStart_dc fStart_pm fStart_an fStart_cd fStart_ct), fStart_sl⟩)
    (c_fStart : PySem.W.codeIn K fStart_cd "Handshake.start" = true)
    (k_fStart : PySem.W.keepIn K (.ref fStart) = true)
    (mH_fMay : PySem.W.findIn K (.ref CH) "may_pass" = some (some (.ref fMay)))
    (mS_fMay : PySem.W.findIn K (.ref CS) "may_pass" = some (some (.ref fMay)))
    (i_fMay : PySem.W.isFn K (.ref fMay) = true)
    (l_fMay : K.lookup fMay = some ⟨fMay_oc, fMay_od, .func (PySem.W.fnOf "may_pass" "Handshake.may_pass" (defArgs sMay) (defBody sMay) (defScope sMay) .none fMay_kV fMay_dc fMay_pm fMay_an fMay_cd fMay_ct), fMay_sl⟩)
    (c_fMay : PySem.W.codeIn K fMay_cd "Handshake.may_pass" = true)
    (k_fMay : PySem.W.keepIn K (.ref fMay) = true)
    (mH_fScen : PySem.W.findIn K (.ref CH) "scenario" = some (some (.ref fScen)))
    (mS_fScen : PySem.W.findIn K (.ref CS) "scenario" = some (some (.ref fScen)))
    (i_fScen : PySem.W.isFn K (.ref fScen) = true)
    (l_fScen : K.lookup fScen = some ⟨fScen_oc, fScen_od, .func (PySem.W.fnOf "scenario" "Table.scenario" (defArgs sScen) (defBody sScen) (defScope sScen) .none fScen_kV fScen_dc fScen_pm fScen_an fScen_cd fScen_ct), fScen_sl⟩)
    (c_fScen : PySem.W.codeIn K fScen_cd "Table.scenario" = true)
    (k_fScen : PySem.W.keepIn K (.ref fScen) = true)
    (mH_fMov : PySem.W.findIn K (.ref CH) "moves" = some (some (.ref fMov)))
    (i_fMov : PySem.W.isFn K (.ref fMov) = true)
    (l_fMov : K.lookup fMov = some ⟨fMov_oc, fMov_od, .func (PySem.W.fnOf "moves" "Handshake.moves" (defArgs sMoves) (defBody sMoves) (defScope sMoves) .none fMov_kV fMov_dc fMov_pm fMov_an fMov_cd fMov_ct), fMov_sl⟩)
    (c_fMov : PySem.W.codeIn K fMov_cd "Handshake.moves" = true)
    (k_fMov : PySem.W.keepIn K (.ref fMov) = true)
    (mH_fStates : PySem.W.findIn K (.ref CH) "states" = some (some (.ref fStates)))
    (i_fStates : PySem.W.isFn K (.ref fStates) = true)
    (l_fStates : K.lookup fStates = some ⟨fStates_oc, fStates_od, .func (PySem.W.fnOf "states" "Table.states" (defArgs sStates) (defBody sStates) (defScope sStates) .none fStates_kV fStates_dc fStates_pm fStates_an fStates_cd fStates_ct), fStates_sl⟩)
    (c_fStates : PySem.W.codeIn K fStates_cd "Table.states" = true)
    (k_fStates : PySem.W.keepIn K (.ref fStates) = true)
    (mS_fSM : PySem.W.findIn K (.ref CS) "moves" = some (some (.ref fSM)))
    (i_fSM : PySem.W.isFn K (.ref fSM) = true)
    (l_fSM : K.lookup fSM = some ⟨fSM_oc, fSM_od, .func (PySem.W.fnX "moves" "StuckSearch.moves" (defArgs sSMoves) (defBody sSMoves) (defScope sSMoves) [("__class__", ccS)] .none fSM_kV fSM_dc fSM_pm fSM_an (.ref kS) fSM_ct), fSM_sl⟩)
    (c_fSM : PySem.W.codeIn K (.ref kS) "StuckSearch.moves" = true)
    (k_fSM : PySem.W.keepIn K (.ref fSM) = true)
    (su_HI : PySem.W.ks_superIn K CH CH "__init__" = some (some (.ref fTI)))
    (su_SI : PySem.W.ks_superIn K CS CH "__init__" = some (some (.ref fTI)))
    (su_SM : PySem.W.ks_superIn K CS CS "moves" = some (some (.ref fMov)))
    (mro_CHCH : PySem.W.mroIn K CH (.ref CH) = some true)
    (mro_CSCH : PySem.W.mroIn K CS (.ref CH) = some true)
    (mro_CSCS : PySem.W.mroIn K CS (.ref CS) = some true)
    (fn_fTI : PySem.W.fnIn K fTI = true)
    (ty_fTI : PySem.W.typeIn K (.ref fTI) = some (.type "function"))
    (fn_fMov : PySem.W.fnIn K fMov = true)
    (ty_fMov : PySem.W.typeIn K (.ref fMov) = some (.type "function"))
    (any : PySem.W.nsIn K cStatics "thirdparty.any" = some none)
    (cl_CH : PySem.W.clsIn K CH = some cdH)
    (cl_CS : PySem.W.clsIn K CS = some cdS)
    (l_fTI : K.lookup fTI = some ⟨fTI_oc, fTI_od, .func (PySem.W.fnOf "__init__" "Table.__init__" (defArgs sTI) (defBody sTI) (defScope sTI) (.ref dT) fTI_kV fTI_dc fTI_pm fTI_an fTI_cd fTI_ct), fTI_sl⟩)
    (c_fTI : PySem.W.codeIn K fTI_cd "Table.__init__" = true)
    (k_fTI : PySem.W.keepIn K (.ref fTI) = true)
    (l_dT : K.lookup dT = some ⟨dT_oc, dT_od, .seq #[.str "start" dT_t, .ref eT] dT_n, dT_sl⟩)
    (l_eT : K.lookup eT = some ⟨.type "tuple", eT_od, .seq #[] eT_n, eT_sl⟩)
    (l_ccH : K.lookup ccH = some ⟨ccH_oc, ccH_od, .cell (some (.ref CH)), ccH_sl⟩)
    (l_ccS : K.lookup ccS = some ⟨ccS_oc, ccS_od, .cell (some (.ref CS)), ccS_sl⟩)
    (l_kH : K.lookup kH = some ⟨kH_oc, kH_od, .fields kH_vs, kH_sl⟩)
    (l_kS : K.lookup kS = some ⟨kS_oc, kS_od, .fields kS_vs, kS_sl⟩)
    (v_kH : kH_vs[2]? = some (.str "/claim/cut.py" kH_t))
    (v_kS : kS_vs[2]? = some (.str "/claim/cut.py" kS_t))
    (a_dA : PySem.W.nsIn K mainGlobals "DEEDS" = some (some (.ref dA)))
    (l_dA : K.lookup dA = some ⟨.type "tuple", dA_od, .seq #[.ref t0, .ref t1, .ref t2, .ref t3] dA_n, dA_sl⟩)
    (l_t0 : K.lookup t0 = some ⟨.type "tuple", t0_od, .seq #[.str "begin" t0_x, .str "between" t0_y, .str "amid" t0_z] t0_n, t0_sl⟩)
    (l_t1 : K.lookup t1 = some ⟨.type "tuple", t1_od, .seq #[.str "finish" t1_x, .str "amid" t1_y, .str "between" t1_z] t1_n, t1_sl⟩)
    (l_t2 : K.lookup t2 = some ⟨.type "tuple", t2_od, .seq #[.str "hit" t2_x, .str "amid" t2_y, .str "waiting" t2_z] t2_n, t2_sl⟩)
    (l_t3 : K.lookup t3 = some ⟨.type "tuple", t3_od, .seq #[.str "pass" t3_x, .str "waiting" t3_y, .str "between" t3_z] t3_n, t3_sl⟩)
    (a_P : PySem.W.nsIn K mainGlobals "PROCESSORS" = some (some (.int 2 tP)))
    (a_B : PySem.W.nsIn K mainGlobals "BAD" = some (some (.str "bad" tB)))
    (z_range : PySem.W.nsIn K mainGlobals "range" = some (none))
    (z_list : PySem.W.nsIn K mainGlobals "list" = some (none))
    (z_tuple : PySem.W.nsIn K mainGlobals "tuple" = some (none))
    (z_len : PySem.W.nsIn K mainGlobals "len" = some (none))
    (z_isinstance : PySem.W.nsIn K mainGlobals "isinstance" = some (none))
    (z_str : PySem.W.nsIn K mainGlobals "str" = some (none))
    (z_int : PySem.W.nsIn K mainGlobals "int" = some (none))
    (z_abs : PySem.W.nsIn K mainGlobals "abs" = some (none))
    (z_super : PySem.W.nsIn K mainGlobals "super" = some (none))
    (q_ha : PySem.W.findIn K (.ref CH) "__class__" = some (some (.builtin "object.__class__")))
    (q_hn : PySem.W.specialIn K (.builtin "object.__class__") "__get__" = some (some (.builtin "getset_descriptor.__get__")))
    (q_ht : PySem.W.takesIn K (.builtin "object.__class__") = some true)
    (q_hm : PySem.W.mroIn K CH (.type "object") = some true)
    (q_ki : PySem.W.kitOne K (.ref CH) (.ref CT) = some true)
    (a_gStuck : PySem.W.nsIn K mainGlobals "stuck_scenario" = some (some (.ref gStuck)))
    (l_gStuck : K.lookup gStuck = some ⟨gStuck_oc, gStuck_od, .func (PySem.W.fnOf "stuck_scenario" "stuck_scenario" (defArgs sStuck) (defBody sStuck) (defScope sStuck) .none gStuck_kV gStuck_dc gStuck_pm gStuck_an gStuck_cd gStuck_ct), gStuck_sl⟩)
    (c_gStuck : PySem.W.codeIn K gStuck_cd "stuck_scenario" = true)
    (k_gStuck : PySem.W.keepIn K (.ref gStuck) = true)
    (a_gRow : PySem.W.nsIn K mainGlobals "_law_row" = some (some (.ref gRow)))
    (l_gRow : K.lookup gRow = some ⟨gRow_oc, gRow_od, .func (PySem.W.fnOf "_law_row" "_law_row" (defArgs sRow) (defBody sRow) (defScope sRow) .none gRow_kV gRow_dc gRow_pm gRow_an gRow_cd gRow_ct), gRow_sl⟩)
    (c_gRow : PySem.W.codeIn K gRow_cd "_law_row" = true)
    (k_gRow : PySem.W.keepIn K (.ref gRow) = true)
    (a_gDigit : PySem.W.nsIn K mainGlobals "_law_digit" = some (some (.ref gDigit)))
    (l_gDigit : K.lookup gDigit = some ⟨gDigit_oc, gDigit_od, .func (PySem.W.fnOf "_law_digit" "_law_digit" (defArgs sDigit) (defBody sDigit) (defScope sDigit) .none gDigit_kV gDigit_dc gDigit_pm gDigit_an gDigit_cd gDigit_ct), gDigit_sl⟩)
    (c_gDigit : PySem.W.codeIn K gDigit_cd "_law_digit" = true)
    (k_gDigit : PySem.W.keepIn K (.ref gDigit) = true)
    (a_gWords : PySem.W.nsIn K mainGlobals "_law_words" = some (some (.ref gWords)))
    (l_gWords : K.lookup gWords = some ⟨gWords_oc, gWords_od, .func (PySem.W.fnOf "_law_words" "_law_words" (defArgs sWords) (defBody sWords) (defScope sWords) .none gWords_kV gWords_dc gWords_pm gWords_an gWords_cd gWords_ct), gWords_sl⟩)
    (c_gWords : PySem.W.codeIn K gWords_cd "_law_words" = true)
    (k_gWords : PySem.W.keepIn K (.ref gWords) = true)
    (a_gLM : PySem.W.nsIn K mainGlobals "_law_moves" = some (some (.ref gLM)))
    (l_gLM : K.lookup gLM = some ⟨gLM_oc, gLM_od, .func (PySem.W.fnOf "_law_moves" "_law_moves" (defArgs sLMoves) (defBody sLMoves) (defScope sLMoves) .none gLM_kV gLM_dc gLM_pm gLM_an gLM_cd gLM_ct), gLM_sl⟩)
    (c_gLM : PySem.W.codeIn K gLM_cd "_law_moves" = true)
    (k_gLM : PySem.W.keepIn K (.ref gLM) = true)
    (a_gSame : PySem.W.nsIn K mainGlobals "_law_same_moves" = some (some (.ref gSame)))
    (l_gSame : K.lookup gSame = some ⟨gSame_oc, gSame_od, .func (PySem.W.fnOf "_law_same_moves" "_law_same_moves" (defArgs sSame) (defBody sSame) (defScope sSame) .none gSame_kV gSame_dc gSame_pm gSame_an gSame_cd gSame_ct), gSame_sl⟩)
    (c_gSame : PySem.W.codeIn K gSame_cd "_law_same_moves" = true)
    (k_gSame : PySem.W.keepIn K (.ref gSame) = true)
    (a_gLS : PySem.W.nsIn K mainGlobals "_law_states" = some (some (.ref gLS)))
    (l_gLS : K.lookup gLS = some ⟨gLS_oc, gLS_od, .func (PySem.W.fnOf "_law_states" "_law_states" (defArgs sLStates) (defBody sLStates) (defScope sLStates) .none gLS_kV gLS_dc gLS_pm gLS_an gLS_cd gLS_ct), gLS_sl⟩)
    (c_gLS : PySem.W.codeIn K gLS_cd "_law_states" = true)
    (k_gLS : PySem.W.keepIn K (.ref gLS) = true)
    (a_gNine : PySem.W.nsIn K mainGlobals "_law_nine" = some (some (.ref gNine)))
    (l_gNine : K.lookup gNine = some ⟨gNine_oc, gNine_od, .func (PySem.W.fnOf "_law_nine" "_law_nine" (defArgs sNine) (defBody sNine) (defScope sNine) .none gNine_kV gNine_dc gNine_pm gNine_an gNine_cd gNine_ct), gNine_sl⟩)
    (c_gNine : PySem.W.codeIn K gNine_cd "_law_nine" = true)
    (k_gNine : PySem.W.keepIn K (.ref gNine) = true)
    (a_gGo : PySem.W.nsIn K mainGlobals "_law_goes_on" = some (some (.ref gGo)))
    (l_gGo : K.lookup gGo = some ⟨gGo_oc, gGo_od, .func (PySem.W.fnOf "_law_goes_on" "_law_goes_on" (defArgs sGoes) (defBody sGoes) (defScope sGoes) .none gGo_kV gGo_dc gGo_pm gGo_an gGo_cd gGo_ct), gGo_sl⟩)
    (c_gGo : PySem.W.codeIn K gGo_cd "_law_goes_on" = true)
    (k_gGo : PySem.W.keepIn K (.ref gGo) = true)
    (a_gWalk : PySem.W.nsIn K mainGlobals "_law_walk" = some (some (.ref gWalk)))
    (l_gWalk : K.lookup gWalk = some ⟨gWalk_oc, gWalk_od, .func (PySem.W.fnOf "_law_walk" "_law_walk" (defArgs sWalk) (defBody sWalk) (defScope sWalk) .none gWalk_kV gWalk_dc gWalk_pm gWalk_an gWalk_cd gWalk_ct), gWalk_sl⟩)
    (c_gWalk : PySem.W.codeIn K gWalk_cd "_law_walk" = true)
    (k_gWalk : PySem.W.keepIn K (.ref gWalk) = true)
    (a_gTable : PySem.W.nsIn K mainGlobals "_law_table" = some (some (.ref gTable)))
    (l_gTable : K.lookup gTable = some ⟨gTable_oc, gTable_od, .func (PySem.W.fnOf "_law_table" "_law_table" (defArgs sTable) (defBody sTable) (defScope sTable) .none gTable_kV gTable_dc gTable_pm gTable_an gTable_cd gTable_ct), gTable_sl⟩)
    (c_gTable : PySem.W.codeIn K gTable_cd "_law_table" = true)
    (k_gTable : PySem.W.keepIn K (.ref gTable) = true)
    (a_gLaw : PySem.W.nsIn K mainGlobals "law" = some (some (.ref gLaw)))
    (l_gLaw : K.lookup gLaw = some ⟨gLaw_oc, gLaw_od, .func (PySem.W.fnOf "law" "law" (defArgs sLaw) (defBody sLaw) (defScope sLaw) .none gLaw_kV gLaw_dc gLaw_pm gLaw_an gLaw_cd gLaw_ct), gLaw_sl⟩)
    (c_gLaw : PySem.W.codeIn K gLaw_cd "law" = true)
    (k_gLaw : PySem.W.keepIn K (.ref gLaw) = true)
    : ∃ fd : FuncData, (∀ (s : Shared) (v : Value), BindsTo s fd ⟨[v], []⟩ [("_law_script", v)]) ∧ ∀ base : Heap, K.In base → base.Ns mainGlobals mg → FnOk l.prog w K mg base CX0 6 fa fd ["_law_script"] (spLaw K) := by
  have e := hfa.symm.trans (PySem.W.mg_of X G a_gLaw)
  cases e
  have T_CH : ClsT K CH := ⟨⟨pg_CH, hd_CH, po_CH, sa_CH⟩, n1_CH, n2_CH, n3_CH⟩
  have T_CS : ClsT K CS := ⟨⟨pg_CS, hd_CS, po_CS, sa_CS⟩, n1_CS, n2_CS, n3_CS⟩
  have GT : GlT mg := ⟨⟨tP, PySem.W.mg_of X G a_P⟩, PySem.W.mg_none_of X G z_range, PySem.W.mg_none_of X G z_list, PySem.W.mg_none_of X G z_tuple, PySem.W.mg_none_of X G z_len, PySem.W.mg_none_of X G z_isinstance, PySem.W.mg_none_of X G z_str, PySem.W.mg_none_of X G z_int, PySem.W.mg_none_of X G z_abs⟩
  have mgS := PySem.W.mg_none_of X G z_super
  have bad : ∃ t, mg "BAD" = some (.str "bad" t) := ⟨tB, PySem.W.mg_of X G a_B⟩
  have boot : bootBuiltins "super" = some (.type "super") := by decide +kernel
  have one3 : ∀ {a b c : Str} {x y z : Tok}, Vals [V.str a, V.str b, V.str c] [Value.str a x, Value.str b y, Value.str c z] := .cons ⟨_, rfl⟩ (.cons ⟨_, rfl⟩ (.cons ⟨_, rfl⟩ .nil))
  have DT : DeedsT K mg dA (fun d => match d with | .begin => t0 | .finish => t1 | .hit => t2 | .pass => t3) := by
    refine ⟨PySem.W.mg_of X G a_dA, fun H => .inr ⟨_, _, _, l_dA, rfl, rfl, by show 4 ≤ sizeLine; decide, .cons rfl (.cons rfl (.cons rfl (.cons rfl .nil)))⟩, fun d H => ?_⟩
    cases d with
    | begin => exact .inr ⟨_, _, _, l_t0, rfl, rfl, by show 3 ≤ sizeLine; decide, one3⟩
    | finish => exact .inr ⟨_, _, _, l_t1, rfl, rfl, by show 3 ≤ sizeLine; decide, one3⟩
    | hit => exact .inr ⟨_, _, _, l_t2, rfl, rfl, by show 3 ≤ sizeLine; decide, one3⟩
    | pass => exact .inr ⟨_, _, _, l_t3, rfl, rfl, by show 3 ≤ sizeLine; decide, one3⟩
  have eTT : ∀ H', SqT K H' eT [] := fun H' => .inr ⟨_, _, _, l_eT, rfl, rfl, by show 0 ≤ sizeLine; decide, .nil⟩
  have FTI : FunTI K eT fTI _ := ⟨⟨_, _, _, _, _, _, _, _, _, _, rfl, l_fTI, c_fTI, .inr ⟨by simp, dT, _, [.str "start" dT_t, .ref eT], dT_n, rfl, l_dT, rfl, .cons ⟨_, rfl⟩ (.cons rfl .nil)⟩, .inl rfl⟩, k_fTI⟩
  have F_fHI : FunA K "__init__" "Handshake.__init__" sHI fHI _ kH ccH CH := ⟨⟨_, _, _, _, _, _, _, _, _, rfl, l_fHI, c_fHI⟩, ⟨_, _, _, l_ccH⟩, k_fHI⟩
  have C_kH : CodeT K kH := ⟨_, _, _, _, _, l_kH, v_kH⟩
  have F_fSM : FunA K "moves" "StuckSearch.moves" sSMoves fSM _ kS ccS CS := ⟨⟨_, _, _, _, _, _, _, _, _, rfl, l_fSM, c_fSM⟩, ⟨_, _, _, l_ccS⟩, k_fSM⟩
  have C_kS : CodeT K kS := ⟨_, _, _, _, _, l_kS, v_kS⟩
  have F_fStart := fun_mk (st := sStart) l_fStart c_fStart k_fStart
  have F_fMay := fun_mk (st := sMay) l_fMay c_fMay k_fMay
  have F_fScen := fun_mk (st := sScen) l_fScen c_fScen k_fScen
  have F_fMov := fun_mk (st := sMoves) l_fMov c_fMov k_fMov
  have F_fStates := fun_mk (st := sStates) l_fStates c_fStates k_fStates
  have F_gStuck := fun_mk (st := sStuck) l_gStuck c_gStuck k_gStuck
  have F_gRow := fun_mk (st := sRow) l_gRow c_gRow k_gRow
  have F_gDigit := fun_mk (st := sDigit) l_gDigit c_gDigit k_gDigit
  have F_gWords := fun_mk (st := sWords) l_gWords c_gWords k_gWords
  have F_gLM := fun_mk (st := sLMoves) l_gLM c_gLM k_gLM
  have F_gSame := fun_mk (st := sSame) l_gSame c_gSame k_gSame
  have F_gLS := fun_mk (st := sLStates) l_gLS c_gLS k_gLS
  have F_gNine := fun_mk (st := sNine) l_gNine c_gNine k_gNine
  have F_gGo := fun_mk (st := sGoes) l_gGo c_gGo k_gGo
  have F_gWalk := fun_mk (st := sWalk) l_gWalk c_gWalk k_gWalk
  have F_gTable := fun_mk (st := sTable) l_gTable c_gTable k_gTable
  have F_gLaw := fun_mk (st := sLaw) l_gLaw c_gLaw k_gLaw
  have b_fHI : Binds K (PySem.W.fnX "__init__" "Handshake.__init__" (defArgs sHI) (defBody sHI) (defScope sHI) [("__class__", ccH)] .none fHI_kV fHI_dc fHI_pm fHI_an (.ref kH) fHI_ct) ["self", "waiting_counts"] [] := .all fun us hl => by
    match us, hl with
    | [_, _], _ => exact rfl
  have b_fStart := F_fStart.binds (ps := ["self"]) fun _ _ _ _ _ _ us hl => match us, hl with | [_], _ => rfl
  have b_fMay := F_fMay.binds (ps := ["self", "other"]) fun _ _ _ _ _ _ us hl => match us, hl with | [_, _], _ => rfl
  have b_fScen := F_fScen.binds (ps := ["self"]) fun _ _ _ _ _ _ us hl => match us, hl with | [_], _ => rfl
  have b_fMov := F_fMov.binds (ps := ["self", "state"]) fun _ _ _ _ _ _ us hl => match us, hl with | [_, _], _ => rfl
  have b_fStates := F_fStates.binds (ps := ["self"]) fun _ _ _ _ _ _ us hl => match us, hl with | [_], _ => rfl
  have b_fSM : Binds K (PySem.W.fnX "moves" "StuckSearch.moves" (defArgs sSMoves) (defBody sSMoves) (defScope sSMoves) [("__class__", ccS)] .none fSM_kV fSM_dc fSM_pm fSM_an (.ref kS) fSM_ct) ["self", "state"] [] := .all fun us hl => by
    match us, hl with
    | [_, _], _ => exact rfl
  have b_gStuck := F_gStuck.binds (ps := ["waiting_counts"]) fun _ _ _ _ _ _ us hl => match us, hl with | [_], _ => rfl
  have b_gRow := F_gRow.binds (ps := ["_law_script", "_law_most"]) fun _ _ _ _ _ _ us hl => match us, hl with | [_, _], _ => rfl
  have b_gDigit := F_gDigit.binds (ps := ["_law_row_here", "_law_at"]) fun _ _ _ _ _ _ us hl => match us, hl with | [_, _], _ => rfl
  have b_gWords := F_gWords.binds (ps := []) fun _ _ _ _ _ _ us hl => match us, hl with | [], _ => rfl
  have b_gLM := F_gLM.binds (ps := ["_law_state", "_law_counts"]) fun _ _ _ _ _ _ us hl => match us, hl with | [_, _], _ => rfl
  have b_gSame := F_gSame.binds (ps := ["_law_told", "_law_due"]) fun _ _ _ _ _ _ us hl => match us, hl with | [_, _], _ => rfl
  have b_gLS := F_gLS.binds (ps := ["_law_counts"]) fun _ _ _ _ _ _ us hl => match us, hl with | [_], _ => rfl
  have b_gNine := F_gNine.binds (ps := []) fun _ _ _ _ _ _ us hl => match us, hl with | [], _ => rfl
  have b_gGo := F_gGo.binds (ps := ["_law_table_here", "_law_state", "_law_p"]) fun _ _ _ _ _ _ us hl => match us, hl with | [_, _, _], _ => rfl
  have b_gWalk := F_gWalk.binds (ps := ["_law_table_here", "_law_states_here", "_law_row_here"]) fun _ _ _ _ _ _ us hl => match us, hl with | [_, _, _], _ => rfl
  have b_gTable := F_gTable.binds (ps := ["_law_counts", "_law_row_here"]) fun _ _ _ _ _ _ us hl => match us, hl with | [_, _], _ => rfl
  have MH_fStart : Meth K CH "start" fStart := ⟨mH_fStart, i_fStart, k_fStart⟩
  have MH_fMay : Meth K CH "may_pass" fMay := ⟨mH_fMay, i_fMay, k_fMay⟩
  have MH_fScen : Meth K CH "scenario" fScen := ⟨mH_fScen, i_fScen, k_fScen⟩
  have MH_fMov : Meth K CH "moves" fMov := ⟨mH_fMov, i_fMov, k_fMov⟩
  have MH_fStates : Meth K CH "states" fStates := ⟨mH_fStates, i_fStates, k_fStates⟩
  have MS_fStart : Meth K CS "start" fStart := ⟨mS_fStart, i_fStart, k_fStart⟩
  have MS_fMay : Meth K CS "may_pass" fMay := ⟨mS_fMay, i_fMay, k_fMay⟩
  have MS_fScen : Meth K CS "scenario" fScen := ⟨mS_fScen, i_fScen, k_fScen⟩
  have MS_fSM : Meth K CS "moves" fSM := ⟨mS_fSM, i_fSM, k_fSM⟩
  have SU_HI : SupM K CH CH "__init__" fTI := ⟨mro_CHCH, su_HI, fn_fTI, ty_fTI, any⟩
  have SU_SI : SupM K CS CH "__init__" fTI := ⟨mro_CSCH, su_SI, fn_fTI, ty_fTI, any⟩
  have SU_SM : SupM K CS CS "moves" fMov := ⟨mro_CSCS, su_SM, fn_fMov, ty_fMov, any⟩
  have N_gStuck : Named K mg "stuck_scenario" gStuck := ⟨PySem.W.mg_of X G a_gStuck, k_gStuck⟩
  have N_gRow : Named K mg "_law_row" gRow := ⟨PySem.W.mg_of X G a_gRow, k_gRow⟩
  have N_gDigit : Named K mg "_law_digit" gDigit := ⟨PySem.W.mg_of X G a_gDigit, k_gDigit⟩
  have N_gWords : Named K mg "_law_words" gWords := ⟨PySem.W.mg_of X G a_gWords, k_gWords⟩
  have N_gLM : Named K mg "_law_moves" gLM := ⟨PySem.W.mg_of X G a_gLM, k_gLM⟩
  have N_gSame : Named K mg "_law_same_moves" gSame := ⟨PySem.W.mg_of X G a_gSame, k_gSame⟩
  have N_gLS : Named K mg "_law_states" gLS := ⟨PySem.W.mg_of X G a_gLS, k_gLS⟩
  have N_gNine : Named K mg "_law_nine" gNine := ⟨PySem.W.mg_of X G a_gNine, k_gNine⟩
  have N_gGo : Named K mg "_law_goes_on" gGo := ⟨PySem.W.mg_of X G a_gGo, k_gGo⟩
  have N_gWalk : Named K mg "_law_walk" gWalk := ⟨PySem.W.mg_of X G a_gWalk, k_gWalk⟩
  have N_gTable : Named K mg "_law_table" gTable := ⟨PySem.W.mg_of X G a_gTable, k_gTable⟩
  refine ⟨PySem.W.fnOf "law" "law" (defArgs sLaw) (defBody sLaw) (defScope sLaw) .none gLaw_kV gLaw_dc gLaw_pm gLaw_an gLaw_cd gLaw_ct, fun s v => .of_eq rfl, fun base _ _ => ?_⟩
  have G_HI := ok_HI (P := l.prog) (w := w) (mg := mg) (base := base) PT F_fHI FTI C_kH ⟨_, cl_CH⟩ eTT mgS boot
  have GH_start := ok_start (P := l.prog) (w := w) (mg := mg) (base := base) F_fStart T_CH
  have GH_mov := ok_moves (P := l.prog) (w := w) (base := base) F_fMov T_CH F_fMay b_fMay MH_fMay DT GT
  have GS_start := ok_start (P := l.prog) (w := w) (mg := mg) (base := base) F_fStart T_CS
  have GS_mov := ok_moves (P := l.prog) (w := w) (base := base) F_fMov T_CS F_fMay b_fMay MS_fMay DT GT
  have GS_sm := ok_smoves (P := l.prog) (w := w) (mg := mg) (base := base) PT F_fSM C_kS ⟨_, cl_CS⟩ mgS boot GS_mov b_fMov SU_SM GT bad
  have GH_states := ok_states (P := l.prog) (w := w) (base := base) F_fStates T_CH GT bad GH_mov b_fMov MH_fMov GH_start b_fStart MH_fStart
  have GH_scen := ok_scen (P := l.prog) (w := w) (base := base) (res := fun _ => none) (fun c s => hmv_le c s) good_h F_fScen T_CH GT bad GH_mov b_fMov MH_fMov (by decide) GH_start b_fStart MH_fStart
  have GS_scen := ok_scen (P := l.prog) (w := w) (base := base) (res := resS) (fun c s => smv_le c s) good_s F_fScen T_CS GT bad GS_sm b_fSM MS_fSM (by decide) GS_start b_fStart MS_fStart
  have G_stuck := ok_stuck (P := l.prog) (w := w) (base := base) F_gStuck T_CS (PySem.W.mg_of X G a_CS) ⟨mk_CS, in_CS, i_fHI, kc_CS⟩ G_HI b_fHI SU_SI GS_scen b_fScen MS_fScen (by decide)
  have G_row := ok_row (P := l.prog) (w := w) (base := base) F_gRow GT
  have G_digit := ok_digit (P := l.prog) (w := w) (base := base) F_gDigit GT
  have G_nine := ok_nine (P := l.prog) (w := w) (mg := mg) (base := base) F_gNine
  have G_lm := ok_lmoves (P := l.prog) (w := w) (base := base) F_gLM F_gWords b_gWords N_gWords.mg GT
  have G_same := ok_same (P := l.prog) (w := w) (base := base) F_gSame GT
  have G_ls := ok_lstates (P := l.prog) (w := w) (base := base) F_gLS GT G_lm b_gLM k_gLM N_gLM.mg
  have G_go := ok_goes (P := l.prog) (w := w) (base := base) F_gGo T_CH GT GH_mov b_fMov MH_fMov
  have G_walk := ok_walk (P := l.prog) (w := w) (base := base) F_gWalk T_CH GT GH_mov b_fMov MH_fMov GH_start b_fStart MH_fStart G_digit b_gDigit k_gDigit N_gDigit.mg
  have G_table := ok_table (P := l.prog) (w := w) (base := base) F_gTable T_CH GT ⟨q_ha, q_hn, q_ht, q_hm, q_ki⟩ (PySem.W.mg_of X G a_CH) (PySem.W.mg_of X G a_CT) ⟨mk_CH, in_CH, i_fHI, kc_CH⟩ G_HI b_fHI SU_HI GH_mov b_fMov MH_fMov GH_start b_fStart MH_fStart
    GH_scen b_fScen MH_fScen GH_states b_fStates MH_fStates G_nine b_gNine N_gNine G_same b_gSame N_gSame G_lm b_gLM N_gLM G_ls b_gLS N_gLS G_walk b_gWalk N_gWalk G_go b_gGo N_gGo
  exact ok_law (P := l.prog) (w := w) (base := base) F_gLaw GT G_row b_gRow N_gRow G_table b_gTable N_gTable G_stuck b_gStuck N_gStuck
theorem walk {l : PySem.W.OpenLaw} {q : Program} {loose : List Str} {XP : (Str → Option Value) → Heap → Prop} {YP : World → Heap → Prop} {d : DefRec} {K : Params → PySem.W.Frag} (hn : l.most = some 63) (hdf : d.params.defaults = [])
    (hY : ∀ (w : World) (h : Heap), YP w h → (K w.params).In h)
    (F : ∀ (w : World) (mg : Str → Option Value) (fa : Addr) (h : Heap), (K w.params).In h → h.Ns mainGlobals mg → mg d.name = some (.ref fa) →
      ∃ fd : FuncData, (∀ (s : Shared) (u : Value), BindsTo s fd ⟨[u], []⟩ [("_law_script", u)]) ∧ ∀ base : Heap, (K w.params).In base → base.Ns mainGlobals mg → FnOk l.prog w (K w.params) mg base CX0 6 fa fd ["_law_script"] (spLaw (K w.params))) :
    PySem.W.WalkO q loose XP YP l.row.toRowW d [] (fun f vs => PySem.call f vs) :=
  L2.walk_of (n := 63) (k := 6) (x := "_law_script") (CX := fun _ => CX0) (sp := fun w => spLaw (K w.params)) hn (by decide) hdf ⟨rfl, by decide, by decide⟩ hY F (fun _ _ a ns _ _ hS => ⟨a, ns, rfl, hS, fun _ => rfl⟩) fun _ _ _ _ _ z => z
end K74

open PySem PySem.W PyProof.Rows in
set_option maxRecDepth 100000 in
set_option maxHeartbeats 0 in
theorem PySem.Challenge.cw_guestlives_k74_whole_handshake_goes_on_holds : PySem.Challenge.rw_guestlives_k74_whole_handshake_goes_on.Holds := by
  w_on; o_law; k_head; (case hw => w_witness2)
  k_fill
  refine K74.walk (l := PySem.Challenge.rw_guestlives_k74_whole_handshake_goes_on) rfl rfl (fun w h Y => PySem.W.kIn_of Y) ?F
  case F =>
    intro w mg fa h KX G hmg
    refine' K74.all_mk KX G hmg ⟨by decide +kernel, by decide +kernel⟩ ?a_CT ?a_CH ?a_CS ?pg_CH ?hd_CH ?po_CH ?sa_CH ?mk_CH ?kc_CH ?n1_CH ?n2_CH ?n3_CH ?pg_CS ?hd_CS ?po_CS ?sa_CS ?mk_CS ?kc_CS ?n1_CS ?n2_CS ?n3_CS ?in_CH ?in_CS ?i_fHI ?l_fHI ?c_fHI ?k_fHI ?mH_fStart ?mS_fStart ?i_fStart ?l_fStart ?c_fStart ?k_fStart ?mH_fMay ?mS_fMay ?i_fMay ?l_fMay ?c_fMay ?k_fMay ?mH_fScen ?mS_fScen ?i_fScen ?l_fScen ?c_fScen ?k_fScen ?mH_fMov ?i_fMov ?l_fMov ?c_fMov ?k_fMov ?mH_fStates ?i_fStates ?l_fStates ?c_fStates ?k_fStates ?mS_fSM ?i_fSM ?l_fSM ?c_fSM ?k_fSM ?su_HI ?su_SI ?su_SM ?mro_CHCH ?mro_CSCH ?mro_CSCS ?fn_fTI ?ty_fTI ?fn_fMov ?ty_fMov ?any ?cl_CH ?cl_CS ?l_fTI ?c_fTI ?k_fTI ?l_dT ?l_eT ?l_ccH ?l_ccS ?l_kH ?l_kS ?v_kH ?v_kS ?a_dA ?l_dA ?l_t0 ?l_t1 ?l_t2 ?l_t3 ?a_P ?a_B ?z_range ?z_list ?z_tuple ?z_len ?z_isinstance ?z_str ?z_int ?z_abs ?z_super ?q_ha ?q_hn ?q_ht ?q_hm ?q_ki ?a_gStuck ?l_gStuck ?c_gStuck ?k_gStuck ?a_gRow ?l_gRow ?c_gRow ?k_gRow ?a_gDigit ?l_gDigit ?c_gDigit ?k_gDigit ?a_gWords ?l_gWords ?c_gWords ?k_gWords ?a_gLM ?l_gLM ?c_gLM ?k_gLM ?a_gSame ?l_gSame ?c_gSame ?k_gSame ?a_gLS ?l_gLS ?c_gLS ?k_gLS ?a_gNine ?l_gNine ?c_gNine ?k_gNine ?a_gGo ?l_gGo ?c_gGo ?k_gGo ?a_gWalk ?l_gWalk ?c_gWalk ?k_gWalk ?a_gTable ?l_gTable ?c_gTable ?k_gTable ?a_gLaw ?l_gLaw ?c_gLaw ?k_gLaw
    (case a_CT => k_is)
    (case a_CH => k_is)
    (case a_CS => k_is)
    (case pg_CH => k_is)
    (case hd_CH => k_is)
    (case po_CH => k_is)
    (case sa_CH => k_is)
    (case mk_CH => k_is)
    (case kc_CH => k_is)
    (case n1_CH => k_is)
    (case n2_CH => k_is)
    (case n3_CH => k_is)
    (case pg_CS => k_is)
    (case hd_CS => k_is)
    (case po_CS => k_is)
    (case sa_CS => k_is)
    (case mk_CS => k_is)
    (case kc_CS => k_is)
    (case n1_CS => k_is)
    (case n2_CS => k_is)
    (case n3_CS => k_is)
    (case in_CH => k_is)
    (case in_CS => k_is)
    (case i_fHI => k_is)
    (case l_fHI => k_is)
    (case c_fHI => k_is)
    (case k_fHI => k_is)
    (case mH_fStart => k_is)
    (case mS_fStart => k_is)
    (case i_fStart => k_is)
    (case l_fStart => k_is)
    (case c_fStart => k_is)
    (case k_fStart => k_is)
    (case mH_fMay => k_is)
    (case mS_fMay => k_is)
    (case i_fMay => k_is)
    (case l_fMay => k_is)
    (case c_fMay => k_is)
    (case k_fMay => k_is)
    (case mH_fScen => k_is)
    (case mS_fScen => k_is)
    (case i_fScen => k_is)
    (case l_fScen => k_is)
    (case c_fScen => k_is)
    (case k_fScen => k_is)
    (case mH_fMov => k_is)
    (case i_fMov => k_is)
    (case l_fMov => k_is)
    (case c_fMov => k_is)
    (case k_fMov => k_is)
    (case mH_fStates => k_is)
    (case i_fStates => k_is)
    (case l_fStates => k_is)
    (case c_fStates => k_is)
    (case k_fStates => k_is)
    (case mS_fSM => k_is)
    (case i_fSM => k_is)
    (case l_fSM => k_is)
    (case c_fSM => k_is)
    (case k_fSM => k_is)
    (case su_HI => ks_is)
    (case su_SI => ks_is)
    (case su_SM => ks_is)
    (case mro_CHCH => k_is)
    (case mro_CSCH => k_is)
    (case mro_CSCS => k_is)
    (case fn_fTI => k_is)
    (case ty_fTI => k_is)
    (case fn_fMov => k_is)
    (case ty_fMov => k_is)
    (case any => k_is)
    (case cl_CH => k_is)
    (case cl_CS => k_is)
    (case l_fTI => k_is)
    (case c_fTI => k_is)
    (case k_fTI => k_is)
    (case l_dT => k_is)
    (case l_eT => k_is)
    (case l_ccH => k_is)
    (case l_ccS => k_is)
    (case l_kH => k_is)
    (case l_kS => k_is)
    (case v_kH => exact rfl)
    (case v_kS => exact rfl)
    (case a_dA => k_is)
    (case l_dA => k_is)
    (case l_t0 => k_is)
    (case l_t1 => k_is)
    (case l_t2 => k_is)
    (case l_t3 => k_is)
    (case a_P => k_is)
    (case a_B => k_is)
    (case z_range => k_is)
    (case z_list => k_is)
    (case z_tuple => k_is)
    (case z_len => k_is)
    (case z_isinstance => k_is)
    (case z_str => k_is)
    (case z_int => k_is)
    (case z_abs => k_is)
    (case z_super => k_is)
    (case q_ha => k_is)
    (case q_hn => k_is)
    (case q_ht => k_is)
    (case q_hm => k_is)
    (case q_ki => kit_is)
    (case a_gStuck => k_is)
    (case l_gStuck => k_is)
    (case c_gStuck => k_is)
    (case k_gStuck => k_is)
    (case a_gRow => k_is)
    (case l_gRow => k_is)
    (case c_gRow => k_is)
    (case k_gRow => k_is)
    (case a_gDigit => k_is)
    (case l_gDigit => k_is)
    (case c_gDigit => k_is)
    (case k_gDigit => k_is)
    (case a_gWords => k_is)
    (case l_gWords => k_is)
    (case c_gWords => k_is)
    (case k_gWords => k_is)
    (case a_gLM => k_is)
    (case l_gLM => k_is)
    (case c_gLM => k_is)
    (case k_gLM => k_is)
    (case a_gSame => k_is)
    (case l_gSame => k_is)
    (case c_gSame => k_is)
    (case k_gSame => k_is)
    (case a_gLS => k_is)
    (case l_gLS => k_is)
    (case c_gLS => k_is)
    (case k_gLS => k_is)
    (case a_gNine => k_is)
    (case l_gNine => k_is)
    (case c_gNine => k_is)
    (case k_gNine => k_is)
    (case a_gGo => k_is)
    (case l_gGo => k_is)
    (case c_gGo => k_is)
    (case k_gGo => k_is)
    (case a_gWalk => k_is)
    (case l_gWalk => k_is)
    (case c_gWalk => k_is)
    (case k_gWalk => k_is)
    (case a_gTable => k_is)
    (case l_gTable => k_is)
    (case c_gTable => k_is)
    (case k_gTable => k_is)
    (case a_gLaw => k_is)
    (case l_gLaw => k_is)
    (case c_gLaw => k_is)
    (case k_gLaw => k_is)
#print axioms PySem.Challenge.cw_guestlives_k74_whole_handshake_goes_on_holds

